import PyProof.Rows.All
import Wide.All
import OpenK.AllK
import Wide.FinOn
import HandS.ForMost
import HandS.TupAny
import HandS.IsInst
import HandS.Walk
import HandS.Codes
import HandS.Strs
import HandS.Defaults
import PySem.Challenge.RW_sendstead_k57_rows_of_turns
set_option Elab.async false
set_option linter.all false
set_option maxRecDepth 100000
namespace My
open PySem L2
/-! ### trees of nodes -/
/-- a node: its value, its word, its other items, a block's parameters, how many first statements, the nodes within -/
inductive Nd where
  | mk (v : V) (w : Str) (its : List V) (ps : List Str) (m : Nat) (ks : List Nd)
def Nd.v : Nd → V | .mk v _ _ _ _ _ => v
def Nd.w : Nd → Str | .mk _ w _ _ _ _ => w
def Nd.its : Nd → List V | .mk _ _ its _ _ _ => its
def Nd.ps : Nd → List Str | .mk _ _ _ ps _ _ => ps
def Nd.m : Nd → Nat | .mk _ _ _ _ m _ => m
def Nd.ks : Nd → List Nd | .mk _ _ _ _ _ ks => ks
/-- what is told of a node by its number -/
structure Rec where
  v : V
  w : Str
  its : List V
  ps : List Str
  m : Nat
  above : Int
  code : Int
  hid : List (List Str)
  kids : List Int
mutual
def size : Nd → Nat
  | .mk _ _ _ _ _ ks => 1 + sizeL ks
def sizeL : List Nd → Nat
  | [] => 0
  | k :: ks => size k + sizeL ks
end
def kidNums (n : Nat) : List Nd → List Int
  | [] => []
  | k :: ks => (n : Int) :: kidNums (n + size k) ks
mutual
def recs (n : Nat) (above code : Int) (hid : List (List Str)) : Nd → List Rec
  | .mk v w its ps m ks => ⟨v, w, its, ps, m, above, code, hid, kidNums (n + 1) ks⟩ :: recsL (n + 1) n (if w = "block" then (n : Int) else code) (if w = "block" then ps :: hid else hid) ks
def recsL (n : Nat) (above code : Int) (hid : List (List Str)) : List Nd → List Rec
  | [] => []
  | k :: ks => recs n above code hid k ++ recsL (n + size k) above code hid ks
end
mutual
theorem recs_len : ∀ (t : Nd) (n : Nat) (a c : Int) (h : List (List Str)), (recs n a c h t).length = size t
  | .mk v w its ps m ks, n, a, c, h => by
    unfold recs size
    rw [List.length_cons, recsL_len ks]
    omega
theorem recsL_len : ∀ (ts : List Nd) (n : Nat) (a c : Int) (h : List (List Str)), (recsL n a c h ts).length = sizeL ts
  | [], n, a, c, h => by unfold recsL sizeL; rfl
  | k :: ks, n, a, c, h => by
    unfold recsL sizeL
    rw [List.length_append, recs_len k, recsL_len ks]
end
theorem recsL_append : ∀ (xs ys : List Nd) (n : Nat) (a c : Int) (h : List (List Str)), recsL n a c h (xs ++ ys) = recsL n a c h xs ++ recsL (n + sizeL xs) a c h ys
  | [], ys, n, a, c, h => by simp [recsL, sizeL]
  | k :: ks, ys, n, a, c, h => by
    simp only [List.cons_append, recsL, sizeL]
    rw [recsL_append ks ys, List.append_assoc, Nat.add_assoc]
theorem kidNums_append : ∀ (xs ys : List Nd) (n : Nat), kidNums n (xs ++ ys) = kidNums n xs ++ kidNums (n + sizeL xs) ys
  | [], ys, n => by simp [kidNums, sizeL]
  | k :: ks, ys, n => by
    simp only [List.cons_append, kidNums, sizeL]
    rw [kidNums_append ks ys, Nat.add_assoc]
theorem sizeL_append : ∀ (xs ys : List Nd), sizeL (xs ++ ys) = sizeL xs + sizeL ys
  | [], ys => by simp [sizeL]
  | k :: ks, ys => by
    simp only [List.cons_append, sizeL]
    rw [sizeL_append ks ys, Nat.add_assoc]
theorem kidNums_len : ∀ (xs : List Nd) (n : Nat), (kidNums n xs).length = xs.length
  | [], n => rfl
  | k :: ks, n => by simp [kidNums, kidNums_len ks]
theorem size_pos : ∀ t : Nd, 0 < size t
  | .mk _ _ _ _ _ ks => by unfold size; omega
theorem len_le_sizeL : ∀ ts : List Nd, ts.length ≤ sizeL ts
  | [] => Nat.le_refl _
  | k :: ks => by
    have h1 := size_pos k
    have h2 := len_le_sizeL ks
    simp only [List.length_cons, sizeL]
    omega
/-! ### how a node stands in the room -/
def oneW : List Str := ["do", "say", "return", "raise"]
def leafW : List Str := ["number", "text", "truth", "none", "self", "name", "field", "new"]
inductive Form (K : PySem.W.Frag) (H : Hp) : Str → List V → List Str → Nat → List V → Prop
  | set (x : Str) (e : V) : Form K H "set" [.str x, e] [] 0 [e]
  | setfield (x : Str) (e : V) : Form K H "setfield" [.str x, e] [] 0 [e]
  | one (w : Str) (h : w ∈ oneW) (e : V) : Form K H w [e] [] 0 [e]
  | cond (e : V) (a b : Addr) (xs ys : List V) : SqT K H a xs → SqT K H b ys → Form K H "if" [e, .ref a, .ref b] [] xs.length ((e :: xs) ++ ys)
  | loop (e : V) (a : Addr) (xs : List V) : SqT K H a xs → Form K H "while" [e, .ref a] [] xs.length (e :: xs)
  | tri (x : Str) (a b : Addr) (xs ys : List V) : SqT K H a xs → SqT K H b ys → Form K H "try" [.ref a, .str x, .ref b] [] xs.length (xs ++ ys)
  | send (e : V) (m : Str) (a : Addr) (xs : List V) : SqT K H a xs → Form K H "send" [e, .str m, .ref a] [] 0 (e :: xs)
  | up (m : Str) (a : Addr) (xs : List V) : SqT K H a xs → Form K H "up" [.str m, .ref a] [] 0 xs
  | block (p a : Addr) (ps : List Str) (xs : List V) : ps.length ≤ 10 → SqT K H p (ps.map V.str) → SqT K H a xs → Form K H "block" [.ref p, .ref a] ps 0 xs
  | list (a : Addr) (xs : List V) : SqT K H a xs → Form K H "list" [.ref a] [] 0 xs
  | leaf (w : Str) (h : w ∈ leafW) (its : List V) : Form K H w its [] 0 []
/-- data that stand still (no lists), at most n deep: what can be compared -/
inductive Flat : V → PyData → Prop
  | non : Flat .non .none
  | bl (b : Bool) : Flat (.bl b) (.bool b)
  | int (i : Int) : Flat (.int i) (.int i)
  | str (x : Str) : PySem.PyData.canLay0 (.str x) = true → Flat (.str x) (.str x)
def Dt (K : PySem.W.Frag) (H : Hp) : Nat → V → PyData → Prop
  | 0, v, d => Flat v d
  | n + 1, v, d => Flat v d ∨ ∃ (a : Addr) (xs : List V) (ds : List PyData), v = .ref a ∧ d = .tuple ds ∧ SqT K H a xs ∧ Paired (Dt K H n) xs ds
def Dok (K : PySem.W.Frag) (H : Hp) (n : Nat) (v : V) : Prop := ∃ d, Dt K H n v d
theorem Dt.flat {K : PySem.W.Frag} {H : Hp} {v : V} {d : PyData} (h : Flat v d) : ∀ n, Dt K H n v d
  | 0 => h
  | _ + 1 => .inl h
theorem paired_imp {α β : Type} {F G : α → β → Prop} (h : ∀ a b, F a b → G a b) : ∀ {xs : List α} {ys : List β}, Paired F xs ys → Paired G xs ys
  | _, _, .nil => .nil
  | _, _, .cons p q => .cons (h _ _ p) (paired_imp h q)
theorem Dt.mono1 {K : PySem.W.Frag} {H : Hp} : ∀ {n : Nat} {v : V} {d : PyData}, Dt K H n v d → Dt K H (n + 1) v d
  | 0, _, _, h => .inl h
  | n + 1, _, _, h => by
    rcases h with h | ⟨a, xs, ds, rfl, rfl, h1, h2⟩
    · exact .inl h
    · exact .inr ⟨a, xs, ds, rfl, rfl, h1, paired_imp (fun _ _ q => Dt.mono1 q) h2⟩
theorem Dt.mono {K : PySem.W.Frag} {H : Hp} {n m : Nat} {v : V} {d : PyData} (l : n ≤ m) (h : Dt K H n v d) : Dt K H m v d := by
  induction l with
  | refl => exact h
  | step _ ih => exact ih.mono1
theorem Dok.mono {K : PySem.W.Frag} {H : Hp} {n m : Nat} {v : V} (l : n ≤ m) (h : Dok K H n v) : Dok K H m v := h.elim fun d q => ⟨d, q.mono l⟩
theorem dpAll_of {K : PySem.W.Frag} {H : Hp} {n : Nat} (ih : ∀ {v : V} {d : PyData}, Dt K H n v d → Dp K H v d ∧ d.canLay0 = true ∧ d.depth ≤ n) :
    ∀ {xs : List V} {ds : List PyData}, Paired (Dt K H n) xs ds → DpAll K H xs ds ∧ PyData.canLayAll0 ds = true ∧ PyData.depthAll ds ≤ n
  | _, _, .nil => ⟨.nil, rfl, by simp [PyData.depthAll]⟩
  | _, _, .cons p q => by
    obtain ⟨a1, a2, a3⟩ := ih p
    obtain ⟨b1, b2, b3⟩ := dpAll_of ih q
    refine ⟨.cons a1 b1, by simp [PyData.canLayAll0, a2, b2], ?_⟩
    simp only [PyData.depthAll]
    omega
theorem flat_dp {K : PySem.W.Frag} {H : Hp} {v : V} {d : PyData} (h : Flat v d) : Dp K H v d ∧ d.canLay0 = true ∧ d.depth = 0 := by
  cases h with
  | non => exact ⟨.non, rfl, by simp [PyData.depth]⟩
  | bl b => exact ⟨.bl b, rfl, by simp [PyData.depth]⟩
  | int i => exact ⟨.int i, rfl, by simp [PyData.depth]⟩
  | str x h => exact ⟨.str x, h, by simp [PyData.depth]⟩
theorem Dt.dp {K : PySem.W.Frag} {H : Hp} : ∀ {n : Nat} {v : V} {d : PyData}, Dt K H n v d → Dp K H v d ∧ d.canLay0 = true ∧ d.depth ≤ n
  | 0, _, _, h => by
    obtain ⟨a, b, c⟩ := flat_dp (K := K) (H := H) h
    exact ⟨a, b, by omega⟩
  | n + 1, _, _, h => by
    rcases h with h | ⟨a, xs, ds, rfl, rfl, h1, h2⟩
    · obtain ⟨a, b, c⟩ := flat_dp (K := K) (H := H) h
      exact ⟨a, b, by omega⟩
    · obtain ⟨b1, b2, b3⟩ := dpAll_of (fun q => Dt.dp q) h2
      refine ⟨.tup h1 b1, by simpa [PyData.canLay0] using b2, ?_⟩
      simp only [PyData.depth]
      omega
theorem Dt.shaped {K : PySem.W.Frag} {H : Hp} {n : Nat} {v : V} {d : PyData} (h : Dt K H n v d) (hn : n ≤ 64) : SeqAt.shaped d = true := by
  obtain ⟨_, b, c⟩ := h.dp
  unfold SeqAt.shaped
  rw [b, decide_eq_true (by omega : d.depth ≤ 64)]
  rfl
inductive NdAt (K : PySem.W.Frag) (H : Hp) : Nd → Prop
  | mk (a : Addr) (w : Str) (its : List V) (ps : List Str) (m : Nat) (ks : List Nd) : SqT K H a (.str w :: its) → Form K H w its ps m (ks.map Nd.v) → True → (∀ k, k ∈ ks → NdAt K H k) → NdAt K H (.mk (.ref a) w its ps m ks)
/-- the name that a node sets or takes -/
def nameOf (w : Str) (its : List V) : Option Str := if w = "set" then (match its with | .str x :: _ => some x | _ => none) else if w = "try" then (match its with | _ :: .str x :: _ => some x | _ => none) else none
theorem nameOf_set (x : Str) (e : V) : nameOf "set" [.str x, e] = some x := rfl
theorem nameOf_try (x : Str) (a b : Addr) : nameOf "try" [.ref a, .str x, .ref b] = some x := by unfold nameOf; rw [if_neg (by decide +kernel), if_pos rfl]
theorem nameOf_not {w : Str} {its : List V} (h1 : ¬ w = "set") (h2 : ¬ w = "try") : nameOf w its = none := by unfold nameOf; rw [if_neg h1, if_neg h2]
/-! ### heaps: what stays -/
/-- all tuples (and what is locked) stand as they did -/
def Keep (H H' : Hp) : Prop := (∀ a xs, H a = some (.tup xs) → H' a = some (.tup xs)) ∧ (∀ a o u, H a = some (.frz o u) → H' a = some (.frz o u))
theorem Keep.refl (H : Hp) : Keep H H := ⟨fun _ _ h => h, fun _ _ _ h => h⟩
theorem Keep.trans {H H1 H2 : Hp} (a : Keep H H1) (b : Keep H1 H2) : Keep H H2 := ⟨fun x xs h => b.1 x xs (a.1 x xs h), fun x o u h => b.2 x o u (a.2 x o u h)⟩
theorem Keep.same {H H' : Hp} (s : Same H H') : Keep H H' := ⟨fun a xs h => s a _ h, fun a o u h => s a _ h⟩
theorem Keep.sqt {K : PySem.W.Frag} {H H' : Hp} (k : Keep H H') {a : Addr} {xs : List V} (h : SqT K H a xs) : SqT K H' a xs := by
  rcases h with (h | ⟨o, h⟩) | h
  · exact .inl (.inl (k.1 _ _ h))
  · exact .inl (.inr ⟨o, k.2 _ _ _ h⟩)
  · exact .inr h
theorem Keep.form {K : PySem.W.Frag} {H H' : Hp} (k : Keep H H') {w : Str} {its : List V} {ps : List Str} {m : Nat} {ks : List V} (f : Form K H w its ps m ks) : Form K H' w its ps m ks := by
  cases f with
  | set x e => exact .set x e
  | setfield x e => exact .setfield x e
  | one w h e => exact .one w h e
  | cond e a b xs ys h1 h2 => exact .cond e a b xs ys (k.sqt h1) (k.sqt h2)
  | loop e a xs h1 => exact .loop e a xs (k.sqt h1)
  | tri x a b xs ys h1 h2 => exact .tri x a b xs ys (k.sqt h1) (k.sqt h2)
  | send e m a xs h1 => exact .send e m a xs (k.sqt h1)
  | up m a _ h1 => exact .up m a _ (k.sqt h1)
  | block p a ps _ hl h1 h2 => exact .block p a ps _ hl (k.sqt h1) (k.sqt h2)
  | list a _ h1 => exact .list a _ (k.sqt h1)
  | leaf w h its => exact .leaf w h its

theorem Keep.dt {K : PySem.W.Frag} {H H' : Hp} (k : Keep H H') : ∀ {n : Nat} {v : V} {d : PyData}, Dt K H n v d → Dt K H' n v d
  | 0, _, _, h => h
  | n + 1, _, _, h => by
    rcases h with h | ⟨a, xs, ds, rfl, rfl, h1, h2⟩
    · exact .inl h
    · exact .inr ⟨a, xs, ds, rfl, rfl, k.sqt h1, paired_imp (fun _ _ q => Keep.dt k q) h2⟩
theorem Keep.dok {K : PySem.W.Frag} {H H' : Hp} (k : Keep H H') {n : Nat} {v : V} (h : Dok K H n v) : Dok K H' n v := h.elim fun d q => ⟨d, k.dt q⟩
theorem Keep.nd {K : PySem.W.Frag} {H H' : Hp} (k : Keep H H') {t : Nd} (h : NdAt K H t) : NdAt K H' t := by
  induction h with
  | mk a w its ps m ks h1 h2 h3 h4 ih => exact .mk a w its ps m ks (k.sqt h1) (k.form h2) trivial ih
theorem paired_map {α β : Type} {F : α → β → Prop} : ∀ {xs : List α}, (∀ x, x ∈ xs → ∃ d, F x d) → ∃ ds, Paired F xs ds
  | [], _ => ⟨[], .nil⟩
  | x :: xs, h => by
    obtain ⟨d, hd⟩ := h x (by simp)
    obtain ⟨ds, hds⟩ := paired_map (xs := xs) (fun y hy => h y (by simp [hy]))
    exact ⟨d :: ds, .cons hd hds⟩
/-- a tuple of data is a datum -/
theorem Dok.tup {K : PySem.W.Frag} {H : Hp} {n : Nat} {a : Addr} {xs : List V} (h : SqT K H a xs) (hx : ∀ x, x ∈ xs → Dok K H n x) : Dok K H (n + 1) (.ref a) := by
  obtain ⟨ds, hd⟩ := paired_map hx
  exact ⟨.tuple ds, .inr ⟨a, xs, ds, rfl, rfl, h, hd⟩⟩
theorem Dok.str {K : PySem.W.Frag} {H : Hp} {n : Nat} {x : Str} (h : PySem.PyData.canLay0 (.str x) = true) : Dok K H n (.str x) := ⟨_, Dt.flat (.str x h) n⟩
theorem Dok.int {K : PySem.W.Frag} {H : Hp} {n : Nat} {i : Int} : Dok K H n (.int i) := ⟨_, Dt.flat (.int i) n⟩
theorem Dok.bl {K : PySem.W.Frag} {H : Hp} {n : Nat} {i : Bool} : Dok K H n (.bl i) := ⟨_, Dt.flat (.bl i) n⟩
theorem Dok.non {K : PySem.W.Frag} {H : Hp} {n : Nat} : Dok K H n .non := ⟨_, Dt.flat .non n⟩
/-! ### an object changes, all else stays -/
/-- all that stood but at D stands -/
def But (D : Addr) (H H' : Hp) : Prop := ∀ b o, H b = some o → b ≠ D → H' b = some o
theorem But.refl (D : Addr) (H : Hp) : But D H H := fun _ _ h _ => h
theorem But.trans {D : Addr} {H H1 H2 : Hp} (a : But D H H1) (b : But D H1 H2) : But D H H2 := fun c o h n => b c o (a c o h n) n
theorem But.same {D : Addr} {H H' : Hp} (s : Same H H') : But D H H' := fun b o h _ => s b o h
theorem But.set {D : Addr} {H : Hp} (o : HO) : But D H (upd H D o) := fun b u h n => by rw [upd_ne n]; exact h
theorem But.keep {D : Addr} {H H' : Hp} {xs : List V} (b : But D H H') (h : H D = some (.lst xs)) : Keep H H' :=
  ⟨fun a ys e => b a _ e (ne_of e h (by intro z; cases z)), fun a o u e => b a _ e (ne_of e h (by intro z; cases z))⟩
theorem same_new {H : Hp} {p : Addr} (h : H p = none) (o : HO) : Same H (upd H p o) := fun b u q => by rw [upd_ne (ne_of_none q h)]; exact q
theorem _root_.L2.Same.sqt {K : PySem.W.Frag} {H H' : Hp} (s : Same H H') {a : Addr} {xs : List V} (h : SqT K H a xs) : SqT K H' a xs := (Keep.same s).sqt h
/-- t + u, whatever is empty -/
theorem catA {K : PySem.W.Frag} {H : Hp} {a b : Addr} {xs ys : List V} {Q : VK} (h1 : SqT K H a xs) (h2 : SqT K H b ys) (hl : xs.length + ys.length ≤ 100000)
    (q : ∀ (r : Addr) (H' : Hp), Same H H' → SqT K H' r (xs ++ ys) → Q (.ref r) H') : rCatA K (.ref a) (.ref b) H Q := by
  refine ⟨a, b, xs, ys, rfl, rfl, h1, h2, Nat.le_trans hl (by decide), fun e => ?_, fun e1 e2 => ?_, fun e1 e2 p n => q p _ (same_new n _) (SqT.of upd_same)⟩
  · subst e
    exact q b H (Same.refl H) h2
  · subst e2
    exact q a H (Same.refl H) (by rw [List.append_nil]; exact h1)
theorem sz {n : Nat} (h : n ≤ 100000) : n ≤ sizeLine := Nat.le_trans h (by decide)
theorem szl {n : Nat} (h : n < 100000) : n < sizeLine := Nat.lt_of_lt_of_le h (by decide)
theorem iteN {b : Bool} {A B : Prop} (h : b = false) (k : B) : if b = true then A else B := by
  subst h
  exact iteF k
theorem iteY {b : Bool} {A B : Prop} (h : b = true) (k : A) : if b = true then A else B := by
  subst h
  exact iteT k
theorem iteB {b : Bool} {A B : Prop} (h1 : b = true → A) (h2 : b = false → B) : if b = true then A else B := by
  cases b
  · exact iteF (h2 rfl)
  · exact iteT (h1 rfl)
theorem at0 {x : V} {xs : List V} : atI (x :: xs) 0 = some x := at_of (j := 0) rfl rfl
theorem at1 {x y : V} {xs : List V} : atI (x :: y :: xs) 1 = some y := at_of (j := 1) rfl rfl
theorem at2 {x y z : V} {xs : List V} : atI (x :: y :: z :: xs) 2 = some z := at_of (j := 2) rfl rfl
theorem at3 {x y z u : V} {xs : List V} : atI (x :: y :: z :: u :: xs) 3 = some u := at_of (j := 3) rfl rfl
theorem op_mul_str {X : Cx} : OpR X (binaryOp .Mult) (fun x y H Q => ∃ i n, x = .str i ∧ y = .int n ∧ MulOk i n ∧ Q (.str (Txt.mul i n)) H) := by
  intro pins s σ H x y v u Q I rx ry h
  obtain ⟨i, n, rfl, rfl, hm, q⟩ := h
  obtain ⟨t, rfl⟩ := rx
  obtain ⟨t', rfl⟩ := ry
  exact SB.mul hm fun t' tk => ⟨.str (Txt.mul i n), H, I.tok _, ⟨_, rfl⟩, q⟩
theorem mulOk40 {x : Str} (h : x.length = 1) : MulOk x 40 := by
  refine ⟨by decide, fun _ _ => ?_, fun _ _ => ?_⟩
  · rw [h]; decide
  · rw [h]; decide +kernel
theorem same_mut {H H1 : Hp} {p : Addr} {o : HO} (e : Same H H1) (h : H p = none) : Same H (upd H1 p o) := fun a u ha => by
  rw [upd_ne (ne_of_none ha h)]
  exact e a u ha
def isS : V → Bool
  | .str x => PySem.PyData.canLay0 (.str x)
  | _ => false
theorem isS_shape : ∀ {v : V}, isS v = true → ∃ x, v = .str x ∧ PySem.PyData.canLay0 (.str x) = true
  | .str x, h => ⟨x, rfl, h⟩
def isZ : V → Bool
  | .str x => PySem.PyData.canLay0 (.str x) && decide (x ≠ "zz")
  | _ => false
theorem isZ_shape : ∀ {v : V}, isZ v = true → ∃ x, v = .str x ∧ PySem.PyData.canLay0 (.str x) = true ∧ x ≠ "zz"
  | .str x, h => by
    obtain ⟨h1, h2⟩ := Bool.and_eq_true_iff.mp h
    exact ⟨x, rfl, h1, of_decide_eq_true h2⟩
def isI : V → Bool
  | .int _ => true
  | _ => false
theorem isI_shape : ∀ {v : V}, isI v = true → ∃ x, v = .int x
  | .int x, h => ⟨x, rfl⟩
theorem pick {xs : List V} {p : V → Bool} (h : xs.all p = true) {d : Int} {n : Nat} (hn : xs.length = n) (hp : 0 < n) : ∃ v, atI xs (d % (n : Int)) = some v ∧ p v = true := by
  have h0 : 0 ≤ d % (n : Int) := Int.emod_nonneg _ (by omega)
  have h1 : d % (n : Int) < (n : Int) := Int.emod_lt_of_pos _ (by omega)
  have hk : (d % (n : Int)).toNat < xs.length := by omega
  exact ⟨xs[(d % (n : Int)).toNat], at_of (j := (d % (n : Int)).toNat) (by omega) (List.getElem?_eq_getElem hk), List.all_eq_true.mp h _ (List.getElem_mem hk)⟩
theorem fn_never {P : Program} {w : World} {K : PySem.W.Frag} {mg : Str → Option Value} {base : Heap} {k : Nat} {f : Addr} {fd : FuncData} {ps : List Str} {sp : Sp} (no : ∀ vs H Q E, ¬ sp vs H Q E) : FnOk P w K mg base CX0 k f fd ps sp :=
  ⟨fun vs H Q E h => absurd h (no vs H Q E), fun A outer s H args us vs Q E _ _ _ _ h => absurd h (no vs H Q E)⟩
theorem natMod (x : Int) (p : Nat) (hp : 0 < p) : ∃ c : Nat, x % (p : Int) = (c : Int) ∧ c < p := by
  have h0 := Int.emod_nonneg x (show (p : Int) ≠ 0 by omega)
  have h1 := Int.emod_lt_of_pos x (show (0 : Int) < p by omega)
  exact ⟨(x % (p : Int)).toNat, by omega, by omega⟩
theorem dec1 (n : Nat) : ((n + 1 : Nat) : Int) - 1 = (n : Int) := by omega
theorem mkNode0 {K : PySem.W.Frag} {H : Hp} {a : Addr} {w : Str} {its : List V} {ps : List Str} {m : Nat} {ks : List Nd} (h1 : SqT K H a (.str w :: its)) (hf : Form K H w its ps m (ks.map Nd.v)) (hk : ∀ k, k ∈ ks → NdAt K H k) : NdAt K H (.mk (.ref a) w its ps m ks) := .mk a w its ps m ks h1 hf trivial hk
/-- a method's tree stands at a: its parameters at pa, its statements at ba -/
structure MethAt (K : PySem.W.Frag) (H : Hp) (a : Addr) (msg : Str) (pa ba : Addr) (ps : List Str) (ts : List Nd) : Prop where
  tup : SqT K H a [.str "method", .str msg, .ref pa, .ref ba]
  par : SqT K H pa (ps.map V.str)
  body : SqT K H ba (ts.map Nd.v)
  nds : ∀ t, t ∈ ts → NdAt K H t
  few : sizeL ts ≤ 200
  plen : ps.length ≤ 10
theorem MethAt.keep {K : PySem.W.Frag} {H H' : Hp} {a : Addr} {msg : Str} {pa ba : Addr} {ps : List Str} {ts : List Nd} (h : MethAt K H a msg pa ba ps ts) (k : Keep H H') : MethAt K H' a msg pa ba ps ts :=
  ⟨k.sqt h.tup, k.sqt h.par, k.sqt h.body, fun t ht => k.nd (h.nds t ht), h.few, h.plen⟩
theorem Dok.args {K : PySem.W.Frag} {H : Hp} {n : Nat} {r : Addr} {ts : List Nd} (h : SqT K H r (ts.map Nd.v)) (ht : ∀ t, t ∈ ts → Dok K H n t.v) : Dok K H (n + 1) (.ref r) := Dok.tup h fun u hu => by
  obtain ⟨t', ht', rfl⟩ := List.mem_map.mp hu
  exact ht t' ht'
theorem atIx {row : List Int} {i : Int} (h0 : 0 ≤ i) (h1 : i < (row.length : Int)) : ∃ z, atI (row.map V.int) i = some (.int z) ∧ z ∈ row := by
  have hk : i.toNat < row.length := by omega
  refine ⟨row[i.toNat], at_of (j := i.toNat) (by omega) (by rw [List.getElem?_map, List.getElem?_eq_getElem hk]; rfl), List.getElem_mem hk⟩
theorem strs_dt {K : PySem.W.Frag} {H : Hp} {n : Nat} : ∀ {xs : List Str}, (∀ x, x ∈ xs → PySem.PyData.canLay0 (.str x) = true) → Paired (Dt K H n) (xs.map V.str) (xs.map PyData.str)
  | [], _ => .nil
  | x :: xs, h => .cons (Dt.flat (.str x (h x (by simp))) n) (strs_dt fun y hy => h y (by simp [hy]))
theorem same_data {K : PySem.W.Frag} {H : Hp} {n : Nat} {x y : V} {d : PyData} {Q : VK} (h1 : Dt K H n x d) (h2 : Dt K H n y d) (hn : n ≤ 64) (q : Q (.bl true) H) : rEqD K x y H Q := by
  refine ⟨d, d, h1.dp.1, h2.dp.1, h1.shaped hn, h1.shaped hn, ?_⟩
  rw [SeqAt.eqv_refl d h1.dp.2.1]
  exact q
theorem same_dataN {K : PySem.W.Frag} {H : Hp} {n : Nat} {x y : V} {d : PyData} {Q : VK} (h1 : Dt K H n x d) (h2 : Dt K H n y d) (hn : n ≤ 64) (q : Q (.bl false) H) : rNeD K x y H Q := by
  refine ⟨d, d, h1.dp.1, h2.dp.1, h1.shaped hn, h1.shaped hn, ?_⟩
  rw [SeqAt.eqv_refl d h1.dp.2.1]
  exact q
end My
namespace My
open PySem L2 PyProof.Rows
/-! ### a walk of a list or a tuple -/
def iSeq (K : PySem.W.Frag) (tl : TE) : TI := fun σ H R => tl σ H fun x H1 => ∃ a, x = .ref a ∧ (((∃ xs, SqL K H1 a xs) ∧ R (Itl K a) H1) ∨ ((∃ xs, SqT K H1 a xs) ∧ R (Itt K a) H1))
theorem pi_seq {X : Cx} {tg ex : Expr} {te : TE} (pe : PE X ex te) : PI X tg ex (iSeq X.K te) where
  run := by
    intro pn st sg Hh Rr inv hw
    apply thn (pe.run pn st sg Hh _ inv hw)
    rintro val st1 ⟨vv, Hn, inv1, rel, adr, eadr, alt⟩
    subst eadr
    cases rel
    have fresh1 : ∀ b, b ∈ [st1.heap.objs.size] → FpOk X pn Hn b := by
      intro b hb
      rw [List.mem_singleton] at hb
      rw [hb]
      exact inv1.fpOk (Nat.le_refl _) (inv1.hok.fresh (Nat.le_refl _))
    have keep1 : ∀ ob : Obj, Inv X pn sg Hn { st1 with heap := st1.heap.push ob } := fun ob =>
      inv1.kept (t' := st1.toks) (fun _ _ e => Heap.get?_push_of_some _ e)
    rcases alt with ⟨⟨ys, hys⟩, go⟩ | ⟨⟨ys, hys⟩, go⟩
    · obtain ⟨vals, _, pl, _⟩ := inv1.list hys
      apply wpAny_pyIter_list pl.isList
      exact ⟨_, _, _, _, Hn, rfl, keep1 _, turn_list adr _, ⟨_, Heap.get?_push_size _ rfl, rfl, rfl⟩, fresh1, go⟩
    · obtain ⟨vals, _, pl, _⟩ := inv1.tuple hys
      apply wpAny_pyIter_tuple (show st1.heap.IsTuple adr vals.toArray from pl)
      exact ⟨_, _, _, _, Hn, rfl, keep1 _, turn_tuple adr _, ⟨_, Heap.get?_push_size _ rfl, rfl, rfl⟩, fresh1, go⟩
end My

set_option Elab.async false
set_option linter.all false
set_option maxRecDepth 100000
namespace My
open PySem L2
/-! ### the text by places -/
def top (i : Nat) : Stmt := PySem.Challenge.pw_sendstead_k57_rows_of_turns.main.body.getD i (.Pass ⟨0, 0, 0, 0⟩)
abbrev s_parts_of : Stmt := top 4
abbrev N_parts_of : List Str := ["node", "word"]
theorem sc_parts_of : FnScope N_parts_of ["node"] (defScope s_parts_of) := ⟨rfl, rfl, rfl, by decide +kernel, rfl, by decide +kernel, by decide +kernel⟩
abbrev s_Shape_init__ : Stmt := inClass (top 5) 0
abbrev N_Shape_init__ : List Str := ["self", "method", "statement", "at", "node"]
theorem sc_Shape_init__ : FnScope N_Shape_init__ ["self", "method"] (defScope s_Shape_init__) := ⟨rfl, rfl, rfl, by decide +kernel, rfl, by decide +kernel, by decide +kernel⟩
abbrev s_Shape_add : Stmt := inClass (top 5) 1
abbrev N_Shape_add : List Str := ["self", "node", "above", "code", "at", "inner", "part"]
theorem sc_Shape_add : FnScope N_Shape_add ["self", "node", "above", "code"] (defScope s_Shape_add) := ⟨rfl, rfl, rfl, by decide +kernel, rfl, by decide +kernel, by decide +kernel⟩
abbrev s_Shape_is_parameter : Stmt := inClass (top 5) 2
abbrev N_Shape_is_parameter : List Str := ["self", "word", "code"]
theorem sc_Shape_is_parameter : FnScope N_Shape_is_parameter ["self", "word", "code"] (defScope s_Shape_is_parameter) := ⟨rfl, rfl, rfl, by decide +kernel, rfl, by decide +kernel, by decide +kernel⟩
abbrev s_Shape_all_names : Stmt := inClass (top 5) 3
abbrev N_Shape_all_names : List Str := ["self", "found", "at", "node", "word"]
theorem sc_Shape_all_names : FnScope N_Shape_all_names ["self"] (defScope s_Shape_all_names) := ⟨rfl, rfl, rfl, by decide +kernel, rfl, by decide +kernel, by decide +kernel⟩
abbrev s_Shape_parameters : Stmt := inClass (top 5) 4
abbrev N_Shape_parameters : List Str := ["self", "code"]
theorem sc_Shape_parameters : FnScope N_Shape_parameters ["self", "code"] (defScope s_Shape_parameters) := ⟨rfl, rfl, rfl, by decide +kernel, rfl, by decide +kernel, by decide +kernel⟩
abbrev s_Shape_firsts : Stmt := inClass (top 5) 7
abbrev N_Shape_firsts : List Str := ["self", "code", "at"]
theorem sc_Shape_firsts : FnScope N_Shape_firsts ["self", "code"] (defScope s_Shape_firsts) := ⟨rfl, rfl, rfl, by decide +kernel, rfl, by decide +kernel, by decide +kernel⟩
abbrev s_Shape_found : Stmt := inClass (top 5) 8
abbrev N_Shape_found : List Str := ["self", "word", "code", "out"]
theorem sc_Shape_found : FnScope N_Shape_found ["self", "word", "code"] (defScope s_Shape_found) := ⟨rfl, rfl, rfl, by decide +kernel, rfl, by decide +kernel, by decide +kernel⟩
abbrev s_Compiler_init__ : Stmt := inClass (top 9) 0
abbrev N_Compiler_init__ : List Str := ["self", "form", "code"]
theorem sc_Compiler_init__ : FnScope N_Compiler_init__ ["self", "form", "code"] (defScope s_Compiler_init__) := ⟨rfl, rfl, rfl, by decide +kernel, rfl, by decide +kernel, by decide +kernel⟩
abbrev s_Compiler_come : Stmt := inClass (top 9) 1
abbrev N_Compiler_come : List Str := ["self", "at", "word", "more"]
theorem sc_Compiler_come : FnScope N_Compiler_come ["self", "at", "word", "more"] (defScope s_Compiler_come) := ⟨rfl, rfl, rfl, by decide +kernel, rfl, by decide +kernel, by decide +kernel⟩
abbrev s_Compiler_mend : Stmt := inClass (top 9) 2
abbrev N_Compiler_mend : List Str := ["self", "number", "at", "word"]
theorem sc_Compiler_mend : FnScope N_Compiler_mend ["self", "number"] (defScope s_Compiler_mend) := ⟨rfl, rfl, rfl, by decide +kernel, rfl, by decide +kernel, by decide +kernel⟩
abbrev s_Compiler_worked : Stmt := inClass (top 9) 3
abbrev N_Compiler_worked : List Str := ["self", "at", "node", "word", "kids", "kid"]
theorem sc_Compiler_worked : FnScope N_Compiler_worked ["self", "at"] (defScope s_Compiler_worked) := ⟨rfl, rfl, rfl, by decide +kernel, rfl, by decide +kernel, by decide +kernel⟩
abbrev s_Compiler_used : Stmt := inClass (top 9) 4
abbrev N_Compiler_used : List Str := ["self", "at", "node"]
theorem sc_Compiler_used : FnScope N_Compiler_used ["self", "at", "node"] (defScope s_Compiler_used) := ⟨rfl, rfl, rfl, by decide +kernel, rfl, by decide +kernel, by decide +kernel⟩
abbrev s_Compiler_all_done : Stmt := inClass (top 9) 5
abbrev N_Compiler_all_done : List Str := ["self", "numbers", "at"]
theorem sc_Compiler_all_done : FnScope N_Compiler_all_done ["self", "numbers"] (defScope s_Compiler_all_done) := ⟨rfl, rfl, rfl, by decide +kernel, rfl, by decide +kernel, by decide +kernel⟩
abbrev s_Compiler_done : Stmt := inClass (top 9) 6
abbrev N_Compiler_done : List Str := ["self", "at", "node", "kids", "beat"]
theorem sc_Compiler_done : FnScope N_Compiler_done ["self", "at"] (defScope s_Compiler_done) := ⟨rfl, rfl, rfl, by decide +kernel, rfl, by decide +kernel, by decide +kernel⟩
abbrev s_Compiler_chosen : Stmt := inClass (top 9) 7
abbrev N_Compiler_chosen : List Str := ["self", "at", "node", "kids", "beat", "first", "unless", "jump"]
theorem sc_Compiler_chosen : FnScope N_Compiler_chosen ["self", "at", "node", "kids", "beat"] (defScope s_Compiler_chosen) := ⟨rfl, rfl, rfl, by decide +kernel, rfl, by decide +kernel, by decide +kernel⟩
abbrev s_Compiler_tried : Stmt := inClass (top 9) 8
abbrev N_Compiler_tried : List Str := ["self", "at", "node", "kids", "first", "taken", "jump"]
theorem sc_Compiler_tried : FnScope N_Compiler_tried ["self", "at", "node", "kids"] (defScope s_Compiler_tried) := ⟨rfl, rfl, rfl, by decide +kernel, rfl, by decide +kernel, by decide +kernel⟩
abbrev s_Compiler_whole : Stmt := inClass (top 9) 9
abbrev N_Compiler_whole : List Str := ["self"]
theorem sc_Compiler_whole : FnScope N_Compiler_whole ["self"] (defScope s_Compiler_whole) := ⟨rfl, rfl, rfl, by decide +kernel, rfl, by decide +kernel, by decide +kernel⟩
abbrev s_compiled : Stmt := top 10
abbrev N_compiled : List Str := ["form", "code"]
theorem sc_compiled : FnScope N_compiled ["form", "code"] (defScope s_compiled) := ⟨rfl, rfl, rfl, by decide +kernel, rfl, by decide +kernel, by decide +kernel⟩
abbrev s_rows_of : Stmt := top 11
abbrev N_rows_of : List Str := ["method", "node"]
theorem sc_rows_of : FnScope N_rows_of ["method", "node"] (defScope s_rows_of) := ⟨rfl, rfl, rfl, by decide +kernel, rfl, by decide +kernel, by decide +kernel⟩
abbrev s_law_deck : Stmt := top 13
abbrev N_law_deck : List Str := ["_law_script", "_law_cell"]
theorem sc_law_deck : FnScope N_law_deck ["_law_script"] (defScope s_law_deck) := ⟨rfl, rfl, rfl, by decide +kernel, rfl, by decide +kernel, by decide +kernel⟩
abbrev s_law_draw : Stmt := top 14
abbrev N_law_draw : List Str := ["_law_deck_here", "_law_many", "_law_cell", "_law_place"]
theorem sc_law_draw : FnScope N_law_draw ["_law_deck_here", "_law_many"] (defScope s_law_draw) := ⟨rfl, rfl, rfl, by decide +kernel, rfl, by decide +kernel, by decide +kernel⟩
abbrev s_law_word : Stmt := top 15
abbrev N_law_word : List Str := ["_law_deck_here", "_law_first", "_law_most", "_law_letters", "_law_k"]
theorem sc_law_word : FnScope N_law_word ["_law_deck_here", "_law_first", "_law_most"] (defScope s_law_word) := ⟨rfl, rfl, rfl, by decide +kernel, rfl, by decide +kernel, by decide +kernel⟩
abbrev s_law_words : Stmt := top 16
abbrev N_law_words : List Str := ["_law_deck_here", "_law_many", "_law_front", "_law_signs", "_law_first", "_law_k"]
theorem sc_law_words : FnScope N_law_words ["_law_deck_here", "_law_many"] (defScope s_law_words) := ⟨rfl, rfl, rfl, by decide +kernel, rfl, by decide +kernel, by decide +kernel⟩
abbrev s_law_statements : Stmt := top 17
abbrev N_law_statements : List Str := ["_law_deck_here", "_law_words_here", "_law_left", "_law_deep", "_law_most", "_law_found", "_law_k"]
theorem sc_law_statements : FnScope N_law_statements ["_law_deck_here", "_law_words_here", "_law_left", "_law_deep", "_law_most"] (defScope s_law_statements) := ⟨rfl, rfl, rfl, by decide +kernel, rfl, by decide +kernel, by decide +kernel⟩
abbrev s_law_statement : Stmt := top 18
abbrev N_law_statement : List Str := ["_law_deck_here", "_law_words_here", "_law_left", "_law_deep", "_law_way", "_law_e", "_law_first", "_law_second"]
theorem sc_law_statement : FnScope N_law_statement ["_law_deck_here", "_law_words_here", "_law_left", "_law_deep"] (defScope s_law_statement) := ⟨rfl, rfl, rfl, by decide +kernel, rfl, by decide +kernel, by decide +kernel⟩
abbrev s_law_taken : Stmt := top 19
abbrev N_law_taken : List Str := ["_law_statements_here", "_law_found", "_law_node"]
theorem sc_law_taken : FnScope N_law_taken ["_law_statements_here"] (defScope s_law_taken) := ⟨rfl, rfl, rfl, by decide +kernel, rfl, by decide +kernel, by decide +kernel⟩
abbrev s_law_all : Stmt := top 20
abbrev N_law_all : List Str := ["_law_made", "_law_statements_here", "_law_at", "_law_names", "_law_node"]
theorem sc_law_all : FnScope N_law_all ["_law_made", "_law_statements_here", "_law_at", "_law_names"] (defScope s_law_all) := ⟨rfl, rfl, rfl, by decide +kernel, rfl, by decide +kernel, by decide +kernel⟩
abbrev s_law_put : Stmt := top 21
abbrev N_law_put : List Str := ["_law_made", "_law_node", "_law_at", "_law_names", "_law_beat", "_law_behind", "_law_jump"]
theorem sc_law_put : FnScope N_law_put ["_law_made", "_law_node", "_law_at", "_law_names"] (defScope s_law_put) := ⟨rfl, rfl, rfl, by decide +kernel, rfl, by decide +kernel, by decide +kernel⟩
abbrev s_law_same : Stmt := top 22
abbrev N_law_same : List Str := ["_law_one", "_law_other", "_law_k"]
theorem sc_law_same : FnScope N_law_same ["_law_one", "_law_other"] (defScope s_law_same) := ⟨rfl, rfl, rfl, by decide +kernel, rfl, by decide +kernel, by decide +kernel⟩
abbrev s_law : Stmt := top 23
abbrev N_law : List Str := ["_law_script", "_law_deck_here", "_law_words_here", "_law_names", "_law_given", "_law_body", "_law_word_here", "_law_made", "_law_due"]
theorem sc_law : FnScope N_law ["_law_script"] (defScope s_law) := ⟨rfl, rfl, rfl, by decide +kernel, rfl, by decide +kernel, by decide +kernel⟩
/-! ### what the top has left -/
structure DefT (K : PySem.W.Frag) (mg : Str → Option Value) (x qual : Str) (st : Stmt) (ps : List Str) where
  f : Addr
  fd : FuncData
  fn : Fun K x qual st f fd
  m : mg x = some (.ref f)
  b : Binds K fd ps []
theorem DefT.kp {K : PySem.W.Frag} {mg : Str → Option Value} {x qual : Str} {st : Stmt} {ps : List Str} (D : DefT K mg x qual st ps) : PySem.W.keepIn K (.ref D.f) = true := D.fn.kp
structure MetT (K : PySem.W.Frag) (C : Addr) (x qual : Str) (st : Stmt) (ps : List Str) where
  f : Addr
  fd : FuncData
  fn : Fun K x qual st f fd
  me : Meth K C x f
  b : Binds K fd ps []
structure InitT (K : PySem.W.Frag) (C : Addr) (x qual : Str) (st : Stmt) (ps : List Str) where
  f : Addr
  fd : FuncData
  fn : Fun K x qual st f fd
  mkk : Mk K C f
  b : Binds K fd ps []
/-- a method whose last parameter's default is an empty tuple at E -/
structure MetD (K : PySem.W.Frag) (C : Addr) (x qual : Str) (st : Stmt) (ps : List Str) where
  f : Addr
  fd : FuncData
  E : Addr
  e0 : ∀ H : Hp, SqT K H E []
  fn : FunD K x qual (defArgs st) (defBody st) (defScope st) [.ref E] [] f fd
  me : Meth K C x f
  b : Binds K fd ps []
  bd : Binds K fd ps [.ref E]
/-- a constant tuple of texts -/
structure TupT (K : PySem.W.Frag) (mg : Str → Option Value) (x : Str) (xs : List V) where
  a : Addr
  m : mg x = some (.ref a)
  t : ∀ H : Hp, SqT K H a xs
structure ShapeT (K : PySem.W.Frag) (mg : Str → Option Value) where
  C : Addr
  cl : Cls K C
  m : mg "Shape" = some (.ref C)
  n_tree : NoAttr K C "tree"
  n_nodes : NoAttr K C "nodes"
  n_above : NoAttr K C "above"
  n_children : NoAttr K C "children"
  n_code : NoAttr K C "code"
  n_codes : NoAttr K C "codes"
  n_names : NoAttr K C "names"
structure CompilerT (K : PySem.W.Frag) (mg : Str → Option Value) where
  C : Addr
  cl : Cls K C
  m : mg "Compiler" = some (.ref C)
  n_form : NoAttr K C "form"
  n_code : NoAttr K C "code"
  n_made : NoAttr K C "made"
structure Tx (K : PySem.W.Frag) (mg : Str → Option Value) where
  z_len : mg "len" = none
  z_range : mg "range" = none
  z_tuple : mg "tuple" = none
  z_list : mg "list" = none
  z_isinstance : mg "isinstance" = none
  z_abs : mg "abs" = none
  z_bool : mg "bool" = none
  z_enumerate : mg "enumerate" = none
  t_PARAMETERS : Tok
  c_PARAMETERS : mg "PARAMETERS" = some (.int 2 t_PARAMETERS)
  t_BODY : Tok
  c_BODY : mg "BODY" = some (.int 3 t_BODY)
  k_PLAIN : TupT K mg "PLAIN" [.str "number", .str "text", .str "truth"]
  k_ONE : TupT K mg "ONE" [.str "do", .str "say", .str "return", .str "raise"]
  Shape : ShapeT K mg
  Compiler : CompilerT K mg
  d_parts_of : DefT K mg "parts_of" "parts_of" s_parts_of ["node"]
  d_Shape_init__ : InitT K Shape.C "__init__" "Shape.__init__" s_Shape_init__ ["self", "method"]
  d_Shape_add : MetT K Shape.C "add" "Shape.add" s_Shape_add ["self", "node", "above", "code"]
  d_Shape_is_parameter : MetT K Shape.C "is_parameter" "Shape.is_parameter" s_Shape_is_parameter ["self", "word", "code"]
  d_Shape_all_names : MetT K Shape.C "all_names" "Shape.all_names" s_Shape_all_names ["self"]
  d_Shape_parameters : MetT K Shape.C "parameters" "Shape.parameters" s_Shape_parameters ["self", "code"]
  d_Shape_firsts : MetT K Shape.C "firsts" "Shape.firsts" s_Shape_firsts ["self", "code"]
  d_Shape_found : MetT K Shape.C "found" "Shape.found" s_Shape_found ["self", "word", "code"]
  d_Compiler_init__ : InitT K Compiler.C "__init__" "Compiler.__init__" s_Compiler_init__ ["self", "form", "code"]
  d_Compiler_come : MetD K Compiler.C "come" "Compiler.come" s_Compiler_come ["self", "at", "word", "more"]
  d_Compiler_mend : MetT K Compiler.C "mend" "Compiler.mend" s_Compiler_mend ["self", "number"]
  d_Compiler_worked : MetT K Compiler.C "worked" "Compiler.worked" s_Compiler_worked ["self", "at"]
  d_Compiler_used : MetT K Compiler.C "used" "Compiler.used" s_Compiler_used ["self", "at", "node"]
  d_Compiler_all_done : MetT K Compiler.C "all_done" "Compiler.all_done" s_Compiler_all_done ["self", "numbers"]
  d_Compiler_done : MetT K Compiler.C "done" "Compiler.done" s_Compiler_done ["self", "at"]
  d_Compiler_chosen : MetT K Compiler.C "chosen" "Compiler.chosen" s_Compiler_chosen ["self", "at", "node", "kids", "beat"]
  d_Compiler_tried : MetT K Compiler.C "tried" "Compiler.tried" s_Compiler_tried ["self", "at", "node", "kids"]
  d_Compiler_whole : MetT K Compiler.C "whole" "Compiler.whole" s_Compiler_whole ["self"]
  d_compiled : DefT K mg "compiled" "compiled" s_compiled ["form", "code"]
  d_rows_of : DefT K mg "rows_of" "rows_of" s_rows_of ["method", "node"]
  d_law_deck : DefT K mg "_law_deck" "_law_deck" s_law_deck ["_law_script"]
  d_law_draw : DefT K mg "_law_draw" "_law_draw" s_law_draw ["_law_deck_here", "_law_many"]
  d_law_word : DefT K mg "_law_word" "_law_word" s_law_word ["_law_deck_here", "_law_first", "_law_most"]
  d_law_words : DefT K mg "_law_words" "_law_words" s_law_words ["_law_deck_here", "_law_many"]
  d_law_statements : DefT K mg "_law_statements" "_law_statements" s_law_statements ["_law_deck_here", "_law_words_here", "_law_left", "_law_deep", "_law_most"]
  d_law_statement : DefT K mg "_law_statement" "_law_statement" s_law_statement ["_law_deck_here", "_law_words_here", "_law_left", "_law_deep"]
  d_law_taken : DefT K mg "_law_taken" "_law_taken" s_law_taken ["_law_statements_here"]
  d_law_all : DefT K mg "_law_all" "_law_all" s_law_all ["_law_made", "_law_statements_here", "_law_at", "_law_names"]
  d_law_put : DefT K mg "_law_put" "_law_put" s_law_put ["_law_made", "_law_node", "_law_at", "_law_names"]
  d_law_same : DefT K mg "_law_same" "_law_same" s_law_same ["_law_one", "_law_other"]
  d_law : DefT K mg "law" "law" s_law ["_law_script"]
end My

set_option Elab.async false
set_option linter.all false
set_option maxRecDepth 100000
set_option maxHeartbeats 4000000
namespace My
open PySem L2
theorem oneW_1 : ∀ w, w ∈ oneW → inV (.str w) [.str "set", .str "setfield"] = false := by unfold oneW; decide +kernel
theorem leafW_1 : ∀ w, w ∈ leafW → inV (.str w) [.str "set", .str "setfield"] = false := by unfold leafW; decide +kernel
theorem oneW_2 : ∀ w, w ∈ oneW → inV (.str w) [.str "do", .str "say", .str "return", .str "raise"] = true := by unfold oneW; decide +kernel
theorem leafW_2 : ∀ w, w ∈ leafW → inV (.str w) [.str "do", .str "say", .str "return", .str "raise"] = false := by unfold leafW; decide +kernel
def spParts (K : PySem.W.Frag) : Sp := fun vs H Q _ => ∃ (a : Addr) (w : Str) (its : List V) (pps : List Str) (mm : Nat) (ks : List V), vs = [.ref a] ∧ SqT K H a (.str w :: its) ∧ Form K H w its pps mm ks ∧ ks.length ≤ 1000 ∧
  ∀ (r : Addr) (H' : Hp), Same H H' → SqT K H' r ks → Q (.ref r) H'
section
variable {P : Program} {w : World} {K : PySem.W.Frag} {mg : Str → Option Value} {base : Heap}
local macro_rules | `(tactic| walk_at "eqN") => `(tactic| refine ⟨_, rfl, rfl, _, rfl, iteN (by decide +kernel) ?_⟩)
local macro_rules | `(tactic| walk_at "eqY") => `(tactic| refine ⟨_, rfl, rfl, _, rfl, iteY (by decide +kernel) ?_⟩)
theorem ok_parts_of (T : Tx K mg) : FnOk P w K mg base CX0 1 T.d_parts_of.f T.d_parts_of.fd ["node"] (spParts K) := by
  have nd := sc_parts_of.nd
  refine T.d_parts_of.fn.ok sc_parts_of (fun vs H Q E h => ?_) (fun cdv A outer s H vs Q E hr h => ?_)
  · obtain ⟨a, w, its, pps, mm, ks, rfl, _⟩ := h
    rfl
  · obtain ⟨a, w, its, pps, mm, ks, rfl, hS, hF, hk, q⟩ := h
    refine ⟨_, (pss_cons (ps_set (i := 1) nd rfl (Or.inl rfl) (pe_ix ix_tup (pv 0) pe_int (fun _ _ => rfl)))
      (pss_cons (ps_if (pt_cmpR op_in_seq (pv 1) (pe_tup (pa_cons pe_str (pa_cons pe_str pa_nil))) rfl)
      (pss_one (ps_ret (pe_tup (pa_cons (pe_ix ix_tup (pv 0) pe_int (fun _ _ => rfl)) pa_nil))))
      pss_nil)
      (pss_cons (ps_if (pt_cmpR op_in_seq (pv 1) (pe_tup (pa_cons pe_str (pa_cons pe_str (pa_cons pe_str (pa_cons pe_str pa_nil))))) rfl)
      (pss_one (ps_ret (pe_tup (pa_cons (pe_ix ix_tup (pv 0) pe_int (fun _ _ => rfl)) pa_nil))))
      pss_nil)
      (pss_cons (ps_if (pt_cmpR op_eq (pv 1) pe_str (nomark _))
      (pss_one (ps_ret (pe_op op_catA (pe_op op_catA (pe_tup (pa_cons (pe_ix ix_tup (pv 0) pe_int (fun _ _ => rfl)) pa_nil)) (pe_ix ix_tup (pv 0) pe_int (fun _ _ => rfl))) (pe_ix ix_tup (pv 0) pe_int (fun _ _ => rfl)))))
      pss_nil)
      (pss_cons (ps_if (pt_cmpR op_eq (pv 1) pe_str (nomark _))
      (pss_one (ps_ret (pe_op op_catA (pe_tup (pa_cons (pe_ix ix_tup (pv 0) pe_int (fun _ _ => rfl)) pa_nil)) (pe_ix ix_tup (pv 0) pe_int (fun _ _ => rfl)))))
      pss_nil)
      (pss_cons (ps_if (pt_cmpR op_eq (pv 1) pe_str (nomark _))
      (pss_one (ps_ret (pe_op op_catA (pe_ix ix_tup (pv 0) pe_int (fun _ _ => rfl)) (pe_ix ix_tup (pv 0) pe_int (fun _ _ => rfl)))))
      pss_nil)
      (pss_cons (ps_if (pt_cmpR op_eq (pv 1) pe_str (nomark _))
      (pss_one (ps_ret (pe_op op_catA (pe_tup (pa_cons (pe_ix ix_tup (pv 0) pe_int (fun _ _ => rfl)) pa_nil)) (pe_ix ix_tup (pv 0) pe_int (fun _ _ => rfl)))))
      pss_nil)
      (pss_cons (ps_if (PW.pt (pw_or (pt_cmpR op_eq (pv 1) pe_str (nomark _)) (pw_or1 (pt_cmpR op_eq (pv 1) pe_str (nomark _)))))
      (pss_one (ps_ret (pe_ix ix_tup (pv 0) pe_int (fun _ _ => rfl))))
      pss_nil)
      (pss_cons (ps_if (pt_cmpR op_eq (pv 1) pe_str (nomark _))
      (pss_one (ps_ret (pe_ix ix_tup (pv 0) pe_int (fun _ _ => rfl))))
      pss_nil)
      (pss_one (ps_ret (pe_tup pa_nil)))))))))))), ?_⟩
    refine ⟨_, rfl, a, _, _, _, rfl, rfl, hS, at0, ?_⟩
    refine ⟨_, rfl, (by show 2 ≤ sizeLine; decide), fun p1 n1 => ⟨p1, _, rfl, .inr (SqT.of upd_same), rfl, rfl, _, rfl, ?_⟩⟩
    have s1 := same_new n1 (HO.tup [V.str "set", V.str "setfield"])
    refine iteB (fun c1 => ?_) (fun c1 => ?_)
    · have hs := s1.sqt hS
      generalize upd H p1 _ = H1 at s1 hs ⊢
      cases hF with
      | set x e => exact ⟨_, rfl, a, _, _, _, rfl, rfl, hs, at2, (by show 1 ≤ sizeLine; decide), fun p n => q p _ (s1.trans (same_new n _)) (SqT.of upd_same)⟩
      | setfield x e => exact ⟨_, rfl, a, _, _, _, rfl, rfl, hs, at2, (by show 1 ≤ sizeLine; decide), fun p n => q p _ (s1.trans (same_new n _)) (SqT.of upd_same)⟩
      | one w h e => exact absurd ((oneW_1 w h).symm.trans c1) (by decide)
      | leaf w h => exact absurd ((leafW_1 w h).symm.trans c1) (by decide)
      | _ => exact absurd c1 (by decide +kernel)
    refine ⟨_, rfl, (by show 4 ≤ sizeLine; decide), fun p2 n2 => ⟨p2, _, rfl, .inr (SqT.of upd_same), rfl, rfl, _, rfl, ?_⟩⟩
    have s2 := s1.trans (same_new n2 (HO.tup [V.str "do", V.str "say", V.str "return", V.str "raise"]))
    have hs := s2.sqt hS
    generalize upd (upd H p1 _) p2 _ = H2 at s2 hs ⊢
    refine iteB (fun c2 => ?_) (fun c2 => ?_)
    · cases hF with
      | one w h e => exact ⟨_, rfl, a, _, _, _, rfl, rfl, hs, at1, (by show 1 ≤ sizeLine; decide), fun p n => q p _ (s2.trans (same_new n _)) (SqT.of upd_same)⟩
      | leaf w h => exact absurd ((leafW_2 w h).symm.trans c2) (by decide)
      | _ => exact absurd c2 (by decide +kernel)
    cases hF with
    | set x e => exact absurd c1 (by decide +kernel)
    | setfield x e => exact absurd c1 (by decide +kernel)
    | one w h e => exact absurd ((oneW_2 w h).symm.trans c2) (by decide)
    | cond e b c xs ys h1 h2 =>
      walk_at "eqY"
      have hl : (e :: (xs ++ ys)).length ≤ 1000 := hk
      simp only [List.length_cons, List.length_append] at hl
      refine ⟨_, rfl, a, _, _, _, rfl, rfl, hs, at1, (by show 1 ≤ sizeLine; decide), fun p3 n3 => ?_⟩
      have s3 := s2.trans (same_new n3 (HO.tup [e]))
      refine ⟨_, rfl, a, _, _, _, rfl, rfl, s3.sqt hS, at2, catA (xs := [e]) (SqT.of upd_same) (s3.sqt h1) (by simp only [List.length_cons, List.length_nil]; omega) fun r3 H3 s4 h3 => ?_⟩
      refine ⟨_, rfl, a, _, _, _, rfl, rfl, (s3.trans s4).sqt hS, at3, catA h3 ((s3.trans s4).sqt h2) (by simp only [List.length_cons, List.length_nil, List.length_append]; omega) fun r4 H4 s5 h4 => q r4 H4 ((s3.trans s4).trans s5) h4⟩
    | loop e b xs h1 =>
      walk_at "eqN"
      walk_at "eqY"
      have hl : (e :: xs).length ≤ 1000 := hk
      simp only [List.length_cons] at hl
      refine ⟨_, rfl, a, _, _, _, rfl, rfl, hs, at1, (by show 1 ≤ sizeLine; decide), fun p3 n3 => ?_⟩
      have s3 := s2.trans (same_new n3 (HO.tup [e]))
      exact ⟨_, rfl, a, _, _, _, rfl, rfl, s3.sqt hS, at2, catA (xs := [e]) (SqT.of upd_same) (s3.sqt h1) (by simp only [List.length_cons, List.length_nil]; omega) fun r3 H3 s4 h3 => q r3 H3 (s3.trans s4) h3⟩
    | tri x b c xs ys h1 h2 =>
      walk_at "eqN"
      walk_at "eqN"
      walk_at "eqY"
      have hl : (xs ++ ys).length ≤ 1000 := hk
      simp only [List.length_append] at hl
      exact ⟨_, rfl, a, _, _, _, rfl, rfl, hs, at1, _, rfl, a, _, _, _, rfl, rfl, hs, at3, catA (s2.sqt h1) (s2.sqt h2) (by omega) fun r3 H3 s4 h3 => q r3 H3 (s2.trans s4) h3⟩
    | send e m b xs h1 =>
      walk_at "eqN"
      walk_at "eqN"
      walk_at "eqN"
      walk_at "eqY"
      have hl : (e :: xs).length ≤ 1000 := hk
      simp only [List.length_cons] at hl
      refine ⟨_, rfl, a, _, _, _, rfl, rfl, hs, at1, (by show 1 ≤ sizeLine; decide), fun p3 n3 => ?_⟩
      have s3 := s2.trans (same_new n3 (HO.tup [e]))
      exact ⟨_, rfl, a, _, _, _, rfl, rfl, s3.sqt hS, at3, catA (xs := [e]) (SqT.of upd_same) (s3.sqt h1) (by simp only [List.length_cons, List.length_nil]; omega) fun r3 H3 s4 h3 => q r3 H3 (s3.trans s4) h3⟩
    | up m b _ h1 =>
      walk_at "eqN"
      walk_at "eqN"
      walk_at "eqN"
      walk_at "eqN"
      refine ⟨_, rfl, rfl, _, rfl, iteY (by decide +kernel) (iteY rfl ?_)⟩
      exact ⟨_, rfl, a, _, _, _, rfl, rfl, hs, at2, q b _ s2 (s2.sqt h1)⟩
    | block p b _ _ hpl h1 h2 =>
      walk_at "eqN"
      walk_at "eqN"
      walk_at "eqN"
      walk_at "eqN"
      refine ⟨_, rfl, rfl, _, rfl, iteN (by decide +kernel) ⟨_, rfl, rfl, _, rfl, iteY (by decide +kernel) ?_⟩⟩
      exact ⟨_, rfl, a, _, _, _, rfl, rfl, hs, at2, q b _ s2 (s2.sqt h2)⟩
    | list b _ h1 =>
      walk_at "eqN"
      walk_at "eqN"
      walk_at "eqN"
      walk_at "eqN"
      refine ⟨_, rfl, rfl, _, rfl, iteN (by decide +kernel) ⟨_, rfl, rfl, _, rfl, iteN (by decide +kernel) ?_⟩⟩
      walk_at "eqY"
      exact ⟨_, rfl, a, _, _, _, rfl, rfl, hs, at1, q b _ s2 (s2.sqt h1)⟩
    | leaf w h =>
      have z : ∀ x, x ∈ leafW → decide (V.str x = V.str "if") = false ∧ decide (V.str x = V.str "while") = false ∧ decide (V.str x = V.str "try") = false ∧ decide (V.str x = V.str "send") = false ∧ decide (V.str x = V.str "up") = false ∧ decide (V.str x = V.str "block") = false ∧ decide (V.str x = V.str "list") = false := by
        unfold leafW
        decide +kernel
      obtain ⟨z1, z2, z3, z4, z5, z6, z7⟩ := z w h
      refine ⟨_, rfl, rfl, _, rfl, iteN z1 ⟨_, rfl, rfl, _, rfl, iteN z2 ⟨_, rfl, rfl, _, rfl, iteN z3 ⟨_, rfl, rfl, _, rfl, iteN z4 ⟨_, rfl, rfl, _, rfl, iteN z5 ⟨_, rfl, rfl, _, rfl, iteN z6 ⟨_, rfl, rfl, _, rfl, iteN z7 ?_⟩⟩⟩⟩⟩⟩⟩
      exact ⟨(by show 0 ≤ sizeLine; decide), fun p n => q p _ (s2.trans (same_new n _)) (SqT.of upd_same)⟩
end
end My

set_option Elab.async false
set_option linter.all false
set_option maxRecDepth 100000
set_option maxHeartbeats 4000000
namespace My
open PySem L2
/-! ### a Shape as it grows -/
/-- all that stood but at S stands -/
def ButS (S : List Addr) (H H' : Hp) : Prop := ∀ b o, H b = some o → b ∉ S → H' b = some o
theorem ButS.refl (S : List Addr) (H : Hp) : ButS S H H := fun _ _ h _ => h
theorem ButS.trans {S : List Addr} {H H1 H2 : Hp} (a : ButS S H H1) (b : ButS S H1 H2) : ButS S H H2 := fun c o h n => b c o (a c o h n) n
theorem ButS.same {S : List Addr} {H H' : Hp} (s : Same H H') : ButS S H H' := fun b o h _ => s b o h
theorem ButS.set {S : List Addr} {H : Hp} {p : Addr} (o : HO) (h : p ∈ S) : ButS S H (upd H p o) := fun b u e n => by
  rw [upd_ne (fun z => n (by rw [z]; exact h))]
  exact e
/-- an object that H does not know may change -/
theorem ButS.mut {S : List Addr} {H H1 : Hp} {p : Addr} {o : HO} (a : ButS S H H1) (h : H p = none) : ButS S H (upd H1 p o) := fun b u e n => by
  rw [upd_ne (ne_of_none e h)]
  exact a b u e n
theorem ButS.keep {S : List Addr} {H H' : Hp} (b : ButS S H H') (h : ∀ s, s ∈ S → ∃ xs, H s = some (.lst xs)) : Keep H H' :=
  ⟨fun a ys e => b a _ e (fun hm => by obtain ⟨xs, z⟩ := h a hm; rw [e] at z; cases z), fun a o u e => b a _ e (fun hm => by obtain ⟨xs, z⟩ := h a hm; rw [e] at z; cases z)⟩
def noMeth (fs : List (Str × V)) : Prop := fs.lookup ("add" : Str) = none ∧ fs.lookup ("is_parameter" : Str) = none ∧ fs.lookup ("all_names" : Str) = none ∧ fs.lookup ("parameters" : Str) = none ∧ fs.lookup ("body" : Str) = none ∧ fs.lookup ("firsts" : Str) = none ∧ fs.lookup ("found" : Str) = none
structure ShO (C : Addr) (H : Hp) (p dx : Addr) (fs : List (Str × V)) (tree : V) (n a c d : Addr) : Prop where
  ob : H p = some (.ins C dx fs)
  tree : fs.lookup ("tree" : Str) = some tree
  nodes : fs.lookup ("nodes" : Str) = some (.ref n)
  above : fs.lookup ("above" : Str) = some (.ref a)
  children : fs.lookup ("children" : Str) = some (.ref c)
  code : fs.lookup ("code" : Str) = some (.ref d)
  no : noMeth fs
structure ShB (H : Hp) (n a c d : Addr) (ch : List Addr) (rs : List Rec) : Prop where
  hn : H n = some (.lst (rs.map Rec.v))
  ha : H a = some (.lst (rs.map fun r => V.int r.above))
  hc : H c = some (.lst (ch.map V.ref))
  hd : H d = some (.lst (rs.map fun r => V.int r.code))
  len : ch.length = rs.length
  kid : ∀ (i : Nat) (x : Addr) (r : Rec), ch[i]? = some x → rs[i]? = some r → H x = some (.lst (r.kids.map V.int))
  ap : [n, a, c, d].Nodup
  out : ∀ x, x ∈ ch → x ∉ [n, a, c, d]
  nd : ch.Nodup
theorem ShB.lists {H : Hp} {n a c d : Addr} {ch : List Addr} {rs : List Rec} (h : ShB H n a c d ch rs) : ∀ s, s ∈ [n, a, c, d] → ∃ xs, H s = some (.lst xs) := fun s hs => by
  simp only [List.mem_cons, List.not_mem_nil, or_false] at hs
  rcases hs with rfl | rfl | rfl | rfl
  · exact ⟨_, h.hn⟩
  · exact ⟨_, h.ha⟩
  · exact ⟨_, h.hc⟩
  · exact ⟨_, h.hd⟩
theorem ShB.same {H H' : Hp} {n a c d : Addr} {ch : List Addr} {rs : List Rec} (h : ShB H n a c d ch rs) (s : Same H H') : ShB H' n a c d ch rs :=
  ⟨s _ _ h.hn, s _ _ h.ha, s _ _ h.hc, s _ _ h.hd, h.len, fun i x r e1 e2 => s _ _ (h.kid i x r e1 e2), h.ap, h.out, h.nd⟩
/-- a record more, without kids -/
theorem ShB.more {H : Hp} {n a c d : Addr} {ch : List Addr} {rs : List Rec} (h : ShB H n a c d ch rs) (r : Rec) (hk : r.kids = []) {x : Addr} (nx : H x = none) :
    ∀ H' : Hp, H' n = some (.lst ((rs ++ [r]).map Rec.v)) → H' a = some (.lst ((rs ++ [r]).map fun r => V.int r.above)) → H' c = some (.lst ((ch ++ [x]).map V.ref)) → H' d = some (.lst ((rs ++ [r]).map fun r => V.int r.code)) →
      H' x = some (.lst []) → ButS [n, a, c, d] H H' → ShB H' n a c d (ch ++ [x]) (rs ++ [r]) := fun H' e1 e2 e3 e4 e5 b => by
  have hxn : x ∉ [n, a, c, d] := fun hm => by
    obtain ⟨xs, z⟩ := h.lists x hm
    rw [nx] at z
    cases z
  have hxc : x ∉ ch := fun hm => by
    obtain ⟨i, hi⟩ := List.mem_iff_getElem?.mp hm
    obtain ⟨hlt, _⟩ := List.getElem?_eq_some_iff.mp hi
    have hlt' : i < rs.length := by rw [← h.len]; exact hlt
    have z := h.kid i x rs[i] hi (List.getElem?_eq_getElem hlt')
    rw [nx] at z
    cases z
  refine ⟨e1, e2, e3, e4, by rw [List.length_append, List.length_append, h.len]; rfl, fun i y r' g1 g2 => ?_, h.ap, fun y hy => ?_, ?_⟩
  · by_cases hi : i < ch.length
    · rw [List.getElem?_append_left hi] at g1
      rw [List.getElem?_append_left (by rw [← h.len]; exact hi)] at g2
      refine b _ _ (h.kid i y r' g1 g2) (h.out y (List.mem_of_getElem? g1))
    · have hi' : i = ch.length := by
        obtain ⟨hlt, _⟩ := List.getElem?_eq_some_iff.mp g1
        rw [List.length_append, List.length_singleton] at hlt
        omega
      subst hi'
      rw [List.getElem?_append_right (Nat.le_refl _), Nat.sub_self] at g1
      rw [h.len, List.getElem?_append_right (Nat.le_refl _), Nat.sub_self] at g2
      have q1 : x = y := Option.some.inj g1
      have q2 : r = r' := Option.some.inj g2
      subst q1 q2
      rw [hk]
      exact e5
  · rcases List.mem_append.mp hy with e | e
    · exact h.out y e
    · rw [List.mem_singleton] at e
      subst e
      exact hxn
  · refine List.nodup_append.mpr ⟨h.nd, by simp, fun y hy z hz e => ?_⟩
    rw [List.mem_singleton] at hz
    subst e hz
    exact hxc hy
/-- a kid more of the record with number j -/
theorem ShB.kidMore {H : Hp} {n a c d : Addr} {ch : List Addr} {rs : List Rec} (h : ShB H n a c d ch rs) {j : Nat} {x : Addr} {r : Rec} (e1 : ch[j]? = some x) (e2 : rs[j]? = some r) (z : Int) :
    ShB (upd H x (.lst (r.kids.map V.int ++ [V.int z]))) n a c d ch (rs.set j { r with kids := r.kids ++ [z] }) := by
  have hx := h.out x (List.mem_of_getElem? e1)
  have ne : ∀ y, y ∈ [n, a, c, d] → y ≠ x := fun y hy e => hx (by rw [← e]; exact hy)
  obtain ⟨hj, ej⟩ := List.getElem?_eq_some_iff.mp e2
  have m1 : (rs.set j { r with kids := r.kids ++ [z] }).map Rec.v = rs.map Rec.v := by
    rw [List.map_set]
    apply List.ext_getElem? 
    intro i
    by_cases hi : j = i
    · subst hi
      rw [List.getElem?_set_self (by simpa using hj), List.getElem?_map, e2]; rfl
    · rw [List.getElem?_set_ne hi]
  have m2 : (rs.set j { r with kids := r.kids ++ [z] }).map (fun r => V.int r.above) = rs.map fun r => V.int r.above := by
    rw [List.map_set]
    apply List.ext_getElem? 
    intro i
    by_cases hi : j = i
    · subst hi
      rw [List.getElem?_set_self (by simpa using hj), List.getElem?_map, e2]; rfl
    · rw [List.getElem?_set_ne hi]
  have m3 : (rs.set j { r with kids := r.kids ++ [z] }).map (fun r => V.int r.code) = rs.map fun r => V.int r.code := by
    rw [List.map_set]
    apply List.ext_getElem? 
    intro i
    by_cases hi : j = i
    · subst hi
      rw [List.getElem?_set_self (by simpa using hj), List.getElem?_map, e2]; rfl
    · rw [List.getElem?_set_ne hi]
  refine ⟨by rw [upd_ne (ne n (by simp)), m1]; exact h.hn, by rw [upd_ne (ne a (by simp)), m2]; exact h.ha, by rw [upd_ne (ne c (by simp))]; exact h.hc, by rw [upd_ne (ne d (by simp)), m3]; exact h.hd, by rw [List.length_set]; exact h.len, fun i y r' g1 g2 => ?_, h.ap, h.out, h.nd⟩
  by_cases hi : j = i
  · subst hi
    have q1 : y = x := Option.some.inj (g1.symm.trans e1)
    subst q1
    rw [List.getElem?_set_self hj] at g2
    have q2 := Option.some.inj g2
    subst q2
    rw [upd_same, List.map_append]; rfl
  · rw [List.getElem?_set_ne hi] at g2
    have hyx : y ≠ x := fun e => hi (nd_ix h.nd (by rw [← e] at e1; exact e1) g1)
    rw [upd_ne hyx]
    exact h.kid i y r' g1 g2
end My

set_option Elab.async false
set_option linter.all false
set_option maxRecDepth 100000
set_option maxHeartbeats 4000000
namespace My
open PySem L2
def spAdd (K : PySem.W.Frag) (C : Addr) (N : Nat) : Sp := fun vs H Q _ => ∃ (p dx : Addr) (fs : List (Str × V)) (tree : V) (n a c d : Addr) (ch : List Addr) (rs : List Rec) (t : Nd) (above code : Int) (hid : List (List Str)), vs = [.ref p, t.v, .int above, .int code] ∧
  ShO C H p dx fs tree n a c d ∧ ShB H n a c d ch rs ∧ NdAt K H t ∧ size t ≤ N ∧ rs.length + size t ≤ 1000 ∧
  ∀ (H' : Hp) (ch2 : List Addr), ShB H' n a c d (ch ++ ch2) (rs ++ recs rs.length above code hid t) → (∀ x, x ∈ ch2 → H x = none) → ButS [n, a, c, d] H H' → Q (.int rs.length) H'
theorem ShO.ne {C : Addr} {H : Hp} {p dx : Addr} {fs : List (Str × V)} {tree : V} {n a c d : Addr} {ch : List Addr} {rs : List Rec} (o : ShO C H p dx fs tree n a c d) (b : ShB H n a c d ch rs) : p ∉ [n, a, c, d] := fun hm => by
  obtain ⟨xs, z⟩ := b.lists p hm
  rw [o.ob] at z
  cases z
theorem ShO.but {C : Addr} {H H' : Hp} {p dx : Addr} {fs : List (Str × V)} {tree : V} {n a c d : Addr} {ch : List Addr} {rs : List Rec} (o : ShO C H p dx fs tree n a c d) (b : ShB H n a c d ch rs) (k : ButS [n, a, c, d] H H') : ShO C H' p dx fs tree n a c d :=
  ⟨k _ _ o.ob (o.ne b), o.tree, o.nodes, o.above, o.children, o.code, o.no⟩
section
variable {P : Program} {w : World} {K : PySem.W.Frag} {mg : Str → Option Value} {base : Heap}
theorem ok_add (T : Tx K mg) {N : Nat} (G_Shape_add : FnOk P w K mg base CX0 (N + 1) T.d_Shape_add.f T.d_Shape_add.fd ["self", "node", "above", "code"] (spAdd K T.Shape.C N)) :
    FnOk P w K mg base CX0 (N + 2) T.d_Shape_add.f T.d_Shape_add.fd ["self", "node", "above", "code"] (spAdd K T.Shape.C (N + 1)) := by
  have nd := sc_Shape_add.nd
  have G_parts_of := ok_parts_of (P := P) (w := w) (base := base) T
  refine T.d_Shape_add.fn.ok (k := N + 1) sc_Shape_add (fun vs H Q E h => ?_) (fun cdv A outer s H vs Q E hr h => ?_)
  · obtain ⟨p, dx, fs, tree, n, a, c, d, ch, rs, t, above, code, hid, rfl, _⟩ := h
    rfl
  · obtain ⟨p, dx, fs, tree, n, a, c, d, ch, rs, t, above, code, hid, rfl, ho, hb, ht, hN, hl, q⟩ := h
    have h_parts_of : Room 1 _ := hr.mono (by omega)
    have h_Shape_add : Room (N + 1) _ := hr
    obtain ⟨na, nc, nD, ac, ad, cd⟩ : n ≠ a ∧ n ≠ c ∧ n ≠ d ∧ a ≠ c ∧ a ≠ d ∧ c ≠ d := by
      have z := hb.ap
      simp only [List.nodup_cons, List.mem_cons, List.not_mem_nil, or_false, not_or] at z
      exact ⟨z.1.1, z.1.2.1, z.1.2.2, z.2.1.1, z.2.1.2, z.2.2.1⟩
    have hsz := size_pos t
    refine ⟨_, (pss_cons (ps_set (i := 4) nd rfl (Or.inl rfl) (pe_callB call_len_seq (by rfl) T.z_len PySem.boot_len (pa_cons (pe_fld (pv 0) rfl) pa_nil)))
      (pss_cons (ps_expr (pe_bm PySem.F.plainAttrs_list PySem.F.slot_list_append PySem.F.type_list_append mt_append (pe_fld (pv 0) rfl) (pa_cons (pv 1) pa_nil)))
      (pss_cons (ps_expr (pe_bm PySem.F.plainAttrs_list PySem.F.slot_list_append PySem.F.type_list_append mt_append (pe_fld (pv 0) rfl) (pa_cons (pv 2) pa_nil)))
      (pss_cons (ps_expr (pe_bm PySem.F.plainAttrs_list PySem.F.slot_list_append PySem.F.type_list_append mt_append (pe_fld (pv 0) rfl) (pa_cons (pe_lst pa_nil) pa_nil)))
      (pss_cons (ps_expr (pe_bm PySem.F.plainAttrs_list PySem.F.slot_list_append PySem.F.type_list_append mt_append (pe_fld (pv 0) rfl) (pa_cons (pv 3) pa_nil)))
      (pss_cons (ps_set (i := 5) nd rfl (Or.inl rfl) (pv 3))
      (pss_cons (ps_if (pt_cmpR op_eq (pe_ix ix_tup (pv 1) pe_int (fun _ _ => rfl)) pe_str (nomark _))
      (pss_one (ps_set (i := 5) nd rfl (Or.inl rfl) (pv 4)))
      pss_nil)
      (pss_cons (ps_for PassesOwn.never rfl (pi_tup (pe_call G_parts_of h_parts_of rfl T.d_parts_of.m T.d_parts_of.kp T.d_parts_of.b .nil pass0 (pa_cons (pv 1) pa_nil))) (pg_name (i := 6) nd rfl (Or.inl rfl))
      (pss_one (ps_expr (pe_bm PySem.F.plainAttrs_list PySem.F.slot_list_append PySem.F.type_list_append mt_append (pe_ix ix_list (pe_fld (pv 0) rfl) (pv 4) (fun _ _ => rfl)) (pa_cons (pe_meth (pv 0) T.Shape.cl T.d_Shape_add.me G_Shape_add h_Shape_add T.d_Shape_add.b .nil pass0 (pa_cons (pv 6) (pa_cons (pv 4) (pa_cons (pv 5) pa_nil)))) pa_nil)))))
      (pss_one (ps_ret (pv 4))))))))))), ?_⟩
    -- at = len(self.nodes)
    refine ⟨_, rfl, p, _, dx, _, _, rfl, ho.ob, T.Shape.cl, T.Shape.n_nodes, ho.nodes, n, _, rfl, .inl (SqL.of hb.hn), ?_⟩
    -- self.nodes.append(node)
    refine ⟨_, rfl, p, _, dx, _, _, rfl, ho.ob, T.Shape.cl, T.Shape.n_nodes, ho.nodes, .inl ⟨rfl, _, SqL.of hb.hn⟩, _, rfl, n, _, _, rfl, rfl, hb.hn, szl (by rw [List.length_map]; omega), ?_⟩
    have np' : p ∉ [n, a, c, d] := ho.ne hb
    obtain ⟨pn, pa, pc, pd⟩ : p ≠ n ∧ p ≠ a ∧ p ≠ c ∧ p ≠ d := by
      simpa only [List.mem_cons, List.not_mem_nil, or_false, not_or] using np'
    have b1 : ButS [n, a, c, d] H (upd H n (.lst (rs.map Rec.v ++ [t.v]))) := ButS.set _ (by simp)
    have n1 : upd H n (.lst (rs.map Rec.v ++ [t.v])) n = some (.lst (rs.map Rec.v ++ [t.v])) := upd_same
    have a1 : upd H n (.lst (rs.map Rec.v ++ [t.v])) a = some (.lst (rs.map fun r => V.int r.above)) := by rw [upd_ne na.symm]; exact hb.ha
    have c1 : upd H n (.lst (rs.map Rec.v ++ [t.v])) c = some (.lst (ch.map V.ref)) := by rw [upd_ne nc.symm]; exact hb.hc
    have d1 : upd H n (.lst (rs.map Rec.v ++ [t.v])) d = some (.lst (rs.map fun r => V.int r.code)) := by rw [upd_ne nD.symm]; exact hb.hd
    generalize upd H n (.lst (rs.map Rec.v ++ [t.v])) = H1 at b1 n1 a1 c1 d1 ⊢
    -- self.above.append(above)
    refine ⟨_, rfl, p, _, dx, _, _, rfl, b1 _ _ ho.ob np', T.Shape.cl, T.Shape.n_above, ho.above, .inl ⟨rfl, _, SqL.of a1⟩, _, rfl, a, _, _, rfl, rfl, a1, szl (by rw [List.length_map]; omega), ?_⟩
    have b2 : ButS [n, a, c, d] H (upd H1 a (.lst ((rs.map fun r => V.int r.above) ++ [V.int above]))) := b1.trans (ButS.set _ (by simp))
    have n2 : upd H1 a (.lst ((rs.map fun r => V.int r.above) ++ [V.int above])) n = some (.lst (rs.map Rec.v ++ [t.v])) := by rw [upd_ne na]; exact n1
    have a2 : upd H1 a (.lst ((rs.map fun r => V.int r.above) ++ [V.int above])) a = some (.lst ((rs.map fun r => V.int r.above) ++ [V.int above])) := upd_same
    have c2 : upd H1 a (.lst ((rs.map fun r => V.int r.above) ++ [V.int above])) c = some (.lst (ch.map V.ref)) := by rw [upd_ne ac.symm]; exact c1
    have d2 : upd H1 a (.lst ((rs.map fun r => V.int r.above) ++ [V.int above])) d = some (.lst (rs.map fun r => V.int r.code)) := by rw [upd_ne ad.symm]; exact d1
    generalize upd H1 a (.lst ((rs.map fun r => V.int r.above) ++ [V.int above])) = H2 at b2 n2 a2 c2 d2 ⊢
    -- self.children.append([])
    refine ⟨_, rfl, p, _, dx, _, _, rfl, b2 _ _ ho.ob np', T.Shape.cl, T.Shape.n_children, ho.children, .inl ⟨rfl, _, SqL.of c2⟩, (by show 0 ≤ sizeLine; decide), fun x nx => ?_⟩
    have xc : c ≠ x := ne_of_none c2 nx
    have xn : n ≠ x := ne_of_none n2 nx
    have xa : a ≠ x := ne_of_none a2 nx
    have xd : d ≠ x := ne_of_none d2 nx
    have hx0 : H x = none := by
      cases e : H x with
      | none => rfl
      | some o =>
        have z := b2 _ _ e (by simp only [List.mem_cons, List.not_mem_nil, or_false, not_or]; exact ⟨xn.symm, xa.symm, xc.symm, xd.symm⟩)
        rw [nx] at z
        cases z
    refine ⟨c, _, _, rfl, rfl, (by rw [upd_ne xc]; exact c2), szl (by rw [List.length_map, hb.len]; omega), ?_⟩
    have b3 : ButS [n, a, c, d] H (upd (upd H2 x (.lst [])) c (.lst (ch.map V.ref ++ [V.ref x]))) := (b2.trans (ButS.same (same_new nx _))).trans (ButS.set _ (by simp))
    have n3 : upd (upd H2 x (.lst [])) c (.lst (ch.map V.ref ++ [V.ref x])) n = some (.lst (rs.map Rec.v ++ [t.v])) := by rw [upd_ne nc, upd_ne xn]; exact n2
    have a3 : upd (upd H2 x (.lst [])) c (.lst (ch.map V.ref ++ [V.ref x])) a = some (.lst ((rs.map fun r => V.int r.above) ++ [V.int above])) := by rw [upd_ne ac, upd_ne xa]; exact a2
    have c3 : upd (upd H2 x (.lst [])) c (.lst (ch.map V.ref ++ [V.ref x])) c = some (.lst (ch.map V.ref ++ [V.ref x])) := upd_same
    have d3 : upd (upd H2 x (.lst [])) c (.lst (ch.map V.ref ++ [V.ref x])) d = some (.lst (rs.map fun r => V.int r.code)) := by rw [upd_ne cd.symm, upd_ne xd]; exact d2
    have x3 : upd (upd H2 x (.lst [])) c (.lst (ch.map V.ref ++ [V.ref x])) x = some (.lst []) := by rw [upd_ne xc.symm, upd_same]
    generalize upd (upd H2 x (.lst [])) c (.lst (ch.map V.ref ++ [V.ref x])) = H3 at b3 n3 a3 c3 d3 x3 ⊢
    -- self.code.append(code)
    refine ⟨_, rfl, p, _, dx, _, _, rfl, b3 _ _ ho.ob np', T.Shape.cl, T.Shape.n_code, ho.code, .inl ⟨rfl, _, SqL.of d3⟩, _, rfl, d, _, _, rfl, rfl, d3, szl (by rw [List.length_map]; omega), ?_⟩
    cases ht with
    | mk b w its pps mm ks hS hF hD hk =>
    have b4 : ButS [n, a, c, d] H (upd H3 d (.lst ((rs.map fun r => V.int r.code) ++ [V.int code]))) := b3.trans (ButS.set _ (by simp))
    have hb4 : ShB (upd H3 d (.lst ((rs.map fun r => V.int r.code) ++ [V.int code]))) n a c d (ch ++ [x]) (rs ++ [⟨.ref b, w, its, pps, mm, above, code, hid, []⟩]) := hb.more ⟨.ref b, w, its, pps, mm, above, code, hid, []⟩ rfl hx0 _
      (by rw [upd_ne nD, n3, List.map_append]; rfl) (by rw [upd_ne ad, a3, List.map_append]; rfl) (by rw [upd_ne cd, c3, List.map_append]; rfl) (by rw [upd_same, List.map_append]; rfl) (by rw [upd_ne xd.symm]; exact x3) b4
    generalize upd H3 d (.lst ((rs.map fun r => V.int r.code) ++ [V.int code])) = H4 at b4 hb4 ⊢
    have kp4 := b4.keep hb.lists
    have ho4 := ho.but hb b4
    have hsize : size (.mk (.ref b) w its pps mm ks) = 1 + sizeL ks := by simp only [size]
    have hkl := len_le_sizeL ks
    have hlm : (rs.map Rec.v).length = rs.length := List.length_map _
    -- inner = code; if node[0] == 'block': inner = at
    refine ⟨_, rfl, ?_⟩
    refine ⟨_, rfl, b, _, _, _, rfl, rfl, kp4.sqt hS, at0, rfl, _, rfl, ?_⟩
    have main : ∀ (atv inner : Int) (ih : List (List Str)), atv = (rs.length : Int) → inner = (if w = "block" then (rs.length : Int) else code) → ih = (if w = "block" then pps :: hid else hid) →
        tSeq (tFor (iTup K (tCall (spParts K) [] E0 (tCons (tVar 1) tNil))) (gName 6) (tDrop (tBM K "list" rAppend (tOp (rIxL K) (tFld K (tVar 0) "children") (tVar 4)) (tCons (tMeth T.Shape.C "add" (spAdd K T.Shape.C N) [] E0 (tVar 0) (tCons (tVar 6) (tCons (tVar 4) (tCons (tVar 5) tNil)))) tNil)))) (tRet (tVar 4)) { nx := fun _ H' => Q .non H', rt := Q } [some (.ref p), some (.ref b), some (.int above), some (.int code), some (.int atv), some (.int inner), none] H4 := by
      rintro atv inner ih rfl hin hih
      refine ⟨_, rfl, b, w, its, pps, mm, ks.map Nd.v, rfl, kp4.sqt hS, kp4.form hF, by rw [List.length_map]; omega, fun r H5 s5 h5 => ⟨r, rfl, ⟨_, h5⟩, ?_⟩⟩
      refine for_tup (K := K) (a := r) (xs := ks.map Nd.v) (fun i σ H' => ∃ (v6 : Option V) (ch2 : List Addr), σ = [some (.ref p), some (.ref b), some (.int above), some (.int code), some (.int rs.length), some (.int inner), v6] ∧
        ShB H' n a c d ((ch ++ [x]) ++ ch2) (rs ++ (⟨.ref b, w, its, pps, mm, above, code, hid, kidNums (rs.length + 1) (ks.take i)⟩ :: recsL (rs.length + 1) rs.length inner ih (ks.take i))) ∧ (∀ y, y ∈ ch2 → H y = none) ∧ ButS [n, a, c, d] H H' ∧ SqT K H' r (ks.map Nd.v)) ?_ ?_ ?_ ?_
      · exact ⟨none, [], rfl, by rw [List.append_nil]; exact hb4.same s5, fun y hy => by simp at hy, b4.trans (ButS.same s5), h5⟩
      · rintro i σ H' _ ⟨_, _, _, _, _, _, h⟩
        exact h
      · rintro i y σ H' hi ⟨v6, ch2, rfl, hb', hnew, b', hr'⟩
        obtain ⟨k, hki, rfl⟩ : ∃ k, ks[i]? = some k ∧ y = k.v := by
          rw [List.getElem?_map] at hi
          cases e : ks[i]? with
          | none => rw [e] at hi; cases hi
          | some k => rw [e] at hi; exact ⟨k, rfl, (Option.some.inj hi).symm⟩
        have hkm : k ∈ ks := List.mem_of_getElem? hki
        have htk : ks.take (i + 1) = ks.take i ++ [k] := by rw [List.take_add_one, hki]; rfl
        have hsum : sizeL (ks.take i) + size k ≤ sizeL ks := by
          have e1 : sizeL (ks.take (i + 1)) + sizeL (ks.drop (i + 1)) = sizeL ks := by rw [← sizeL_append, List.take_append_drop]
          rw [htk, sizeL_append] at e1
          simp only [sizeL] at e1
          omega
        have ho' := ho.but hb b'
        have kp' := b'.keep hb.lists
        have hlen' : (rs ++ (⟨.ref b, w, its, pps, mm, above, code, hid, kidNums (rs.length + 1) (ks.take i)⟩ :: recsL (rs.length + 1) rs.length inner ih (ks.take i))).length = rs.length + 1 + sizeL (ks.take i) := by
          rw [List.length_append, List.length_cons, recsL_len]
          omega
        have gx : ∀ ch3 : List Addr, ((ch ++ [x]) ++ ch3)[rs.length]? = some x := fun ch3 => by
          rw [List.append_assoc, ← hb.len, List.getElem?_append_right (Nat.le_refl _), Nat.sub_self]
          rfl
        have gr : ∀ (r0 : Rec) (l : List Rec), (rs ++ (r0 :: l))[rs.length]? = some r0 := fun r0 l => by
          rw [List.getElem?_append_right (Nat.le_refl _), Nat.sub_self]
          rfl
        have hx' := hb'.kid rs.length x _ (gx ch2) (gr _ _)
        refine ⟨_, rfl, p, _, dx, _, _, rfl, ho'.ob, T.Shape.cl, T.Shape.n_children, ho'.children, _, rfl, c, _, _, V.ref x, rfl, rfl, SqL.of hb'.hc, at_of (j := rs.length) rfl (by rw [List.getElem?_map, gx]; rfl), .inl ⟨rfl, _, SqL.of hx'⟩, ?_⟩
        refine ⟨_, rfl, p, dx, _, rfl, ho'.ob, ho'.no.1, _, rfl, _, rfl, _, rfl, p, dx, fs, tree, n, a, c, d, _, _, k, _, inner, ih, rfl, ho', hb', kp'.nd (hk k hkm), by omega, by rw [hlen']; omega, fun H6 ch3 hb6 new6 b6 => ?_⟩
        rw [hlen'] at hb6 ⊢
        have e6 : ((ch ++ [x]) ++ ch2) ++ ch3 = (ch ++ [x]) ++ (ch2 ++ ch3) := List.append_assoc _ _ _
        rw [e6] at hb6
        have hx6 := hb6.kid rs.length x ⟨.ref b, w, its, pps, mm, above, code, hid, kidNums (rs.length + 1) (ks.take i)⟩ (gx _) (by rw [List.append_assoc]; exact gr _ _)
        refine ⟨x, _, _, rfl, rfl, hx6, szl (by rw [List.length_map, kidNums_len, List.length_take]; omega), ?_⟩
        have hb7 := hb6.kidMore (gx _) (r := ⟨.ref b, w, its, pps, mm, above, code, hid, kidNums (rs.length + 1) (ks.take i)⟩) (by rw [List.append_assoc]; exact gr _ _) ((rs.length + 1 + sizeL (ks.take i) : Nat) : Int)
        refine ⟨_, ch2 ++ ch3, rfl, ?_, fun y hy => ?_, (b'.trans b6).mut hx0, ?_⟩
        · rw [htk, kidNums_append, recsL_append]
          have e7 : (rs ++ (⟨.ref b, w, its, pps, mm, above, code, hid, kidNums (rs.length + 1) (ks.take i)⟩ :: recsL (rs.length + 1) rs.length inner ih (ks.take i)) ++ recs (rs.length + 1 + sizeL (ks.take i)) rs.length inner ih k).set rs.length ⟨.ref b, w, its, pps, mm, above, code, hid, kidNums (rs.length + 1) (ks.take i) ++ [((rs.length + 1 + sizeL (ks.take i) : Nat) : Int)]⟩ =
              rs ++ (⟨.ref b, w, its, pps, mm, above, code, hid, kidNums (rs.length + 1) (ks.take i) ++ kidNums (rs.length + 1 + sizeL (ks.take i)) [k]⟩ :: (recsL (rs.length + 1) rs.length inner ih (ks.take i) ++ recsL (rs.length + 1 + sizeL (ks.take i)) rs.length inner ih [k])) := by
            rw [List.append_assoc, List.set_append_right _ _ (Nat.le_refl _), Nat.sub_self]
            simp only [List.cons_append, List.set_cons_zero, kidNums, recsL, List.append_nil]
          rw [← e7]
          exact hb7
        · rcases List.mem_append.mp hy with e | e
          · exact hnew y e
          · cases e0 : H y with
            | none => rfl
            | some o =>
              have hyout : y ∉ [n, a, c, d] := hb6.out y (by simp [e])
              have z := b' _ _ e0 hyout
              rw [new6 y e] at z
              cases z
        · have kx : Keep H6 (upd H6 x (.lst ((kidNums (rs.length + 1) (ks.take i)).map V.int ++ [V.int ((rs.length + 1 + sizeL (ks.take i) : Nat) : Int)]))) := (But.set (D := x) _).keep hx6
          exact kx.sqt ((b6.keep hb'.lists).sqt hr')
      · rintro σ H' ⟨v6, ch2, rfl, hb', hnew, b', hr'⟩
        refine ⟨_, rfl, q H' ([x] ++ ch2) ?_ (fun y hy => ?_) b'⟩
        · rw [List.length_map, List.take_length] at hb'
          rw [← List.append_assoc]
          simp only [recs]
          rw [← hin, ← hih]
          exact hb'
        · rcases List.mem_append.mp hy with e | e
          · rw [List.mem_singleton] at e
            subst e
            exact hx0
          · exact hnew y e
    have hlmI : (((rs.map Rec.v).length : Nat) : Int) = (rs.length : Int) := by rw [hlm]
    refine iteB (fun e => ?_) (fun e => ?_)
    · have ew : w = "block" := by
        have := of_decide_eq_true e
        exact V.str.inj this
      exact ⟨_, rfl, main _ _ _ hlmI (by rw [if_pos ew]; exact hlmI) (by rw [if_pos ew])⟩
    · have ew : ¬ w = "block" := fun z => by
        have := of_decide_eq_false e
        exact this (by rw [z])
      exact main _ _ _ hlmI (by rw [if_neg ew]) (by rw [if_neg ew])
theorem ok_adds (T : Tx K mg) : ∀ N : Nat, FnOk P w K mg base CX0 (N + 1) T.d_Shape_add.f T.d_Shape_add.fd ["self", "node", "above", "code"] (spAdd K T.Shape.C N)
  | 0 => fn_never fun vs H Q E h => by
    obtain ⟨_, _, _, _, _, _, _, _, _, _, t, _, _, _, _, _, _, _, h, _⟩ := h
    have := size_pos t
    omega
  | N + 1 => ok_add T (ok_adds T N)
end
end My

set_option Elab.async false
set_option linter.all false
set_option maxRecDepth 100000
set_option maxHeartbeats 4000000
namespace My
open PySem L2
/-- a record's node as it stands -/
structure RecAt (K : PySem.W.Frag) (H : Hp) (r : Rec) : Prop where
  at_ : ∃ (a : Addr) (ks : List V), r.v = .ref a ∧ SqT K H a (.str r.w :: r.its) ∧ Form K H r.w r.its r.ps r.m ks ∧ True
theorem RecAt.keep {K : PySem.W.Frag} {H H' : Hp} {r : Rec} (h : RecAt K H r) (k : Keep H H') : RecAt K H' r := by
  obtain ⟨a, ks, h1, h2, h3, h4⟩ := h.at_
  exact ⟨a, ks, h1, k.sqt h2, k.form h3, trivial⟩
theorem nd_recs {K : PySem.W.Frag} {H : Hp} {t : Nd} (h : NdAt K H t) : ∀ (n : Nat) (a c : Int) (hd : List (List Str)) (r : Rec), r ∈ recs n a c hd t → RecAt K H r := by
  induction h with
  | mk b w its ps m ks h1 h2 h3 h4 ih =>
    intro n a c hd r hr
    simp only [recs] at hr
    rcases List.mem_cons.mp hr with e | e
    · subst e
      exact ⟨b, _, rfl, h1, h2, h3⟩
    · have sub : ∀ (l : List Nd), (∀ k, k ∈ l → k ∈ ks) → ∀ (n : Nat) (a c : Int) (hd : List (List Str)), r ∈ recsL n a c hd l → RecAt K H r := by
        intro l
        induction l with
        | nil => intro _ n a c hd h; simp only [recsL] at h; simp at h
        | cons k l ih2 =>
          intro hm n a c hd h
          simp only [recsL] at h
          rcases List.mem_append.mp h with e | e
          · exact ih k (hm k (by simp)) _ _ _ _ r e
          · exact ih2 (fun k' hk' => hm k' (by simp [hk'])) _ _ _ _ e
      exact sub ks (fun _ h => h) _ _ _ _ e
theorem nds_recs {K : PySem.W.Frag} {H : Hp} : ∀ {ts : List Nd}, (∀ t, t ∈ ts → NdAt K H t) → ∀ (n : Nat) (a c : Int) (hd : List (List Str)) (r : Rec), r ∈ recsL n a c hd ts → RecAt K H r
  | [], _, n, a, c, hd, r, h => by simp only [recsL] at h; simp at h
  | t :: ts, ht, n, a, c, hd, r, h => by
    simp only [recsL] at h
    rcases List.mem_append.mp h with e | e
    · exact nd_recs (ht t (by simp)) _ _ _ _ r e
    · exact nds_recs (fun t' h' => ht t' (by simp [h'])) _ _ _ _ r e
/-- the code of a node is the one given, or a block ahead of it; what hides likewise -/
def Chain (b : Nat) (c : Int) (h : List (List Str)) (rs : List Rec) : Prop := ∀ (j : Nat) (r : Rec), rs[j]? = some r → (r.code = c ∧ r.hid = h) ∨ ∃ (i : Nat) (r' : Rec), r.code = ((b + i : Nat) : Int) ∧ i < j ∧ rs[i]? = some r' ∧ r'.w = "block" ∧ r.hid = r'.ps :: r'.hid
theorem Chain.append {b : Nat} {c : Int} {h : List (List Str)} {xs ys : List Rec} (hx : Chain b c h xs) (hy : Chain (b + xs.length) c h ys) : Chain b c h (xs ++ ys) := fun j r hj => by
  by_cases h : j < xs.length
  · rw [List.getElem?_append_left h] at hj
    rcases hx j r hj with e | ⟨i, r', e1, e2, e3, e4⟩
    · exact .inl e
    · exact .inr ⟨i, r', e1, e2, by rw [List.getElem?_append_left (by omega)]; exact e3, e4⟩
  · rw [List.getElem?_append_right (by omega)] at hj
    rcases hy _ r hj with e | ⟨i, r', e1, e2, e3, e4⟩
    · exact .inl e
    · refine .inr ⟨xs.length + i, r', by rw [e1]; congr 1; omega, by omega, ?_, e4⟩
      rw [List.getElem?_append_right (by omega), show xs.length + i - xs.length = i by omega]
      exact e3
mutual
theorem chain_recs : ∀ (t : Nd) (n : Nat) (a c : Int) (h : List (List Str)), Chain n c h (recs n a c h t)
  | .mk v w its ps m ks, n, a, c, h => by
    have ih := chain_recsL ks (n + 1) n (if w = "block" then (n : Int) else c) (if w = "block" then ps :: h else h)
    intro j r hj
    simp only [recs] at hj
    cases j with
    | zero =>
      have e := Option.some.inj hj
      subst e
      exact .inl ⟨rfl, rfl⟩
    | succ j =>
      rw [List.getElem?_cons_succ] at hj
      rcases ih j r hj with ⟨e, e'⟩ | ⟨i, r', e1, e2, e3, e4⟩
      · by_cases hw : w = "block"
        · rw [if_pos hw] at e e'
          refine .inr ⟨0, ⟨v, w, its, ps, m, a, c, h, kidNums (n + 1) ks⟩, by rw [e]; rfl, by omega, ?_, hw, e'⟩
          simp only [recs]
          rfl
        · rw [if_neg hw] at e e'
          exact .inl ⟨e, e'⟩
      · refine .inr ⟨i + 1, r', by rw [e1]; congr 1; omega, by omega, ?_, e4⟩
        simp only [recs]
        rw [List.getElem?_cons_succ]
        exact e3
theorem chain_recsL : ∀ (ts : List Nd) (n : Nat) (a c : Int) (h : List (List Str)), Chain n c h (recsL n a c h ts)
  | [], n, a, c, h => by
    intro j r hj
    simp only [recsL] at hj
    simp at hj
  | t :: ts, n, a, c, h => by
    simp only [recsL]
    refine Chain.append (chain_recs t n a c h) ?_
    rw [recs_len]
    exact chain_recsL ts (n + size t) a c h
end
/-- a code of rs: -1 or a block; what it and those around hide -/
def CodeOk (rs : List Rec) (c : Int) (h : List (List Str)) : Prop := (c = -1 ∧ h = []) ∨ ∃ (i : Nat) (r : Rec), c = (i : Int) ∧ rs[i]? = some r ∧ r.w = "block" ∧ h = r.ps :: r.hid
theorem Chain.code {rs : List Rec} (h : Chain 0 (-1) [] rs) {j : Nat} {r : Rec} (hj : rs[j]? = some r) : CodeOk rs r.code r.hid ∧ r.code < (j : Int) := by
  rcases h j r hj with ⟨e, e'⟩ | ⟨i, r', e1, e2, e3, e4, e5⟩
  · exact ⟨.inl ⟨e, e'⟩, by omega⟩
  · rw [Nat.zero_add] at e1
    exact ⟨.inr ⟨i, r', e1, e3, e4, e5⟩, by omega⟩
theorem block_its {K : PySem.W.Frag} {H : Hp} {w : Str} {its : List V} {ps : List Str} {m : Nat} {ks : List V} (f : Form K H w its ps m ks) (hw : w = "block") : ∃ (p a : Addr), its = [.ref p, .ref a] ∧ SqT K H p (ps.map V.str) ∧ SqT K H a ks := by
  cases f with
  | block p a ps xs _ h1 h2 => exact ⟨p, a, rfl, h1, h2⟩
  | one w h e => exact absurd hw (by revert h; unfold oneW; subst hw; decide +kernel)
  | leaf w h its => exact absurd hw (by revert h; unfold leafW; subst hw; decide +kernel)
  | _ => exact absurd hw (by decide +kernel)
theorem set_its {K : PySem.W.Frag} {H : Hp} {w : Str} {its : List V} {ps : List Str} {m : Nat} {ks : List V} (f : Form K H w its ps m ks) (hw : w = "set") : ∃ (x : Str) (e : V), its = [.str x, e] := by
  cases f with
  | set x e => exact ⟨x, e, rfl⟩
  | one w h e => exact absurd hw (by revert h; unfold oneW; subst hw; decide +kernel)
  | leaf w h its => exact absurd hw (by revert h; unfold leafW; subst hw; decide +kernel)
  | _ => exact absurd hw (by decide +kernel)
theorem try_its {K : PySem.W.Frag} {H : Hp} {w : Str} {its : List V} {ps : List Str} {m : Nat} {ks : List V} (f : Form K H w its ps m ks) (hw : w = "try") : ∃ (x : Str) (a b : Addr), its = [.ref a, .str x, .ref b] := by
  cases f with
  | tri x a b xs ys h1 h2 => exact ⟨x, a, b, rfl⟩
  | one w h e => exact absurd hw (by revert h; unfold oneW; subst hw; decide +kernel)
  | leaf w h its => exact absurd hw (by revert h; unfold leafW; subst hw; decide +kernel)
  | _ => exact absurd hw (by decide +kernel)
theorem flat_strs (ps : List Str) : (ps.map V.str).all flatV = true := by
  rw [List.all_eq_true]
  intro x hx
  obtain ⟨y, _, rfl⟩ := List.mem_map.mp hx
  rfl
/-- whether a word is among some -/
def among (x : Str) (ps : List Str) : Bool := inV (.str x) (ps.map V.str)
/-- whether a word is a parameter of a block around -/
def hidden (x : Str) (h : List (List Str)) : Bool := h.any fun ps => among x ps
/-- what is read of a Shape that stands -/
structure ShR (K : PySem.W.Frag) (C : Addr) (H : Hp) (p dx : Addr) (fs : List (Str × V)) (tree : V) (n a c d : Addr) (ch : List Addr) (rs : List Rec) : Prop where
  o : ShO C H p dx fs tree n a c d
  b : ShB H n a c d ch rs
  r : ∀ r, r ∈ rs → RecAt K H r
  c : Chain 0 (-1) [] rs
def spIsPar (K : PySem.W.Frag) (C : Addr) : Sp := fun vs H Q _ => ∃ (p dx : Addr) (fs : List (Str × V)) (tree : V) (n a c d : Addr) (ch : List Addr) (rs : List Rec) (x : Str) (code : Int) (hd : List (List Str)), vs = [.ref p, .str x, .int code] ∧
  ShR K C H p dx fs tree n a c d ch rs ∧ CodeOk rs code hd ∧ Q (.bl (hidden x hd)) H
section
variable {P : Program} {w : World} {K : PySem.W.Frag} {mg : Str → Option Value} {base : Heap}
theorem ok_is_parameter (T : Tx K mg) : FnOk P w K mg base CX0 1 T.d_Shape_is_parameter.f T.d_Shape_is_parameter.fd ["self", "word", "code"] (spIsPar K T.Shape.C) := by
  have nd := sc_Shape_is_parameter.nd
  refine T.d_Shape_is_parameter.fn.ok sc_Shape_is_parameter (fun vs H Q E h => ?_) (fun cdv A outer s H vs Q E hr h => ?_)
  · obtain ⟨p, dx, fs, tree, n, a, c, d, ch, rs, x, code, hd, rfl, _⟩ := h
    rfl
  · obtain ⟨p, dx, fs, tree, n, a, c, d, ch, rs, x, code, hd, rfl, hR, hc, q⟩ := h
    refine ⟨_, (pss_cons (ps_while PassesOwn.never (pt_cmpR op_ge (pv 2) pe_int (nomark _))
      (pss_cons (ps_if (pt_cmpR op_in_seq (pv 1) (pe_ix ix_tup (pe_ix ix_list (pe_fld (pv 0) rfl) (pv 2) (fun _ _ => rfl)) pe_int (fun _ _ => rfl)) rfl)
      (pss_one (ps_ret pe_bl))
      pss_nil)
      (pss_one (ps_set (i := 2) nd rfl (Or.inl rfl) (pe_ix ix_list (pe_fld (pv 0) rfl) (pv 2) (fun _ _ => rfl))))))
      (pss_one (ps_ret pe_bl))), ?_⟩
    refine ⟨fun m σ H' => ∃ (cd : Int) (hh : List (List Str)), m = (cd + 1).toNat ∧ σ = [some (.ref p), some (.str x), some (.int cd)] ∧ H' = H ∧ CodeOk rs cd hh ∧ hidden x hh = hidden x hd, ⟨_, code, hd, rfl, rfl, rfl, hc, rfl⟩, ?_⟩
    rintro m σ H' ⟨cd, hh, rfl, rfl, rfl, hcd, he⟩
    refine ⟨_, rfl, _, _, rfl, rfl, _, rfl, iteB (fun e => ?_) (fun e => ?_)⟩
    · have e' := of_decide_eq_true e
      rcases hcd with ⟨z, _⟩ | ⟨i, r, z, hi, hw, rfl⟩
      · omega
      · subst z
        obtain ⟨⟨b, ks, hv, hS, hF, hD⟩⟩ := hR.r r (List.mem_of_getElem? hi)
        obtain ⟨pp, pa, hits, hps, _⟩ := block_its hF hw
        rw [hits] at hS
        have hat : atI (rs.map Rec.v) (i : Int) = some (.ref b) := at_of (j := i) rfl (by rw [List.getElem?_map, hi, ← hv]; rfl)
        obtain ⟨hc1, hc2⟩ := hR.c.code hi
        refine ⟨fun σ' H'' => ∃ (cd' : Int) (hh : List (List Str)), cd' < (i : Int) ∧ σ' = [some (.ref p), some (.str x), some (.int cd')] ∧ H'' = H' ∧ CodeOk rs cd' hh ∧ hidden x hh = hidden x hd, fun σ' H'' hh => ?_, ?_⟩
        · obtain ⟨cd', hh', l, rfl, rfl, hok, he'⟩ := hh
          exact ⟨(cd' + 1).toNat, by omega, cd', hh', rfl, rfl, rfl, hok, he'⟩
        refine ⟨_, rfl, _, rfl, p, _, dx, _, _, rfl, hR.o.ob, T.Shape.cl, T.Shape.n_nodes, hR.o.nodes, _, rfl, n, _, _, _, rfl, rfl, SqL.of hR.b.hn, hat, b, _, _, _, rfl, rfl, hS, at1, pp, _, rfl, .inr hps, rfl, flat_strs r.ps, _, rfl, iteB (fun e2 => ?_) (fun e2 => ?_)⟩
        · have e3 : among x r.ps = true := e2
          have e4 : hidden x hd = true := by
            rw [← he]
            show (among x r.ps || hidden x r.hid) = true
            rw [e3]
            rfl
          rw [e4] at q
          exact q
        · have e3 : among x r.ps = false := e2
          have e4 : hidden x r.hid = hidden x hd := by
            rw [← he]
            show hidden x r.hid = (among x r.ps || hidden x r.hid)
            rw [e3]
            rfl
          refine ⟨_, rfl, p, _, dx, _, _, rfl, hR.o.ob, T.Shape.cl, T.Shape.n_code, hR.o.code, _, rfl, d, _, _, V.int r.code, rfl, rfl, SqL.of hR.b.hd, at_of (j := i) rfl (by rw [List.getElem?_map, hi]; rfl), ?_⟩
          exact ⟨r.code, r.hid, hc2, rfl, rfl, hc1, e4⟩
    · have e' := of_decide_eq_false e
      rcases hcd with ⟨z, rfl⟩ | ⟨i, r, z, _⟩
      · have e4 : hidden x hd = false := by rw [← he]; rfl
        rw [e4] at q
        exact q
      · omega
end
end My

set_option Elab.async false
set_option linter.all false
set_option maxRecDepth 100000
set_option maxHeartbeats 4000000
namespace My
open PySem L2
theorem ShR.same {K : PySem.W.Frag} {C : Addr} {H H' : Hp} {p dx : Addr} {fs : List (Str × V)} {tree : V} {n a c d : Addr} {ch : List Addr} {rs : List Rec} (h : ShR K C H p dx fs tree n a c d ch rs) (s : Same H H') : ShR K C H' p dx fs tree n a c d ch rs :=
  ⟨⟨s _ _ h.o.ob, h.o.tree, h.o.nodes, h.o.above, h.o.children, h.o.code, h.o.no⟩, h.b.same s, fun r hr => (h.r r hr).keep (Keep.same s), h.c⟩
/-- one node more -/
def nameStep (acc : List Str) (w : Str) (its : List V) (h : List (List Str)) : List Str := match nameOf w its with
  | none => acc
  | some x => if (!among x acc && !hidden x h) = true then acc ++ [x] else acc
def namesOf (acc : List Str) (rs : List Rec) : List Str := rs.foldl (fun acc r => nameStep acc r.w r.its r.hid) acc
theorem nameStep_len (acc : List Str) (w : Str) (its : List V) (h : List (List Str)) : (nameStep acc w its h).length ≤ acc.length + 1 := by
  unfold nameStep
  split
  · omega
  · split
    · rw [List.length_append, List.length_singleton]; omega
    · omega
def spNames (K : PySem.W.Frag) (C : Addr) : Sp := fun vs H Q _ => ∃ (p dx : Addr) (fs : List (Str × V)) (ta pa ba : Addr) (msg : Str) (n a c d : Addr) (ch : List Addr) (rs : List Rec) (ps : List Str), vs = [.ref p] ∧
  ShR K C H p dx fs (.ref ta) n a c d ch rs ∧ SqT K H ta [.str "method", .str msg, .ref pa, .ref ba] ∧ SqT K H pa (ps.map V.str) ∧ ps.length ≤ 10 ∧ rs.length ≤ 1000 ∧
  ∀ (L : Addr) (H' : Hp), Same H H' → H L = none → H' L = some (.lst ((namesOf ps rs).map V.str)) → Q (.ref L) H'
section
variable {P : Program} {w : World} {K : PySem.W.Frag} {mg : Str → Option Value} {base : Heap}
theorem ok_all_names (T : Tx K mg) : FnOk P w K mg base CX0 2 T.d_Shape_all_names.f T.d_Shape_all_names.fd ["self"] (spNames K T.Shape.C) := by
  have nd := sc_Shape_all_names.nd
  have G_Shape_is_parameter := ok_is_parameter (P := P) (w := w) (base := base) T
  refine T.d_Shape_all_names.fn.ok sc_Shape_all_names (fun vs H Q E h => ?_) (fun cdv A outer s H vs Q E hr h => ?_)
  · obtain ⟨p, dx, fs, ta, pa, ba, msg, n, a, c, d, ch, rs, ps, rfl, _⟩ := h
    rfl
  · obtain ⟨p, dx, fs, ta, pa, ba, msg, n, a, c, d, ch, rs, ps, rfl, hR, hT, hP, hpl, hrl, q⟩ := h
    have h_Shape_is_parameter := hr
    refine ⟨_, (pss_cons (ps_set (i := 1) nd rfl (Or.inl rfl) (pe_callTy call_list_of (by rfl) T.z_list (by decide +kernel) (pa_cons (pe_ix ix_tup (pe_fld (pv 0) rfl) (pe_glob (v := .int 2) rfl T.c_PARAMETERS ⟨_, rfl⟩) (fun _ _ => rfl)) pa_nil)))
      (pss_cons (ps_for PassesOwn.never rfl (pi_enum (by rfl) T.z_enumerate (pa_cons (pe_fld (pv 0) rfl) pa_nil)) (pg_tup rfl (pgs_cons (pg_name (i := 2) nd rfl (Or.inl rfl)) (pgs_cons (pg_name (i := 3) nd rfl (Or.inl rfl)) pgs_nil)))
      (pss_cons (ps_set (i := 4) nd rfl (Or.inl rfl) pe_non)
      (pss_cons (ps_if (pt_cmpR op_eq (pe_ix ix_tup (pv 3) pe_int (fun _ _ => rfl)) pe_str (nomark _))
      (pss_one (ps_set (i := 4) nd rfl (Or.inl rfl) (pe_ix ix_tup (pv 3) pe_int (fun _ _ => rfl))))
      (pss_one (ps_if (pt_cmpR op_eq (pe_ix ix_tup (pv 3) pe_int (fun _ _ => rfl)) pe_str (nomark _))
      (pss_one (ps_set (i := 4) nd rfl (Or.inl rfl) (pe_ix ix_tup (pv 3) pe_int (fun _ _ => rfl))))
      pss_nil)))
      (pss_one (ps_if (PW.pt (pw_and (pt_cmpR op_notN (pv 4) pe_non (nomark _)) (pw_and (pt_cmpR op_notIn_seq (pv 4) (pv 1) rfl) (pw_and1 (pt_not (pt_val (pe_meth (pv 0) T.Shape.cl T.d_Shape_is_parameter.me G_Shape_is_parameter h_Shape_is_parameter T.d_Shape_is_parameter.b .nil pass0 (pa_cons (pv 4) (pa_cons (pe_ix ix_list (pe_fld (pv 0) rfl) (pv 2) (fun _ _ => rfl)) pa_nil)))))))))
      (pss_one (ps_expr (pe_bm PySem.F.plainAttrs_list PySem.F.slot_list_append PySem.F.type_list_append mt_append (pv 1) (pa_cons (pv 4) pa_nil))))
      pss_nil)))))
      (pss_one (ps_ret (pv 1))))), ?_⟩
    refine ⟨_, rfl, p, _, dx, _, _, rfl, hR.o.ob, T.Shape.cl, T.Shape.n_tree, hR.o.tree, ta, _, _, _, rfl, rfl, hT, at2, pa, _, rfl, .inr hP, fun L nL => ?_⟩
    have s1 := same_new nL (HO.lst (ps.map V.str))
    have l1 : upd H L (.lst (ps.map V.str)) L = some (.lst (ps.map V.str)) := upd_same
    generalize upd H L (.lst (ps.map V.str)) = H1 at s1 l1 ⊢
    have hR1 := hR.same s1
    refine ⟨_, rfl, p, _, dx, _, _, rfl, hR1.o.ob, T.Shape.cl, T.Shape.n_nodes, hR1.o.nodes, n, _, rfl, SqL.of hR1.b.hn, ?_⟩
    refine for_it (walk_enum (K := K) (a := n) (xs := rs.map Rec.v)) (fun i σ H' => ∃ (v2 v3 v4 : Option V), σ = [some (.ref p), some (.ref L), v2, v3, v4] ∧ Same H H' ∧ H' L = some (.lst ((namesOf ps (rs.take i)).map V.str)) ∧ (namesOf ps (rs.take i)).length ≤ 10 + i) ⟨none, none, none, rfl, s1, l1, by show ps.length ≤ 10 + 0; omega⟩ ?_ ?_ ?_
    · rintro i σ H' _ ⟨v2, v3, v4, rfl, s2, _⟩
      exact SqL.of (hR.same s2).b.hn
    · rintro i y σ H2 H3 hi ⟨v2, v3, v4, rfl, s2, l2, hnl⟩ ⟨U, y1, y2, rfl, nU, rfl, e1, e2⟩
      obtain ⟨names, hnames⟩ : ∃ names, names = namesOf ps (rs.take i) := ⟨_, rfl⟩
      rw [← hnames] at l2 hnl
      rw [List.length_map] at hi
      have e1' := Option.some.inj e1
      subst e1'
      obtain ⟨r, hri, rfl⟩ : ∃ r, rs[i]? = some r ∧ r.v = y2 := by
        replace e2 : (rs.map Rec.v)[i]? = some y2 := e2
        rw [List.getElem?_map] at e2
        cases e : rs[i]? with
        | none => rw [e] at e2; cases e2
        | some r => rw [e] at e2; exact ⟨r, rfl, Option.some.inj e2⟩
      have s3 := s2.trans (same_new nU (HO.tup [V.int (i : Nat), r.v]))
      have l3 : upd H2 U (.tup [V.int (i : Nat), r.v]) L = some (.lst (names.map V.str)) := by rw [upd_ne (ne_of_none l2 nU)]; exact l2
      have u3 : SqT K (upd H2 U (.tup [V.int (i : Nat), r.v])) U [V.int (i : Nat), r.v] := SqT.of upd_same
      generalize upd H2 U (.tup [V.int (i : Nat), r.v]) = H3 at s3 l3 u3 ⊢
      have hR3 := hR.same s3
      obtain ⟨⟨b, ks, hv, hS, hF, hD⟩⟩ := hR3.r r (List.mem_of_getElem? hri)
      rw [hv] at u3
      have htk : namesOf ps (rs.take (i + 1)) = nameStep names r.w r.its r.hid := by
        have z : rs.take (i + 1) = rs.take i ++ [r] := by rw [List.take_add_one, hri]; rfl
        rw [z, hnames]
        unfold namesOf
        rw [List.foldl_append]
        rfl
      have hlen := nameStep_len names r.w r.its r.hid
      rw [htk]
      have step : ∀ (D : Ends) (v : V), (∀ (v2 v3 v4 : Option V) (H' : Hp), Same H H' → H' L = some (.lst ((nameStep names r.w r.its r.hid).map V.str)) → D.nx [some (.ref p), some (.ref L), v2, v3, v4] H') → (v = .non ∧ nameOf r.w r.its = none ∨ ∃ x, v = .str x ∧ nameOf r.w r.its = some x) →
          tIfS (tAnd (tTest (tOp (fun x y H Q => y = V.non ∧ Q (V.bl !decide (x = V.non)) H) (tVar 4) (tC .non))) (tAnd (tTest (tOp (rIn K true) (tVar 4) (tVar 1))) (tNot (tB (tMeth T.Shape.C "is_parameter" (spIsPar K T.Shape.C) [] E0 (tVar 0) (tCons (tVar 4) (tCons (tOp (rIxL K) (tFld K (tVar 0) "code") (tVar 2)) tNil))))))) (tDrop (tBM K "list" rAppend (tVar 1) (tCons (tVar 4) tNil))) tNext
            D [some (.ref p), some (.ref L), some (.int (i : Nat)), some (.ref b), some v] H3 := by
        intro D v hD hv'
        rcases hv' with ⟨rfl, en⟩ | ⟨x, rfl, en⟩
        · have es : nameStep names r.w r.its r.hid = names := by unfold nameStep; rw [en]
          rw [es] at hD
          refine ⟨_, rfl, rfl, _, rfl, iteN rfl (iteN rfl ?_)⟩
          exact hD _ _ _ _ s3 l3
        · have es : nameStep names r.w r.its r.hid = if (!among x names && !hidden x r.hid) = true then names ++ [x] else names := by unfold nameStep; rw [en]
          rw [es] at hD
          refine ⟨_, rfl, rfl, _, rfl, iteY rfl ?_⟩
          refine ⟨_, rfl, _, rfl, L, _, rfl, .inl (SqL.of l3), rfl, flat_strs names, _, rfl, iteB (fun e => ?_) (fun e => iteN rfl ?_)⟩
          · have e' : (!among x names) = true := e
            obtain ⟨hc1, hc2⟩ := hR3.c.code hri
            refine ⟨_, rfl, p, dx, _, rfl, hR3.o.ob, hR3.o.no.2.1, _, rfl, _, rfl, p, _, dx, _, _, rfl, hR3.o.ob, T.Shape.cl, T.Shape.n_code, hR3.o.code, _, rfl, d, _, _, V.int r.code, rfl, rfl, SqL.of hR3.b.hd, at_of (j := i) rfl (by rw [List.getElem?_map, hri]; rfl), p, dx, fs, _, n, a, c, d, ch, rs, x, r.code, r.hid, rfl, hR3, hc1, _, rfl, ?_⟩
            refine iteB (fun e2 => ?_) (fun e2 => ?_)
            · refine ⟨_, rfl, .inl ⟨rfl, _, SqL.of l3⟩, _, rfl, L, _, _, rfl, rfl, l3, szl (by rw [List.length_map]; omega), ?_⟩
              rw [if_pos (by rw [e', e2]; rfl)] at hD
              exact hD _ _ _ _ (same_mut s3 nL) (by rw [upd_same, List.map_append]; rfl)
            · rw [if_neg (by rw [e', e2]; decide)] at hD
              exact hD _ _ _ _ s3 l3
          · have e' : (!among x names) = false := e
            rw [if_neg (by rw [e', Bool.false_and]; decide)] at hD
            exact hD _ _ _ _ s3 l3
      have fin : ∀ (v2 v3 v4 : Option V) (H' : Hp), Same H H' → H' L = some (.lst ((nameStep names r.w r.its r.hid).map V.str)) → ∃ (w2 w3 w4 : Option V), [some (V.ref p), some (.ref L), v2, v3, v4] = [some (.ref p), some (.ref L), w2, w3, w4] ∧ Same H H' ∧ H' L = some (.lst ((nameStep names r.w r.its r.hid).map V.str)) ∧ (nameStep names r.w r.its r.hid).length ≤ 10 + (i + 1) :=
        fun v2 v3 v4 H' h1 h2 => ⟨v2, v3, v4, rfl, h1, h2, by omega⟩
      refine ⟨U, _, rfl, u3, rfl, _, _, rfl, _, _, rfl, rfl, ?_⟩
      refine ⟨_, rfl, b, _, _, _, rfl, rfl, hS, at0, rfl, _, rfl, iteB (fun e => ?_) (fun e => ?_)⟩
      · have ew : r.w = "set" := V.str.inj (of_decide_eq_true e)
        obtain ⟨x, e', hits⟩ := set_its hF ew
        rw [hits] at hS
        exact ⟨_, rfl, b, _, _, _, rfl, rfl, hS, at1, step _ _ fin (.inr ⟨x, rfl, by rw [ew, hits]; exact nameOf_set x e'⟩)⟩
      · have ew : ¬ r.w = "set" := fun z => (of_decide_eq_false e) (by rw [z])
        refine ⟨_, rfl, b, _, _, _, rfl, rfl, hS, at0, rfl, _, rfl, iteB (fun e => ?_) (fun e => ?_)⟩
        · have ew2 : r.w = "try" := V.str.inj (of_decide_eq_true e)
          obtain ⟨x, a', b', hits⟩ := try_its hF ew2
          rw [hits] at hS
          exact ⟨_, rfl, b, _, _, _, rfl, rfl, hS, at2, step _ _ fin (.inr ⟨x, rfl, by rw [ew2, hits]; exact nameOf_try x a' b'⟩)⟩
        · have ew2 : ¬ r.w = "try" := fun z => (of_decide_eq_false e) (by rw [z])
          exact step _ _ fin (.inl ⟨rfl, nameOf_not ew ew2⟩)
    · rintro σ H2 ⟨v2, v3, v4, rfl, s2, l2, hnl⟩
      rw [List.length_map, List.take_length] at l2
      exact ⟨_, rfl, q L H2 s2 nL l2⟩
end
end My

set_option Elab.async false
set_option linter.all false
set_option maxRecDepth 100000
set_option maxHeartbeats 4000000
namespace My
open PySem L2
/-- the numbers of the blocks, from k on -/
def blks (k : Nat) : List Rec → List Int
  | [] => []
  | r :: rs => if r.w = "block" then (k : Int) :: blks (k + 1) rs else blks (k + 1) rs
theorem blks_snoc : ∀ (rs : List Rec) (k : Nat) (r : Rec), blks k (rs ++ [r]) = blks k rs ++ (if r.w = "block" then [((k + rs.length : Nat) : Int)] else [])
  | [], k, r => by
    simp only [List.nil_append, blks, List.length_nil, Nat.add_zero]
  | x :: rs, k, r => by
    simp only [List.cons_append, blks, List.length_cons]
    rw [blks_snoc rs (k + 1) r]
    have e : k + 1 + rs.length = k + (rs.length + 1) := by omega
    rw [e]
    split <;> simp
theorem blks_le : ∀ (rs : List Rec) (k : Nat), (blks k rs).length ≤ rs.length
  | [], k => Nat.le_refl _
  | r :: rs, k => by
    have := blks_le rs (k + 1)
    simp only [blks, List.length_cons]
    split
    · simp only [List.length_cons]; omega
    · omega
theorem blks_mem : ∀ (rs : List Rec) (k : Nat) (z : Int), z ∈ blks k rs → ∃ (i : Nat) (r : Rec), z = ((k + i : Nat) : Int) ∧ rs[i]? = some r ∧ r.w = "block"
  | [], k, z, h => by simp [blks] at h
  | r :: rs, k, z, h => by
    simp only [blks] at h
    split at h
    · rename_i hw
      rcases List.mem_cons.mp h with e | e
      · exact ⟨0, r, e, rfl, hw⟩
      · obtain ⟨i, r', e1, e2, e3⟩ := blks_mem rs (k + 1) z e
        exact ⟨i + 1, r', by rw [e1]; congr 1; omega, e2, e3⟩
    · obtain ⟨i, r', e1, e2, e3⟩ := blks_mem rs (k + 1) z h
      exact ⟨i + 1, r', by rw [e1]; congr 1; omega, e2, e3⟩
def shF (t : V) (n a c d : Addr) : List (Str × V) := [("tree", t), ("nodes", .ref n), ("above", .ref a), ("children", .ref c), ("code", .ref d)]
def shF1 (t : V) (n a c d e : Addr) : List (Str × V) := [("tree", t), ("nodes", .ref n), ("above", .ref a), ("children", .ref c), ("code", .ref d), ("codes", .ref e)]
def shF2 (t : V) (n a c d e f : Addr) : List (Str × V) := [("tree", t), ("nodes", .ref n), ("above", .ref a), ("children", .ref c), ("code", .ref d), ("codes", .ref e), ("names", .ref f)]
theorem put1 (t n : V) : putF "nodes" n [("tree", t)] = ([("tree", t), ("nodes", n)] : List (Str × V)) := by rfl
theorem put2 (t n a : V) : putF "above" a [("tree", t), ("nodes", n)] = ([("tree", t), ("nodes", n), ("above", a)] : List (Str × V)) := by rfl
theorem put3 (t n a c : V) : putF "children" c [("tree", t), ("nodes", n), ("above", a)] = ([("tree", t), ("nodes", n), ("above", a), ("children", c)] : List (Str × V)) := by rfl
theorem put4 (t : V) (n a c d : Addr) : putF "code" (.ref d) [("tree", t), ("nodes", .ref n), ("above", .ref a), ("children", .ref c)] = shF t n a c d := by rfl
theorem put5 (t : V) (n a c d e : Addr) : putF "codes" (.ref e) (shF t n a c d) = shF1 t n a c d e := by rfl
theorem put6 (t : V) (n a c d e f : Addr) : putF "names" (.ref f) (shF1 t n a c d e) = shF2 t n a c d e f := by rfl
theorem no0 (t : V) (n a c d : Addr) : noMeth (shF t n a c d) := ⟨rfl, rfl, rfl, rfl, rfl, rfl, rfl⟩
theorem no1 (t : V) (n a c d e : Addr) : noMeth (shF1 t n a c d e) := ⟨rfl, rfl, rfl, rfl, rfl, rfl, rfl⟩
theorem no2 (t : V) (n a c d e f : Addr) : noMeth (shF2 t n a c d e f) := ⟨rfl, rfl, rfl, rfl, rfl, rfl, rfl⟩
/-- a Shape that is made: all that it holds -/
structure ShAt (K : PySem.W.Frag) (C : Addr) (H : Hp) (p dx : Addr) (ta : Addr) (n a c d e f : Addr) (ch : List Addr) (rs : List Rec) (ps : List Str) : Prop where
  R : ShR K C H p dx (shF2 (.ref ta) n a c d e f) (.ref ta) n a c d ch rs
  codes : H e = some (.lst (V.int (-1) :: (blks 0 rs).map V.int))
  names : H f = some (.lst ((namesOf ps rs).map V.str))
def spInit (K : PySem.W.Frag) (C : Addr) : Sp := fun vs H Q _ => ∃ (p dx ta pa ba : Addr) (msg : Str) (ps : List Str) (ts : List Nd), vs = [.ref p, .ref ta] ∧ H p = some (.ins C dx []) ∧ MethAt K H ta msg pa ba ps ts ∧
  ∀ (n a c d e f : Addr) (ch : List Addr) (H' : Hp), ShAt K C H' p dx ta n a c d e f ch (recsL 0 (-1) (-1) [] ts) ps → (∀ b o, H b = some o → b ≠ p → H' b = some o) → Q .non H'
section
variable {P : Program} {w : World} {K : PySem.W.Frag} {mg : Str → Option Value} {base : Heap}
theorem ok_init (T : Tx K mg) : FnOk P w K mg base CX0 203 T.d_Shape_init__.f T.d_Shape_init__.fd ["self", "method"] (spInit K T.Shape.C) := by
  have nd := sc_Shape_init__.nd
  have G_Shape_add := ok_adds (P := P) (w := w) (base := base) T 200
  have G_Shape_all_names := ok_all_names (P := P) (w := w) (base := base) T
  refine T.d_Shape_init__.fn.ok (k := 202) sc_Shape_init__ (fun vs H Q E h => ?_) (fun cdv A outer s H vs Q E hr h => ?_)
  · obtain ⟨p, dx, ta, pa, ba, msg, ps, ts, rfl, _⟩ := h
    rfl
  · obtain ⟨p, dx, ta, pa, ba, msg, ps, ts, rfl, hp, hM, q⟩ := h
    have h_Shape_add : Room 201 _ := hr.mono (by decide)
    have h_Shape_all_names : Room 2 _ := hr.mono (by decide)
    refine ⟨_, (pss_cons (ps_fld (pv 0) (pv 1) rfl)
      (pss_cons (ps_fld (pv 0) (pe_lst pa_nil) rfl)
      (pss_cons (ps_fld (pv 0) (pe_lst pa_nil) rfl)
      (pss_cons (ps_fld (pv 0) (pe_lst pa_nil) rfl)
      (pss_cons (ps_fld (pv 0) (pe_lst pa_nil) rfl)
      (pss_cons (ps_for PassesOwn.never rfl (pi_tup (pe_ix ix_tup (pv 1) (pe_glob (v := .int 3) rfl T.c_BODY ⟨_, rfl⟩) (fun _ _ => rfl))) (pg_name (i := 2) nd rfl (Or.inl rfl))
      (pss_one (ps_expr (pe_meth (pv 0) T.Shape.cl T.d_Shape_add.me G_Shape_add h_Shape_add T.d_Shape_add.b .nil pass0 (pa_cons (pv 2) (pa_cons (pe_un un_neg pe_int) (pa_cons (pe_un un_neg pe_int) pa_nil)))))))
      (pss_cons (ps_fld (pv 0) (pe_op op_cat (pe_lst (pa_cons (pe_un un_neg pe_int) pa_nil)) (pe_lc (own := [("at", 3), ("node", 4)]) (g := (gTup K 2 (gCons (gName 3) (gCons (gName 4) gNil)))) (tt := tTest (tOp rEq (tOp (rIxT K) (tVar 4) (tC (.int 0))) (tC (.str "block")))) rfl nd (pi_enum (by rfl) T.z_enumerate (pa_cons (pe_fld (pv 0) rfl) pa_nil)) (blkOk_by (N := N_Shape_init__) (sc := defScope s_Shape_init__) (by decide +kernel)) (fun _ _ _ _ _ => (pg_tup rfl (pgs_cons (pg_name (i := 3) nd rfl (Or.inl rfl)) (pgs_cons (pg_name (i := 4) nd rfl (Or.inl rfl)) pgs_nil)))) (fun _ _ _ _ _ => (pts_one (pt_cmpR op_eq (pe_ix ix_tup (pv 4) pe_int (fun _ _ => rfl)) pe_str (nomark _)))) (fun _ _ _ _ _ => (pv 3)))) rfl)
      (pss_one (ps_fld (pv 0) (pe_meth0 (pv 0) T.Shape.cl T.d_Shape_all_names.me G_Shape_all_names h_Shape_all_names T.d_Shape_all_names.b .nil pass0) rfl))))))))), ?_⟩
    refine ⟨_, rfl, _, rfl, p, T.Shape.C, dx, [], rfl, hp, T.Shape.cl, T.Shape.n_tree, (by show 0 < 1000; decide), ?_⟩
    have fresh : ∀ {H1 : Hp} {y : Addr}, But p H H1 → H1 p ≠ none → H1 y = none → H y = none := by
      intro H1 y b h1 h2
      cases e : H y with
      | none => rfl
      | some o =>
        by_cases hy : y = p
        · subst hy
          exact absurd h2 h1
        · rw [b _ _ e hy] at h2
          cases h2
    have b0 : But p H (upd H p (.ins T.Shape.C dx (putF "tree" (V.ref ta) []))) := But.set _
    have p0 : upd H p (.ins T.Shape.C dx (putF "tree" (V.ref ta) [])) p = some (.ins T.Shape.C dx [("tree", V.ref ta)]) := upd_same
    generalize upd H p (.ins T.Shape.C dx (putF "tree" (V.ref ta) [])) = H0 at b0 p0 ⊢
    -- self.nodes = []
    refine ⟨(by show 0 ≤ sizeLine; decide), fun n nn => ⟨_, rfl, p, T.Shape.C, dx, _, rfl, (by rw [upd_ne (ne_of_none p0 nn)]; exact p0), T.Shape.cl, T.Shape.n_nodes, (by show 1 < 1000; decide), ?_⟩⟩
    have hn0 := fresh b0 (by rw [p0]; simp) nn
    have pn : n ≠ p := fun e => by rw [e, p0] at nn; cases nn
    have b1 : But p H (upd (upd H0 n (.lst [])) p (.ins T.Shape.C dx (putF "nodes" (V.ref n) [("tree", V.ref ta)]))) := (b0.trans (But.same (same_new nn _))).trans (But.set _)
    have p1 : upd (upd H0 n (.lst [])) p (.ins T.Shape.C dx (putF "nodes" (V.ref n) [("tree", V.ref ta)])) p = some (.ins T.Shape.C dx [("tree", V.ref ta), ("nodes", V.ref n)]) := upd_same
    have n1 : upd (upd H0 n (.lst [])) p (.ins T.Shape.C dx (putF "nodes" (V.ref n) [("tree", V.ref ta)])) n = some (.lst []) := by rw [upd_ne pn, upd_same]
    generalize upd (upd H0 n (.lst [])) p (.ins T.Shape.C dx (putF "nodes" (V.ref n) [("tree", V.ref ta)])) = H1 at b1 p1 n1 ⊢
    -- self.above = []
    refine ⟨(by show 0 ≤ sizeLine; decide), fun a na => ⟨_, rfl, p, T.Shape.C, dx, _, rfl, (by rw [upd_ne (ne_of_none p1 na)]; exact p1), T.Shape.cl, T.Shape.n_above, (by show 2 < 1000; decide), ?_⟩⟩
    have ha0 := fresh b1 (by rw [p1]; simp) na
    have pa' : a ≠ p := fun e => by rw [e, p1] at na; cases na
    have an : n ≠ a := ne_of_none n1 na
    have b2 : But p H (upd (upd H1 a (.lst [])) p (.ins T.Shape.C dx (putF "above" (V.ref a) [("tree", V.ref ta), ("nodes", V.ref n)]))) := (b1.trans (But.same (same_new na _))).trans (But.set _)
    have p2 : upd (upd H1 a (.lst [])) p (.ins T.Shape.C dx (putF "above" (V.ref a) [("tree", V.ref ta), ("nodes", V.ref n)])) p = some (.ins T.Shape.C dx [("tree", V.ref ta), ("nodes", V.ref n), ("above", V.ref a)]) := upd_same
    have n2 : upd (upd H1 a (.lst [])) p (.ins T.Shape.C dx (putF "above" (V.ref a) [("tree", V.ref ta), ("nodes", V.ref n)])) n = some (.lst []) := by rw [upd_ne pn, upd_ne an]; exact n1
    have a2 : upd (upd H1 a (.lst [])) p (.ins T.Shape.C dx (putF "above" (V.ref a) [("tree", V.ref ta), ("nodes", V.ref n)])) a = some (.lst []) := by rw [upd_ne pa', upd_same]
    generalize upd (upd H1 a (.lst [])) p (.ins T.Shape.C dx (putF "above" (V.ref a) [("tree", V.ref ta), ("nodes", V.ref n)])) = H2 at b2 p2 n2 a2 ⊢
    -- self.children = []
    refine ⟨(by show 0 ≤ sizeLine; decide), fun c nc => ⟨_, rfl, p, T.Shape.C, dx, _, rfl, (by rw [upd_ne (ne_of_none p2 nc)]; exact p2), T.Shape.cl, T.Shape.n_children, (by show 3 < 1000; decide), ?_⟩⟩
    have hc0 := fresh b2 (by rw [p2]; simp) nc
    have pc : c ≠ p := fun e => by rw [e, p2] at nc; cases nc
    have cn : n ≠ c := ne_of_none n2 nc
    have ca : a ≠ c := ne_of_none a2 nc
    have b3 : But p H (upd (upd H2 c (.lst [])) p (.ins T.Shape.C dx (putF "children" (V.ref c) [("tree", V.ref ta), ("nodes", V.ref n), ("above", V.ref a)]))) := (b2.trans (But.same (same_new nc _))).trans (But.set _)
    have p3 : upd (upd H2 c (.lst [])) p (.ins T.Shape.C dx (putF "children" (V.ref c) [("tree", V.ref ta), ("nodes", V.ref n), ("above", V.ref a)])) p = some (.ins T.Shape.C dx [("tree", V.ref ta), ("nodes", V.ref n), ("above", V.ref a), ("children", V.ref c)]) := upd_same
    have n3 : upd (upd H2 c (.lst [])) p (.ins T.Shape.C dx (putF "children" (V.ref c) [("tree", V.ref ta), ("nodes", V.ref n), ("above", V.ref a)])) n = some (.lst []) := by rw [upd_ne pn, upd_ne cn]; exact n2
    have a3 : upd (upd H2 c (.lst [])) p (.ins T.Shape.C dx (putF "children" (V.ref c) [("tree", V.ref ta), ("nodes", V.ref n), ("above", V.ref a)])) a = some (.lst []) := by rw [upd_ne pa', upd_ne ca]; exact a2
    have c3 : upd (upd H2 c (.lst [])) p (.ins T.Shape.C dx (putF "children" (V.ref c) [("tree", V.ref ta), ("nodes", V.ref n), ("above", V.ref a)])) c = some (.lst []) := by rw [upd_ne pc, upd_same]
    generalize upd (upd H2 c (.lst [])) p (.ins T.Shape.C dx (putF "children" (V.ref c) [("tree", V.ref ta), ("nodes", V.ref n), ("above", V.ref a)])) = H3 at b3 p3 n3 a3 c3 ⊢
    -- self.code = []
    refine ⟨(by show 0 ≤ sizeLine; decide), fun d nD => ⟨_, rfl, p, T.Shape.C, dx, _, rfl, (by rw [upd_ne (ne_of_none p3 nD)]; exact p3), T.Shape.cl, T.Shape.n_code, (by show 4 < 1000; decide), ?_⟩⟩
    have hd0 := fresh b3 (by rw [p3]; simp) nD
    have pd : d ≠ p := fun e => by rw [e, p3] at nD; cases nD
    have dn : n ≠ d := ne_of_none n3 nD
    have da : a ≠ d := ne_of_none a3 nD
    have dc : c ≠ d := ne_of_none c3 nD
    have b4 : But p H (upd (upd H3 d (.lst [])) p (.ins T.Shape.C dx (putF "code" (V.ref d) [("tree", V.ref ta), ("nodes", V.ref n), ("above", V.ref a), ("children", V.ref c)]))) := (b3.trans (But.same (same_new nD _))).trans (But.set _)
    have o4 : ShO T.Shape.C (upd (upd H3 d (.lst [])) p (.ins T.Shape.C dx (putF "code" (V.ref d) [("tree", V.ref ta), ("nodes", V.ref n), ("above", V.ref a), ("children", V.ref c)]))) p dx (shF (.ref ta) n a c d) (.ref ta) n a c d := ⟨upd_same, rfl, rfl, rfl, rfl, rfl, no0 _ _ _ _ _⟩
    have s4 : ShB (upd (upd H3 d (.lst [])) p (.ins T.Shape.C dx (putF "code" (V.ref d) [("tree", V.ref ta), ("nodes", V.ref n), ("above", V.ref a), ("children", V.ref c)]))) n a c d [] [] :=
      ⟨by rw [upd_ne pn, upd_ne dn]; exact n3, by rw [upd_ne pa', upd_ne da]; exact a3, by rw [upd_ne pc, upd_ne dc]; exact c3, by rw [upd_ne pd, upd_same]; rfl, rfl, fun i x r h => by simp at h, by simp [an, cn, dn, ca, da, dc], fun x h => by simp at h, by simp⟩
    generalize upd (upd H3 d (.lst [])) p (.ins T.Shape.C dx (putF "code" (V.ref d) [("tree", V.ref ta), ("nodes", V.ref n), ("above", V.ref a), ("children", V.ref c)])) = H4 at b4 o4 s4 ⊢
    have butp : ∀ {Ha Hb : Hp}, But p H Ha → ButS [n, a, c, d] Ha Hb → But p H Hb := by
      intro Ha Hb h1 h2 b o e ne
      refine h2 b o (h1 b o e ne) fun hm => ?_
      simp only [List.mem_cons, List.not_mem_nil, or_false] at hm
      rcases hm with rfl | rfl | rfl | rfl
      · rw [hn0] at e; cases e
      · rw [ha0] at e; cases e
      · rw [hc0] at e; cases e
      · rw [hd0] at e; cases e
    have keepp : ∀ {Ha : Hp}, But p H Ha → Keep H Ha := fun h1 => ⟨fun b ys e => h1 b _ e (ne_of e hp (by intro z; cases z)), fun b o u e => h1 b _ e (ne_of e hp (by intro z; cases z))⟩
    -- for statement in method[BODY]: self.add(statement, -1, -1)
    refine ⟨_, rfl, ta, _, _, _, rfl, rfl, (keepp b4).sqt hM.tup, at3, ba, rfl, ⟨_, (keepp b4).sqt hM.body⟩, ?_⟩
    refine for_tup (K := K) (a := ba) (xs := ts.map Nd.v) (fun i σ H' => ∃ (v2 : Option V) (ch : List Addr), σ = [some (.ref p), some (.ref ta), v2, none, none] ∧ ShO T.Shape.C H' p dx (shF (.ref ta) n a c d) (.ref ta) n a c d ∧ ShB H' n a c d ch (recsL 0 (-1) (-1) [] (ts.take i)) ∧ But p H H') ?_ ?_ ?_ ?_
    · exact ⟨none, [], rfl, o4, s4, b4⟩
    · rintro i σ H' _ ⟨_, _, _, _, _, b'⟩
      exact (keepp b').sqt hM.body
    · rintro i y σ H' hi ⟨v2, ch, rfl, o', s', b'⟩
      obtain ⟨k, hki, rfl⟩ : ∃ k, ts[i]? = some k ∧ y = k.v := by
        rw [List.getElem?_map] at hi
        cases e : ts[i]? with
        | none => rw [e] at hi; cases hi
        | some k => rw [e] at hi; exact ⟨k, rfl, (Option.some.inj hi).symm⟩
      have hkm : k ∈ ts := List.mem_of_getElem? hki
      have htk : ts.take (i + 1) = ts.take i ++ [k] := by rw [List.take_add_one, hki]; rfl
      have hsum : sizeL (ts.take i) + size k ≤ sizeL ts := by
        have e1 : sizeL (ts.take (i + 1)) + sizeL (ts.drop (i + 1)) = sizeL ts := by rw [← sizeL_append, List.take_append_drop]
        rw [htk, sizeL_append] at e1
        simp only [sizeL] at e1
        omega
      have few := hM.few
      refine ⟨_, rfl, p, dx, _, rfl, o'.ob, o'.no.1, _, rfl, _, rfl, _, rfl, p, dx, _, _, n, a, c, d, ch, _, k, -1, -1, [], rfl, o', s', (keepp b').nd (hM.nds k hkm), by omega, by rw [recsL_len]; omega, fun H6 ch2 s6 new6 b6 => ?_⟩
      refine ⟨_, ch ++ ch2, rfl, o'.but s' b6, ?_, butp b' b6⟩
      rw [htk, recsL_append, Nat.zero_add]
      rw [recsL_len] at s6
      simp only [recsL, List.append_nil]
      exact s6
    · rintro σ H5 ⟨v2, ch, rfl, o5, s5, b5⟩
      rw [List.length_map, List.take_length] at s5
      have few := hM.few
      have hrl : (recsL 0 (-1) (-1) [] ts).length ≤ 200 := by rw [recsL_len]; exact few
      have rec5 : ∀ r, r ∈ recsL 0 (-1) (-1) [] ts → RecAt K H r := nds_recs hM.nds 0 (-1) (-1) []
      have chn := chain_recsL ts 0 (-1) (-1) []
      generalize recsL 0 (-1) (-1) [] ts = rs at q s5 hrl rec5 chn ⊢
      have R5 : ShR K T.Shape.C H5 p dx (shF (.ref ta) n a c d) (.ref ta) n a c d ch rs := ⟨o5, s5, fun r hr => (rec5 r hr).keep (keepp b5), chn⟩
      -- self.codes = [-1] + [..]
      refine ⟨_, rfl, (by show 1 ≤ sizeLine; decide), fun q1 nq1 => ?_⟩
      have sq1 := same_new nq1 (HO.lst [V.int (-1)])
      have hq1 : upd H5 q1 (.lst [V.int (-1)]) q1 = some (.lst [V.int (-1)]) := upd_same
      have R6 := R5.same sq1
      have b6 := b5.trans (But.same (D := p) sq1)
      generalize upd H5 q1 (.lst [V.int (-1)]) = H6 at sq1 hq1 R6 b6 ⊢
      refine ⟨_, rfl, p, _, dx, _, _, rfl, R6.o.ob, T.Shape.cl, T.Shape.n_nodes, R6.o.nodes, n, _, rfl, SqL.of R6.b.hn, fun L nL => ?_⟩
      refine lc_it (walk_enum (K := K) (a := n) (xs := rs.map Rec.v)) (fun i H' => Same H6 H' ∧ H' L = some (.lst ((blks 0 (rs.take i)).map V.int))) ⟨same_new nL _, upd_same⟩ ?_ ?_ ?_
      · rintro i H' _ ⟨s', _⟩
        exact SqL.of (R6.same s').b.hn
      · rintro i y H7 H8 hi ⟨s7, l7⟩ ⟨U, y1, y2, rfl, nU, rfl, e1, e2⟩
        rw [List.length_map] at hi
        have e1' := Option.some.inj e1
        subst e1'
        obtain ⟨r, hri, rfl⟩ : ∃ r, rs[i]? = some r ∧ r.v = y2 := by
          replace e2 : (rs.map Rec.v)[i]? = some y2 := e2
          rw [List.getElem?_map] at e2
          cases e : rs[i]? with
          | none => rw [e] at e2; cases e2
          | some r => rw [e] at e2; exact ⟨r, rfl, Option.some.inj e2⟩
        have s8 := s7.trans (same_new nU (HO.tup [V.int (i : Nat), r.v]))
        have l8 : upd H7 U (.tup [V.int (i : Nat), r.v]) L = some (.lst ((blks 0 (rs.take i)).map V.int)) := by rw [upd_ne (ne_of_none l7 nU)]; exact l7
        have u8 : SqT K (upd H7 U (.tup [V.int (i : Nat), r.v])) U [V.int (i : Nat), r.v] := SqT.of upd_same
        generalize upd H7 U (.tup [V.int (i : Nat), r.v]) = H8 at s8 l8 u8 ⊢
        have R8 := R6.same s8
        obtain ⟨⟨b, ks, hv, hS, hF, hD⟩⟩ := R8.r r (List.mem_of_getElem? hri)
        rw [hv] at u8
        have htk : rs.take (i + 1) = rs.take i ++ [r] := by rw [List.take_add_one, hri]; rfl
        have htl : (rs.take i).length = i := by rw [List.length_take]; omega
        refine ⟨U, _, rfl, u8, rfl, _, _, rfl, _, _, rfl, rfl, rfl, ?_⟩
        refine ⟨_, rfl, b, _, _, _, rfl, rfl, hS, at0, rfl, _, rfl, iteB (fun e => ?_) (fun e => ?_)⟩
        · have ew : r.w = "block" := V.str.inj (of_decide_eq_true e)
          refine ⟨_, rfl, _, l8, szl ?_, same_mut s8 nL, ?_⟩
          · have := blks_le (rs.take i) 0
            rw [List.length_map]
            omega
          · rw [upd_same, htk, blks_snoc, if_pos ew, List.map_append, htl, Nat.zero_add]
            rfl
        · have ew : ¬ r.w = "block" := fun z => (of_decide_eq_false e) (by rw [z])
          refine ⟨s8, ?_⟩
          rw [htk, blks_snoc, if_neg ew, List.append_nil]
          exact l8
      · rintro H7 ⟨s7, l7⟩
        rw [List.length_map, List.take_length] at l7
        have hbl := blks_le rs 0
        refine ⟨q1, L, _, _, rfl, rfl, s7 _ _ hq1, l7, sz (by simp only [List.length_cons, List.length_nil, List.length_map]; omega), fun e ne => ?_⟩
        have s8 := s7.trans (same_new ne (HO.lst ([V.int (-1)] ++ (blks 0 rs).map V.int)))
        have e8 : upd H7 e (.lst ([V.int (-1)] ++ (blks 0 rs).map V.int)) e = some (.lst ([V.int (-1)] ++ (blks 0 rs).map V.int)) := upd_same
        have R8 := R6.same s8
        have b8 := b6.trans (But.same (D := p) s8)
        generalize upd H7 e (.lst ([V.int (-1)] ++ (blks 0 rs).map V.int)) = H8 at s8 e8 R8 b8 ⊢
        refine ⟨_, rfl, p, T.Shape.C, dx, _, rfl, R8.o.ob, T.Shape.cl, T.Shape.n_codes, (by show 5 < 1000; decide), ?_⟩
        have pout : ∀ {y : Addr} {xs : List V} {Hx : Hp}, Hx p = some (.ins T.Shape.C dx (shF (.ref ta) n a c d)) → Hx y = some (.lst xs) → y ≠ p := fun h1 h2 => ne_of h2 h1 (by intro z; cases z)
        have setp : ∀ {Hx : Hp} {fs1 fs2 : List (Str × V)}, ShR K T.Shape.C Hx p dx fs1 (.ref ta) n a c d ch rs → But p H Hx → ShO T.Shape.C (upd Hx p (.ins T.Shape.C dx fs2)) p dx fs2 (.ref ta) n a c d → ShR K T.Shape.C (upd Hx p (.ins T.Shape.C dx fs2)) p dx fs2 (.ref ta) n a c d ch rs := by
          intro Hx fs1 fs2 hx hbx ho
          have ne : ∀ {y : Addr} {xs : List V}, Hx y = some (.lst xs) → y ≠ p := fun h2 => ne_of h2 hx.o.ob (by intro z; cases z)
          refine ⟨ho, ⟨by rw [upd_ne (ne hx.b.hn)]; exact hx.b.hn, by rw [upd_ne (ne hx.b.ha)]; exact hx.b.ha, by rw [upd_ne (ne hx.b.hc)]; exact hx.b.hc, by rw [upd_ne (ne hx.b.hd)]; exact hx.b.hd, hx.b.len, fun i x r g1 g2 => ?_, hx.b.ap, hx.b.out, hx.b.nd⟩, fun r hr => ?_, hx.c⟩
          · rw [upd_ne (ne (hx.b.kid i x r g1 g2))]
            exact hx.b.kid i x r g1 g2
          · exact (rec5 r hr).keep (keepp (hbx.trans (But.set _)))
        have R9 : ShR K T.Shape.C (upd H8 p (.ins T.Shape.C dx (putF "codes" (V.ref e) (shF (.ref ta) n a c d)))) p dx (shF1 (.ref ta) n a c d e) (.ref ta) n a c d ch rs := setp R8 b8 ⟨upd_same, rfl, rfl, rfl, rfl, rfl, no1 _ _ _ _ _ _⟩
        have b9 : But p H (upd H8 p (.ins T.Shape.C dx (putF "codes" (V.ref e) (shF (.ref ta) n a c d)))) := b8.trans (But.set _)
        have e9 : upd H8 p (.ins T.Shape.C dx (putF "codes" (V.ref e) (shF (.ref ta) n a c d))) e = some (.lst ([V.int (-1)] ++ (blks 0 rs).map V.int)) := by rw [upd_ne (pout R8.o.ob e8)]; exact e8
        generalize upd H8 p (.ins T.Shape.C dx (putF "codes" (V.ref e) (shF (.ref ta) n a c d))) = H9 at R9 b9 e9 ⊢
        -- self.names = self.all_names()
        refine ⟨_, rfl, p, dx, _, rfl, R9.o.ob, R9.o.no.2.2.1, p, dx, _, ta, pa, ba, msg, n, a, c, d, ch, rs, ps, rfl, R9, (keepp b9).sqt hM.tup, (keepp b9).sqt hM.par, hM.plen, by omega, fun f H10 s10 nf f10 => ?_⟩
        have R10 := R9.same s10
        refine ⟨_, rfl, p, T.Shape.C, dx, _, rfl, R10.o.ob, T.Shape.cl, T.Shape.n_names, (by show 6 < 1000; decide), ?_⟩
        have b10 := b9.trans (But.same (D := p) s10)
        refine q n a c d e f ch _ ⟨setp R10 b10 ⟨upd_same, rfl, rfl, rfl, rfl, rfl, no2 _ _ _ _ _ _ _⟩, ?_, ?_⟩ (b10.trans (But.set _))
        · rw [upd_ne (ne_of (s10 _ _ e9) R10.o.ob (by intro z; cases z))]
          exact s10 _ _ e9
        · rw [upd_ne (ne_of f10 R10.o.ob (by intro z; cases z))]
          exact f10
end
end My

set_option Elab.async false
set_option linter.all false
set_option maxRecDepth 100000
set_option maxHeartbeats 4000000
namespace My
open PySem L2
/-! ### where a name stands -/
def idx (x : Str) : List Str → Nat
  | [] => 0
  | y :: ys => if y = x then 0 else idx x ys + 1
def lookN (nm : List Str) (x : Str) : Nat → List (List Str) → Option (Nat × Nat)
  | out, [] => if among x nm = true then some (out, idx x nm) else none
  | out, ps :: h => if among x ps = true then some (out, idx x ps) else lookN nm x (out + 1) h
theorem eqV_str (a b : Str) : eqV (.str a) (.str b) = (a == b) := by
  unfold eqV
  rfl
theorem among_mem {x : Str} {ps : List Str} (h : x ∈ ps) : among x ps = true := by
  unfold among inV
  rw [List.any_eq_true]
  exact ⟨.str x, List.mem_map.mpr ⟨x, h, rfl⟩, by rw [eqV_str]; exact beq_self_eq_true x⟩
theorem among_iff {x : Str} {ps : List Str} : among x ps = true → x ∈ ps := by
  intro h
  unfold among inV at h
  rw [List.any_eq_true] at h
  obtain ⟨v, hv, e⟩ := h
  obtain ⟨y, hy, rfl⟩ := List.mem_map.mp hv
  rw [eqV_str] at e
  have := eq_of_beq e
  subst this
  exact hy
theorem among_not {x : Str} {ps : List Str} (h : x ∉ ps) : among x ps = false := by
  cases e : among x ps with
  | false => rfl
  | true => exact absurd (among_iff e) h
theorem idx_at : ∀ {x : Str} {ps : List Str}, x ∈ ps → ps[idx x ps]? = some x ∧ ∀ m, m < idx x ps → ps[m]? ≠ some x
  | x, [], h => by simp at h
  | x, y :: ys, h => by
    unfold idx
    by_cases e : y = x
    · rw [if_pos e]
      exact ⟨by rw [e]; rfl, fun m hm => by omega⟩
    · rw [if_neg e]
      have hm : x ∈ ys := by
        rcases List.mem_cons.mp h with q | q
        · exact absurd q.symm e
        · exact q
      obtain ⟨h1, h2⟩ := idx_at hm
      refine ⟨by rw [List.getElem?_cons_succ]; exact h1, fun m hm => ?_⟩
      cases m with
      | zero => intro q; exact e (Option.some.inj q)
      | succ m => rw [List.getElem?_cons_succ]; exact h2 m (by omega)
/-! ### the rows of an e, of statements -/
def plainW : List Str := ["number", "text", "truth"]
def vi (n : Nat) : V := .int (n : Int)
def nameRow (nm : List Str) (n : Nat) (word x : Str) (h : List (List Str)) : List V := [vi n, .str word] ++ (match lookN nm x 0 h with | some (o, i) => [vi o, vi i] | none => [])
def usedRow (n : Nat) (w : Str) (its : List V) (k : Nat) : List V :=
  if w = "send" then [vi n, .str "send", its.getD 1 .non, vi (k - 1)] else if w = "up" then [vi n, .str "up", its.getD 0 .non, vi k] else [vi n, .str "list", vi k]
def xOf (its : List V) (i : Nat) : Str := match its[i]? with | some (.str x) => x | _ => ""
mutual
def rE (nm : List Str) (n : Nat) (h : List (List Str)) : Nd → List (List V)
  | .mk _ w its _ _ ks =>
    if w ∈ plainW then [[vi n, .str "push", its.getD 0 .non]]
    else if w = "none" then [[vi n, .str "push", .non]]
    else if w = "self" then [[vi n, .str "self"]]
    else if w = "name" then [nameRow nm n "name" (xOf its 0) h]
    else if w = "block" then [[vi n, .str "block", vi n]]
    else if w = "field" ∨ w = "new" then [[vi n, .str w, its.getD 0 .non]]
    else rEs nm (n + 1) h ks ++ [usedRow n w its ks.length]
def rEs (nm : List Str) (n : Nat) (h : List (List Str)) : List Nd → List (List V)
  | [] => []
  | k :: ks => rE nm n h k ++ rEs nm (n + size k) h ks
end
mutual
def eOk (nm : List Str) (h : List (List Str)) : Nd → Prop
  | .mk _ w its _ _ ks => (w ∈ plainW ∧ ∃ y, its = [y]) ∨ w = "none" ∨ w = "self" ∨ (w = "name" ∧ ∃ x, its = [.str x] ∧ (lookN nm x 0 h).isSome = true) ∨ w = "block" ∨ ((w = "field" ∨ w = "new") ∧ ∃ x, its = [.str x]) ∨ ((w = "send" ∨ w = "up" ∨ w = "list") ∧ esOk nm h ks)
def esOk (nm : List Str) (h : List (List Str)) : List Nd → Prop
  | [] => True
  | k :: ks => eOk nm h k ∧ esOk nm h ks
end
mutual
/-- the rows of a statement whose first row has the number s -/
def rS (nm : List Str) (s n : Nat) (h : List (List Str)) : Nd → List (List V)
  | .mk _ w its _ m ks => match ks with
    | [] => if w = "try" then [[vi n, .str "beat"], [vi n, .str "try", vi (s + 4)], [vi n, .str "untry"], [vi n, .str "jump", vi (s + 5)], nameRow nm n "setname" (xOf its 1) h] else []
    | k :: r =>
      if w ∈ oneW then [[vi n, .str "beat"]] ++ rE nm (n + 1) h k ++ [[vi n, .str (if w = "do" then "drop" else w)]]
      else if w = "set" then [[vi n, .str "beat"]] ++ rE nm (n + 1) h k ++ [nameRow nm n "setname" (xOf its 0) h]
      else if w = "setfield" then [[vi n, .str "beat"]] ++ rE nm (n + 1) h k ++ [[vi n, .str "setfield", its.getD 0 .non]]
      else if w = "try" then
        let one := rSf nm (s + 2) (n + 1) h m (k :: r)
        let two := rSr nm (s + 2 + one.length + 3) (n + 1) h m (k :: r)
        [[vi n, .str "beat"], [vi n, .str "try", vi (s + 2 + one.length + 2)]] ++ one ++ [[vi n, .str "untry"], [vi n, .str "jump", vi (s + 2 + one.length + 3 + two.length)], nameRow nm n "setname" (xOf its 1) h] ++ two
      else
        let test := rE nm (n + 1) h k
        let one := rSf nm (s + 1 + test.length + 1) (n + 1 + size k) h m r
        if w = "while" then [[vi n, .str "beat"]] ++ test ++ [[vi n, .str "unless", vi (s + 1 + test.length + 1 + one.length + 1)]] ++ one ++ [[vi n, .str "jump", vi s]]
        else
          let two := rSr nm (s + 1 + test.length + 1 + one.length + 1) (n + 1 + size k) h m r
          [[vi n, .str "beat"]] ++ test ++ [[vi n, .str "unless", vi (s + 1 + test.length + 1 + one.length + 1)]] ++ one ++ [[vi n, .str "jump", vi (s + 1 + test.length + 1 + one.length + 1 + two.length)]] ++ two
/-- the rows of the first m statements -/
def rSf (nm : List Str) (s n : Nat) (h : List (List Str)) : Nat → List Nd → List (List V)
  | 0, _ => []
  | _ + 1, [] => []
  | m + 1, k :: ks => rS nm s n h k ++ rSf nm (s + (rS nm s n h k).length) (n + size k) h m ks
/-- the rows of the statements behind the first m -/
def rSr (nm : List Str) (s n : Nat) (h : List (List Str)) : Nat → List Nd → List (List V)
  | _, [] => []
  | 0, k :: ks => rS nm s n h k ++ rSr nm (s + (rS nm s n h k).length) (n + size k) h 0 ks
  | m + 1, k :: ks => rSr nm s (n + size k) h m ks
end
end My

set_option Elab.async false
set_option linter.all false
set_option maxRecDepth 100000
set_option maxHeartbeats 4000000
namespace My
open PySem L2
/-- found, where no block stands around (tuple.index of a tracked tuple has no rule in the layer) -/
def spFound (K : PySem.W.Frag) (C : Addr) : Sp := fun vs H Q _ => ∃ (p dx ta n a c d e f : Addr) (ch : List Addr) (rs : List Rec) (ps : List Str) (x : Str), vs = [.ref p, .str x, .int (-1)] ∧
  ShAt K C H p dx ta n a c d e f ch rs ps ∧ among x (namesOf ps rs) = true ∧ ∀ (r : Addr) (H' : Hp), Same H H' → SqT K H' r [vi 0, vi (idx x (namesOf ps rs))] → Q (.ref r) H'
/-- the numbers of the nodes that nothing stands above -/
def tops (k : Nat) : List Rec → List Int
  | [] => []
  | r :: rs => if r.above = -1 then (k : Int) :: tops (k + 1) rs else tops (k + 1) rs
theorem tops_snoc : ∀ (rs : List Rec) (k : Nat) (r : Rec), tops k (rs ++ [r]) = tops k rs ++ (if r.above = -1 then [((k + rs.length : Nat) : Int)] else [])
  | [], k, r => by
    simp only [List.nil_append, tops, List.length_nil, Nat.add_zero]
  | x :: rs, k, r => by
    simp only [List.cons_append, tops, List.length_cons]
    rw [tops_snoc rs (k + 1) r]
    have e : k + 1 + rs.length = k + (rs.length + 1) := by omega
    rw [e]
    split <;> simp
theorem tops_append : ∀ (xs ys : List Rec) (k : Nat), tops k (xs ++ ys) = tops k xs ++ tops (k + xs.length) ys
  | [], ys, k => by simp [tops]
  | x :: xs, ys, k => by
    simp only [List.cons_append, tops, List.length_cons]
    rw [tops_append xs ys (k + 1), show k + 1 + xs.length = k + (xs.length + 1) by omega]
    split <;> simp
theorem tops_le : ∀ (rs : List Rec) (k : Nat), (tops k rs).length ≤ rs.length
  | [], k => Nat.le_refl _
  | r :: rs, k => by
    have := tops_le rs (k + 1)
    simp only [tops, List.length_cons]
    split
    · simp only [List.length_cons]; omega
    · omega
mutual
theorem tops_in : ∀ (t : Nd) (k n : Nat) (a c : Int) (h : List (List Str)), 0 ≤ a → tops k (recs n a c h t) = []
  | .mk v w its ps m ks, k, n, a, c, h, ha => by
    simp only [recs, tops]
    rw [if_neg (by omega)]
    exact tops_inL ks _ _ _ _ _ (by omega)
theorem tops_inL : ∀ (ts : List Nd) (k n : Nat) (a c : Int) (h : List (List Str)), 0 ≤ a → tops k (recsL n a c h ts) = []
  | [], k, n, a, c, h, ha => by simp only [recsL, tops]
  | t :: ts, k, n, a, c, h, ha => by
    simp only [recsL]
    rw [tops_append, tops_in t _ _ _ _ _ ha, tops_inL ts _ _ _ _ _ ha]
    rfl
end
theorem tops_kids : ∀ (ts : List Nd) (n : Nat) (c : Int) (h : List (List Str)), tops n (recsL n (-1) c h ts) = kidNums n ts
  | [], n, c, h => by simp only [recsL, tops, kidNums]
  | .mk v w its ps m ks :: ts, n, c, h => by
    simp only [recsL, recs, kidNums, List.cons_append, tops]
    rw [if_pos trivial, tops_append, tops_inL ks _ _ _ _ _ (by omega), List.nil_append, recsL_len]
    have e : n + 1 + sizeL ks = n + size (.mk v w its ps m ks) := by simp only [size]; omega
    rw [e, tops_kids ts]
def spFirsts (K : PySem.W.Frag) (C : Addr) : Sp := fun vs H Q _ => ∃ (p dx ta n a c d e f : Addr) (ch : List Addr) (rs : List Rec) (ps : List Str) (code : Int), vs = [.ref p, .int code] ∧
  ShAt K C H p dx ta n a c d e f ch rs ps ∧ rs.length ≤ 1000 ∧
  ((code = -1 ∧ ∀ (L : Addr) (H' : Hp), Same H H' → H L = none → H' L = some (.lst ((tops 0 rs).map V.int)) → Q (.ref L) H') ∨
    ∃ (i : Nat) (r : Rec), code = (i : Int) ∧ rs[i]? = some r ∧ ∀ (L : Addr) (H' : Hp), Same H H' → H L = none → H' L = some (.lst (r.kids.map V.int)) → Q (.ref L) H')
section
variable {P : Program} {w : World} {K : PySem.W.Frag} {mg : Str → Option Value} {base : Heap}
theorem ok_found (T : Tx K mg) : FnOk P w K mg base CX0 1 T.d_Shape_found.f T.d_Shape_found.fd ["self", "word", "code"] (spFound K T.Shape.C) := by
  have nd := sc_Shape_found.nd
  refine T.d_Shape_found.fn.ok sc_Shape_found (fun vs H Q E h => ?_) (fun cdv A outer s H vs Q E hr h => ?_)
  · obtain ⟨p, dx, ta, n, a, c, d, e, f, ch, rs, ps, x, rfl, _⟩ := h
    rfl
  · obtain ⟨p, dx, ta, n, a, c, d, e, f, ch, rs, ps, x, rfl, hA, e3, q⟩ := h
    have hR := hA.R
    refine ⟨_, (pss_cons (ps_set (i := 3) nd rfl (Or.inl rfl) pe_int)
      (pss_cons (ps_while PassesOwn.never (pt_cmpR op_ge (pv 2) pe_int (nomark _))
      (pss_cons (ps_if (pt_cmpR op_in_seq (pv 1) (pe_ix ix_tup (pe_ix ix_list (pe_fld (pv 0) rfl) (pv 2) (fun _ _ => rfl)) pe_int (fun _ _ => rfl)) rfl)
      (pss_one (ps_ret (pe_tup (pa_cons (pv 3) (pa_cons (pe_bm PySem.F.plainAttrs_tuple PySem.F.slot_tuple_index PySem.F.type_tuple_index mt_tup_index (pe_ix ix_tup (pe_ix ix_list (pe_fld (pv 0) rfl) (pv 2) (fun _ _ => rfl)) pe_int (fun _ _ => rfl)) (pa_cons (pv 1) pa_nil)) pa_nil)))))
      pss_nil)
      (pss_cons (ps_set (i := 2) nd rfl (Or.inl rfl) (pe_ix ix_list (pe_fld (pv 0) rfl) (pv 2) (fun _ _ => rfl)))
      (pss_one (ps_aug (i := 3) nd rfl (Or.inl rfl) pe_int ip_add)))))
      (pss_cons (ps_if (pt_cmpR op_in_seq (pv 1) (pe_fld (pv 0) rfl) rfl)
      (pss_one (ps_ret (pe_tup (pa_cons (pv 3) (pa_cons (pe_bm PySem.F.plainAttrs_list PySem.F.slot_list_index PySem.F.type_list_index mt_index (pe_fld (pv 0) rfl) (pa_cons (pv 1) pa_nil)) pa_nil)))))
      pss_nil)
      (pss_one (ps_ret pe_non))))), ?_⟩
    refine ⟨fun m σ H' => σ = [some (.ref p), some (.str x), some (.int (-1)), some (.int 0)] ∧ H' = H, ⟨0, rfl, rfl⟩, ?_⟩
    rintro m σ H' ⟨rfl, rfl⟩
    refine ⟨_, rfl, _, _, rfl, rfl, _, rfl, iteN (by decide) ?_⟩
    obtain ⟨g1, g2⟩ := idx_at (among_iff e3)
    refine ⟨_, rfl, _, rfl, p, _, dx, _, _, rfl, hR.o.ob, T.Shape.cl, T.Shape.n_names, rfl, f, _, rfl, .inl (SqL.of hA.names), rfl, flat_strs _, _, rfl, iteY e3 ?_⟩
    refine ⟨_, rfl, _, rfl, p, _, dx, _, _, rfl, hR.o.ob, T.Shape.cl, T.Shape.n_names, rfl, .inl ⟨rfl, _, SqL.of hA.names⟩, _, rfl, f, _, V.str x, idx x (namesOf ps rs), V.str x, rfl, rfl, SqL.of hA.names, rfl, flat_strs _, by rw [List.getElem?_map, g1]; rfl, by rw [eqV_str]; exact beq_self_eq_true x, fun m z' hm hz' => ?_, (by show 2 ≤ sizeLine; decide), fun r' nr => q r' _ (same_new nr _) (SqT.of upd_same)⟩
    rw [List.getElem?_map] at hz'
    cases e5 : (namesOf ps rs)[m]? with
    | none => rw [e5] at hz'; cases hz'
    | some y =>
      rw [e5] at hz'
      have := Option.some.inj hz'
      subst this
      rw [eqV_str]
      have ne : y ≠ x := fun q => g2 m hm (by rw [e5, q])
      exact beq_eq_false_iff_ne.mpr ne
theorem ok_firsts (T : Tx K mg) : FnOk P w K mg base CX0 1 T.d_Shape_firsts.f T.d_Shape_firsts.fd ["self", "code"] (spFirsts K T.Shape.C) := by
  have nd := sc_Shape_firsts.nd
  refine T.d_Shape_firsts.fn.ok sc_Shape_firsts (fun vs H Q E h => ?_) (fun cdv A outer s H vs Q E hr h => ?_)
  · obtain ⟨p, dx, ta, n, a, c, d, e, f, ch, rs, ps, code, rfl, _⟩ := h
    rfl
  · obtain ⟨p, dx, ta, n, a, c, d, e, f, ch, rs, ps, code, rfl, hA, hrl, q⟩ := h
    have hR := hA.R
    refine ⟨_, (pss_cons (ps_if (pt_cmpR op_eq (pv 1) (pe_un un_neg pe_int) (nomark _))
      (pss_one (ps_ret (pe_lc (own := [("at", 2)]) (g := (gName 2)) (tt := tTest (tOp rEq (tOp (rIxL K) (tFld K (tVar 0) "above") (tVar 2)) (tUn (rU fun i => .int (-i)) (tC (.int 1))))) rfl nd (pi_range1 (by rfl) T.z_range (pa_cons (pe_callB call_len_seq (by rfl) T.z_len PySem.boot_len (pa_cons (pe_fld (pv 0) rfl) pa_nil)) pa_nil)) (blkOk_by (N := N_Shape_firsts) (sc := defScope s_Shape_firsts) (by decide +kernel)) (fun _ _ _ _ _ => (pg_name (i := 2) nd rfl (Or.inl rfl))) (fun _ _ _ _ _ => (pts_one (pt_cmpR op_eq (pe_ix ix_list (pe_fld (pv 0) rfl) (pv 2) (fun _ _ => rfl)) (pe_un un_neg pe_int) (nomark _)))) (fun _ _ _ _ _ => (pv 2)))))
      pss_nil)
      (pss_one (ps_ret (pe_callTy call_list_of (by rfl) T.z_list (by decide +kernel) (pa_cons (pe_ix ix_list (pe_fld (pv 0) rfl) (pv 1) (fun _ _ => rfl)) pa_nil))))), ?_⟩
    refine ⟨_, rfl, _, rfl, rfl, _, rfl, iteB (fun e1 => ?_) (fun e1 => ?_)⟩
    · rcases q with ⟨_, q⟩ | ⟨i, r, z, _⟩
      · refine ⟨_, rfl, p, _, dx, _, _, rfl, hR.o.ob, T.Shape.cl, T.Shape.n_nodes, hR.o.nodes, n, _, rfl, .inl (SqL.of hR.b.hn), _, rfl, by rw [List.length_map]; omega, by rw [List.length_map]; omega, fun L nL => ?_⟩
        refine lc_range (lo := 0) (n := (((rs.map Rec.v).length : Nat) : Int).toNat) (fun i H' => Same H H' ∧ H' L = some (.lst ((tops 0 (rs.take i)).map V.int))) ⟨same_new nL _, upd_same⟩ ?_ ?_
        · rintro i H7 hi ⟨s7, c7⟩
          rw [List.length_map] at hi
          have hil : i < rs.length := by omega
          have hri : rs[i]? = some rs[i] := List.getElem?_eq_getElem hil
          have htk : rs.take (i + 1) = rs.take i ++ [rs[i]] := by rw [List.take_add_one, hri]; rfl
          have htl : (rs.take i).length = i := by rw [List.length_take]; omega
          have hR7 := hR.same s7
          refine ⟨rfl, _, rfl, p, _, dx, _, _, rfl, hR7.o.ob, T.Shape.cl, T.Shape.n_above, hR7.o.above, _, rfl, a, _, _, V.int rs[i].above, rfl, rfl, SqL.of hR7.b.ha, at_of (j := i) (by omega) (by rw [List.getElem?_map, hri]; rfl), _, rfl, rfl, _, rfl, iteB (fun e2 => ?_) (fun e2 => ?_)⟩
          · have ew : rs[i].above = -1 := V.int.inj (of_decide_eq_true e2)
            refine ⟨_, rfl, _, c7, szl ?_, same_mut s7 nL, ?_⟩
            · have := tops_le (rs.take i) 0
              rw [List.length_map]
              omega
            · rw [upd_same, htk, tops_snoc, if_pos ew, List.map_append, htl]
              rfl
          · have ew : ¬ rs[i].above = -1 := fun z => (of_decide_eq_false e2) (by rw [z])
            refine ⟨s7, ?_⟩
            rw [htk, tops_snoc, if_neg ew, List.append_nil]
            exact c7
        · rintro H7 ⟨s7, c7⟩
          rw [List.length_map, Int.toNat_natCast, List.take_length] at c7
          exact q L H7 s7 nL c7
      · have := V.int.inj (of_decide_eq_true e1)
        omega
    · rcases q with ⟨z, _⟩ | ⟨i, r, rfl, hi, q⟩
      · exact absurd (by rw [z]) (of_decide_eq_false e1)
      · have hil := (List.getElem?_eq_some_iff.mp hi).1
        have hcl : i < ch.length := by rw [hR.b.len]; exact hil
        have hci : ch[i]? = some ch[i] := List.getElem?_eq_getElem hcl
        exact ⟨_, rfl, p, _, dx, _, _, rfl, hR.o.ob, T.Shape.cl, T.Shape.n_children, hR.o.children, _, rfl, c, _, _, V.ref ch[i], rfl, rfl, SqL.of hR.b.hc, at_of (j := i) rfl (by rw [List.getElem?_map, hci]; rfl), ch[i], _, rfl, .inl (SqL.of (hR.b.kid i _ r hci hi)), fun L nL => q L _ (same_new nL _) nL upd_same⟩
end
end My

set_option Elab.async false
set_option linter.all false
set_option maxRecDepth 100000
set_option maxHeartbeats 4000000
namespace My
open PySem L2
/-! ### a Compiler as it stands -/
structure Frm (K : PySem.W.Frag) (C : Addr) (H : Hp) (p : Addr) (rs : List Rec) (nm : List Str) (mA : Addr) : Prop where
  ex : ∃ (dx ta n a c d e f : Addr) (ch : List Addr) (ps : List Str), ShAt K C H p dx ta n a c d e f ch rs ps ∧ nm = namesOf ps rs ∧ mA ∉ n :: a :: c :: d :: e :: f :: ch
structure CpB (K : PySem.W.Frag) (H : Hp) (mA : Addr) (ras : List Addr) (rows : List (List V)) : Prop where
  l : H mA = some (.lst (ras.map V.ref))
  len : ras.length = rows.length
  at_ : ∀ (i : Nat) (a : Addr) (r : List V), ras[i]? = some a → rows[i]? = some r → SqT K H a r
def cpF (p : Addr) (code : Int) (mA : Addr) : List (Str × V) := [("form", .ref p), ("code", .int code), ("made", .ref mA)]
structure Cp (K : PySem.W.Frag) (CS CC : Addr) (H : Hp) (q p mA : Addr) (code : Int) (rs : List Rec) (nm : List Str) (ras : List Addr) (rows : List (List V)) : Prop where
  o : ∃ dx, H q = some (.ins CC dx (cpF p code mA))
  b : CpB K H mA ras rows
  f : Frm K CS H p rs nm mA
theorem Frm.but {K : PySem.W.Frag} {C : Addr} {H H' : Hp} {p : Addr} {rs : List Rec} {nm : List Str} {mA : Addr} {xs : List V} (h : Frm K C H p rs nm mA) (l : H mA = some (.lst xs)) (b : But mA H H') : Frm K C H' p rs nm mA := by
  obtain ⟨dx, ta, n, a, c, d, e, f, ch, ps, hA, hn, hm⟩ := h.ex
  have kp := b.keep l
  simp only [List.mem_cons, not_or] at hm
  obtain ⟨m1, m2, m3, m4, m5, m6, m7⟩ := hm
  have hp : p ≠ mA := ne_of hA.R.o.ob l (by intro z; cases z)
  refine ⟨dx, ta, n, a, c, d, e, f, ch, ps, ⟨⟨⟨b _ _ hA.R.o.ob hp, hA.R.o.tree, hA.R.o.nodes, hA.R.o.above, hA.R.o.children, hA.R.o.code, hA.R.o.no⟩, ⟨b _ _ hA.R.b.hn (Ne.symm m1), b _ _ hA.R.b.ha (Ne.symm m2), b _ _ hA.R.b.hc (Ne.symm m3), b _ _ hA.R.b.hd (Ne.symm m4), hA.R.b.len, fun i x r g1 g2 => b _ _ (hA.R.b.kid i x r g1 g2) (fun z => m7 (by rw [← z]; exact List.mem_of_getElem? g1)), hA.R.b.ap, hA.R.b.out, hA.R.b.nd⟩,
    fun r hr => (hA.R.r r hr).keep kp, hA.R.c⟩, b _ _ hA.codes (Ne.symm m5), b _ _ hA.names (Ne.symm m6)⟩, hn, by simp only [List.mem_cons, not_or]; exact ⟨m1, m2, m3, m4, m5, m6, m7⟩⟩
theorem Cp.but {K : PySem.W.Frag} {CS CC : Addr} {H H' : Hp} {q p mA : Addr} {code : Int} {rs : List Rec} {nm : List Str} {ras ras' : List Addr} {rows rows' : List (List V)} (h : Cp K CS CC H q p mA code rs nm ras rows) (b : But mA H H') (n : CpB K H' mA ras' rows') : Cp K CS CC H' q p mA code rs nm ras' rows' := by
  obtain ⟨dx, ho⟩ := h.o
  exact ⟨⟨dx, b _ _ ho (ne_of ho h.b.l (by intro z; cases z))⟩, n, h.f.but h.b.l b⟩
theorem CpB.same {K : PySem.W.Frag} {H H' : Hp} {mA : Addr} {ras : List Addr} {rows : List (List V)} (h : CpB K H mA ras rows) (s : Same H H') : CpB K H' mA ras rows := ⟨s _ _ h.l, h.len, fun i a r g1 g2 => s.sqt (h.at_ i a r g1 g2)⟩
theorem Cp.same {K : PySem.W.Frag} {CS CC : Addr} {H H' : Hp} {q p mA : Addr} {code : Int} {rs : List Rec} {nm : List Str} {ras : List Addr} {rows : List (List V)} (h : Cp K CS CC H q p mA code rs nm ras rows) (s : Same H H') : Cp K CS CC H' q p mA code rs nm ras rows := h.but (But.same s) (h.b.same s)
theorem cpF_form (p : Addr) (code : Int) (mA : Addr) : (cpF p code mA).lookup ("form" : Str) = some (.ref p) := rfl
theorem cpF_code (p : Addr) (code : Int) (mA : Addr) : (cpF p code mA).lookup ("code" : Str) = some (.int code) := rfl
theorem cpF_made (p : Addr) (code : Int) (mA : Addr) : (cpF p code mA).lookup ("made" : Str) = some (.ref mA) := rfl
def spCome (K : PySem.W.Frag) (CS CC : Addr) : Sp := fun vs H Q _ => ∃ (q p mA : Addr) (code : Int) (rs : List Rec) (nm : List Str) (ras : List Addr) (rows : List (List V)) (at' : Int) (word : Str) (moreA : Addr) (more : List V), vs = [.ref q, .int at', .str word, .ref moreA] ∧
  Cp K CS CC H q p mA code rs nm ras rows ∧ SqT K H moreA more ∧ more.length ≤ 10 ∧ rows.length ≤ 5000 ∧
  ∀ (a : Addr) (H' : Hp), Cp K CS CC H' q p mA code rs nm (ras ++ [a]) (rows ++ [[.int at', .str word] ++ more]) → But mA H H' → Q (.int rows.length) H'
def spMend (K : PySem.W.Frag) (CS CC : Addr) : Sp := fun vs H Q _ => ∃ (q p mA : Addr) (code : Int) (rs : List Rec) (nm : List Str) (ras : List Addr) (rows : List (List V)) (j : Nat) (x y z : V), vs = [.ref q, vi j] ∧
  Cp K CS CC H q p mA code rs nm ras rows ∧ rows[j]? = some [x, y, z] ∧ rows.length ≤ 5000 ∧
  ∀ (ras' : List Addr) (H' : Hp), Cp K CS CC H' q p mA code rs nm ras' (rows.set j [x, y, vi rows.length]) → But mA H H' → Q .non H'
section
variable {P : Program} {w : World} {K : PySem.W.Frag} {mg : Str → Option Value} {base : Heap}
theorem ok_come (T : Tx K mg) : FnOk P w K mg base CX0 1 T.d_Compiler_come.f T.d_Compiler_come.fd ["self", "at", "word", "more"] (spCome K T.Shape.C T.Compiler.C) := by
  have nd := sc_Compiler_come.nd
  refine T.d_Compiler_come.fn.ok sc_Compiler_come (fun vs H Q E h => ?_) (fun cdv A outer s H vs Q E hr h => ?_)
  · obtain ⟨q, p, mA, code, rs, nm, ras, rows, at', word, moreA, more, rfl, _⟩ := h
    rfl
  · obtain ⟨q, p, mA, code, rs, nm, ras, rows, at', word, moreA, more, rfl, hC, hm, hml, hrl, qq⟩ := h
    obtain ⟨dx, ho⟩ := hC.o
    have hl := hC.b.l
    have hlen := hC.b.len
    refine ⟨_, (pss_cons (ps_expr (pe_bm PySem.F.plainAttrs_list PySem.F.slot_list_append PySem.F.type_list_append mt_append (pe_fld (pv 0) rfl) (pa_cons (pe_op op_catA (pe_tup (pa_cons (pv 1) (pa_cons (pv 2) pa_nil))) (pv 3)) pa_nil)))
      (pss_one (ps_ret (pe_op op_sub (pe_callB call_len_seq (by rfl) T.z_len PySem.boot_len (pa_cons (pe_fld (pv 0) rfl) pa_nil)) pe_int)))), ?_⟩
    refine ⟨_, rfl, q, _, dx, _, _, rfl, ho, T.Compiler.cl, T.Compiler.n_made, cpF_made _ _ _, .inl ⟨rfl, _, SqL.of hl⟩, _, rfl, _, rfl, (by show 2 ≤ sizeLine; decide), fun t1 n1 => ?_⟩
    have s1 := same_new n1 (HO.tup [V.int at', V.str word])
    refine ⟨_, rfl, catA (SqT.of upd_same) (s1.sqt hm) (by simp only [List.length_cons, List.length_nil]; omega) fun a H2 s2 h2 => ?_⟩
    have s12 := s1.trans s2
    refine ⟨mA, _, _, rfl, rfl, s12 _ _ hl, szl (by rw [List.length_map]; omega), ?_⟩
    have b3 : But mA H (upd H2 mA (.lst (ras.map V.ref ++ [V.ref a]))) := (But.same s12).trans (But.set _)
    have kp3 : Keep H2 (upd H2 mA (.lst (ras.map V.ref ++ [V.ref a]))) := (But.set (D := mA) _).keep (s12 _ _ hl)
    have n3 : CpB K (upd H2 mA (.lst (ras.map V.ref ++ [V.ref a]))) mA (ras ++ [a]) (rows ++ [[V.int at', V.str word] ++ more]) := by
      refine ⟨by rw [upd_same, List.map_append]; rfl, by rw [List.length_append, List.length_append, hlen]; rfl, fun i a' r g1 g2 => ?_⟩
      by_cases hi : i < ras.length
      · rw [List.getElem?_append_left hi] at g1
        rw [List.getElem?_append_left (by rw [← hlen]; exact hi)] at g2
        exact kp3.sqt (s12.sqt (hC.b.at_ i a' r g1 g2))
      · have hi' : i = ras.length := by
          obtain ⟨hlt, _⟩ := List.getElem?_eq_some_iff.mp g1
          rw [List.length_append, List.length_singleton] at hlt
          omega
        subst hi'
        rw [List.getElem?_append_right (Nat.le_refl _), Nat.sub_self] at g1
        rw [hlen, List.getElem?_append_right (Nat.le_refl _), Nat.sub_self] at g2
        have q1 : a = a' := Option.some.inj g1
        have q2 : [V.int at', V.str word] ++ more = r := Option.some.inj g2
        subst q1 q2
        exact kp3.sqt h2
    have C3 := hC.but b3 n3
    obtain ⟨dx3, ho3⟩ := C3.o
    refine ⟨_, rfl, q, _, dx3, _, _, rfl, ho3, T.Compiler.cl, T.Compiler.n_made, cpF_made _ _ _, mA, _, rfl, .inl (SqL.of C3.b.l), _, _, rfl, rfl, ?_⟩
    have e : (((ras ++ [a]).map V.ref).length : Int) - 1 = (rows.length : Int) := by
      rw [List.length_map, List.length_append, List.length_singleton, hlen]
      omega
    show Q (.int ((((ras ++ [a]).map V.ref).length : Int) - 1)) _
    rw [e]
    exact qq a _ C3 b3
theorem ok_mend (T : Tx K mg) : FnOk P w K mg base CX0 1 T.d_Compiler_mend.f T.d_Compiler_mend.fd ["self", "number"] (spMend K T.Shape.C T.Compiler.C) := by
  have nd := sc_Compiler_mend.nd
  refine T.d_Compiler_mend.fn.ok sc_Compiler_mend (fun vs H Q E h => ?_) (fun cdv A outer s H vs Q E hr h => ?_)
  · obtain ⟨q, p, mA, code, rs, nm, ras, rows, j, x, y, z, rfl, _⟩ := h
    rfl
  · obtain ⟨q, p, mA, code, rs, nm, ras, rows, j, x, y, z, rfl, hC, hj, hrl, qq⟩ := h
    obtain ⟨dx, ho⟩ := hC.o
    have hl := hC.b.l
    have hlen := hC.b.len
    have hjl := (List.getElem?_eq_some_iff.mp hj).1
    have hra : ras[j]? = some ras[j] := List.getElem?_eq_getElem (by omega)
    have hrow := hC.b.at_ j _ _ hra hj
    refine ⟨_, (pss_cons (ps_asg (pe_slice sl_tup (pe_ix ix_list (pe_fld (pv 0) rfl) (pv 1) (fun _ _ => rfl)) po_none (po_some pe_int)) (pg_tup rfl (pgs_cons (pg_name (i := 2) nd rfl (Or.inl rfl)) (pgs_cons (pg_name (i := 3) nd rfl (Or.inl rfl)) pgs_nil))))
      (pss_one (ps_asg (pe_tup (pa_cons (pv 2) (pa_cons (pv 3) (pa_cons (pe_callB call_len_seq (by rfl) T.z_len PySem.boot_len (pa_cons (pe_fld (pv 0) rfl) pa_nil)) pa_nil)))) (pg_sub (pe_fld (pv 0) rfl) (pv 1) set_list)))), ?_⟩
    refine ⟨_, rfl, q, _, dx, _, _, rfl, ho, T.Compiler.cl, T.Compiler.n_made, cpF_made _ _ _, _, rfl, mA, _, _, V.ref ras[j], rfl, rfl, SqL.of hl, at_of (j := j) rfl (by rw [List.getElem?_map, hra]; rfl), ?_⟩
    refine ⟨2, rfl, ras[j], _, rfl, hrow, (by show ¬ (HT.sIx 3 0 none = 0 ∧ HT.sIx 3 3 (some 2) = 3); decide +kernel), fun t1 n1 => ?_⟩
    have ecut : cutV [x, y, z] none (some 2) = [x, y] := rfl
    have s1 := same_new n1 (HO.tup (cutV [x, y, z] none (some 2)))
    have t1' : SqT K (upd H t1 (.tup (cutV [x, y, z] none (some 2)))) t1 [x, y] := SqT.of (by rw [upd_same, ecut])
    generalize upd H t1 (.tup (cutV [x, y, z] none (some 2))) = H1 at s1 t1' ⊢
    refine ⟨t1, _, rfl, t1', rfl, _, _, rfl, _, _, rfl, rfl, ?_⟩
    have C1 := hC.same s1
    obtain ⟨dx1, ho1⟩ := C1.o
    refine ⟨_, rfl, _, rfl, _, rfl, q, _, dx1, _, _, rfl, ho1, T.Compiler.cl, T.Compiler.n_made, cpF_made _ _ _, mA, _, rfl, .inl (SqL.of C1.b.l), (by show 3 ≤ sizeLine; decide), fun a na => ?_⟩
    have s2 := same_new na (HO.tup [x, y, V.int ((ras.map V.ref).length : Int)])
    have t2 : SqT K (upd H1 a (.tup [x, y, V.int ((ras.map V.ref).length : Int)])) a [x, y, V.int ((ras.map V.ref).length : Int)] := SqT.of upd_same
    have C2 := C1.same s2
    generalize upd H1 a (.tup [x, y, V.int ((ras.map V.ref).length : Int)]) = H2 at s2 t2 C2 ⊢
    obtain ⟨dx2, ho2⟩ := C2.o
    have hix : ixN (ras.map V.ref).length (j : Int) = some j := by
      unfold ixN
      rw [if_pos (by omega), if_pos (by rw [List.length_map]; omega)]
      rfl
    refine ⟨_, rfl, q, _, dx2, _, _, rfl, ho2, T.Compiler.cl, T.Compiler.n_made, cpF_made _ _ _, _, rfl, mA, _, _, j, rfl, rfl, C2.b.l, hix, ?_⟩
    have b3 : But mA H (upd H2 mA (.lst ((ras.map V.ref).set j (V.ref a)))) := (But.same (s1.trans s2)).trans (But.set _)
    have kp3 : Keep H2 (upd H2 mA (.lst ((ras.map V.ref).set j (V.ref a)))) := (But.set (D := mA) _).keep C2.b.l
    refine qq (ras.set j a) _ (hC.but b3 ⟨by rw [upd_same, List.map_set], by rw [List.length_set, List.length_set, hlen], fun i a' r g1 g2 => ?_⟩) b3
    by_cases hi : j = i
    · subst hi
      rw [List.getElem?_set_self (by omega)] at g1
      rw [List.getElem?_set_self hjl] at g2
      have q1 := Option.some.inj g1
      have q2 := Option.some.inj g2
      subst q1 q2
      have := kp3.sqt t2
      rw [List.length_map, hlen] at this
      exact this
    · rw [List.getElem?_set_ne hi] at g1 g2
      exact kp3.sqt (C2.b.at_ i a' r g1 g2)
end
end My

set_option Elab.async false
set_option linter.all false
set_option maxRecDepth 100000
set_option maxHeartbeats 4000000
namespace My
open PySem L2
/-! ### a tree's place among the records -/
structure Sub (rs : List Rec) (n : Nat) (c : Int) (h : List (List Str)) (t : Nd) : Prop where
  ex : ∃ (pre post : List Rec) (ab : Int), rs = pre ++ recs n ab c h t ++ post ∧ pre.length = n
structure SubL (rs : List Rec) (n : Nat) (c : Int) (h : List (List Str)) (ts : List Nd) : Prop where
  ex : ∃ (pre post : List Rec) (ab : Int), rs = pre ++ recsL n ab c h ts ++ post ∧ pre.length = n
theorem Sub.head {rs : List Rec} {n : Nat} {c : Int} {h : List (List Str)} {v : V} {w : Str} {its : List V} {ps : List Str} {m : Nat} {ks : List Nd} (s : Sub rs n c h (.mk v w its ps m ks)) : ∃ ab, rs[n]? = some ⟨v, w, its, ps, m, ab, c, h, kidNums (n + 1) ks⟩ := by
  obtain ⟨pre, post, ab, e, hl⟩ := s.ex
  refine ⟨ab, ?_⟩
  rw [e, List.append_assoc, List.getElem?_append_right (by omega), hl, Nat.sub_self]
  simp only [recs, List.cons_append]
  rfl
theorem Sub.kids {rs : List Rec} {n : Nat} {c : Int} {h : List (List Str)} {v : V} {w : Str} {its : List V} {ps : List Str} {m : Nat} {ks : List Nd} (s : Sub rs n c h (.mk v w its ps m ks)) : SubL rs (n + 1) (if w = "block" then (n : Int) else c) (if w = "block" then ps :: h else h) ks := by
  obtain ⟨pre, post, ab, e, hl⟩ := s.ex
  refine ⟨pre ++ [⟨v, w, its, ps, m, ab, c, h, kidNums (n + 1) ks⟩], post, n, ?_, by rw [List.length_append, hl]; rfl⟩
  rw [e]
  simp only [recs, List.append_assoc, List.cons_append, List.nil_append]
theorem SubL.cons {rs : List Rec} {n : Nat} {c : Int} {h : List (List Str)} {k : Nd} {ks : List Nd} (s : SubL rs n c h (k :: ks)) : Sub rs n c h k ∧ SubL rs (n + size k) c h ks := by
  obtain ⟨pre, post, ab, e, hl⟩ := s.ex
  simp only [recsL] at e
  refine ⟨⟨pre, recsL (n + size k) ab c h ks ++ post, ab, by rw [e]; simp only [List.append_assoc], hl⟩, ⟨pre ++ recs n ab c h k, post, ab, by rw [e]; simp only [List.append_assoc], by rw [List.length_append, recs_len, hl]⟩⟩
theorem SubL.get {rs : List Rec} {c : Int} {h : List (List Str)} : ∀ {ks : List Nd} {n i : Nat} {k : Nd}, SubL rs n c h ks → ks[i]? = some k → Sub rs (n + sizeL (ks.take i)) c h k
  | [], n, i, k, s, e => by simp at e
  | t :: ts, n, 0, k, s, e => by
    have e' : t = k := Option.some.inj e
    subst e'
    simp only [List.take_zero, sizeL, Nat.add_zero]
    exact s.cons.1
  | t :: ts, n, i + 1, k, s, e => by
    rw [List.getElem?_cons_succ] at e
    have := SubL.get s.cons.2 e
    simp only [List.take_succ_cons, sizeL]
    rw [← Nat.add_assoc]
    exact this
theorem kidNums_get : ∀ {ks : List Nd} {n i : Nat} {k : Nd}, ks[i]? = some k → (kidNums n ks)[i]? = some ((n + sizeL (ks.take i) : Nat) : Int)
  | [], n, i, k, e => by simp at e
  | t :: ts, n, 0, k, e => by simp [kidNums, sizeL]
  | t :: ts, n, i + 1, k, e => by
    rw [List.getElem?_cons_succ] at e
    simp only [kidNums, List.getElem?_cons_succ, List.take_succ_cons, sizeL]
    rw [kidNums_get e, Nat.add_assoc]
theorem rEs_append (nm : List Str) (h : List (List Str)) : ∀ (xs ys : List Nd) (n : Nat), rEs nm n h (xs ++ ys) = rEs nm n h xs ++ rEs nm (n + sizeL xs) h ys
  | [], ys, n => by simp only [List.nil_append, rEs, sizeL, Nat.add_zero]
  | x :: xs, ys, n => by
    simp only [List.cons_append, rEs, sizeL]
    rw [rEs_append nm h xs ys, List.append_assoc, Nat.add_assoc]
mutual
theorem rE_len (nm : List Str) (h : List (List Str)) : ∀ (t : Nd) (n : Nat), (rE nm n h t).length ≤ size t
  | .mk v w its ps m ks, n => by
    have ih := rEs_len nm h ks (n + 1)
    have hs : size (.mk v w its ps m ks) = 1 + sizeL ks := by simp only [size]
    unfold rE
    repeat' split
    all_goals first
      | (simp only [List.length_cons, List.length_nil]; omega)
      | (simp only [List.length_append, List.length_cons, List.length_nil]; omega)
theorem rEs_len (nm : List Str) (h : List (List Str)) : ∀ (ts : List Nd) (n : Nat), (rEs nm n h ts).length ≤ sizeL ts
  | [], n => by simp [rEs, sizeL]
  | t :: ts, n => by
    have h1 := rE_len nm h t n
    have h2 := rEs_len nm h ts (n + size t)
    simp only [rEs, sizeL, List.length_append]
    omega
end
theorem esOk_get {nm : List Str} {h : List (List Str)} : ∀ {ks : List Nd} {i : Nat} {k : Nd}, esOk nm h ks → ks[i]? = some k → eOk nm h k
  | [], i, k, s, e => by simp at e
  | t :: ts, 0, k, s, e => by
    have e' : t = k := Option.some.inj e
    subst e'
    simp only [esOk] at s
    exact s.1
  | t :: ts, i + 1, k, s, e => by
    rw [List.getElem?_cons_succ] at e
    simp only [esOk] at s
    exact esOk_get s.2 e
def useW : List Str := ["send", "up", "list"]
theorem useW_one : ∀ w, w ∈ oneW → w ∉ useW := by unfold oneW useW; decide +kernel
theorem useW_leaf : ∀ w, w ∈ leafW → w ∉ useW := by unfold leafW useW; decide +kernel
def spUsed (K : PySem.W.Frag) (CS CC : Addr) : Sp := fun vs H Q _ => ∃ (q p mA : Addr) (code : Int) (rs : List Rec) (nm : List Str) (ras : List Addr) (rows : List (List V)) (n : Nat) (b : Addr) (w : Str) (its : List V) (ps : List Str) (m : Nat) (ks : List V), vs = [.ref q, vi n, .ref b] ∧
  Cp K CS CC H q p mA code rs nm ras rows ∧ SqT K H b (.str w :: its) ∧ Form K H w its ps m ks ∧ w ∈ useW ∧ rows.length ≤ 5000 ∧
  ∀ (a : Addr) (H' : Hp), Cp K CS CC H' q p mA code rs nm (ras ++ [a]) (rows ++ [usedRow n w its ks.length]) → But mA H H' → Q .non H'
def spWorked (K : PySem.W.Frag) (CS CC : Addr) (N : Nat) : Sp := fun vs H Q _ => ∃ (q p mA : Addr) (code : Int) (rs : List Rec) (nm : List Str) (ras : List Addr) (rows : List (List V)) (n : Nat) (t : Nd), vs = [.ref q, vi n] ∧
  Cp K CS CC H q p mA code rs nm ras rows ∧ Sub rs n (-1) [] t ∧ NdAt K H t ∧ eOk nm [] t ∧ size t ≤ N ∧ rows.length + size t ≤ 5000 ∧
  ∀ (ras2 : List Addr) (H' : Hp), Cp K CS CC H' q p mA code rs nm (ras ++ ras2) (rows ++ rE nm n [] t) → But mA H H' → Q .non H'
section
variable {P : Program} {w : World} {K : PySem.W.Frag} {mg : Str → Option Value} {base : Heap}
local macro_rules | `(tactic| walk_at "eqN") => `(tactic| refine ⟨_, rfl, rfl, _, rfl, iteN (by decide +kernel) ?_⟩)
local macro_rules | `(tactic| walk_at "eqY") => `(tactic| refine ⟨_, rfl, rfl, _, rfl, iteY (by decide +kernel) ?_⟩)
theorem ok_used (T : Tx K mg) : FnOk P w K mg base CX0 2 T.d_Compiler_used.f T.d_Compiler_used.fd ["self", "at", "node"] (spUsed K T.Shape.C T.Compiler.C) := by
  have nd := sc_Compiler_used.nd
  have G_Compiler_come := ok_come (P := P) (w := w) (base := base) T
  refine T.d_Compiler_used.fn.ok sc_Compiler_used (fun vs H Q E h => ?_) (fun cdv A outer s H vs Q E hr h => ?_)
  · obtain ⟨q, p, mA, code, rs, nm, ras, rows, n, b, w, its, ps, m, ks, rfl, _⟩ := h
    rfl
  · obtain ⟨q, p, mA, code, rs, nm, ras, rows, n, b, w, its, ps, m, ks, rfl, hC, hS, hF, hw, hrl, qq⟩ := h
    have h_Compiler_come := hr
    obtain ⟨dx, ho⟩ := hC.o
    refine ⟨_, (pss_one (ps_if (pt_cmpR op_eq (pe_ix ix_tup (pv 2) pe_int (fun _ _ => rfl)) pe_str (nomark _))
      (pss_one (ps_expr (pe_meth (pv 0) T.Compiler.cl T.d_Compiler_come.me G_Compiler_come h_Compiler_come T.d_Compiler_come.b .nil pass0 (pa_cons (pv 1) (pa_cons pe_str (pa_cons (pe_tup (pa_cons (pe_ix ix_tup (pv 2) pe_int (fun _ _ => rfl)) (pa_cons (pe_callB call_len_seq (by rfl) T.z_len PySem.boot_len (pa_cons (pe_ix ix_tup (pv 2) pe_int (fun _ _ => rfl)) pa_nil)) pa_nil))) pa_nil))))))
      (pss_one (ps_if (pt_cmpR op_eq (pe_ix ix_tup (pv 2) pe_int (fun _ _ => rfl)) pe_str (nomark _))
      (pss_one (ps_expr (pe_meth (pv 0) T.Compiler.cl T.d_Compiler_come.me G_Compiler_come h_Compiler_come T.d_Compiler_come.b .nil pass0 (pa_cons (pv 1) (pa_cons pe_str (pa_cons (pe_tup (pa_cons (pe_ix ix_tup (pv 2) pe_int (fun _ _ => rfl)) (pa_cons (pe_callB call_len_seq (by rfl) T.z_len PySem.boot_len (pa_cons (pe_ix ix_tup (pv 2) pe_int (fun _ _ => rfl)) pa_nil)) pa_nil))) pa_nil))))))
      (pss_one (ps_expr (pe_meth (pv 0) T.Compiler.cl T.d_Compiler_come.me G_Compiler_come h_Compiler_come T.d_Compiler_come.b .nil pass0 (pa_cons (pv 1) (pa_cons pe_str (pa_cons (pe_tup (pa_cons (pe_callB call_len_seq (by rfl) T.z_len PySem.boot_len (pa_cons (pe_ix ix_tup (pv 2) pe_int (fun _ _ => rfl)) pa_nil)) pa_nil)) pa_nil)))))))))), ?_⟩
    have no : ∀ x : Str, x ∉ useW → w ≠ x := fun x hx e => hx (by rw [← e]; exact hw)
    cases hF with
    | send e mm a xs g =>
      refine ⟨_, rfl, b, _, _, _, rfl, rfl, hS, at0, rfl, _, rfl, iteY (by decide +kernel) ?_⟩
      refine ⟨_, rfl, q, dx, _, rfl, ho, rfl, _, rfl, _, rfl, b, _, _, _, rfl, rfl, hS, at2, _, rfl, b, _, _, _, rfl, rfl, hS, at3, a, _, rfl, .inr g, (by show 2 ≤ sizeLine; decide), fun mo nmo => ?_⟩
      have s1 := same_new nmo (HO.tup [V.str mm, V.int (xs.length : Int)])
      exact ⟨q, p, mA, code, rs, nm, ras, rows, (n : Int), "send", mo, [V.str mm, V.int (xs.length : Int)], rfl, hC.same s1, SqT.of upd_same, by simp, hrl, fun a' H' C' b' => qq a' H' C' ((But.same s1).trans b')⟩
    | up mm a _ g =>
      refine ⟨_, rfl, b, _, _, _, rfl, rfl, hS, at0, rfl, _, rfl, iteN (by decide +kernel) ?_⟩
      refine ⟨_, rfl, b, _, _, _, rfl, rfl, hS, at0, rfl, _, rfl, iteY (by decide +kernel) ?_⟩
      refine ⟨_, rfl, q, dx, _, rfl, ho, rfl, _, rfl, _, rfl, b, _, _, _, rfl, rfl, hS, at1, _, rfl, b, _, _, _, rfl, rfl, hS, at2, a, _, rfl, .inr g, (by show 2 ≤ sizeLine; decide), fun mo nmo => ?_⟩
      have s1 := same_new nmo (HO.tup [V.str mm, V.int (ks.length : Int)])
      exact ⟨q, p, mA, code, rs, nm, ras, rows, (n : Int), "up", mo, [V.str mm, V.int (ks.length : Int)], rfl, hC.same s1, SqT.of upd_same, by simp, hrl, fun a' H' C' b' => qq a' H' C' ((But.same s1).trans b')⟩
    | list a _ g =>
      refine ⟨_, rfl, b, _, _, _, rfl, rfl, hS, at0, rfl, _, rfl, iteN (by decide +kernel) ?_⟩
      refine ⟨_, rfl, b, _, _, _, rfl, rfl, hS, at0, rfl, _, rfl, iteN (by decide +kernel) ?_⟩
      refine ⟨_, rfl, q, dx, _, rfl, ho, rfl, _, rfl, _, rfl, b, _, _, _, rfl, rfl, hS, at1, a, _, rfl, .inr g, (by show 1 ≤ sizeLine; decide), fun mo nmo => ?_⟩
      have s1 := same_new nmo (HO.tup [V.int (ks.length : Int)])
      exact ⟨q, p, mA, code, rs, nm, ras, rows, (n : Int), "list", mo, [V.int (ks.length : Int)], rfl, hC.same s1, SqT.of upd_same, by simp, hrl, fun a' H' C' b' => qq a' H' C' ((But.same s1).trans b')⟩
    | one w h e => exact absurd hw (useW_one w h)
    | leaf w h => exact absurd hw (useW_leaf w h)
    | _ => exact absurd hw (by unfold useW; decide +kernel)
/-- what the words of an e are, by their order in the def -/
theorem ok_worked1 (T : Tx K mg) {N : Nat} (G_Compiler_worked : FnOk P w K mg base CX0 (N + 2) T.d_Compiler_worked.f T.d_Compiler_worked.fd ["self", "at"] (spWorked K T.Shape.C T.Compiler.C N)) :
    FnOk P w K mg base CX0 (N + 3) T.d_Compiler_worked.f T.d_Compiler_worked.fd ["self", "at"] (spWorked K T.Shape.C T.Compiler.C (N + 1)) := by
  have nd := sc_Compiler_worked.nd
  have G_Compiler_come := ok_come (P := P) (w := w) (base := base) T
  have G_Compiler_used := ok_used (P := P) (w := w) (base := base) T
  have G_Shape_found := ok_found (P := P) (w := w) (base := base) T
  refine T.d_Compiler_worked.fn.ok (k := N + 2) sc_Compiler_worked (fun vs H Q E h => ?_) (fun cdv A outer s H vs Q E hr h => ?_)
  · obtain ⟨q, p, mA, code, rs, nm, ras, rows, n, t, rfl, _⟩ := h
    rfl
  · obtain ⟨q, p, mA, code, rs, nm, ras, rows, n, t, rfl, hC, hsub, hnd, hok, hN, hrl, qq⟩ := h
    have h_Compiler_come : Room 1 _ := hr.mono (by omega)
    have h_Compiler_used : Room 2 _ := hr.mono (by omega)
    have h_Shape_found : Room 1 _ := hr.mono (by omega)
    have h_Compiler_worked : Room (N + 2) _ := hr
    obtain ⟨dxq, ho⟩ := hC.o
    obtain ⟨dx, ta, nA, a, c, d, e, f, ch, ps0, hA, hnm, hm⟩ := hC.f.ex
    cases hnd with
    | mk b w its pps mm ks hS hF hD hk =>
    obtain ⟨ab, hrec⟩ := hsub.head
    have hsz : size (.mk (.ref b) w its pps mm ks) = 1 + sizeL ks := by simp only [size]
    have hlt := (List.getElem?_eq_some_iff.mp hrec).1
    have hcl : n < ch.length := by rw [hA.R.b.len]; exact hlt
    have hci : ch[n]? = some ch[n] := List.getElem?_eq_getElem hcl
    have hkid := hA.R.b.kid n _ _ hci hrec
    have hmk : mA ≠ ch[n] := fun z => hm (by rw [z]; simp)
    refine ⟨_, (pss_cons (ps_set (i := 2) nd rfl (Or.inl rfl) (pe_ix ix_list (pe_fld (pe_fld (pv 0) rfl) rfl) (pv 1) (fun _ _ => rfl)))
      (pss_cons (ps_set (i := 3) nd rfl (Or.inl rfl) (pe_ix ix_tup (pv 2) pe_int (fun _ _ => rfl)))
      (pss_cons (ps_set (i := 4) nd rfl (Or.inl rfl) (pe_ix ix_list (pe_fld (pe_fld (pv 0) rfl) rfl) (pv 1) (fun _ _ => rfl)))
      (pss_one (ps_if (pt_cmpR op_in_seq (pv 3) (pe_glob (v := .ref T.k_PLAIN.a) rfl T.k_PLAIN.m rfl) rfl)
      (pss_one (ps_expr (pe_meth (pv 0) T.Compiler.cl T.d_Compiler_come.me G_Compiler_come h_Compiler_come T.d_Compiler_come.b .nil pass0 (pa_cons (pv 1) (pa_cons pe_str (pa_cons (pe_tup (pa_cons (pe_ix ix_tup (pv 2) pe_int (fun _ _ => rfl)) pa_nil)) pa_nil))))))
      (pss_one (ps_if (pt_cmpR op_eq (pv 3) pe_str (nomark _))
      (pss_one (ps_expr (pe_meth (pv 0) T.Compiler.cl T.d_Compiler_come.me G_Compiler_come h_Compiler_come T.d_Compiler_come.b .nil pass0 (pa_cons (pv 1) (pa_cons pe_str (pa_cons (pe_tup (pa_cons pe_non pa_nil)) pa_nil))))))
      (pss_one (ps_if (pt_cmpR op_eq (pv 3) pe_str (nomark _))
      (pss_one (ps_expr (pe_meth (dvs := [.ref T.d_Compiler_come.E]) (pv 0) T.Compiler.cl T.d_Compiler_come.me G_Compiler_come h_Compiler_come T.d_Compiler_come.bd (.cons rfl .nil) pass0 (pa_cons (pv 1) (pa_cons pe_str pa_nil)))))
      (pss_one (ps_if (pt_cmpR op_eq (pv 3) pe_str (nomark _))
      (pss_one (ps_expr (pe_meth (pv 0) T.Compiler.cl T.d_Compiler_come.me G_Compiler_come h_Compiler_come T.d_Compiler_come.b .nil pass0 (pa_cons (pv 1) (pa_cons pe_str (pa_cons (pe_meth (pe_fld (pv 0) rfl) T.Shape.cl T.d_Shape_found.me G_Shape_found h_Shape_found T.d_Shape_found.b .nil pass0 (pa_cons (pe_ix ix_tup (pv 2) pe_int (fun _ _ => rfl)) (pa_cons (pe_ix ix_list (pe_fld (pe_fld (pv 0) rfl) rfl) (pv 1) (fun _ _ => rfl)) pa_nil))) pa_nil))))))
      (pss_one (ps_if (pt_cmpR op_eq (pv 3) pe_str (nomark _))
      (pss_one (ps_expr (pe_meth (pv 0) T.Compiler.cl T.d_Compiler_come.me G_Compiler_come h_Compiler_come T.d_Compiler_come.b .nil pass0 (pa_cons (pv 1) (pa_cons pe_str (pa_cons (pe_tup (pa_cons (pv 1) pa_nil)) pa_nil))))))
      (pss_one (ps_if (pt_cmpR op_in_seq (pv 3) (pe_tup (pa_cons pe_str (pa_cons pe_str pa_nil))) rfl)
      (pss_one (ps_expr (pe_meth (pv 0) T.Compiler.cl T.d_Compiler_come.me G_Compiler_come h_Compiler_come T.d_Compiler_come.b .nil pass0 (pa_cons (pv 1) (pa_cons (pv 3) (pa_cons (pe_tup (pa_cons (pe_ix ix_tup (pv 2) pe_int (fun _ _ => rfl)) pa_nil)) pa_nil))))))
      (pss_cons (ps_for PassesOwn.never rfl (pi_list (pv 4)) (pg_name (i := 5) nd rfl (Or.inl rfl))
      (pss_one (ps_expr (pe_meth (pv 0) T.Compiler.cl T.d_Compiler_worked.me G_Compiler_worked h_Compiler_worked T.d_Compiler_worked.b .nil pass0 (pa_cons (pv 5) pa_nil)))))
      (pss_one (ps_expr (pe_meth (pv 0) T.Compiler.cl T.d_Compiler_used.me G_Compiler_used h_Compiler_used T.d_Compiler_used.b .nil pass0 (pa_cons (pv 1) (pa_cons (pv 2) pa_nil))))))))))))))))))))), ?_⟩
    refine ⟨_, rfl, q, _, dxq, _, _, rfl, ho, T.Compiler.cl, T.Compiler.n_form, cpF_form _ _ _, p, _, dx, _, _, rfl, hA.R.o.ob, T.Shape.cl, T.Shape.n_nodes, hA.R.o.nodes, _, rfl, nA, _, _, V.ref b, rfl, rfl, SqL.of hA.R.b.hn, at_of (j := n) rfl (by rw [List.getElem?_map, hrec]; rfl), ?_⟩
    refine ⟨_, rfl, b, _, _, _, rfl, rfl, hS, at0, ?_⟩
    refine ⟨_, rfl, q, _, dxq, _, _, rfl, ho, T.Compiler.cl, T.Compiler.n_form, cpF_form _ _ _, p, _, dx, _, _, rfl, hA.R.o.ob, T.Shape.cl, T.Shape.n_children, hA.R.o.children, _, rfl, c, _, _, V.ref ch[n], rfl, rfl, SqL.of hA.R.b.hc, at_of (j := n) rfl (by rw [List.getElem?_map, hci]; rfl), ?_⟩
    refine ⟨_, rfl, T.k_PLAIN.a, _, rfl, .inr (T.k_PLAIN.t H), rfl, rfl, _, rfl, ?_⟩
    simp only [eOk] at hok
    have put : ∀ (word : Str) (more : List V) (mo : Addr) (H1 : Hp), Same H H1 → SqT K H1 mo more → more.length ≤ 10 → rE nm n [] (.mk (.ref b) w its pps mm ks) = [[vi n, .str word] ++ more] → ∀ (Q' : VK), (∀ v H', Q .non H' → Q' v H') →
        spCome K T.Shape.C T.Compiler.C [.ref q, vi n, .str word, .ref mo] H1 Q' E0 := by
      intro word more mo H1 s1 hmo hml hrow Q' hQ
      refine ⟨q, p, mA, code, rs, nm, ras, rows, (n : Int), word, mo, more, rfl, hC.same s1, hmo, hml, by omega, fun a' H' C' b' => hQ _ _ ?_⟩
      refine qq [a'] H' ?_ ((But.same s1).trans b')
      rw [hrow]
      exact C'
    have fin : ∀ (v : V) (H' : Hp), Q .non H' → Q .non H' := fun _ _ h => h
    have nb : ∀ x : Str, w = x → ∀ y : Str, ¬ x = y → ¬ w = y := fun x e y ne z => ne (by rw [← e, z])
    rcases hok with ⟨hw, y, rfl⟩ | rfl | rfl | ⟨rfl, x, rfl, hx⟩ | rfl | ⟨hw, x, rfl⟩ | ⟨hw, hks⟩
    · -- number, text, truth
      have hp : inV (.str w) [.str "number", .str "text", .str "truth"] = true := by
        have z : ∀ w, w ∈ plainW → inV (.str w) [.str "number", .str "text", .str "truth"] = true := by unfold plainW; decide +kernel
        exact z w hw
      refine iteY hp ⟨_, rfl, q, dxq, _, rfl, ho, rfl, _, rfl, _, rfl, b, _, _, _, rfl, rfl, hS, at1, (by show 1 ≤ sizeLine; decide), fun mo nmo => ?_⟩
      exact put "push" [y] mo _ (same_new nmo _) (SqT.of upd_same) (by simp) (by unfold rE; rw [if_pos hw]; rfl) _ fin
    · refine iteN (by decide +kernel) ?_
      walk_at "eqY"
      refine ⟨_, rfl, q, dxq, _, rfl, ho, rfl, _, rfl, (by show 1 ≤ sizeLine; decide), fun mo nmo => ?_⟩
      exact put "push" [.non] mo _ (same_new nmo _) (SqT.of upd_same) (by simp) (by unfold rE; rw [if_neg (by unfold plainW; decide +kernel), if_pos rfl]; rfl) _ fin
    · refine iteN (by decide +kernel) ?_
      walk_at "eqN"
      walk_at "eqY"
      refine ⟨_, rfl, q, dxq, _, rfl, ho, rfl, _, rfl, ?_⟩
      exact put "self" [] _ _ (Same.refl _) (T.d_Compiler_come.e0 _) (by simp) (by unfold rE; rw [if_neg (by unfold plainW; decide +kernel), if_neg (by decide +kernel), if_pos rfl]; rfl) _ fin
    · refine iteN (by decide +kernel) ?_
      walk_at "eqN"
      walk_at "eqN"
      walk_at "eqY"
      have hx' : among x nm = true := by
        cases e4 : among x nm with
        | true => rfl
        | false =>
          unfold lookN at hx
          rw [if_neg (by rw [e4]; decide)] at hx
          cases hx
      have hlook : lookN nm x 0 [] = some (0, idx x nm) := by unfold lookN; rw [if_pos hx']
      refine ⟨_, rfl, q, dxq, _, rfl, ho, rfl, _, rfl, _, rfl, q, _, dxq, _, _, rfl, ho, T.Compiler.cl, T.Compiler.n_form, cpF_form _ _ _, p, dx, _, rfl, hA.R.o.ob, hA.R.o.no.2.2.2.2.2.2, _, rfl, b, _, _, _, rfl, rfl, hS, at1, _, rfl, q, _, dxq, _, _, rfl, ho, T.Compiler.cl, T.Compiler.n_form, cpF_form _ _ _, p, _, dx, _, _, rfl, hA.R.o.ob, T.Shape.cl, T.Shape.n_code, hA.R.o.code, _, rfl, d, _, _, V.int (-1), rfl, rfl, SqL.of hA.R.b.hd, at_of (j := n) rfl (by rw [List.getElem?_map, hrec]; rfl), ?_⟩
      refine ⟨p, dx, ta, nA, a, c, d, e, f, ch, rs, ps0, x, rfl, hA, by rw [← hnm]; exact hx', fun mo H1 s1 h1 => ?_⟩
      rw [← hnm] at h1
      refine put "name" [vi 0, vi (idx x nm)] mo _ s1 h1 (by simp) ?_ _ fin
      unfold rE
      rw [if_neg (by unfold plainW; decide +kernel), if_neg (by decide +kernel), if_neg (by decide +kernel), if_pos rfl]
      show [nameRow nm n "name" x []] = _
      unfold nameRow
      rw [hlook]
    · refine iteN (by decide +kernel) ?_
      walk_at "eqN"
      walk_at "eqN"
      walk_at "eqN"
      walk_at "eqY"
      refine ⟨_, rfl, q, dxq, _, rfl, ho, rfl, _, rfl, _, rfl, (by show 1 ≤ sizeLine; decide), fun mo nmo => ?_⟩
      exact put "block" [vi n] mo _ (same_new nmo _) (SqT.of upd_same) (by simp) (by unfold rE; rw [if_neg (by unfold plainW; decide +kernel), if_neg (by decide +kernel), if_neg (by decide +kernel), if_neg (by decide +kernel), if_pos rfl]; rfl) _ fin
    · have z : ∀ w : Str, (w = "field" ∨ w = "new") → inV (.str w) [.str "number", .str "text", .str "truth"] = false ∧ decide (V.str w = V.str "none") = false ∧ decide (V.str w = V.str "self") = false ∧ decide (V.str w = V.str "name") = false ∧ decide (V.str w = V.str "block") = false ∧ inV (.str w) [.str "field", .str "new"] = true ∧ w ∉ plainW := by
        intro w h
        unfold plainW
        rcases h with rfl | rfl <;> decide +kernel
      obtain ⟨z1, z2, z3, z4, z5, z6, z7⟩ := z w hw
      refine iteN z1 ⟨_, rfl, rfl, _, rfl, iteN z2 ⟨_, rfl, rfl, _, rfl, iteN z3 ⟨_, rfl, rfl, _, rfl, iteN z4 ⟨_, rfl, rfl, _, rfl, iteN z5 ?_⟩⟩⟩⟩
      refine ⟨_, rfl, (by show 2 ≤ sizeLine; decide), fun p1 n1 => ⟨p1, _, rfl, .inr (SqT.of upd_same), rfl, rfl, _, rfl, iteY z6 ?_⟩⟩
      have s1 := same_new n1 (HO.tup [V.str "field", V.str "new"])
      refine ⟨_, rfl, q, dxq, _, rfl, s1 _ _ ho, rfl, _, rfl, _, rfl, _, rfl, b, _, _, _, rfl, rfl, s1.sqt hS, at1, (by show 1 ≤ sizeLine; decide), fun mo nmo => ?_⟩
      refine put w [.str x] mo _ (s1.trans (same_new nmo _)) (SqT.of upd_same) (by simp) ?_ _ fin
      unfold rE
      rw [if_neg z7, if_neg (fun q => (of_decide_eq_false z2) (by rw [q])), if_neg (fun q => (of_decide_eq_false z3) (by rw [q])), if_neg (fun q => (of_decide_eq_false z4) (by rw [q])), if_neg (fun q => (of_decide_eq_false z5) (by rw [q])), if_pos hw]
      rfl
    · have z : ∀ w : Str, (w = "send" ∨ w = "up" ∨ w = "list") → inV (.str w) [.str "number", .str "text", .str "truth"] = false ∧ decide (V.str w = V.str "none") = false ∧ decide (V.str w = V.str "self") = false ∧ decide (V.str w = V.str "name") = false ∧ decide (V.str w = V.str "block") = false ∧ inV (.str w) [.str "field", .str "new"] = false ∧ w ∉ plainW ∧ ¬ (w = "field" ∨ w = "new") ∧ w ∈ useW := by
        intro w h
        unfold plainW useW
        rcases h with rfl | rfl | rfl <;> decide +kernel
      obtain ⟨z1, z2, z3, z4, z5, z6, z7, z8, z9⟩ := z w hw
      have hnb : ¬ w = "block" := fun q => (of_decide_eq_false z5) (by rw [q])
      have hrE : rE nm n [] (.mk (.ref b) w its pps mm ks) = rEs nm (n + 1) [] ks ++ [usedRow n w its ks.length] := by
        unfold rE
        rw [if_neg z7, if_neg (fun q => (of_decide_eq_false z2) (by rw [q])), if_neg (fun q => (of_decide_eq_false z3) (by rw [q])), if_neg (fun q => (of_decide_eq_false z4) (by rw [q])), if_neg hnb, if_neg z8]
      refine iteN z1 ⟨_, rfl, rfl, _, rfl, iteN z2 ⟨_, rfl, rfl, _, rfl, iteN z3 ⟨_, rfl, rfl, _, rfl, iteN z4 ⟨_, rfl, rfl, _, rfl, iteN z5 ?_⟩⟩⟩⟩
      refine ⟨_, rfl, (by show 2 ≤ sizeLine; decide), fun p1 n1 => ⟨p1, _, rfl, .inr (SqT.of upd_same), rfl, rfl, _, rfl, iteN z6 ?_⟩⟩
      have s1 := same_new n1 (HO.tup [V.str "field", V.str "new"])
      have hsubk := hsub.kids
      rw [if_neg hnb, if_neg hnb] at hsubk
      generalize upd H p1 (.tup [V.str "field", V.str "new"]) = H1 at s1 ⊢
      refine ⟨_, rfl, ch[n], rfl, ⟨_, SqL.of (s1 _ _ hkid)⟩, ?_⟩
      refine for_list (K := K) (a := ch[n]) (xs := (kidNums (n + 1) ks).map V.int) (fun i σ H' => ∃ (v5 : Option V) (ras2 : List Addr), σ = [some (.ref q), some (vi n), some (.ref b), some (.str w), some (.ref ch[n]), v5] ∧ Cp K T.Shape.C T.Compiler.C H' q p mA code rs nm (ras ++ ras2) (rows ++ rEs nm (n + 1) [] (ks.take i)) ∧ But mA H H') ?_ ?_ ?_ ?_
      · exact ⟨none, [], rfl, by simp only [List.take_zero, rEs, List.append_nil]; exact hC.same s1, But.same s1⟩
      · rintro i σ H' _ ⟨_, _, _, _, b'⟩
        exact SqL.of (b' _ _ hkid hmk.symm)
      · rintro i y σ H' hi ⟨v5, ras2, rfl, C', b'⟩
        have hil : i < ks.length := by
          have := (List.getElem?_eq_some_iff.mp hi).1
          rw [List.length_map, kidNums_len] at this
          exact this
        have hki : ks[i]? = some ks[i] := List.getElem?_eq_getElem hil
        have ey : y = vi (n + 1 + sizeL (ks.take i)) := by
          rw [List.getElem?_map, kidNums_get hki] at hi
          exact (Option.some.inj hi).symm
        subst ey
        have htk : ks.take (i + 1) = ks.take i ++ [ks[i]] := by rw [List.take_add_one, hki]; rfl
        have hsum : sizeL (ks.take i) + size ks[i] ≤ sizeL ks := by
          have e1 : sizeL (ks.take (i + 1)) + sizeL (ks.drop (i + 1)) = sizeL ks := by rw [← sizeL_append, List.take_append_drop]
          rw [htk, sizeL_append] at e1
          simp only [sizeL] at e1
          omega
        have hlen1 := rEs_len nm [] (ks.take i) (n + 1)
        obtain ⟨dx', ho'⟩ := C'.o
        have kp' := b'.keep hC.b.l
        refine ⟨_, rfl, q, dx', _, rfl, ho', rfl, _, rfl, q, p, mA, code, rs, nm, _, _, n + 1 + sizeL (ks.take i), ks[i], rfl, C', hsubk.get hki, kp'.nd (hk _ (List.mem_of_getElem? hki)), esOk_get hks hki, by omega, by rw [List.length_append]; omega, fun ras3 H6 C6 b6 => ?_⟩
        refine ⟨_, ras2 ++ ras3, rfl, ?_, b'.trans b6⟩
        rw [htk, rEs_append, ← List.append_assoc, ← List.append_assoc]
        simp only [rEs, List.append_nil]
        exact C6
      · rintro σ H' ⟨v5, ras2, rfl, C', b'⟩
        rw [List.length_map, kidNums_len, List.take_length] at C'
        obtain ⟨dx', ho'⟩ := C'.o
        have kp' := b'.keep hC.b.l
        have hlen1 := rEs_len nm [] ks (n + 1)
        refine ⟨_, rfl, q, dx', _, rfl, ho', rfl, _, rfl, _, rfl, q, p, mA, code, rs, nm, _, _, n, b, w, its, pps, mm, ks.map Nd.v, rfl, C', kp'.sqt hS, kp'.form hF, z9, by rw [List.length_append]; omega, fun a' H6 C6 b6 => ?_⟩
        refine qq (ras2 ++ [a']) H6 ?_ (b'.trans b6)
        rw [hrE, ← List.append_assoc, ← List.append_assoc]
        rw [List.length_map] at C6
        exact C6
theorem ok_worked (T : Tx K mg) : ∀ N : Nat, FnOk P w K mg base CX0 (N + 2) T.d_Compiler_worked.f T.d_Compiler_worked.fd ["self", "at"] (spWorked K T.Shape.C T.Compiler.C N)
  | 0 => fn_never fun vs H Q E h => by
    obtain ⟨_, _, _, _, _, _, _, _, _, t, _, _, _, _, _, h, _⟩ := h
    have := size_pos t
    omega
  | N + 1 => ok_worked1 T (ok_worked T N)
end
end My

set_option Elab.async false
set_option linter.all false
set_option maxRecDepth 100000
set_option maxHeartbeats 4000000
namespace My
open PySem L2
/-! ### rows of statements: their laws -/
abbrev rSs (nm : List Str) (s n : Nat) (h : List (List Str)) (ts : List Nd) : List (List V) := rSr nm s n h 0 ts
theorem rSs_nil (nm : List Str) (s n : Nat) (h : List (List Str)) : rSs nm s n h [] = [] := by simp only [rSs, rSr]
theorem rSs_cons (nm : List Str) (s n : Nat) (h : List (List Str)) (k : Nd) (ks : List Nd) : rSs nm s n h (k :: ks) = rS nm s n h k ++ rSs nm (s + (rS nm s n h k).length) (n + size k) h ks := by simp only [rSs, rSr]
theorem rSf_take (nm : List Str) (h : List (List Str)) : ∀ (ks : List Nd) (m s n : Nat), rSf nm s n h m ks = rSs nm s n h (ks.take m)
  | [], m, s, n => by
    rw [List.take_nil, rSs_nil]
    cases m <;> simp only [rSf]
  | k :: ks, 0, s, n => by
    rw [List.take_zero, rSs_nil]
    simp only [rSf]
  | k :: ks, m + 1, s, n => by
    rw [List.take_succ_cons, rSs_cons]
    simp only [rSf]
    rw [rSf_take nm h ks m]
theorem rSr_drop (nm : List Str) (h : List (List Str)) : ∀ (ks : List Nd) (m s n : Nat), rSr nm s n h m ks = rSs nm s (n + sizeL (ks.take m)) h (ks.drop m)
  | [], m, s, n => by
    rw [List.drop_nil, rSs_nil]
    simp only [rSr]
  | k :: ks, 0, s, n => by
    rw [List.take_zero, List.drop_zero]
    simp only [sizeL, Nat.add_zero]
  | k :: ks, m + 1, s, n => by
    rw [List.take_succ_cons, List.drop_succ_cons]
    simp only [rSr, sizeL]
    rw [rSr_drop nm h ks m, Nat.add_assoc]
theorem rSs_append (nm : List Str) (h : List (List Str)) : ∀ (xs ys : List Nd) (s n : Nat), rSs nm s n h (xs ++ ys) = rSs nm s n h xs ++ rSs nm (s + (rSs nm s n h xs).length) (n + sizeL xs) h ys
  | [], ys, s, n => by
    rw [List.nil_append, rSs_nil]
    simp only [List.nil_append, List.length_nil, Nat.add_zero, sizeL]
  | x :: xs, ys, s, n => by
    rw [List.cons_append, rSs_cons, rSs_cons, rSs_append nm h xs ys, List.append_assoc, List.length_append]
    simp only [sizeL]
    rw [Nat.add_assoc, Nat.add_assoc]
theorem set_mid {α : Type} (A B : List α) (x y : α) {j : Nat} (hj : j = A.length) : (A ++ x :: B).set j y = A ++ y :: B := by
  subst hj
  rw [List.set_append_right _ _ (Nat.le_refl _), Nat.sub_self]
  rfl
theorem get_mid {α : Type} (A B : List α) (x : α) {j : Nat} (hj : j = A.length) : (A ++ x :: B)[j]? = some x := by
  subst hj
  rw [List.getElem?_append_right (Nat.le_refl _), Nat.sub_self]
  rfl
mutual
def hgt : Nd → Nat
  | .mk _ _ _ _ _ ks => 1 + hgtL ks
def hgtL : List Nd → Nat
  | [] => 0
  | k :: ks => max (hgt k) (hgtL ks)
end
theorem hgtL_mem : ∀ {ts : List Nd} {t : Nd}, t ∈ ts → hgt t ≤ hgtL ts
  | [], t, h => by simp at h
  | k :: ks, t, h => by
    simp only [hgtL]
    rcases List.mem_cons.mp h with e | e
    · subst e; omega
    · have := hgtL_mem e; omega
theorem hgtL_sub {N : Nat} : ∀ {ts : List Nd}, (∀ t, t ∈ ts → hgt t ≤ N) → hgtL ts ≤ N
  | [], h => by simp only [hgtL]; omega
  | k :: ks, h => by
    simp only [hgtL]
    have h1 := h k (by simp)
    have h2 := hgtL_sub (ts := ks) (fun t ht => h t (by simp [ht]))
    omega
mutual
def sOk (nm : List Str) : Nd → Prop
  | .mk _ w its _ _ ks => match ks with
    | [] => w = "try" ∧ ∃ a x b, its = [a, .str x, b] ∧ among x nm = true
    | k :: r => (w ∈ oneW ∧ r = [] ∧ eOk nm [] k) ∨ (w = "set" ∧ r = [] ∧ eOk nm [] k ∧ ∃ x e, its = [.str x, e] ∧ among x nm = true) ∨ (w = "setfield" ∧ r = [] ∧ eOk nm [] k ∧ ∃ x e, its = [.str x, e]) ∨
        (w = "try" ∧ sOk nm k ∧ ssOk nm r ∧ ∃ a x b, its = [a, .str x, b] ∧ among x nm = true) ∨ ((w = "if" ∨ w = "while") ∧ eOk nm [] k ∧ ssOk nm r)
def ssOk (nm : List Str) : List Nd → Prop
  | [] => True
  | k :: ks => sOk nm k ∧ ssOk nm ks
end
theorem ssOk_get {nm : List Str} : ∀ {ks : List Nd} {i : Nat} {k : Nd}, ssOk nm ks → ks[i]? = some k → sOk nm k
  | [], i, k, s, e => by simp at e
  | t :: ts, 0, k, s, e => by
    have e' : t = k := Option.some.inj e
    subst e'
    simp only [ssOk] at s
    exact s.1
  | t :: ts, i + 1, k, s, e => by
    rw [List.getElem?_cons_succ] at e
    simp only [ssOk] at s
    exact ssOk_get s.2 e
theorem ssOk_take {nm : List Str} : ∀ {ks : List Nd} {m : Nat}, ssOk nm ks → ssOk nm (ks.take m)
  | [], m, s => by rw [List.take_nil]; exact s
  | t :: ts, 0, s => by rw [List.take_zero]; simp only [ssOk]
  | t :: ts, m + 1, s => by
    simp only [ssOk] at s
    rw [List.take_succ_cons]
    simp only [ssOk]
    exact ⟨s.1, ssOk_take s.2⟩
theorem ssOk_drop {nm : List Str} : ∀ {ks : List Nd} {m : Nat}, ssOk nm ks → ssOk nm (ks.drop m)
  | [], m, s => by rw [List.drop_nil]; exact s
  | t :: ts, 0, s => by rw [List.drop_zero]; exact s
  | t :: ts, m + 1, s => by
    simp only [ssOk] at s
    rw [List.drop_succ_cons]
    exact ssOk_drop s.2
theorem SubL.take {rs : List Rec} {c : Int} {h : List (List Str)} {ks : List Nd} {n : Nat} (s : SubL rs n c h ks) (m : Nat) : SubL rs n c h (ks.take m) := by
  obtain ⟨pre, post, ab, e, hl⟩ := s.ex
  refine ⟨pre, recsL (n + sizeL (ks.take m)) ab c h (ks.drop m) ++ post, ab, ?_, hl⟩
  rw [e]
  have : recsL n ab c h ks = recsL n ab c h (ks.take m) ++ recsL (n + sizeL (ks.take m)) ab c h (ks.drop m) := by
    rw [← recsL_append, List.take_append_drop]
  rw [this]
  simp only [List.append_assoc]
theorem SubL.drop {rs : List Rec} {c : Int} {h : List (List Str)} {ks : List Nd} {n : Nat} (s : SubL rs n c h ks) (m : Nat) : SubL rs (n + sizeL (ks.take m)) c h (ks.drop m) := by
  obtain ⟨pre, post, ab, e, hl⟩ := s.ex
  refine ⟨pre ++ recsL n ab c h (ks.take m), post, ab, ?_, by rw [List.length_append, recsL_len, hl]⟩
  rw [e]
  have : recsL n ab c h ks = recsL n ab c h (ks.take m) ++ recsL (n + sizeL (ks.take m)) ab c h (ks.drop m) := by
    rw [← recsL_append, List.take_append_drop]
  rw [this]
  simp only [List.append_assoc]
theorem kidNums_take : ∀ (ks : List Nd) (n m : Nat), (kidNums n ks).take m = kidNums n (ks.take m)
  | [], n, m => by simp [kidNums]
  | k :: ks, n, 0 => by simp [kidNums]
  | k :: ks, n, m + 1 => by
    simp only [kidNums, List.take_succ_cons]
    rw [kidNums_take ks]
theorem kidNums_drop : ∀ (ks : List Nd) (n m : Nat), (kidNums n ks).drop m = kidNums (n + sizeL (ks.take m)) (ks.drop m)
  | [], n, m => by simp [kidNums]
  | k :: ks, n, 0 => by simp [kidNums, sizeL]
  | k :: ks, n, m + 1 => by
    simp only [kidNums, List.drop_succ_cons, List.take_succ_cons, sizeL]
    rw [kidNums_drop ks, Nat.add_assoc]
theorem cut_drop (xs : List V) (m : Nat) (hm : m ≤ xs.length) : cutV xs (some (m : Int)) none = xs.drop m := by
  unfold cutV
  rw [show HT.sIx xs.length 0 (some (m : Int)) = min m xs.length from HT.sIx_nat xs.length 0 m, HT.sIx_none, Nat.min_eq_left hm]
  rw [List.take_of_length_le (by rw [List.length_drop]; omega)]
theorem cut_take (xs : List V) (m : Nat) (hm : m ≤ xs.length) : cutV xs none (some (m : Int)) = xs.take m := by
  unfold cutV
  rw [HT.sIx_none, show HT.sIx xs.length xs.length (some (m : Int)) = min m xs.length from HT.sIx_nat xs.length xs.length m, Nat.min_eq_left hm, Nat.sub_zero]
  rfl
theorem cut_mid (xs : List V) (l m : Nat) (hl : l ≤ m) (hm : m ≤ xs.length) : cutV xs (some (l : Int)) (some (m : Int)) = (xs.drop l).take (m - l) := by
  unfold cutV
  rw [show HT.sIx xs.length 0 (some (l : Int)) = min l xs.length from HT.sIx_nat xs.length 0 l, show HT.sIx xs.length xs.length (some (m : Int)) = min m xs.length from HT.sIx_nat xs.length xs.length m, Nat.min_eq_left hm, Nat.min_eq_left (by omega)]
mutual
theorem rS_len (nm : List Str) (h : List (List Str)) : ∀ (t : Nd) (s n : Nat), (rS nm s n h t).length ≤ 5 * size t
  | .mk v w its ps m ks, s, n => by
    match ks with
    | [] =>
      simp only [rS, size, sizeL]
      split <;> simp
    | k :: r =>
      have e1 := rE_len nm h k (n + 1)
      have f1 := rSf_len nm h (k :: r) m
      have f2 := rSf_len nm h r m
      have hk := size_pos k
      have hs : size (.mk v w its ps m (k :: r)) = 1 + (size k + sizeL r) := by simp only [size, sizeL]
      rw [hs]
      simp only [rS]
      repeat' split
      all_goals try simp only [List.length_append, List.length_cons, List.length_nil]
      all_goals first
        | omega
        | (have g1 := f1 (s + 2) (n + 1) (s + 2 + (rSf nm (s + 2) (n + 1) h m (k :: r)).length + 3); simp only [sizeL] at g1; omega)
        | (have g2 := f2 (s + 1 + (rE nm (n + 1) h k).length + 1) (n + 1 + size k) (s + 1 + (rE nm (n + 1) h k).length + 1 + (rSf nm (s + 1 + (rE nm (n + 1) h k).length + 1) (n + 1 + size k) h m r).length + 1); omega)
theorem rSf_len (nm : List Str) (h : List (List Str)) : ∀ (ts : List Nd) (m s n s' : Nat), (rSf nm s n h m ts).length + (rSr nm s' n h m ts).length ≤ 5 * sizeL ts
  | [], m, s, n, s' => by
    cases m <;> simp [rSf, rSr, sizeL]
  | t :: ts, 0, s, n, s' => by
    have h1 := rS_len nm h t s' n
    have h2 := rSf_len nm h ts 0 s (n + size t) (s' + (rS nm s' n h t).length)
    simp only [rSf, rSr, sizeL, List.length_append, List.length_nil] at h2 ⊢
    omega
  | t :: ts, m + 1, s, n, s' => by
    have h1 := rS_len nm h t s n
    have h2 := rSf_len nm h ts m (s + (rS nm s n h t).length) (n + size t) s'
    simp only [rSf, rSr, sizeL, List.length_append]
    omega
end
theorem rSs_len (nm : List Str) (h : List (List Str)) (ts : List Nd) (s n : Nat) : (rSs nm s n h ts).length ≤ 5 * sizeL ts := by
  have := rSf_len nm h ts 0 s n s
  unfold rSs
  omega
end My

set_option Elab.async false
set_option linter.all false
set_option maxRecDepth 100000
set_option maxHeartbeats 4000000
namespace My
open PySem L2
section
variable {nm : List Str} {s n : Nat} {v : V} {w : Str} {its : List V} {ps : List Str} {m : Nat} {k : Nd} {r : List Nd}
theorem rS_one (hw : w ∈ oneW) : rS nm s n [] (.mk v w its ps m (k :: r)) = [[vi n, .str "beat"]] ++ rE nm (n + 1) [] k ++ [[vi n, .str (if w = "do" then "drop" else w)]] := by
  simp only [rS]
  rw [if_pos hw]
theorem rS_set : rS nm s n [] (.mk v "set" its ps m (k :: r)) = [[vi n, .str "beat"]] ++ rE nm (n + 1) [] k ++ [nameRow nm n "setname" (xOf its 0) []] := by
  simp only [rS]
  rw [if_neg (by unfold oneW; decide +kernel)]
  rfl
theorem rS_setfield : rS nm s n [] (.mk v "setfield" its ps m (k :: r)) = [[vi n, .str "beat"]] ++ rE nm (n + 1) [] k ++ [[vi n, .str "setfield", its.getD 0 .non]] := by
  simp only [rS]
  rw [if_neg (by unfold oneW; decide +kernel), if_neg (by decide +kernel)]
  rfl
theorem rS_while : rS nm s n [] (.mk v "while" its ps m (k :: r)) =
    [[vi n, .str "beat"]] ++ rE nm (n + 1) [] k ++ [[vi n, .str "unless", vi (s + 1 + (rE nm (n + 1) [] k).length + 1 + (rSs nm (s + 1 + (rE nm (n + 1) [] k).length + 1) (n + 1 + size k) [] (r.take m)).length + 1)]] ++ rSs nm (s + 1 + (rE nm (n + 1) [] k).length + 1) (n + 1 + size k) [] (r.take m) ++ [[vi n, .str "jump", vi s]] := by
  simp only [rS]
  rw [if_neg (by unfold oneW; decide +kernel), if_neg (by decide +kernel), if_neg (by decide +kernel), if_neg (by decide +kernel), if_pos trivial, rSf_take]
theorem rS_if : rS nm s n [] (.mk v "if" its ps m (k :: r)) =
    [[vi n, .str "beat"]] ++ rE nm (n + 1) [] k ++ [[vi n, .str "unless", vi (s + 1 + (rE nm (n + 1) [] k).length + 1 + (rSs nm (s + 1 + (rE nm (n + 1) [] k).length + 1) (n + 1 + size k) [] (r.take m)).length + 1)]] ++ rSs nm (s + 1 + (rE nm (n + 1) [] k).length + 1) (n + 1 + size k) [] (r.take m) ++
      [[vi n, .str "jump", vi (s + 1 + (rE nm (n + 1) [] k).length + 1 + (rSs nm (s + 1 + (rE nm (n + 1) [] k).length + 1) (n + 1 + size k) [] (r.take m)).length + 1 + (rSs nm (s + 1 + (rE nm (n + 1) [] k).length + 1 + (rSs nm (s + 1 + (rE nm (n + 1) [] k).length + 1) (n + 1 + size k) [] (r.take m)).length + 1) (n + 1 + size k + sizeL (r.take m)) [] (r.drop m)).length)]] ++
      rSs nm (s + 1 + (rE nm (n + 1) [] k).length + 1 + (rSs nm (s + 1 + (rE nm (n + 1) [] k).length + 1) (n + 1 + size k) [] (r.take m)).length + 1) (n + 1 + size k + sizeL (r.take m)) [] (r.drop m) := by
  simp only [rS]
  rw [if_neg (by unfold oneW; decide +kernel), if_neg (by decide +kernel), if_neg (by decide +kernel), if_neg (by decide +kernel), if_neg (by decide +kernel), rSf_take, rSr_drop]
end
theorem rS_try {nm : List Str} {s n : Nat} {v : V} {its : List V} {ps : List Str} {m : Nat} {ks : List Nd} : rS nm s n [] (.mk v "try" its ps m ks) =
    [[vi n, .str "beat"], [vi n, .str "try", vi (s + 2 + (rSs nm (s + 2) (n + 1) [] (ks.take m)).length + 2)]] ++ rSs nm (s + 2) (n + 1) [] (ks.take m) ++
      [[vi n, .str "untry"], [vi n, .str "jump", vi (s + 2 + (rSs nm (s + 2) (n + 1) [] (ks.take m)).length + 3 + (rSs nm (s + 2 + (rSs nm (s + 2) (n + 1) [] (ks.take m)).length + 3) (n + 1 + sizeL (ks.take m)) [] (ks.drop m)).length)], nameRow nm n "setname" (xOf its 1) []] ++
      rSs nm (s + 2 + (rSs nm (s + 2) (n + 1) [] (ks.take m)).length + 3) (n + 1 + sizeL (ks.take m)) [] (ks.drop m) := by
  cases ks with
  | nil =>
    simp only [rS, List.take_nil, List.drop_nil, rSs_nil, List.length_nil, Nat.add_zero]
    rfl
  | cons k r =>
    simp only [rS]
    rw [if_neg (by unfold oneW; decide +kernel), if_neg (by decide +kernel), if_neg (by decide +kernel), if_pos trivial, rSf_take, rSr_drop]
def spAllDone (K : PySem.W.Frag) (CS CC : Addr) (N : Nat) : Sp := fun vs H Q _ => ∃ (q p mA : Addr) (code : Int) (rs : List Rec) (nm : List Str) (ras : List Addr) (rows : List (List V)) (n : Nat) (ts : List Nd) (L : Addr), vs = [.ref q, .ref L] ∧
  Cp K CS CC H q p mA code rs nm ras rows ∧ H L = some (.lst ((kidNums n ts).map V.int)) ∧ L ≠ mA ∧ SubL rs n (-1) [] ts ∧ (∀ t, t ∈ ts → NdAt K H t) ∧ ssOk nm ts ∧ hgtL ts ≤ N ∧ sizeL ts ≤ 160 ∧ rows.length + 5 * sizeL ts ≤ 5000 ∧
  ∀ (ras2 : List Addr) (H' : Hp), Cp K CS CC H' q p mA code rs nm ras2 (rows ++ rSs nm rows.length n [] ts) → But mA H H' → Q .non H'
def spDone (K : PySem.W.Frag) (CS CC : Addr) (N : Nat) : Sp := fun vs H Q _ => ∃ (q p mA : Addr) (code : Int) (rs : List Rec) (nm : List Str) (ras : List Addr) (rows : List (List V)) (n : Nat) (t : Nd), vs = [.ref q, vi n] ∧
  Cp K CS CC H q p mA code rs nm ras rows ∧ Sub rs n (-1) [] t ∧ NdAt K H t ∧ sOk nm t ∧ hgt t ≤ N ∧ size t ≤ 160 ∧ rows.length + 5 * size t ≤ 5000 ∧
  ∀ (ras2 : List Addr) (H' : Hp), Cp K CS CC H' q p mA code rs nm ras2 (rows ++ rS nm rows.length n [] t) → But mA H H' → Q .non H'
/-- chosen and tried: the beat stands already -/
def spMidW (K : PySem.W.Frag) (CS CC : Addr) (N : Nat) (W : List Str) (five : Bool) : Sp := fun vs H Q _ => ∃ (q p mA : Addr) (code : Int) (rs : List Rec) (nm : List Str) (ras : List Addr) (rows : List (List V)) (n : Nat) (b : Addr) (w : Str) (its : List V) (ps : List Str) (m : Nat) (ks : List Nd) (kA : Addr),
  vs = [.ref q, vi n, .ref b, .ref kA] ++ (if five then [vi rows.length] else []) ∧ w ∈ W ∧
  Cp K CS CC H q p mA code rs nm ras (rows ++ [[vi n, .str "beat"]]) ∧ H kA = some (.lst ((kidNums (n + 1) ks).map V.int)) ∧ kA ≠ mA ∧ Sub rs n (-1) [] (.mk (.ref b) w its ps m ks) ∧ NdAt K H (.mk (.ref b) w its ps m ks) ∧ sOk nm (.mk (.ref b) w its ps m ks) ∧ hgtL ks ≤ N ∧
  size (.mk (.ref b) w its ps m ks) ≤ 160 ∧ rows.length + 5 * size (.mk (.ref b) w its ps m ks) ≤ 5000 ∧
  ∀ (ras2 : List Addr) (H' : Hp), Cp K CS CC H' q p mA code rs nm ras2 (rows ++ rS nm rows.length n [] (.mk (.ref b) w its ps m ks)) → But mA H H' → Q .non H'
section
variable {P : Program} {w : World} {K : PySem.W.Frag} {mg : Str → Option Value} {base : Heap}
theorem ok_all_done (T : Tx K mg) {N : Nat} {lv : Nat} (G_Compiler_done : FnOk P w K mg base CX0 lv T.d_Compiler_done.f T.d_Compiler_done.fd ["self", "at"] (spDone K T.Shape.C T.Compiler.C N)) :
    FnOk P w K mg base CX0 (lv + 1) T.d_Compiler_all_done.f T.d_Compiler_all_done.fd ["self", "numbers"] (spAllDone K T.Shape.C T.Compiler.C N) := by
  have nd := sc_Compiler_all_done.nd
  refine T.d_Compiler_all_done.fn.ok (k := lv) sc_Compiler_all_done (fun vs H Q E h => ?_) (fun cdv A outer s H vs Q E hr h => ?_)
  · obtain ⟨q, p, mA, code, rs, nm, ras, rows, n, ts, L, rfl, _⟩ := h
    rfl
  · obtain ⟨q, p, mA, code, rs, nm, ras, rows, n, ts, L, rfl, hC, hL, hLm, hsub, hnd, hok, hh, hsz, hrl, qq⟩ := h
    have h_Compiler_done := hr
    refine ⟨_, (pss_one (ps_for PassesOwn.never rfl (pi_list (pv 1)) (pg_name (i := 2) nd rfl (Or.inl rfl))
      (pss_one (ps_expr (pe_meth (pv 0) T.Compiler.cl T.d_Compiler_done.me G_Compiler_done h_Compiler_done T.d_Compiler_done.b .nil pass0 (pa_cons (pv 2) pa_nil)))))), ?_⟩
    refine ⟨_, rfl, L, rfl, ⟨_, SqL.of hL⟩, ?_⟩
    refine for_list (K := K) (a := L) (xs := (kidNums n ts).map V.int) (fun i σ H' => ∃ (v2 : Option V) (ras2 : List Addr), σ = [some (.ref q), some (.ref L), v2] ∧ Cp K T.Shape.C T.Compiler.C H' q p mA code rs nm ras2 (rows ++ rSs nm rows.length n [] (ts.take i)) ∧ But mA H H') ?_ ?_ ?_ ?_
    · exact ⟨none, ras, rfl, by rw [List.take_zero, rSs_nil, List.append_nil]; exact hC, But.refl _ _⟩
    · rintro i σ H' _ ⟨_, _, _, _, b'⟩
      exact SqL.of (b' _ _ hL hLm)
    · rintro i y σ H' hi ⟨v2, ras2, rfl, C', b'⟩
      have hil : i < ts.length := by
        have := (List.getElem?_eq_some_iff.mp hi).1
        rw [List.length_map, kidNums_len] at this
        exact this
      have hki : ts[i]? = some ts[i] := List.getElem?_eq_getElem hil
      have ey : y = vi (n + sizeL (ts.take i)) := by
        rw [List.getElem?_map, kidNums_get hki] at hi
        exact (Option.some.inj hi).symm
      subst ey
      have htk : ts.take (i + 1) = ts.take i ++ [ts[i]] := by rw [List.take_add_one, hki]; rfl
      have hsum : sizeL (ts.take i) + size ts[i] ≤ sizeL ts := by
        have e1 : sizeL (ts.take (i + 1)) + sizeL (ts.drop (i + 1)) = sizeL ts := by rw [← sizeL_append, List.take_append_drop]
        rw [htk, sizeL_append] at e1
        simp only [sizeL] at e1
        omega
      have hlen1 := rSs_len nm [] (ts.take i) rows.length n
      have hm := List.mem_of_getElem? hki
      have hh' := hgtL_mem hm
      obtain ⟨dx', ho'⟩ := C'.o
      have kp' := b'.keep hC.b.l
      refine ⟨_, rfl, q, dx', _, rfl, ho', rfl, _, rfl, q, p, mA, code, rs, nm, _, _, n + sizeL (ts.take i), ts[i], rfl, C', hsub.get hki, kp'.nd (hnd _ hm), ssOk_get hok hki, by omega, by omega, by rw [List.length_append]; omega, fun ras3 H6 C6 b6 => ?_⟩
      refine ⟨_, ras3, rfl, ?_, b'.trans b6⟩
      rw [htk, rSs_append, rSs_cons, rSs_nil, List.append_nil, ← List.append_assoc]
      rw [List.length_append] at C6
      exact C6
    · rintro σ H' ⟨v2, ras2, rfl, C', b'⟩
      rw [List.length_map, kidNums_len, List.take_length] at C'
      exact qq ras2 H' C' b'
end
end My

set_option Elab.async false
set_option linter.all false
set_option maxRecDepth 100000
set_option maxHeartbeats 4000000
namespace My
open PySem L2
theorem cp_len {K : PySem.W.Frag} {CS CC : Addr} {H : Hp} {q p mA : Addr} {code : Int} {rs : List Rec} {nm : List Str} {ras : List Addr} {rows rows' : List (List V)} (h : Cp K CS CC H q p mA code rs nm ras rows) (e : rows = rows') : Cp K CS CC H q p mA code rs nm ras rows' := by rw [← e]; exact h
theorem turn_its {K : PySem.W.Frag} {H : Hp} {w : Str} {its : List V} {ps : List Str} {m : Nat} {ks : List V} (f : Form K H w its ps m ks) (hw : w = "if" ∨ w = "while") :
    ∃ (e : V) (a : Addr) (rest xs : List V), its = e :: .ref a :: rest ∧ SqT K H a xs ∧ m = xs.length ∧ m + 1 ≤ ks.length := by
  cases f with
  | cond e a b xs ys h1 h2 => exact ⟨e, a, _, xs, rfl, h1, rfl, by simp⟩
  | loop e a xs h1 => exact ⟨e, a, _, xs, rfl, h1, rfl, by simp⟩
  | one w h e =>
    exfalso
    revert h
    unfold oneW
    rcases hw with rfl | rfl <;> decide +kernel
  | leaf w h its =>
    exfalso
    revert h
    unfold leafW
    rcases hw with rfl | rfl <;> decide +kernel
  | _ => exact absurd hw (by decide +kernel)
section
variable {P : Program} {w : World} {K : PySem.W.Frag} {mg : Str → Option Value} {base : Heap}
theorem ok_chosen (T : Tx K mg) {N : Nat} {lv : Nat} (hlv : 162 ≤ lv) (G_Compiler_all_done : FnOk P w K mg base CX0 lv T.d_Compiler_all_done.f T.d_Compiler_all_done.fd ["self", "numbers"] (spAllDone K T.Shape.C T.Compiler.C N)) :
    FnOk P w K mg base CX0 (lv + 1) T.d_Compiler_chosen.f T.d_Compiler_chosen.fd ["self", "at", "node", "kids", "beat"] (spMidW K T.Shape.C T.Compiler.C N ["if", "while"] true) := by
  have nd := sc_Compiler_chosen.nd
  have G_Compiler_come := ok_come (P := P) (w := w) (base := base) T
  have G_Compiler_mend := ok_mend (P := P) (w := w) (base := base) T
  have G_Compiler_worked := ok_worked (P := P) (w := w) (base := base) T 160
  refine T.d_Compiler_chosen.fn.ok (k := lv) sc_Compiler_chosen (fun vs H Q E h => ?_) (fun cdv A outer s H vs Q E hr h => ?_)
  · obtain ⟨q, p, mA, code, rs, nm, ras, rows, n, b, w, its, ps, m, ks, kA, rfl, _⟩ := h
    rfl
  · obtain ⟨q, p, mA, code, rs, nm, ras, rows, n, b, w, its, ps, m, ks, kA, rfl, hw, hC, hkA, hkm, hsub, hnd, hok, hh, hsz, hrl, qq⟩ := h
    have h_Compiler_come : Room 1 _ := hr.mono (by omega)
    have h_Compiler_mend : Room 1 _ := hr.mono (by omega)
    have h_Compiler_worked : Room 162 _ := hr.mono (by omega)
    have h_Compiler_all_done : Room lv _ := hr
    have hw' : w = "if" ∨ w = "while" := by simpa using hw
    have hnd0 := hnd
    cases hnd with
    | mk _ _ _ _ _ _ hS hF hD hk =>
    obtain ⟨e0, a0, rest, xs, hits, hxs, hm, hml⟩ := turn_its hF hw'
    rw [List.length_map] at hml
    cases ks with
    | nil => simp at hml
    | cons k r =>
    have hml' : m ≤ r.length := by simpa using hml
    have hok' : eOk nm [] k ∧ ssOk nm r := by
      have z1 : ∀ w : Str, (w = "if" ∨ w = "while") → w ∉ oneW ∧ ¬ w = "set" ∧ ¬ w = "setfield" ∧ ¬ w = "try" := by
        intro w h
        unfold oneW
        rcases h with rfl | rfl <;> decide +kernel
      obtain ⟨y1, y2, y3, y4⟩ := z1 w hw'
      simp only [sOk] at hok
      rcases hok with ⟨h, _⟩ | ⟨h, _⟩ | ⟨h, _⟩ | ⟨h, _⟩ | ⟨_, h1, h2⟩
      · exact absurd h y1
      · exact absurd h y2
      · exact absurd h y3
      · exact absurd h y4
      · exact ⟨h1, h2⟩
    have hnb : ¬ w = "block" := by rcases hw' with rfl | rfl <;> decide +kernel
    have hsubk := hsub.kids
    rw [if_neg hnb, if_neg hnb] at hsubk
    obtain ⟨hsk, hsr⟩ := hsubk.cons
    have hsize : size (.mk (.ref b) w its ps m (k :: r)) = 1 + (size k + sizeL r) := by simp only [size, sizeL]
    have hpk := size_pos k
    have hhr : hgtL r ≤ N := by simp only [hgtL] at hh; omega
    obtain ⟨dx, ho⟩ := hC.o
    rw [hits] at hS
    refine ⟨_, (pss_cons (ps_set (i := 5) nd rfl (Or.inl rfl) (pe_op op_add pe_int (pe_callB call_len_seq (by rfl) T.z_len PySem.boot_len (pa_cons (pe_ix ix_tup (pv 2) pe_int (fun _ _ => rfl)) pa_nil))))
      (pss_cons (ps_expr (pe_meth (pv 0) T.Compiler.cl T.d_Compiler_worked.me G_Compiler_worked h_Compiler_worked T.d_Compiler_worked.b .nil pass0 (pa_cons (pe_ix ix_list (pv 3) pe_int (fun _ _ => rfl)) pa_nil)))
      (pss_cons (ps_set (i := 6) nd rfl (Or.inl rfl) (pe_meth (pv 0) T.Compiler.cl T.d_Compiler_come.me G_Compiler_come h_Compiler_come T.d_Compiler_come.b .nil pass0 (pa_cons (pv 1) (pa_cons pe_str (pa_cons (pe_tup (pa_cons pe_int pa_nil)) pa_nil)))))
      (pss_cons (ps_expr (pe_meth (pv 0) T.Compiler.cl T.d_Compiler_all_done.me G_Compiler_all_done h_Compiler_all_done T.d_Compiler_all_done.b .nil pass0 (pa_cons (pe_slice sl_list (pv 3) (po_some pe_int) (po_some (pv 5))) pa_nil)))
      (pss_one (ps_if (pt_cmpR op_eq (pe_ix ix_tup (pv 2) pe_int (fun _ _ => rfl)) pe_str (nomark _))
      (pss_cons (ps_expr (pe_meth (pv 0) T.Compiler.cl T.d_Compiler_come.me G_Compiler_come h_Compiler_come T.d_Compiler_come.b .nil pass0 (pa_cons (pv 1) (pa_cons pe_str (pa_cons (pe_tup (pa_cons (pv 4) pa_nil)) pa_nil)))))
      (pss_one (ps_expr (pe_meth (pv 0) T.Compiler.cl T.d_Compiler_mend.me G_Compiler_mend h_Compiler_mend T.d_Compiler_mend.b .nil pass0 (pa_cons (pv 6) pa_nil)))))
      (pss_cons (ps_set (i := 7) nd rfl (Or.inl rfl) (pe_meth (pv 0) T.Compiler.cl T.d_Compiler_come.me G_Compiler_come h_Compiler_come T.d_Compiler_come.b .nil pass0 (pa_cons (pv 1) (pa_cons pe_str (pa_cons (pe_tup (pa_cons pe_int pa_nil)) pa_nil)))))
      (pss_cons (ps_expr (pe_meth (pv 0) T.Compiler.cl T.d_Compiler_mend.me G_Compiler_mend h_Compiler_mend T.d_Compiler_mend.b .nil pass0 (pa_cons (pv 6) pa_nil)))
      (pss_cons (ps_expr (pe_meth (pv 0) T.Compiler.cl T.d_Compiler_all_done.me G_Compiler_all_done h_Compiler_all_done T.d_Compiler_all_done.b .nil pass0 (pa_cons (pe_slice sl_list (pv 3) (po_some (pv 5)) po_none) pa_nil)))
      (pss_one (ps_expr (pe_meth (pv 0) T.Compiler.cl T.d_Compiler_mend.me G_Compiler_mend h_Compiler_mend T.d_Compiler_mend.b .nil pass0 (pa_cons (pv 7) pa_nil))))))))))))), ?_⟩
    -- first = 1 + len(node[2])
    refine ⟨_, rfl, b, _, _, _, rfl, rfl, hS, at2, a0, _, rfl, .inr hxs, _, _, rfl, rfl, ?_⟩
    -- self.worked(kids[0])
    have hte := rE_len nm [] k (n + 1)
    refine ⟨_, rfl, q, dx, _, rfl, ho, rfl, _, rfl, kA, _, _, vi (n + 1), rfl, rfl, SqL.of hkA, at0, q, p, mA, code, rs, nm, ras, _, n + 1, k, rfl, hC, hsk, hk k (by simp), hok'.1, by omega, by rw [List.length_append, List.length_singleton]; omega, fun ras1 H1 C1 b1 => ?_⟩
    obtain ⟨dx1, ho1⟩ := C1.o
    -- unless = self.come(at, 'unless', (0,))
    refine ⟨_, rfl, q, dx1, _, rfl, ho1, rfl, _, rfl, (by show 1 ≤ sizeLine; decide), fun mo nmo => ?_⟩
    have s1 := same_new nmo (HO.tup [V.int 0])
    refine ⟨q, p, mA, code, rs, nm, _, _, (n : Int), "unless", mo, [V.int 0], rfl, C1.same s1, SqT.of upd_same, by simp, by rw [List.length_append, List.length_append, List.length_singleton]; omega, fun a2 H2 C2 b2 => ?_⟩
    have b02 := (b1.trans (But.same s1)).trans b2
    obtain ⟨dx2, ho2⟩ := C2.o
    have hkA2 := b02 _ _ hkA hkm
    -- self.all_done(kids[1:first])
    refine ⟨_, rfl, q, dx2, _, rfl, ho2, rfl, _, rfl, 1, rfl, _, rfl, _, rfl, kA, _, rfl, SqL.of hkA2, fun L nL => ?_⟩
    have ecut : cutV ((kidNums (n + 1) (k :: r)).map V.int) (some 1) (some (1 + (xs.length : Int))) = (kidNums (n + 1 + size k) (r.take m)).map V.int := by
      have e1 : (1 : Int) + (xs.length : Int) = ((1 + m : Nat) : Int) := by rw [hm]; omega
      rw [e1, show (1 : Int) = ((1 : Nat) : Int) from rfl, cut_mid _ 1 (1 + m) (by omega) (by rw [List.length_map, kidNums_len, List.length_cons]; omega)]
      simp only [kidNums, List.map_cons, List.drop_succ_cons, List.drop_zero]
      rw [show 1 + m - 1 = m by omega, ← List.map_take, kidNums_take]
    rw [ecut]
    have s2 := same_new nL (HO.lst ((kidNums (n + 1 + size k) (r.take m)).map V.int))
    have hLm : L ≠ mA := fun z => by rw [z, C2.b.l] at nL; cases nL
    have kp2 := (b02.trans (But.same s2)).keep hC.b.l
    have hst := rSs_len nm [] (r.take m) (rows.length + 1 + (rE nm (n + 1) [] k).length + 1) (n + 1 + size k)
    have htr : sizeL (r.take m) + sizeL (r.drop m) = sizeL r := by rw [← sizeL_append, List.take_append_drop]
    have hhT : hgtL (r.take m) ≤ N := hgtL_sub fun t ht => Nat.le_trans (hgtL_mem (List.mem_of_mem_take ht)) hhr
    have hhD : hgtL (r.drop m) ≤ N := hgtL_sub fun t ht => Nat.le_trans (hgtL_mem (List.mem_of_mem_drop ht)) hhr
    refine ⟨q, p, mA, code, rs, nm, _, _, n + 1 + size k, r.take m, L, rfl, C2.same s2, upd_same, hLm, hsr.take m, fun t ht => kp2.nd (hk t (by simp [List.mem_of_mem_take ht])), ssOk_take hok'.2, hhT, by omega, by simp only [List.length_append, List.length_cons, List.length_nil]; omega, fun ras3 H3 C3 b3 => ?_⟩
    have b03 := (b02.trans (But.same s2)).trans b3
    have eU : (rows ++ [[vi n, V.str "beat"]] ++ rE nm (n + 1) [] k).length = rows.length + 1 + (rE nm (n + 1) [] k).length := by simp only [List.length_append, List.length_cons, List.length_nil]
    have eU1 : (rows ++ [[vi n, V.str "beat"]] ++ rE nm (n + 1) [] k ++ [[V.int (n : Int), V.str "unless"] ++ [V.int 0]]).length = rows.length + 1 + (rE nm (n + 1) [] k).length + 1 := by simp only [List.length_append, List.length_cons, List.length_nil]
    rw [eU1] at C3
    rw [eU]
    generalize hone : rSs nm (rows.length + 1 + (rE nm (n + 1) [] k).length + 1) (n + 1 + size k) [] (r.take m) = one at C3 hst
    generalize htest : rE nm (n + 1) [] k = test at C3 hst hte hone
    obtain ⟨dx3, ho3⟩ := C3.o
    have hS3 := (b03.keep hC.b.l).sqt hS
    have hkA3 := b03 _ _ hkA hkm
    refine ⟨_, rfl, b, _, _, _, rfl, rfl, hS3, at0, rfl, _, rfl, iteB (fun e => ?_) (fun e => ?_)⟩
    · have ew : w = "while" := V.str.inj (of_decide_eq_true e)
      subst ew
      -- self.come(at, 'jump', (beat,))
      refine ⟨_, rfl, q, dx3, _, rfl, ho3, rfl, _, rfl, _, rfl, (by show 1 ≤ sizeLine; decide), fun mo3 nmo3 => ?_⟩
      have s3 := same_new nmo3 (HO.tup [vi rows.length])
      refine ⟨q, p, mA, code, rs, nm, _, _, (n : Int), "jump", mo3, [vi rows.length], rfl, C3.same s3, SqT.of upd_same, by simp, by simp only [List.length_append, List.length_cons, List.length_nil]; omega, fun a4 H4 C4 b4 => ?_⟩
      obtain ⟨dx4, ho4⟩ := C4.o
      have e1 : rows ++ [[vi n, V.str "beat"]] ++ test ++ [[V.int (n : Int), V.str "unless"] ++ [V.int 0]] ++ one ++ [[V.int (n : Int), V.str "jump"] ++ [vi rows.length]] = (rows ++ [[vi n, V.str "beat"]] ++ test) ++ ([vi n, V.str "unless", V.int 0] :: (one ++ [[vi n, V.str "jump", vi rows.length]])) := by simp only [List.append_assoc, List.cons_append, List.nil_append]; rfl
      rw [e1] at C4
      have e2 : ((rows ++ [[vi n, V.str "beat"]] ++ test) ++ ([vi n, V.str "unless", V.int 0] :: (one ++ [[vi n, V.str "jump", vi rows.length]]))).length = rows.length + 1 + test.length + 1 + one.length + 1 := by simp only [List.length_append, List.length_cons, List.length_nil]; omega
      -- self.mend(unless)
      refine ⟨_, rfl, q, dx4, _, rfl, ho4, rfl, _, rfl, q, p, mA, code, rs, nm, _, _, rows.length + 1 + test.length, vi n, .str "unless", .int 0, rfl, C4, get_mid _ _ _ (by simp only [List.length_append, List.length_cons, List.length_nil]), by rw [e2]; omega, fun ras5 H5 C5 b5 => ?_⟩
      refine qq ras5 H5 (cp_len C5 ?_) (((b03.trans (But.same s3)).trans b4).trans b5)
      rw [rS_while, htest, hone, set_mid _ _ _ _ (by simp only [List.length_append, List.length_cons, List.length_nil]), e2]
      simp only [List.append_assoc, List.cons_append, List.nil_append]
    · have ew : w = "if" := by
        rcases hw' with h | h
        · exact h
        · exact absurd (by rw [h]) (of_decide_eq_false e)
      subst ew
      -- jump = self.come(at, 'jump', (0,))
      refine ⟨_, rfl, q, dx3, _, rfl, ho3, rfl, _, rfl, (by show 1 ≤ sizeLine; decide), fun mo3 nmo3 => ?_⟩
      have s3 := same_new nmo3 (HO.tup [V.int 0])
      refine ⟨q, p, mA, code, rs, nm, _, _, (n : Int), "jump", mo3, [V.int 0], rfl, C3.same s3, SqT.of upd_same, by simp, by simp only [List.length_append, List.length_cons, List.length_nil]; omega, fun a4 H4 C4 b4 => ?_⟩
      obtain ⟨dx4, ho4⟩ := C4.o
      have b04 := (b03.trans (But.same s3)).trans b4
      have eJ : (rows ++ [[vi n, V.str "beat"]] ++ test ++ [[V.int (n : Int), V.str "unless"] ++ [V.int 0]] ++ one).length = rows.length + 1 + test.length + 1 + one.length := by simp only [List.length_append, List.length_cons, List.length_nil]
      rw [eJ]
      have e1 : rows ++ [[vi n, V.str "beat"]] ++ test ++ [[V.int (n : Int), V.str "unless"] ++ [V.int 0]] ++ one ++ [[V.int (n : Int), V.str "jump"] ++ [V.int 0]] = (rows ++ [[vi n, V.str "beat"]] ++ test) ++ ([vi n, V.str "unless", V.int 0] :: (one ++ [[vi n, V.str "jump", V.int 0]])) := by simp only [List.append_assoc, List.cons_append, List.nil_append]; rfl
      rw [e1] at C4
      have e2 : ((rows ++ [[vi n, V.str "beat"]] ++ test) ++ ([vi n, V.str "unless", V.int 0] :: (one ++ [[vi n, V.str "jump", V.int 0]]))).length = rows.length + 1 + test.length + 1 + one.length + 1 := by simp only [List.length_append, List.length_cons, List.length_nil]; omega
      -- self.mend(unless)
      refine ⟨_, rfl, q, dx4, _, rfl, ho4, rfl, _, rfl, q, p, mA, code, rs, nm, _, _, rows.length + 1 + test.length, vi n, .str "unless", .int 0, rfl, C4, get_mid _ _ _ (by simp only [List.length_append, List.length_cons, List.length_nil]), by rw [e2]; omega, fun ras5 H5 C5 b5 => ?_⟩
      rw [set_mid _ _ _ _ (by simp only [List.length_append, List.length_cons, List.length_nil]), e2] at C5
      have b05 := b04.trans b5
      obtain ⟨dx5, ho5⟩ := C5.o
      have hkA5 := b05 _ _ hkA hkm
      -- self.all_done(kids[first:])
      refine ⟨_, rfl, q, dx5, _, rfl, ho5, rfl, _, rfl, _, rfl, _, rfl, kA, _, rfl, SqL.of hkA5, fun L2 nL2 => ?_⟩
      have ecut2 : cutV ((kidNums (n + 1) (k :: r)).map V.int) (some (1 + (xs.length : Int))) none = (kidNums (n + 1 + size k + sizeL (r.take m)) (r.drop m)).map V.int := by
        have e1 : (1 : Int) + (xs.length : Int) = ((1 + m : Nat) : Int) := by rw [hm]; omega
        rw [e1, cut_drop _ (1 + m) (by rw [List.length_map, kidNums_len, List.length_cons]; omega)]
        rw [show 1 + m = m + 1 by omega]
        simp only [kidNums, List.map_cons, List.drop_succ_cons]
        rw [← List.map_drop, kidNums_drop]
      rw [ecut2]
      have s5 := same_new nL2 (HO.lst ((kidNums (n + 1 + size k + sizeL (r.take m)) (r.drop m)).map V.int))
      have hLm2 : L2 ≠ mA := fun z => by rw [z, C5.b.l] at nL2; cases nL2
      have kp5 := (b05.trans (But.same s5)).keep hC.b.l
      have hst2 := rSs_len nm [] (r.drop m) (rows.length + 1 + test.length + 1 + one.length + 1) (n + 1 + size k + sizeL (r.take m))
      refine ⟨q, p, mA, code, rs, nm, _, _, n + 1 + size k + sizeL (r.take m), r.drop m, L2, rfl, C5.same s5, upd_same, hLm2, hsr.drop m, fun t ht => kp5.nd (hk t (by simp [List.mem_of_mem_drop ht])), ssOk_drop hok'.2, hhD, by omega, by simp only [List.length_append, List.length_cons, List.length_nil]; omega, fun ras6 H6 C6 b6 => ?_⟩
      have e3 : ((rows ++ [[vi n, V.str "beat"]] ++ test) ++ ([vi n, V.str "unless", vi (rows.length + 1 + test.length + 1 + one.length + 1)] :: (one ++ [[vi n, V.str "jump", V.int 0]]))).length = rows.length + 1 + test.length + 1 + one.length + 1 := by simp only [List.length_append, List.length_cons, List.length_nil]; omega
      rw [e3] at C6
      generalize htwo : rSs nm (rows.length + 1 + test.length + 1 + one.length + 1) (n + 1 + size k + sizeL (r.take m)) [] (r.drop m) = two at C6 hst2
      obtain ⟨dx6, ho6⟩ := C6.o
      have b06 := (b05.trans (But.same s5)).trans b6
      have e4 : (rows ++ [[vi n, V.str "beat"]] ++ test) ++ ([vi n, V.str "unless", vi (rows.length + 1 + test.length + 1 + one.length + 1)] :: (one ++ [[vi n, V.str "jump", V.int 0]])) ++ two = (rows ++ [[vi n, V.str "beat"]] ++ test ++ [[vi n, V.str "unless", vi (rows.length + 1 + test.length + 1 + one.length + 1)]] ++ one) ++ ([vi n, V.str "jump", V.int 0] :: two) := by simp only [List.append_assoc, List.cons_append, List.nil_append]
      rw [e4] at C6
      -- self.mend(jump)
      refine ⟨_, rfl, q, dx6, _, rfl, ho6, rfl, _, rfl, q, p, mA, code, rs, nm, _, _, rows.length + 1 + test.length + 1 + one.length, vi n, .str "jump", .int 0, rfl, C6, get_mid _ _ _ (by simp only [List.length_append, List.length_cons, List.length_nil]), by simp only [List.length_append, List.length_cons, List.length_nil]; omega, fun ras7 H7 C7 b7 => ?_⟩
      refine qq ras7 H7 (cp_len C7 ?_) (b06.trans b7)
      rw [rS_if, htest, hone, htwo, set_mid _ _ _ _ (by simp only [List.length_append, List.length_cons, List.length_nil])]
      have e5 : ((rows ++ [[vi n, V.str "beat"]] ++ test ++ [[vi n, V.str "unless", vi (rows.length + 1 + test.length + 1 + one.length + 1)]] ++ one) ++ ([vi n, V.str "jump", V.int 0] :: two)).length = rows.length + 1 + test.length + 1 + one.length + 1 + two.length := by simp only [List.length_append, List.length_cons, List.length_nil]; omega
      rw [e5]
      simp only [List.append_assoc, List.cons_append, List.nil_append]
end
end My

set_option Elab.async false
set_option linter.all false
set_option maxRecDepth 100000
set_option maxHeartbeats 4000000
namespace My
open PySem L2
theorem try_its2 {K : PySem.W.Frag} {H : Hp} {w : Str} {its : List V} {ps : List Str} {m : Nat} {ks : List V} (f : Form K H w its ps m ks) (hw : w = "try") :
    ∃ (a b : Addr) (x : Str) (xs : List V), its = [.ref a, .str x, .ref b] ∧ SqT K H a xs ∧ m = xs.length ∧ m ≤ ks.length := by
  cases f with
  | tri x a b xs ys h1 h2 => exact ⟨a, b, x, xs, rfl, h1, rfl, by simp⟩
  | one w h e =>
    exfalso
    revert h
    unfold oneW
    subst hw
    decide +kernel
  | leaf w h its =>
    exfalso
    revert h
    unfold leafW
    subst hw
    decide +kernel
  | _ => exact absurd hw (by decide +kernel)
theorem nameRow_of {nm : List Str} {n : Nat} {word x : Str} (h : among x nm = true) : nameRow nm n word x [] = [vi n, .str word, vi 0, vi (idx x nm)] := by
  unfold nameRow lookN
  rw [if_pos h]
  rfl
section
variable {P : Program} {w : World} {K : PySem.W.Frag} {mg : Str → Option Value} {base : Heap}
theorem ok_tried (T : Tx K mg) {N : Nat} {lv : Nat} (hlv : 1 ≤ lv) (G_Compiler_all_done : FnOk P w K mg base CX0 lv T.d_Compiler_all_done.f T.d_Compiler_all_done.fd ["self", "numbers"] (spAllDone K T.Shape.C T.Compiler.C N)) :
    FnOk P w K mg base CX0 (lv + 1) T.d_Compiler_tried.f T.d_Compiler_tried.fd ["self", "at", "node", "kids"] (spMidW K T.Shape.C T.Compiler.C N ["try"] false) := by
  have nd := sc_Compiler_tried.nd
  have G_Compiler_come := ok_come (P := P) (w := w) (base := base) T
  have G_Compiler_mend := ok_mend (P := P) (w := w) (base := base) T
  have G_Shape_found := ok_found (P := P) (w := w) (base := base) T
  refine T.d_Compiler_tried.fn.ok (k := lv) sc_Compiler_tried (fun vs H Q E h => ?_) (fun cdv A outer s H vs Q E hr h => ?_)
  · obtain ⟨q, p, mA, code, rs, nm, ras, rows, n, b, w, its, ps, m, ks, kA, rfl, _⟩ := h
    rfl
  · obtain ⟨q, p, mA, code, rs, nm, ras, rows, n, b, w, its, ps, m, ks, kA, rfl, hw, hC, hkA, hkm, hsub, hnd, hok, hh, hsz, hrl, qq⟩ := h
    have h_Compiler_come : Room 1 _ := hr.mono (by omega)
    have h_Compiler_mend : Room 1 _ := hr.mono (by omega)
    have h_Shape_found : Room 1 _ := hr.mono (by omega)
    have h_Compiler_all_done : Room lv _ := hr
    have hw' : w = "try" := by simpa using hw
    subst hw'
    cases hnd with
    | mk _ _ _ _ _ _ hS hF hD hk =>
    obtain ⟨a0, b0, x, xs, hits, hxs, hm, hml⟩ := try_its2 hF rfl
    rw [List.length_map] at hml
    subst hits
    have hok' : among x nm = true ∧ ssOk nm ks := by
      cases ks with
      | nil =>
        simp only [sOk] at hok
        obtain ⟨_, a, x', b, e, h⟩ := hok
        have : x = x' := by
          have z := (List.cons.inj (List.cons.inj e).2).1
          exact V.str.inj z
        rw [this]
        exact ⟨h, by simp only [ssOk]⟩
      | cons k r =>
        simp only [sOk] at hok
        rcases hok with ⟨h, _⟩ | ⟨h, _⟩ | ⟨h, _⟩ | ⟨_, h1, h2, a, x', b, e, h⟩ | ⟨h, _⟩
        · exact absurd h (by unfold oneW; decide +kernel)
        · exact absurd h (by decide +kernel)
        · exact absurd h (by decide +kernel)
        · have : x = x' := by
            have z := (List.cons.inj (List.cons.inj e).2).1
            exact V.str.inj z
          rw [this]
          exact ⟨h, by simp only [ssOk]; exact ⟨h1, h2⟩⟩
        · exact absurd h (by decide +kernel)
    have hsubk := hsub.kids
    rw [if_neg (by decide +kernel), if_neg (by decide +kernel)] at hsubk
    obtain ⟨ab, hrec⟩ := hsub.head
    have hsize : size (.mk (.ref b) "try" [V.ref a0, V.str x, V.ref b0] ps m ks) = 1 + sizeL ks := by simp only [size]
    obtain ⟨dx, ho⟩ := hC.o
    refine ⟨_, (pss_cons (ps_set (i := 4) nd rfl (Or.inl rfl) (pe_callB call_len_seq (by rfl) T.z_len PySem.boot_len (pa_cons (pe_ix ix_tup (pv 2) pe_int (fun _ _ => rfl)) pa_nil)))
      (pss_cons (ps_set (i := 5) nd rfl (Or.inl rfl) (pe_meth (pv 0) T.Compiler.cl T.d_Compiler_come.me G_Compiler_come h_Compiler_come T.d_Compiler_come.b .nil pass0 (pa_cons (pv 1) (pa_cons pe_str (pa_cons (pe_tup (pa_cons pe_int pa_nil)) pa_nil)))))
      (pss_cons (ps_expr (pe_meth (pv 0) T.Compiler.cl T.d_Compiler_all_done.me G_Compiler_all_done h_Compiler_all_done T.d_Compiler_all_done.b .nil pass0 (pa_cons (pe_slice sl_list (pv 3) po_none (po_some (pv 4))) pa_nil)))
      (pss_cons (ps_expr (pe_meth (dvs := [.ref T.d_Compiler_come.E]) (pv 0) T.Compiler.cl T.d_Compiler_come.me G_Compiler_come h_Compiler_come T.d_Compiler_come.bd (.cons rfl .nil) pass0 (pa_cons (pv 1) (pa_cons pe_str pa_nil))))
      (pss_cons (ps_set (i := 6) nd rfl (Or.inl rfl) (pe_meth (pv 0) T.Compiler.cl T.d_Compiler_come.me G_Compiler_come h_Compiler_come T.d_Compiler_come.b .nil pass0 (pa_cons (pv 1) (pa_cons pe_str (pa_cons (pe_tup (pa_cons pe_int pa_nil)) pa_nil)))))
      (pss_cons (ps_expr (pe_meth (pv 0) T.Compiler.cl T.d_Compiler_mend.me G_Compiler_mend h_Compiler_mend T.d_Compiler_mend.b .nil pass0 (pa_cons (pv 5) pa_nil)))
      (pss_cons (ps_expr (pe_meth (pv 0) T.Compiler.cl T.d_Compiler_come.me G_Compiler_come h_Compiler_come T.d_Compiler_come.b .nil pass0 (pa_cons (pv 1) (pa_cons pe_str (pa_cons (pe_meth (pe_fld (pv 0) rfl) T.Shape.cl T.d_Shape_found.me G_Shape_found h_Shape_found T.d_Shape_found.b .nil pass0 (pa_cons (pe_ix ix_tup (pv 2) pe_int (fun _ _ => rfl)) (pa_cons (pe_ix ix_list (pe_fld (pe_fld (pv 0) rfl) rfl) (pv 1) (fun _ _ => rfl)) pa_nil))) pa_nil)))))
      (pss_cons (ps_expr (pe_meth (pv 0) T.Compiler.cl T.d_Compiler_all_done.me G_Compiler_all_done h_Compiler_all_done T.d_Compiler_all_done.b .nil pass0 (pa_cons (pe_slice sl_list (pv 3) (po_some (pv 4)) po_none) pa_nil)))
      (pss_one (ps_expr (pe_meth (pv 0) T.Compiler.cl T.d_Compiler_mend.me G_Compiler_mend h_Compiler_mend T.d_Compiler_mend.b .nil pass0 (pa_cons (pv 6) pa_nil)))))))))))), ?_⟩
    -- first = len(node[1])
    refine ⟨_, rfl, b, _, _, _, rfl, rfl, hS, at1, a0, _, rfl, .inr hxs, ?_⟩
    -- taken = self.come(at, 'try', (0,))
    refine ⟨_, rfl, q, dx, _, rfl, ho, rfl, _, rfl, (by show 1 ≤ sizeLine; decide), fun mo nmo => ?_⟩
    have s1 := same_new nmo (HO.tup [V.int 0])
    refine ⟨q, p, mA, code, rs, nm, _, _, (n : Int), "try", mo, [V.int 0], rfl, hC.same s1, SqT.of upd_same, by simp, by rw [List.length_append, List.length_singleton]; omega, fun a2 H2 C2 b2 => ?_⟩
    have b02 := (But.same s1).trans b2
    obtain ⟨dx2, ho2⟩ := C2.o
    have hkA2 := b02 _ _ hkA hkm
    -- self.all_done(kids[:first])
    refine ⟨_, rfl, q, dx2, _, rfl, ho2, rfl, _, rfl, _, rfl, _, rfl, kA, _, rfl, SqL.of hkA2, fun L nL => ?_⟩
    have ecut : cutV ((kidNums (n + 1) ks).map V.int) none (some (xs.length : Int)) = (kidNums (n + 1) (ks.take m)).map V.int := by
      rw [← hm, cut_take _ m (by rw [List.length_map, kidNums_len]; exact hml), ← List.map_take, kidNums_take]
    rw [ecut]
    have s2 := same_new nL (HO.lst ((kidNums (n + 1) (ks.take m)).map V.int))
    have hLm : L ≠ mA := fun z => by rw [z, C2.b.l] at nL; cases nL
    have kp2 := (b02.trans (But.same s2)).keep hC.b.l
    have hst := rSs_len nm [] (ks.take m) (rows.length + 2) (n + 1)
    have htr : sizeL (ks.take m) + sizeL (ks.drop m) = sizeL ks := by rw [← sizeL_append, List.take_append_drop]
    have hhT : hgtL (ks.take m) ≤ N := hgtL_sub fun t ht => Nat.le_trans (hgtL_mem (List.mem_of_mem_take ht)) hh
    have hhD : hgtL (ks.drop m) ≤ N := hgtL_sub fun t ht => Nat.le_trans (hgtL_mem (List.mem_of_mem_drop ht)) hh
    refine ⟨q, p, mA, code, rs, nm, _, _, n + 1, ks.take m, L, rfl, C2.same s2, upd_same, hLm, hsubk.take m, fun t ht => kp2.nd (hk t (List.mem_of_mem_take ht)), ssOk_take hok'.2, hhT, by omega, by simp only [List.length_append, List.length_cons, List.length_nil]; omega, fun ras3 H3 C3 b3 => ?_⟩
    have b03 := (b02.trans (But.same s2)).trans b3
    have eT : (rows ++ [[vi n, V.str "beat"]]).length = rows.length + 1 := by simp only [List.length_append, List.length_cons, List.length_nil]
    have eT1 : (rows ++ [[vi n, V.str "beat"]] ++ [[V.int (n : Int), V.str "try"] ++ [V.int 0]]).length = rows.length + 2 := by simp only [List.length_append, List.length_cons, List.length_nil]
    rw [eT1] at C3
    rw [eT]
    generalize hone : rSs nm (rows.length + 2) (n + 1) [] (ks.take m) = one at C3 hst
    obtain ⟨dx3, ho3⟩ := C3.o
    -- self.come(at, 'untry')
    refine ⟨_, rfl, q, dx3, _, rfl, ho3, rfl, _, rfl, ?_⟩
    refine ⟨q, p, mA, code, rs, nm, _, _, (n : Int), "untry", _, [], rfl, C3, T.d_Compiler_come.e0 _, by simp, by simp only [List.length_append, List.length_cons, List.length_nil]; omega, fun a4 H4 C4 b4 => ?_⟩
    obtain ⟨dx4, ho4⟩ := C4.o
    -- jump = self.come(at, 'jump', (0,))
    refine ⟨_, rfl, q, dx4, _, rfl, ho4, rfl, _, rfl, (by show 1 ≤ sizeLine; decide), fun mo4 nmo4 => ?_⟩
    have s4 := same_new nmo4 (HO.tup [V.int 0])
    refine ⟨q, p, mA, code, rs, nm, _, _, (n : Int), "jump", mo4, [V.int 0], rfl, C4.same s4, SqT.of upd_same, by simp, by simp only [List.length_append, List.length_cons, List.length_nil]; omega, fun a5 H5 C5 b5 => ?_⟩
    have b05 := ((b03.trans b4).trans (But.same s4)).trans b5
    have eJ : (rows ++ [[vi n, V.str "beat"]] ++ [[V.int (n : Int), V.str "try"] ++ [V.int 0]] ++ one ++ [[V.int (n : Int), V.str "untry"] ++ []]).length = rows.length + 2 + one.length + 1 := by simp only [List.length_append, List.length_cons, List.length_nil]
    rw [eJ]
    have e1 : rows ++ [[vi n, V.str "beat"]] ++ [[V.int (n : Int), V.str "try"] ++ [V.int 0]] ++ one ++ [[V.int (n : Int), V.str "untry"] ++ []] ++ [[V.int (n : Int), V.str "jump"] ++ [V.int 0]] = (rows ++ [[vi n, V.str "beat"]]) ++ ([vi n, V.str "try", V.int 0] :: (one ++ [[vi n, V.str "untry"], [vi n, V.str "jump", V.int 0]])) := by simp only [List.append_assoc, List.cons_append, List.nil_append]; rfl
    rw [e1] at C5
    have e2 : ((rows ++ [[vi n, V.str "beat"]]) ++ ([vi n, V.str "try", V.int 0] :: (one ++ [[vi n, V.str "untry"], [vi n, V.str "jump", V.int 0]]))).length = rows.length + 2 + one.length + 2 := by simp only [List.length_append, List.length_cons, List.length_nil]; omega
    obtain ⟨dx5, ho5⟩ := C5.o
    -- self.mend(taken)
    refine ⟨_, rfl, q, dx5, _, rfl, ho5, rfl, _, rfl, q, p, mA, code, rs, nm, _, _, rows.length + 1, vi n, .str "try", .int 0, rfl, C5, get_mid _ _ _ (by simp only [List.length_append, List.length_cons, List.length_nil]), by rw [e2]; omega, fun ras6 H6 C6 b6 => ?_⟩
    rw [set_mid _ _ _ _ (by simp only [List.length_append, List.length_cons, List.length_nil]), e2] at C6
    have b06 := b05.trans b6
    obtain ⟨dx6, ho6⟩ := C6.o
    obtain ⟨dxs, ta, nA, a, c, d, e, f, ch, ps0, hA, hnm, hmA⟩ := C6.f.ex
    have hS6 := (b06.keep hC.b.l).sqt hS
    -- self.come(at, 'setname', found)
    refine ⟨_, rfl, q, dx6, _, rfl, ho6, rfl, _, rfl, _, rfl, q, _, dx6, _, _, rfl, ho6, T.Compiler.cl, T.Compiler.n_form, cpF_form _ _ _, p, dxs, _, rfl, hA.R.o.ob, hA.R.o.no.2.2.2.2.2.2, _, rfl, b, _, _, _, rfl, rfl, hS6, at2, _, rfl, q, _, dx6, _, _, rfl, ho6, T.Compiler.cl, T.Compiler.n_form, cpF_form _ _ _, p, _, dxs, _, _, rfl, hA.R.o.ob, T.Shape.cl, T.Shape.n_code, hA.R.o.code, _, rfl, d, _, _, V.int (-1), rfl, rfl, SqL.of hA.R.b.hd, at_of (j := n) rfl (by rw [List.getElem?_map, hrec]; rfl), ?_⟩
    refine ⟨p, dxs, ta, nA, a, c, d, e, f, ch, rs, ps0, x, rfl, hA, by rw [← hnm]; exact hok'.1, fun mo6 H7 s7 h7 => ?_⟩
    rw [← hnm] at h7
    refine ⟨q, p, mA, code, rs, nm, _, _, (n : Int), "setname", mo6, [vi 0, vi (idx x nm)], rfl, C6.same s7, h7, by simp, by simp only [List.length_append, List.length_cons, List.length_nil]; omega, fun a8 H8 C8 b8 => ?_⟩
    have b08 := (b06.trans (But.same s7)).trans b8
    obtain ⟨dx8, ho8⟩ := C8.o
    have hkA8 := b08 _ _ hkA hkm
    -- self.all_done(kids[first:])
    refine ⟨_, rfl, q, dx8, _, rfl, ho8, rfl, _, rfl, _, rfl, _, rfl, kA, _, rfl, SqL.of hkA8, fun L2 nL2 => ?_⟩
    have ecut2 : cutV ((kidNums (n + 1) ks).map V.int) (some (xs.length : Int)) none = (kidNums (n + 1 + sizeL (ks.take m)) (ks.drop m)).map V.int := by
      rw [← hm, cut_drop _ m (by rw [List.length_map, kidNums_len]; exact hml), ← List.map_drop, kidNums_drop]
    rw [ecut2]
    have s8 := same_new nL2 (HO.lst ((kidNums (n + 1 + sizeL (ks.take m)) (ks.drop m)).map V.int))
    have hLm2 : L2 ≠ mA := fun z => by rw [z, C8.b.l] at nL2; cases nL2
    have kp8 := (b08.trans (But.same s8)).keep hC.b.l
    have hst2 := rSs_len nm [] (ks.drop m) (rows.length + 2 + one.length + 3) (n + 1 + sizeL (ks.take m))
    refine ⟨q, p, mA, code, rs, nm, _, _, n + 1 + sizeL (ks.take m), ks.drop m, L2, rfl, C8.same s8, upd_same, hLm2, hsubk.drop m, fun t ht => kp8.nd (hk t (List.mem_of_mem_drop ht)), ssOk_drop hok'.2, hhD, by omega, by simp only [List.length_append, List.length_cons, List.length_nil]; omega, fun ras9 H9 C9 b9 => ?_⟩
    have e3 : (((rows ++ [[vi n, V.str "beat"]]) ++ ([vi n, V.str "try", vi (rows.length + 2 + one.length + 2)] :: (one ++ [[vi n, V.str "untry"], [vi n, V.str "jump", V.int 0]]))) ++ [[V.int (n : Int), V.str "setname"] ++ [vi 0, vi (idx x nm)]]).length = rows.length + 2 + one.length + 3 := by simp only [List.length_append, List.length_cons, List.length_nil]; omega
    rw [e3] at C9
    generalize htwo : rSs nm (rows.length + 2 + one.length + 3) (n + 1 + sizeL (ks.take m)) [] (ks.drop m) = two at C9 hst2
    obtain ⟨dx9, ho9⟩ := C9.o
    have b09 := (b08.trans (But.same s8)).trans b9
    have e4 : ((rows ++ [[vi n, V.str "beat"]]) ++ ([vi n, V.str "try", vi (rows.length + 2 + one.length + 2)] :: (one ++ [[vi n, V.str "untry"], [vi n, V.str "jump", V.int 0]]))) ++ [[V.int (n : Int), V.str "setname"] ++ [vi 0, vi (idx x nm)]] ++ two =
        (rows ++ [[vi n, V.str "beat"]] ++ [[vi n, V.str "try", vi (rows.length + 2 + one.length + 2)]] ++ one ++ [[vi n, V.str "untry"]]) ++ ([vi n, V.str "jump", V.int 0] :: ([[vi n, V.str "setname", vi 0, vi (idx x nm)]] ++ two)) := by simp only [List.append_assoc, List.cons_append, List.nil_append]; rfl
    rw [e4] at C9
    -- self.mend(jump)
    refine ⟨_, rfl, q, dx9, _, rfl, ho9, rfl, _, rfl, q, p, mA, code, rs, nm, _, _, rows.length + 2 + one.length + 1, vi n, .str "jump", .int 0, rfl, C9, get_mid _ _ _ (by simp only [List.length_append, List.length_cons, List.length_nil]), by simp only [List.length_append, List.length_cons, List.length_nil]; omega, fun ras10 H10 C10 b10 => ?_⟩
    refine qq ras10 H10 (cp_len C10 ?_) (b09.trans b10)
    rw [rS_try, hone, htwo, set_mid _ _ _ _ (by simp only [List.length_append, List.length_cons, List.length_nil])]
    have e5 : ((rows ++ [[vi n, V.str "beat"]] ++ [[vi n, V.str "try", vi (rows.length + 2 + one.length + 2)]] ++ one ++ [[vi n, V.str "untry"]]) ++ ([vi n, V.str "jump", V.int 0] :: ([[vi n, V.str "setname", vi 0, vi (idx x nm)]] ++ two))).length = rows.length + 2 + one.length + 3 + two.length := by simp only [List.length_append, List.length_cons, List.length_nil]; omega
    rw [e5]
    have e6 : nameRow nm n "setname" (xOf [V.ref a0, V.str x, V.ref b0] 1) [] = [vi n, V.str "setname", vi 0, vi (idx x nm)] := nameRow_of hok'.1
    rw [e6]
    simp only [List.append_assoc, List.cons_append, List.nil_append]
end
end My

set_option Elab.async false
set_option linter.all false
set_option maxRecDepth 100000
set_option maxHeartbeats 4000000
namespace My
open PySem L2
theorem oneW_in : ∀ w, w ∈ oneW → inV (.str w) [.str "do", .str "say", .str "return", .str "raise"] = true := by unfold oneW; decide +kernel
section
variable {P : Program} {w : World} {K : PySem.W.Frag} {mg : Str → Option Value} {base : Heap}
theorem ok_done1 (T : Tx K mg) {N : Nat} {lv : Nat} (hlv : 162 ≤ lv)
    (G_Compiler_chosen : FnOk P w K mg base CX0 lv T.d_Compiler_chosen.f T.d_Compiler_chosen.fd ["self", "at", "node", "kids", "beat"] (spMidW K T.Shape.C T.Compiler.C N ["if", "while"] true))
    (G_Compiler_tried : FnOk P w K mg base CX0 lv T.d_Compiler_tried.f T.d_Compiler_tried.fd ["self", "at", "node", "kids"] (spMidW K T.Shape.C T.Compiler.C N ["try"] false)) :
    FnOk P w K mg base CX0 (lv + 1) T.d_Compiler_done.f T.d_Compiler_done.fd ["self", "at"] (spDone K T.Shape.C T.Compiler.C (N + 1)) := by
  have nd := sc_Compiler_done.nd
  have G_Compiler_come := ok_come (P := P) (w := w) (base := base) T
  have G_Compiler_worked := ok_worked (P := P) (w := w) (base := base) T 160
  have G_Shape_found := ok_found (P := P) (w := w) (base := base) T
  refine T.d_Compiler_done.fn.ok (k := lv) sc_Compiler_done (fun vs H Q E h => ?_) (fun cdv A outer s H vs Q E hr h => ?_)
  · obtain ⟨q, p, mA, code, rs, nm, ras, rows, n, t, rfl, _⟩ := h
    rfl
  · obtain ⟨q, p, mA, code, rs, nm, ras, rows, n, t, rfl, hC, hsub, hnd, hok, hN, hsz, hrl, qq⟩ := h
    have h_Compiler_come : Room 1 _ := hr.mono (by omega)
    have h_Compiler_worked : Room (160 + 2) _ := hr.mono (by omega)
    have h_Shape_found : Room 1 _ := hr.mono (by omega)
    have h_Compiler_chosen : Room lv _ := hr
    have h_Compiler_tried : Room lv _ := hr
    obtain ⟨dxq, ho⟩ := hC.o
    obtain ⟨dx, ta, nA, a, c, d, e, f, ch, ps0, hA, hnm, hm⟩ := hC.f.ex
    have hnd0 := hnd
    cases hnd with
    | mk b w its pps mm ks hS hF hD hk =>
    obtain ⟨ab, hrec⟩ := hsub.head
    have hsize : size (.mk (.ref b) w its pps mm ks) = 1 + sizeL ks := by simp only [size]
    have hhgt : hgtL ks ≤ N := by simp only [hgt] at hN; omega
    have hlt := (List.getElem?_eq_some_iff.mp hrec).1
    have hcl : n < ch.length := by rw [hA.R.b.len]; exact hlt
    have hci : ch[n]? = some ch[n] := List.getElem?_eq_getElem hcl
    have hkid := hA.R.b.kid n _ _ hci hrec
    have hmk : ch[n] ≠ mA := fun z => hm (by rw [← z]; simp)
    refine ⟨_, (pss_cons (ps_set (i := 2) nd rfl (Or.inl rfl) (pe_ix ix_list (pe_fld (pe_fld (pv 0) rfl) rfl) (pv 1) (fun _ _ => rfl)))
      (pss_cons (ps_set (i := 3) nd rfl (Or.inl rfl) (pe_ix ix_list (pe_fld (pe_fld (pv 0) rfl) rfl) (pv 1) (fun _ _ => rfl)))
      (pss_cons (ps_set (i := 4) nd rfl (Or.inl rfl) (pe_meth (dvs := [.ref T.d_Compiler_come.E]) (pv 0) T.Compiler.cl T.d_Compiler_come.me G_Compiler_come h_Compiler_come T.d_Compiler_come.bd (.cons rfl .nil) pass0 (pa_cons (pv 1) (pa_cons pe_str pa_nil))))
      (pss_one (ps_if (pt_cmpR op_in_seq (pe_ix ix_tup (pv 2) pe_int (fun _ _ => rfl)) (pe_glob (v := .ref T.k_ONE.a) rfl T.k_ONE.m rfl) rfl)
      (pss_cons (ps_expr (pe_meth (pv 0) T.Compiler.cl T.d_Compiler_worked.me G_Compiler_worked h_Compiler_worked T.d_Compiler_worked.b .nil pass0 (pa_cons (pe_ix ix_list (pv 3) pe_int (fun _ _ => rfl)) pa_nil)))
      (pss_one (ps_expr (pe_meth (dvs := [.ref T.d_Compiler_come.E]) (pv 0) T.Compiler.cl T.d_Compiler_come.me G_Compiler_come h_Compiler_come T.d_Compiler_come.bd (.cons rfl .nil) pass0 (pa_cons (pv 1) (pa_cons (pe_ifExp (pt_cmpR op_eq (pe_ix ix_tup (pv 2) pe_int (fun _ _ => rfl)) pe_str (nomark _)) pe_str (pe_ix ix_tup (pv 2) pe_int (fun _ _ => rfl))) pa_nil))))))
      (pss_one (ps_if (pt_cmpR op_eq (pe_ix ix_tup (pv 2) pe_int (fun _ _ => rfl)) pe_str (nomark _))
      (pss_cons (ps_expr (pe_meth (pv 0) T.Compiler.cl T.d_Compiler_worked.me G_Compiler_worked h_Compiler_worked T.d_Compiler_worked.b .nil pass0 (pa_cons (pe_ix ix_list (pv 3) pe_int (fun _ _ => rfl)) pa_nil)))
      (pss_one (ps_expr (pe_meth (pv 0) T.Compiler.cl T.d_Compiler_come.me G_Compiler_come h_Compiler_come T.d_Compiler_come.b .nil pass0 (pa_cons (pv 1) (pa_cons pe_str (pa_cons (pe_meth (pe_fld (pv 0) rfl) T.Shape.cl T.d_Shape_found.me G_Shape_found h_Shape_found T.d_Shape_found.b .nil pass0 (pa_cons (pe_ix ix_tup (pv 2) pe_int (fun _ _ => rfl)) (pa_cons (pe_ix ix_list (pe_fld (pe_fld (pv 0) rfl) rfl) (pv 1) (fun _ _ => rfl)) pa_nil))) pa_nil)))))))
      (pss_one (ps_if (pt_cmpR op_eq (pe_ix ix_tup (pv 2) pe_int (fun _ _ => rfl)) pe_str (nomark _))
      (pss_cons (ps_expr (pe_meth (pv 0) T.Compiler.cl T.d_Compiler_worked.me G_Compiler_worked h_Compiler_worked T.d_Compiler_worked.b .nil pass0 (pa_cons (pe_ix ix_list (pv 3) pe_int (fun _ _ => rfl)) pa_nil)))
      (pss_one (ps_expr (pe_meth (pv 0) T.Compiler.cl T.d_Compiler_come.me G_Compiler_come h_Compiler_come T.d_Compiler_come.b .nil pass0 (pa_cons (pv 1) (pa_cons pe_str (pa_cons (pe_tup (pa_cons (pe_ix ix_tup (pv 2) pe_int (fun _ _ => rfl)) pa_nil)) pa_nil)))))))
      (pss_one (ps_if (pt_cmpR op_eq (pe_ix ix_tup (pv 2) pe_int (fun _ _ => rfl)) pe_str (nomark _))
      (pss_one (ps_expr (pe_meth (pv 0) T.Compiler.cl T.d_Compiler_tried.me G_Compiler_tried h_Compiler_tried T.d_Compiler_tried.b .nil pass0 (pa_cons (pv 1) (pa_cons (pv 2) (pa_cons (pv 3) pa_nil))))))
      (pss_one (ps_expr (pe_meth (pv 0) T.Compiler.cl T.d_Compiler_chosen.me G_Compiler_chosen h_Compiler_chosen T.d_Compiler_chosen.b .nil pass0 (pa_cons (pv 1) (pa_cons (pv 2) (pa_cons (pv 3) (pa_cons (pv 4) pa_nil)))))))))))))))))), ?_⟩
    refine ⟨_, rfl, q, _, dxq, _, _, rfl, ho, T.Compiler.cl, T.Compiler.n_form, cpF_form _ _ _, p, _, dx, _, _, rfl, hA.R.o.ob, T.Shape.cl, T.Shape.n_nodes, hA.R.o.nodes, _, rfl, nA, _, _, V.ref b, rfl, rfl, SqL.of hA.R.b.hn, at_of (j := n) rfl (by rw [List.getElem?_map, hrec]; rfl), ?_⟩
    refine ⟨_, rfl, q, _, dxq, _, _, rfl, ho, T.Compiler.cl, T.Compiler.n_form, cpF_form _ _ _, p, _, dx, _, _, rfl, hA.R.o.ob, T.Shape.cl, T.Shape.n_children, hA.R.o.children, _, rfl, c, _, _, V.ref ch[n], rfl, rfl, SqL.of hA.R.b.hc, at_of (j := n) rfl (by rw [List.getElem?_map, hci]; rfl), ?_⟩
    refine ⟨_, rfl, q, dxq, _, rfl, ho, rfl, _, rfl, q, p, mA, code, rs, nm, ras, rows, (n : Int), "beat", _, [], rfl, hC, T.d_Compiler_come.e0 _, by simp, by omega, fun a1 H1 C1 b1 => ?_⟩
    have kp1 := b1.keep hC.b.l
    have hS1 := kp1.sqt hS
    have hkA1 := b1 _ _ hkid hmk
    obtain ⟨dx1, ho1⟩ := C1.o
    refine ⟨_, rfl, b, _, _, _, rfl, rfl, hS1, at0, T.k_ONE.a, _, rfl, .inr (T.k_ONE.t _), rfl, rfl, _, rfl, ?_⟩
    have hmid : ∀ (W : List Str) (five : Bool), (w ∈ W) → spMidW K T.Shape.C T.Compiler.C N W five ([.ref q, vi n, .ref b, .ref ch[n]] ++ (if five then [vi rows.length] else [])) H1 (fun _ H' => Q .non H') E0 := by
      intro W five hW
      exact ⟨q, p, mA, code, rs, nm, _, rows, n, b, w, its, pps, mm, ks, ch[n], rfl, hW, C1, hkA1, hmk, hsub, kp1.nd hnd0, hok, hhgt, hsz, hrl, fun ras2 H' C' b' => qq ras2 H' C' (b1.trans b')⟩
    cases ks with
    | nil =>
      simp only [sOk] at hok
      obtain ⟨rfl, _⟩ := hok
      refine iteN (by decide +kernel) ?_
      refine ⟨_, rfl, b, _, _, _, rfl, rfl, hS1, at0, rfl, _, rfl, iteN (by decide +kernel) ?_⟩
      refine ⟨_, rfl, b, _, _, _, rfl, rfl, hS1, at0, rfl, _, rfl, iteN (by decide +kernel) ?_⟩
      refine ⟨_, rfl, b, _, _, _, rfl, rfl, hS1, at0, rfl, _, rfl, iteY (by decide +kernel) ?_⟩
      refine ⟨_, rfl, q, dx1, _, rfl, ho1, rfl, _, rfl, _, rfl, _, rfl, ?_⟩
      exact hmid ["try"] false (by simp)
    | cons k r =>
      have hok2 := hok
      simp only [sOk] at hok2
      have hpk := size_pos k
      simp only [sizeL] at hsize
      have hte := rE_len nm [] k (n + 1)
      have hkn : ∀ x, x = (kidNums (n + 1) (k :: r)).map V.int → x = vi (n + 1) :: (kidNums (n + 1 + size k) r).map V.int := fun x e => e
      have hkk : ¬ w = "block" → Sub rs (n + 1) (-1) [] k := by
        intro hnb
        have hsubk := hsub.kids
        rw [if_neg hnb, if_neg hnb] at hsubk
        exact hsubk.cons.1
      have hkn1 := kp1.nd (hk k (by simp))
      rcases hok2 with ⟨hw, _, he⟩ | ⟨rfl, _, he, x, e1, rfl, hx⟩ | ⟨rfl, _, he, x, e1, rfl⟩ | ⟨rfl, _⟩ | ⟨hw, _⟩
      · refine iteY (oneW_in w hw) ?_
        refine ⟨_, rfl, q, dx1, _, rfl, ho1, rfl, _, rfl, ch[n], _, _, vi (n + 1), rfl, rfl, SqL.of hkA1, at0, ?_⟩
        have z : ∀ w, w ∈ oneW → ¬ w = "block" := by unfold oneW; decide +kernel
        refine ⟨q, p, mA, code, rs, nm, _, _, n + 1, k, rfl, C1, hkk (z w hw), hkn1, he, by omega, by simp only [List.length_append, List.length_cons, List.length_nil]; omega, fun ras2 H2 C2 b12 => ?_⟩
        have b2 := b1.trans b12
        have hS2 := (b2.keep hC.b.l).sqt hS
        obtain ⟨dx2, ho2⟩ := C2.o
        refine ⟨_, rfl, q, dx2, _, rfl, ho2, rfl, _, rfl, ?_⟩
        refine ⟨_, rfl, b, _, _, _, rfl, rfl, hS2, at0, rfl, _, rfl, ?_⟩
        by_cases hd : w = "do"
        · refine iteY (by rw [hd]; decide +kernel) ?_
          refine ⟨q, p, mA, code, rs, nm, _, _, (n : Int), "drop", _, [], rfl, C2, T.d_Compiler_come.e0 _, by simp, by simp only [List.length_append, List.length_cons, List.length_nil]; omega, fun a3 H3 C3 b3 => ?_⟩
          refine qq _ H3 (cp_len C3 ?_) (b2.trans b3)
          rw [rS_one hw, if_pos hd]
          simp only [List.append_assoc]
          rfl
        · refine iteN (decide_eq_false (fun z => hd (V.str.inj z))) ?_
          refine ⟨_, rfl, b, _, _, _, rfl, rfl, hS2, at0, ?_⟩
          refine ⟨q, p, mA, code, rs, nm, _, _, (n : Int), w, _, [], rfl, C2, T.d_Compiler_come.e0 _, by simp, by simp only [List.length_append, List.length_cons, List.length_nil]; omega, fun a3 H3 C3 b3 => ?_⟩
          refine qq _ H3 (cp_len C3 ?_) (b2.trans b3)
          rw [rS_one hw, if_neg hd]
          simp only [List.append_assoc]
          rfl
      · refine iteN (by decide +kernel) ?_
        refine ⟨_, rfl, b, _, _, _, rfl, rfl, hS1, at0, rfl, _, rfl, iteY (by decide +kernel) ?_⟩
        refine ⟨_, rfl, q, dx1, _, rfl, ho1, rfl, _, rfl, ch[n], _, _, vi (n + 1), rfl, rfl, SqL.of hkA1, at0, ?_⟩
        refine ⟨q, p, mA, code, rs, nm, _, _, n + 1, k, rfl, C1, hkk (by decide +kernel), hkn1, he, by omega, by simp only [List.length_append, List.length_cons, List.length_nil]; omega, fun ras2 H2 C2 b12 => ?_⟩
        have b2 := b1.trans b12
        have hS2 := (b2.keep hC.b.l).sqt hS
        obtain ⟨dx2, ho2⟩ := C2.o
        obtain ⟨dxs, ta2, nA2, a2, c2, d2, e2, f2, ch2, ps2, hA2, hnm2, hmA2⟩ := C2.f.ex
        refine ⟨_, rfl, q, dx2, _, rfl, ho2, rfl, _, rfl, _, rfl, q, _, dx2, _, _, rfl, ho2, T.Compiler.cl, T.Compiler.n_form, cpF_form _ _ _, p, dxs, _, rfl, hA2.R.o.ob, hA2.R.o.no.2.2.2.2.2.2, _, rfl, b, _, _, _, rfl, rfl, hS2, at1, _, rfl, q, _, dx2, _, _, rfl, ho2, T.Compiler.cl, T.Compiler.n_form, cpF_form _ _ _, p, _, dxs, _, _, rfl, hA2.R.o.ob, T.Shape.cl, T.Shape.n_code, hA2.R.o.code, _, rfl, d2, _, _, V.int (-1), rfl, rfl, SqL.of hA2.R.b.hd, at_of (j := n) rfl (by rw [List.getElem?_map, hrec]; rfl), ?_⟩
        refine ⟨p, dxs, ta2, nA2, a2, c2, d2, e2, f2, ch2, rs, ps2, x, rfl, hA2, by rw [← hnm2]; exact hx, fun mo6 H7 s7 h7 => ?_⟩
        rw [← hnm2] at h7
        refine ⟨q, p, mA, code, rs, nm, _, _, (n : Int), "setname", mo6, [vi 0, vi (idx x nm)], rfl, C2.same s7, h7, by simp, by simp only [List.length_append, List.length_cons, List.length_nil]; omega, fun a8 H8 C8 b8 => ?_⟩
        refine qq _ H8 (cp_len C8 ?_) ((b2.trans (But.same s7)).trans b8)
        rw [rS_set, show nameRow nm n "setname" (xOf [V.str x, e1] 0) [] = [vi n, V.str "setname", vi 0, vi (idx x nm)] from nameRow_of hx]
        simp only [List.append_assoc]
        rfl
      · refine iteN (by decide +kernel) ?_
        refine ⟨_, rfl, b, _, _, _, rfl, rfl, hS1, at0, rfl, _, rfl, iteN (by decide +kernel) ?_⟩
        refine ⟨_, rfl, b, _, _, _, rfl, rfl, hS1, at0, rfl, _, rfl, iteY (by decide +kernel) ?_⟩
        refine ⟨_, rfl, q, dx1, _, rfl, ho1, rfl, _, rfl, ch[n], _, _, vi (n + 1), rfl, rfl, SqL.of hkA1, at0, ?_⟩
        refine ⟨q, p, mA, code, rs, nm, _, _, n + 1, k, rfl, C1, hkk (by decide +kernel), hkn1, he, by omega, by simp only [List.length_append, List.length_cons, List.length_nil]; omega, fun ras2 H2 C2 b12 => ?_⟩
        have b2 := b1.trans b12
        have hS2 := (b2.keep hC.b.l).sqt hS
        obtain ⟨dx2, ho2⟩ := C2.o
        refine ⟨_, rfl, q, dx2, _, rfl, ho2, rfl, _, rfl, _, rfl, b, _, _, _, rfl, rfl, hS2, at1, (by show 1 ≤ sizeLine; decide), fun mo nmo => ?_⟩
        have s3 := same_new nmo (HO.tup [V.str x])
        refine ⟨q, p, mA, code, rs, nm, _, _, (n : Int), "setfield", mo, [V.str x], rfl, C2.same s3, SqT.of upd_same, by simp, by simp only [List.length_append, List.length_cons, List.length_nil]; omega, fun a8 H8 C8 b8 => ?_⟩
        refine qq _ H8 (cp_len C8 ?_) ((b2.trans (But.same s3)).trans b8)
        rw [rS_setfield]
        simp only [List.append_assoc]
        rfl
      · refine iteN (by decide +kernel) ?_
        refine ⟨_, rfl, b, _, _, _, rfl, rfl, hS1, at0, rfl, _, rfl, iteN (by decide +kernel) ?_⟩
        refine ⟨_, rfl, b, _, _, _, rfl, rfl, hS1, at0, rfl, _, rfl, iteN (by decide +kernel) ?_⟩
        refine ⟨_, rfl, b, _, _, _, rfl, rfl, hS1, at0, rfl, _, rfl, iteY (by decide +kernel) ?_⟩
        refine ⟨_, rfl, q, dx1, _, rfl, ho1, rfl, _, rfl, _, rfl, _, rfl, ?_⟩
        exact hmid ["try"] false (by simp)
      · have z : ∀ w : Str, (w = "if" ∨ w = "while") → inV (.str w) [.str "do", .str "say", .str "return", .str "raise"] = false ∧ decide (V.str w = V.str "set") = false ∧ decide (V.str w = V.str "setfield") = false ∧ decide (V.str w = V.str "try") = false := by
          intro w h
          rcases h with rfl | rfl <;> decide +kernel
        obtain ⟨z1, z2, z3, z4⟩ := z w hw
        refine iteN z1 ?_
        refine ⟨_, rfl, b, _, _, _, rfl, rfl, hS1, at0, rfl, _, rfl, iteN z2 ?_⟩
        refine ⟨_, rfl, b, _, _, _, rfl, rfl, hS1, at0, rfl, _, rfl, iteN z3 ?_⟩
        refine ⟨_, rfl, b, _, _, _, rfl, rfl, hS1, at0, rfl, _, rfl, iteN z4 ?_⟩
        refine ⟨_, rfl, q, dx1, _, rfl, ho1, rfl, _, rfl, _, rfl, _, rfl, _, rfl, ?_⟩
        exact hmid ["if", "while"] true (by rcases hw with rfl | rfl <;> simp)
/-- all heights -/
theorem ok_all_done_h (T : Tx K mg) : ∀ N : Nat, FnOk P w K mg base CX0 (163 + 3 * N) T.d_Compiler_all_done.f T.d_Compiler_all_done.fd ["self", "numbers"] (spAllDone K T.Shape.C T.Compiler.C N)
  | 0 => ok_all_done T (lv := 162) (fn_never fun vs H Q E h => by
    obtain ⟨_, _, _, _, _, _, _, _, _, t, _, _, _, _, _, h, _⟩ := h
    cases t
    simp only [hgt] at h
    omega)
  | N + 1 => by
    have a := ok_all_done_h T N
    have c := ok_chosen T (lv := 163 + 3 * N) (by omega) a
    have t := ok_tried T (lv := 163 + 3 * N) (by omega) a
    have d := ok_done1 T (lv := 163 + 3 * N + 1) (by omega) c t
    exact ok_all_done T (lv := 163 + 3 * N + 1 + 1) d
end
end My

set_option Elab.async false
set_option linter.all false
set_option maxRecDepth 100000
set_option maxHeartbeats 4000000
namespace My
open PySem L2
def endRows : List (List V) := [[.int (-1), .str "push", .non], [.int (-1), .str "return"]]
/-- a tuple of tuples -/
structure Rows (K : PySem.W.Frag) (H : Hp) (t : Addr) (rows : List (List V)) : Prop where
  ex : ∃ ras : List Addr, SqT K H t (ras.map V.ref) ∧ ras.length = rows.length ∧ ∀ (i : Nat) (a : Addr) (r : List V), ras[i]? = some a → rows[i]? = some r → SqT K H a r
def spCInit (K : PySem.W.Frag) (CC : Addr) : Sp := fun vs H Q _ => ∃ (q dx p : Addr) (code : Int), vs = [.ref q, .ref p, .int code] ∧ H q = some (.ins CC dx []) ∧
  ∀ (mA : Addr) (H' : Hp), But q H H' → H mA = none → H' mA = some (.lst []) → H' q = some (.ins CC dx (cpF p code mA)) → Q .non H'
def spWhole (K : PySem.W.Frag) (CS CC : Addr) (N : Nat) : Sp := fun vs H Q _ => ∃ (q p mA : Addr) (nm : List Str) (ts : List Nd), vs = [.ref q] ∧
  Cp K CS CC H q p mA (-1) (recsL 0 (-1) (-1) [] ts) nm [] [] ∧ (∀ t, t ∈ ts → NdAt K H t) ∧ ssOk nm ts ∧ hgtL ts ≤ N ∧ sizeL ts ≤ 160 ∧
  ∀ (t : Addr) (H' : Hp), Rows K H' t (rSs nm 0 0 [] ts ++ endRows) → But mA H H' → Q (.ref t) H'
section
variable {P : Program} {w : World} {K : PySem.W.Frag} {mg : Str → Option Value} {base : Heap}
theorem ok_cinit (T : Tx K mg) : FnOk P w K mg base CX0 1 T.d_Compiler_init__.f T.d_Compiler_init__.fd ["self", "form", "code"] (spCInit K T.Compiler.C) := by
  have nd := sc_Compiler_init__.nd
  refine T.d_Compiler_init__.fn.ok sc_Compiler_init__ (fun vs H Q E h => ?_) (fun cdv A outer s H vs Q E hr h => ?_)
  · obtain ⟨q, dx, p, code, rfl, _⟩ := h
    rfl
  · obtain ⟨q, dx, p, code, rfl, hq, qq⟩ := h
    refine ⟨_, (pss_cons (ps_fld (pv 0) (pv 1) rfl)
      (pss_cons (ps_fld (pv 0) (pv 2) rfl)
      (pss_one (ps_fld (pv 0) (pe_lst pa_nil) rfl)))), ?_⟩
    refine ⟨_, rfl, _, rfl, q, T.Compiler.C, dx, [], rfl, hq, T.Compiler.cl, T.Compiler.n_form, (by show 0 < 1000; decide), ?_⟩
    have b0 : But q H (upd H q (.ins T.Compiler.C dx (putF "form" (V.ref p) []))) := But.set _
    have p0 : upd H q (.ins T.Compiler.C dx (putF "form" (V.ref p) [])) q = some (.ins T.Compiler.C dx [("form", V.ref p)]) := upd_same
    generalize upd H q (.ins T.Compiler.C dx (putF "form" (V.ref p) [])) = H0 at b0 p0 ⊢
    refine ⟨_, rfl, _, rfl, q, T.Compiler.C, dx, _, rfl, p0, T.Compiler.cl, T.Compiler.n_code, (by show 1 < 1000; decide), ?_⟩
    have b1 : But q H (upd H0 q (.ins T.Compiler.C dx (putF "code" (V.int code) [("form", V.ref p)]))) := b0.trans (But.set _)
    have p1 : upd H0 q (.ins T.Compiler.C dx (putF "code" (V.int code) [("form", V.ref p)])) q = some (.ins T.Compiler.C dx [("form", V.ref p), ("code", V.int code)]) := upd_same
    generalize upd H0 q (.ins T.Compiler.C dx (putF "code" (V.int code) [("form", V.ref p)])) = H1 at b1 p1 ⊢
    refine ⟨(by show 0 ≤ sizeLine; decide), fun n nn => ⟨_, rfl, q, T.Compiler.C, dx, _, rfl, (by rw [upd_ne (ne_of_none p1 nn)]; exact p1), T.Compiler.cl, T.Compiler.n_made, (by show 2 < 1000; decide), ?_⟩⟩
    have pn : n ≠ q := fun e => by rw [e, p1] at nn; cases nn
    have hn : H n = none := by
      cases e : H n with
      | none => rfl
      | some o => rw [b1 _ _ e pn] at nn; cases nn
    exact qq n _ ((b1.trans (But.same (same_new nn _))).trans (But.set _)) hn (by rw [upd_ne pn, upd_same]) upd_same
theorem ok_whole (T : Tx K mg) (N : Nat) : FnOk P w K mg base CX0 (163 + 3 * N + 1) T.d_Compiler_whole.f T.d_Compiler_whole.fd ["self"] (spWhole K T.Shape.C T.Compiler.C N) := by
  have nd := sc_Compiler_whole.nd
  have G_Compiler_come := ok_come (P := P) (w := w) (base := base) T
  have G_Compiler_all_done := ok_all_done_h (P := P) (w := w) (base := base) T N
  have G_Shape_firsts := ok_firsts (P := P) (w := w) (base := base) T
  refine T.d_Compiler_whole.fn.ok (k := 163 + 3 * N) sc_Compiler_whole (fun vs H Q E h => ?_) (fun cdv A outer s H vs Q E hr h => ?_)
  · obtain ⟨q, p, mA, nm, ts, rfl, _⟩ := h
    rfl
  · obtain ⟨q, p, mA, nm, ts, rfl, hC, hnd, hok, hh, hsz, qq⟩ := h
    have h_Compiler_come : Room 1 _ := hr.mono (by omega)
    have h_Shape_firsts : Room 1 _ := hr.mono (by omega)
    have h_Compiler_all_done := hr
    obtain ⟨dxq, ho⟩ := hC.o
    obtain ⟨dx, ta, nA, a, c, d, e, f, ch, ps0, hA, hnm, hm⟩ := hC.f.ex
    refine ⟨_, (pss_cons (ps_expr (pe_meth (pv 0) T.Compiler.cl T.d_Compiler_all_done.me G_Compiler_all_done h_Compiler_all_done T.d_Compiler_all_done.b .nil pass0 (pa_cons (pe_meth (pe_fld (pv 0) rfl) T.Shape.cl T.d_Shape_firsts.me G_Shape_firsts h_Shape_firsts T.d_Shape_firsts.b .nil pass0 (pa_cons (pe_fld (pv 0) rfl) pa_nil)) pa_nil)))
      (pss_cons (ps_expr (pe_meth (pv 0) T.Compiler.cl T.d_Compiler_come.me G_Compiler_come h_Compiler_come T.d_Compiler_come.b .nil pass0 (pa_cons (pe_un un_neg pe_int) (pa_cons pe_str (pa_cons (pe_tup (pa_cons pe_non pa_nil)) pa_nil)))))
      (pss_cons (ps_expr (pe_meth (dvs := [.ref T.d_Compiler_come.E]) (pv 0) T.Compiler.cl T.d_Compiler_come.me G_Compiler_come h_Compiler_come T.d_Compiler_come.bd (.cons rfl .nil) pass0 (pa_cons (pe_un un_neg pe_int) (pa_cons pe_str pa_nil))))
      (pss_one (ps_ret (pe_callTy call_tuple_of (by rfl) T.z_tuple (by decide +kernel) (pa_cons (pe_fld (pv 0) rfl) pa_nil))))))), ?_⟩
    refine ⟨_, rfl, q, dxq, _, rfl, ho, rfl, _, rfl, q, _, dxq, _, _, rfl, ho, T.Compiler.cl, T.Compiler.n_form, cpF_form _ _ _, p, dx, _, rfl, hA.R.o.ob, hA.R.o.no.2.2.2.2.2.1, _, rfl, q, _, dxq, _, _, rfl, ho, T.Compiler.cl, T.Compiler.n_code, cpF_code _ _ _, ?_⟩
    refine ⟨p, dx, ta, nA, a, c, d, e, f, ch, _, ps0, -1, rfl, hA, by rw [recsL_len]; omega, .inl ⟨rfl, fun L H1 s1 nL h1 => ?_⟩⟩
    rw [tops_kids] at h1
    have hLm : L ≠ mA := fun z => by rw [z, hC.b.l] at nL; cases nL
    refine ⟨q, p, mA, -1, _, nm, _, _, 0, ts, L, rfl, hC.same s1, h1, hLm, ⟨[], [], -1, by simp, rfl⟩, fun t ht => (Keep.same s1).nd (hnd t ht), hok, hh, hsz, by simp only [List.length_nil]; omega, fun ras2 H2 C2 b2 => ?_⟩
    have hst := rSs_len nm [] ts 0 0
    obtain ⟨dx2, ho2⟩ := C2.o
    simp only [List.length_nil, List.nil_append] at C2
    generalize hone : rSs nm 0 0 [] ts = one at C2 hst qq
    refine ⟨_, rfl, q, dx2, _, rfl, ho2, rfl, _, rfl, (by show 1 ≤ sizeLine; decide), fun mo nmo => ?_⟩
    have s3 := same_new nmo (HO.tup [V.non])
    refine ⟨q, p, mA, -1, _, nm, _, _, -1, "push", mo, [V.non], rfl, C2.same s3, SqT.of upd_same, by simp, by omega, fun a3 H3 C3 b3 => ?_⟩
    obtain ⟨dx3, ho3⟩ := C3.o
    refine ⟨_, rfl, q, dx3, _, rfl, ho3, rfl, _, rfl, ?_⟩
    refine ⟨q, p, mA, -1, _, nm, _, _, -1, "return", _, [], rfl, C3, T.d_Compiler_come.e0 _, by simp, by simp only [List.length_append, List.length_cons, List.length_nil]; omega, fun a4 H4 C4 b4 => ?_⟩
    obtain ⟨dx4, ho4⟩ := C4.o
    refine ⟨_, rfl, q, _, dx4, _, _, rfl, ho4, T.Compiler.cl, T.Compiler.n_made, cpF_made _ _ _, mA, _, rfl, .inl ⟨SqL.of C4.b.l, fun r nr => ?_⟩⟩
    have s5 := same_new nr (HO.tup (((ras2 ++ [a3]) ++ [a4]).map V.ref))
    refine qq r _ ⟨_, SqT.of upd_same, ?_, fun i a r g1 g2 => s5.sqt (C4.b.at_ i a r g1 ?_)⟩ (((((But.same s1).trans b2).trans (But.same s3)).trans b3).trans b4 |>.trans (But.same s5))
    · rw [C4.b.len]
      simp only [List.length_append, endRows, List.length_cons, List.length_nil]
    · rw [← g2]
      simp only [List.append_assoc, endRows]
      rfl
/-- `compiled(form, -1)` -/
def spCompiled (K : PySem.W.Frag) (CS : Addr) (N : Nat) : Sp := fun vs H Q _ => ∃ (p dx ta n a c d e f : Addr) (ch : List Addr) (ps : List Str) (ts : List Nd), vs = [.ref p, .int (-1)] ∧
  ShAt K CS H p dx ta n a c d e f ch (recsL 0 (-1) (-1) [] ts) ps ∧ (∀ t, t ∈ ts → NdAt K H t) ∧ ssOk (namesOf ps (recsL 0 (-1) (-1) [] ts)) ts ∧ hgtL ts ≤ N ∧ sizeL ts ≤ 160 ∧
  ∀ (t : Addr) (H' : Hp), Rows K H' t (rSs (namesOf ps (recsL 0 (-1) (-1) [] ts)) 0 0 [] ts ++ endRows) → Same H H' → Q (.ref t) H'
theorem ok_compiled (T : Tx K mg) (N : Nat) : FnOk P w K mg base CX0 (163 + 3 * N + 1 + 1) T.d_compiled.f T.d_compiled.fd ["form", "code"] (spCompiled K T.Shape.C N) := by
  have nd := sc_compiled.nd
  have G_Compiler_init__ := ok_cinit (P := P) (w := w) (base := base) T
  have G_Compiler_whole := ok_whole (P := P) (w := w) (base := base) T N
  refine T.d_compiled.fn.ok (k := 163 + 3 * N + 1) sc_compiled (fun vs H Q E h => ?_) (fun cdv A outer s H vs Q E hr h => ?_)
  · obtain ⟨p, dx, ta, n, a, c, d, e, f, ch, ps, ts, rfl, _⟩ := h
    rfl
  · obtain ⟨p, dx, ta, n, a, c, d, e, f, ch, ps, ts, rfl, hA, hnd, hok, hh, hsz, qq⟩ := h
    have h_Compiler_init__ : Room (1 + 1) _ := hr.mono (by omega)
    have h_Compiler_whole := hr
    refine ⟨_, (pss_one (ps_ret (pe_meth0 (pe_make T.d_Compiler_init__.mkk G_Compiler_init__ h_Compiler_init__ rfl T.Compiler.m T.d_Compiler_init__.b .nil pass0 (pa_cons (pv 0) (pa_cons (pv 1) pa_nil))) T.Compiler.cl T.d_Compiler_whole.me G_Compiler_whole h_Compiler_whole T.d_Compiler_whole.b .nil pass0))), ?_⟩
    refine ⟨_, rfl, _, rfl, fun q dq nq ndq ne => ?_⟩
    have s0 : Same H (upd (upd H dq (.own q)) q (.ins T.Compiler.C dq [])) := (same_new ndq _).trans (same_new (by rw [upd_ne ne.symm]; exact nq) _)
    refine ⟨q, dq, p, -1, rfl, upd_same, fun mA H1 b1 nm1 hm1 hq1 => ⟨rfl, ?_⟩⟩
    have sm : Same H H1 := Same.made nq ndq b1
    have hmA : H mA = none := by
      cases z : H mA with
      | none => rfl
      | some o => rw [s0 _ _ z] at nm1; cases nm1
    have hne : ∀ {y : Addr} {o : HO}, H y = some o → mA ≠ y := fun z1 z2 => by rw [← z2, hmA] at z1; cases z1
    have hF : Frm K T.Shape.C H1 p (recsL 0 (-1) (-1) [] ts) (namesOf ps (recsL 0 (-1) (-1) [] ts)) mA := by
      refine ⟨dx, ta, n, a, c, d, e, f, ch, ps, ⟨hA.R.same sm, sm _ _ hA.codes, sm _ _ hA.names⟩, rfl, ?_⟩
      simp only [List.mem_cons, not_or]
      refine ⟨hne hA.R.b.hn, hne hA.R.b.ha, hne hA.R.b.hc, hne hA.R.b.hd, hne hA.codes, hne hA.names, fun hx => ?_⟩
      obtain ⟨i, hi, g⟩ := List.getElem_of_mem hx
      have hil : i < (recsL 0 (-1) (-1) [] ts).length := by rw [← hA.R.b.len]; exact hi
      have := hA.R.b.kid i _ _ (List.getElem?_eq_getElem hi) (List.getElem?_eq_getElem hil)
      rw [g, hmA] at this
      cases this
    have hC : Cp K T.Shape.C T.Compiler.C H1 q p mA (-1) (recsL 0 (-1) (-1) [] ts) (namesOf ps (recsL 0 (-1) (-1) [] ts)) [] [] := ⟨⟨dq, hq1⟩, ⟨hm1, rfl, fun i a r g => by simp at g⟩, hF⟩
    refine ⟨q, dq, _, rfl, hq1, rfl, q, p, mA, _, ts, rfl, hC, fun t ht => (Keep.same sm).nd (hnd t ht), hok, hh, hsz, fun t H' hR b' => qq t H' hR (fun y o z => b' y o (sm _ _ z) (hne z).symm)⟩
/-- `rows_of(method, -1)` -/
def spRowsOf (K : PySem.W.Frag) : Sp := fun vs H Q _ => ∃ (ta pa ba : Addr) (msg : Str) (ps : List Str) (ts : List Nd), vs = [.ref ta, .int (-1)] ∧ MethAt K H ta msg pa ba ps ts ∧
  ssOk (namesOf ps (recsL 0 (-1) (-1) [] ts)) ts ∧ hgtL ts ≤ 10 ∧ sizeL ts ≤ 160 ∧
  ∀ (t : Addr) (H' : Hp), Rows K H' t (rSs (namesOf ps (recsL 0 (-1) (-1) [] ts)) 0 0 [] ts ++ endRows) → Same H H' → Q (.ref t) H'
theorem ok_rows_of (T : Tx K mg) : FnOk P w K mg base CX0 205 T.d_rows_of.f T.d_rows_of.fd ["method", "node"] (spRowsOf K) := by
  have nd := sc_rows_of.nd
  have G_Shape_init__ := ok_init (P := P) (w := w) (base := base) T
  have G_compiled := ok_compiled (P := P) (w := w) (base := base) T 10
  refine T.d_rows_of.fn.ok (k := 204) sc_rows_of (fun vs H Q E h => ?_) (fun cdv A outer s H vs Q E hr h => ?_)
  · obtain ⟨ta, pa, ba, msg, ps, ts, rfl, _⟩ := h
    rfl
  · obtain ⟨ta, pa, ba, msg, ps, ts, rfl, hM, hok, hh, hsz, qq⟩ := h
    have h_Shape_init__ : Room 204 _ := hr
    have h_compiled : Room (163 + 3 * 10 + 1 + 1) _ := hr.mono (by omega)
    refine ⟨_, (pss_one (ps_ret (pe_call G_compiled h_compiled rfl T.d_compiled.m T.d_compiled.kp T.d_compiled.b .nil pass0 (pa_cons (pe_make T.d_Shape_init__.mkk G_Shape_init__ h_Shape_init__ rfl T.Shape.m T.d_Shape_init__.b .nil pass0 (pa_cons (pv 0) pa_nil)) (pa_cons (pv 1) pa_nil))))), ?_⟩
    refine ⟨_, rfl, fun p dx np ndx ne => ?_⟩
    have s0 : Same H (upd (upd H dx (.own p)) p (.ins T.Shape.C dx [])) := (same_new ndx _).trans (same_new (by rw [upd_ne ne.symm]; exact np) _)
    refine ⟨p, dx, ta, pa, ba, msg, ps, ts, rfl, upd_same, hM.keep (Keep.same s0), fun n a c d e f ch H' hS b => ⟨rfl, ?_⟩⟩
    have s1 : Same H H' := Same.made np ndx b
    exact ⟨_, rfl, p, dx, ta, n, a, c, d, e, f, ch, ps, ts, rfl, hS, fun t ht => (Keep.same s1).nd (hM.nds t ht), hok, hh, hsz, fun t H2 hR s2 => qq t H2 hR (s1.trans s2)⟩
end
end My

set_option Elab.async false
set_option linter.all false
set_option maxRecDepth 100000
set_option maxHeartbeats 4000000
namespace My
open PySem L2
/-! ### the deck of the rows' laws: a list of the row and the count -/
structure Dk (H : Hp) (D R : Addr) (k : Int) (row : List Int) : Prop where
  d : H D = some (.lst [.ref R, .int k])
  r : H R = some (.lst (row.map V.int))
  len : row.length ≤ 63
  lo : ∀ x, x ∈ row → 0 ≤ x
  k0 : 0 ≤ k
theorem Dk.ne {H : Hp} {D R : Addr} {k : Int} {row : List Int} (h : Dk H D R k row) : R ≠ D := ne_of h.r h.d (by
  intro z
  have z1 := HO.lst.inj z
  cases row with
  | nil => cases z1
  | cons a r => cases z1)
theorem Dk.same {H H' : Hp} {D R : Addr} {k : Int} {row : List Int} (h : Dk H D R k row) (s : Same H H') : Dk H' D R k row := ⟨s _ _ h.d, s _ _ h.r, h.len, h.lo, h.k0⟩
/-- only the deck has changed, and its count has grown by at most n -/
structure Dw (D R : Addr) (k n : Int) (H H' : Hp) : Prop where
  ex : ∃ (k' : Int) (row' : List Int), Dk H' D R k' row' ∧ k' ≤ k + n
  b : ButS [D, R] H H'
theorem Dw.trans {D R : Addr} {k n1 n2 : Int} {H H1 H2 : Hp} (a : Dw D R k n1 H H1) (b : ∀ k' row', Dk H1 D R k' row' → k' ≤ k + n1 → Dw D R k' n2 H1 H2) : Dw D R k (n1 + n2) H H2 := by
  obtain ⟨k', row', h, hk⟩ := a.ex
  have c := b k' row' h hk
  obtain ⟨k2, row2, h2, hk2⟩ := c.ex
  exact ⟨⟨k2, row2, h2, by omega⟩, a.b.trans c.b⟩
theorem Dw.same {D R : Addr} {k n : Int} {H H1 H2 : Hp} (a : Dw D R k n H H1) (s : Same H1 H2) : Dw D R k n H H2 := by
  obtain ⟨k', row', h, hk⟩ := a.ex
  exact ⟨⟨k', row', h.same s, hk⟩, a.b.trans (ButS.same s)⟩
theorem Dw.keep {D R : Addr} {k k0 n : Int} {row : List Int} {H H1 : Hp} (a : Dw D R k n H H1) (h : Dk H D R k0 row) : Keep H H1 := a.b.keep (fun s hs => by
  simp only [List.mem_cons, List.not_mem_nil, or_false] at hs
  rcases hs with rfl | rfl
  · exact ⟨_, h.d⟩
  · exact ⟨_, h.r⟩)
/-- what H does not know may change -/
theorem Dw.mut {D R : Addr} {k k0 n : Int} {row : List Int} {H H1 : Hp} {p : Addr} {o : HO} (a : Dw D R k n H H1) (h : H p = none) (d : Dk H D R k0 row) : Dw D R k n H (upd H1 p o) := by
  have hD : D ≠ p := ne_of_none d.d h
  have hR : R ≠ p := ne_of_none d.r h
  obtain ⟨k', row', e, hk⟩ := a.ex
  refine ⟨⟨k', row', ⟨by rw [upd_ne hD]; exact e.d, by rw [upd_ne hR]; exact e.r, e.len, e.lo, e.k0⟩, hk⟩, fun b u hb n => ?_⟩
  rw [upd_ne (ne_of_none hb h)]
  exact a.b b u hb n
theorem Dw.refl {D R : Addr} {k : Int} {row : List Int} {H : Hp} (h : Dk H D R k row) {n : Int} (hn : 0 ≤ n) : Dw D R k n H H := ⟨⟨k, row, h, by omega⟩, ButS.refl _ _⟩
theorem Dw.lst {D R : Addr} {k k0 n : Int} {row : List Int} {H H1 : Hp} (a : Dw D R k n H H1) (d : Dk H D R k0 row) {L : Addr} {o : HO} (hL : H L = some o) (h1 : L ≠ D) (h2 : L ≠ R) : H1 L = some o := a.b L o hL (by simp only [List.mem_cons, List.not_mem_nil, or_false, not_or]; exact ⟨h1, h2⟩)
def spDk (K : PySem.W.Frag) : Sp := fun vs H Q _ => ∃ (a : Addr) (ns : List Int), vs = [.ref a] ∧ SqL K H a (ns.map V.int) ∧
  ∀ (D R : Addr) (row : List Int) (H' : Hp), Same H H' → H D = none → H R = none → Dk H' D R 0 row → Q (.ref D) H'
def spDraw : Sp := fun vs H Q _ => ∃ (D R : Addr) (k : Int) (row : List Int) (n : Nat), vs = [.ref D, .int n] ∧ Dk H D R k row ∧ k ≤ 1000000 ∧ 1 ≤ n ∧ n ≤ 1000 ∧
  ∀ (z : Nat) (H' : Hp), z < n → Dw D R k 1 H H' → Q (.int z) H'
theorem fmod_nat (x : Int) (n : Nat) (hn : 1 ≤ n) : ∃ z : Nat, x.fmod (n : Int) = (z : Int) ∧ z < n := by
  have h0 := Int.fmod_nonneg_of_pos x (show (0 : Int) < n by omega)
  have h1 := Int.fmod_lt_of_pos x (show (0 : Int) < n by omega)
  exact ⟨(x.fmod n).toNat, by omega, by omega⟩
section
variable {P : Program} {w : World} {K : PySem.W.Frag} {mg : Str → Option Value} {base : Heap}
theorem ok_law_deck (T : Tx K mg) : FnOk P w K mg base CX0 1 T.d_law_deck.f T.d_law_deck.fd ["_law_script"] (spDk K) := by
  have nd := sc_law_deck.nd
  refine T.d_law_deck.fn.ok sc_law_deck (fun vs H Q E h => ?_) (fun cdv A outer s H vs Q E hr h => ?_)
  · obtain ⟨a, ns, rfl, _⟩ := h
    rfl
  · obtain ⟨a, ns, rfl, hS, q⟩ := h
    refine ⟨_, (pss_one (ps_ret (pe_lst (pa_cons (pe_lc (own := [("_law_cell", 1)]) (g := (gName 1)) (tt := tYes) rfl nd (pi_list (pe_slice sl_list (pv 0) po_none (po_some pe_int))) (blkOk_by (N := N_law_deck) (sc := defScope s_law_deck) (by decide +kernel)) (fun _ _ _ _ _ => (pg_name (i := 1) nd rfl (Or.inl rfl))) (fun _ _ _ _ _ => pts_nil) (fun _ _ _ _ _ => (pe_callB call_abs (by rfl) T.z_abs (by decide +kernel) (pa_cons (pv 1) pa_nil)))) (pa_cons pe_int pa_nil))))), ?_⟩
    refine ⟨_, rfl, 63, rfl, a, _, rfl, hS, fun L nL => ?_⟩
    have s1 := same_new nL (HO.lst (cutV (ns.map V.int) none (some 63)))
    have ecut : ∃ ms : List Int, cutV (ns.map V.int) none (some 63) = ms.map V.int ∧ ms.length ≤ 63 := by
      refine ⟨ns.take (min 63 ns.length), ?_, by rw [List.length_take]; omega⟩
      unfold cutV
      rw [HT.sIx_none, show HT.sIx (ns.map V.int).length (ns.map V.int).length (some (63 : Int)) = min 63 (ns.map V.int).length from HT.sIx_nat _ _ 63, Nat.sub_zero, List.length_map, List.map_take]
      rfl
    obtain ⟨ms, em, hms⟩ := ecut
    have hL1 : upd H L (.lst (cutV (ns.map V.int) none (some 63))) L = some (.lst (ms.map V.int)) := by rw [upd_same, em]
    generalize upd H L (.lst (cutV (ns.map V.int) none (some 63))) = H1 at s1 hL1 ⊢
    refine ⟨L, rfl, ⟨_, SqL.of hL1⟩, fun R nR => ?_⟩
    have nR0 : H R = none := s1.free nR
    refine lc_list (K := K) (a := L) (xs := ms.map V.int) (fun i H' => ∃ row : List Int, row.length = i ∧ (∀ x, x ∈ row → 0 ≤ x) ∧ Same H1 H' ∧ H' R = some (.lst (row.map V.int))) ⟨[], rfl, fun x hx => by simp at hx, same_new nR _, upd_same⟩ ?_ ?_ ?_
    · rintro i H' _ ⟨row, _, _, s', _⟩
      exact SqL.of (s' _ _ hL1)
    · rintro i x H' hi ⟨row, hl, hlo, s', hR⟩
      obtain ⟨z, hz, rfl⟩ : ∃ z, ms[i]? = some z ∧ x = .int z := by
        rw [List.getElem?_map] at hi
        cases e : ms[i]? with
        | none => rw [e] at hi; cases hi
        | some z => rw [e] at hi; exact ⟨z, rfl, (Option.some.inj hi).symm⟩
      have hil := (List.getElem?_eq_some_iff.mp hz).1
      refine ⟨rfl, _, rfl, _, rfl, _, hR, szl (by rw [List.length_map]; omega), row ++ [if z < 0 then -z else z], by rw [List.length_append, hl]; rfl, fun y hy => ?_, same_mut s' nR, by rw [upd_same, List.map_append]; rfl⟩
      rcases List.mem_append.mp hy with e | e
      · exact hlo y e
      · rw [List.mem_singleton] at e
        rw [e]
        split <;> omega
    · rintro H' ⟨row, hl, hlo, s', hR⟩
      rw [List.length_map] at hl
      refine ⟨(by show 2 ≤ sizeLine; decide), fun D nD => ?_⟩
      have s2 := s1.trans s'
      refine q D R row _ (s2.trans (same_new nD _)) (s2.free nD) nR0 ⟨upd_same, ?_, by omega, hlo, by decide⟩
      rw [upd_ne (ne_of_none hR nD)]
      exact hR
theorem ok_law_draw (T : Tx K mg) : FnOk P w K mg base CX0 1 T.d_law_draw.f T.d_law_draw.fd ["_law_deck_here", "_law_many"] spDraw := by
  have nd := sc_law_draw.nd
  refine T.d_law_draw.fn.ok sc_law_draw (fun vs H Q E h => ?_) (fun cdv A outer s H vs Q E hr h => ?_)
  · obtain ⟨D, R, k, row, n, rfl, _⟩ := h
    rfl
  · obtain ⟨D, R, k, row, n, rfl, hd, hk1, hn1, hn2, q⟩ := h
    have hk0 := hd.k0
    refine ⟨_, (pss_cons (ps_asg (pe_op op_add (pe_ix ix_list (pv 0) pe_int (fun _ _ => rfl)) pe_int) (pg_sub (pv 0) pe_int set_list))
      (pss_cons (ps_set (i := 2) nd rfl (Or.inl rfl) pe_int)
      (pss_cons (ps_if (pt_cmpR op_gt (pe_callB call_len_seq (by rfl) T.z_len PySem.boot_len (pa_cons (pe_ix ix_list (pv 0) pe_int (fun _ _ => rfl)) pa_nil)) pe_int (nomark _))
      (pss_cons (ps_set (i := 3) nd rfl (Or.inl rfl) (pe_op op_modN (pe_ix ix_list (pv 0) pe_int (fun _ _ => rfl)) (pe_callB call_len_seq (by rfl) T.z_len PySem.boot_len (pa_cons (pe_ix ix_list (pv 0) pe_int (fun _ _ => rfl)) pa_nil))))
      (pss_cons (ps_set (i := 2) nd rfl (Or.inl rfl) (pe_ix ix_list (pe_ix ix_list (pv 0) pe_int (fun _ _ => rfl)) (pv 3) (fun _ _ => rfl)))
      (pss_one (ps_if (pt_cmpR op_ge (pv 2) (pe_op op_pow pe_int pe_int) (nomark _))
      (pss_cons (ps_asg (pe_op op_fdivN (pv 2) (pv 1)) (pg_sub (pe_ix ix_list (pv 0) pe_int (fun _ _ => rfl)) (pv 3) set_list))
      (pss_one (ps_ret (pe_op op_modN (pv 2) (pv 1)))))
      pss_nil))))
      pss_nil)
      (pss_one (ps_ret (pe_op op_modN (pe_op op_mod (pe_op op_pow (pe_op op_add (pe_op op_add (pe_op op_mod (pv 2) pe_int) (pe_op op_mul pe_int (pe_ix ix_list (pv 0) pe_int (fun _ _ => rfl)))) pe_int) pe_int) pe_int) (pv 1))))))), ?_⟩
    refine ⟨_, rfl, D, _, _, _, rfl, rfl, SqL.of hd.d, at1, _, _, rfl, rfl, _, rfl, D, _, _, 1, rfl, rfl, hd.d, rfl, ?_⟩
    have d1 : Dk (upd H D (.lst ([V.ref R, V.int k].set 1 (V.int (k + 1))))) D R (k + 1) row := ⟨upd_same, by rw [upd_ne hd.ne]; exact hd.r, hd.len, hd.lo, by omega⟩
    have b1 : ButS [D, R] H (upd H D (.lst ([V.ref R, V.int k].set 1 (V.int (k + 1))))) := fun b o e hb => by rw [upd_ne (fun z => hb (by simp [z]))]; exact e
    generalize upd H D (.lst ([V.ref R, V.int k].set 1 (V.int (k + 1)))) = H1 at b1 d1 ⊢
    refine ⟨_, rfl, D, _, _, _, rfl, rfl, SqL.of d1.d, at0, R, _, rfl, .inl (SqL.of d1.r), _, _, rfl, rfl, _, rfl, ?_⟩
    have fin : ∀ (x : Int) (z : Nat), x = (z : Int) → z < n → Q (.int x) H1 := fun x z e hz => by rw [e]; exact q z H1 hz ⟨⟨_, _, d1, by omega⟩, b1⟩
    have hlen := hd.len
    have rest : ∀ (cell : Int), 0 ≤ cell → ∃ z : Nat, (((cell % 2147483587 + 7919 * (k + 1) + 1) ^ (5 : Int).toNat % 2147483647).fmod (n : Int)) = (z : Int) ∧ z < n := fun cell hc => fmod_nat _ n hn1
    have restB : ∀ (cell : Int), 0 ≤ cell → (cell % 2147483587 + 7919 * (k + 1) + 1).natAbs < 2 ^ 64 := fun cell hc => by
      have h0 := Int.emod_nonneg cell (show (2147483587 : Int) ≠ 0 by decide)
      have h1 := Int.emod_lt_of_pos cell (show (0 : Int) < 2147483587 by decide)
      omega
    refine iteB (fun c => ?_) (fun c => ?_)
    · have c' := of_decide_eq_true c
      rw [List.length_map] at c'
      have hpos : 0 < row.length := by omega
      have hl : ((row.map V.int).length : Int) = (row.length : Int) := by rw [List.length_map]
      have ne0 : ((row.map V.int).length : Int) ≠ 0 := by omega
      have i1 : 0 ≤ (k + 1).fmod ((row.map V.int).length : Int) ∧ (k + 1).fmod ((row.map V.int).length : Int) < (row.length : Int) := by
        rw [hl]
        exact ⟨Int.fmod_nonneg_of_pos _ (by omega), Int.fmod_lt_of_pos _ (by omega)⟩
      obtain ⟨z, hz, hm⟩ := atIx (row := row) i1.1 i1.2
      have hz0 := hd.lo z hm
      refine ⟨_, rfl, D, _, _, _, rfl, rfl, SqL.of d1.d, at1, _, rfl, D, _, _, _, rfl, rfl, SqL.of d1.d, at0, R, _, rfl, .inl (SqL.of d1.r), _, _, rfl, rfl, ne0, ?_⟩
      refine ⟨_, rfl, D, _, _, _, rfl, rfl, SqL.of d1.d, at0, _, rfl, R, _, _, _, rfl, rfl, SqL.of d1.r, hz, ?_⟩
      refine ⟨_, rfl, _, _, rfl, rfl, ⟨by decide, by decide, by decide⟩, _, _, rfl, rfl, _, rfl, iteB (fun c2 => ?_) (fun c2 => ?_)⟩
      · obtain ⟨j, hj, hjl⟩ : ∃ j : Nat, (k + 1).fmod ((row.map V.int).length : Int) = (j : Int) ∧ j < row.length := ⟨((k + 1).fmod ((row.map V.int).length : Int)).toNat, by omega, by omega⟩
        have hix : ixN (row.map V.int).length ((k + 1).fmod ((row.map V.int).length : Int)) = some j := by
          rw [hj]
          unfold ixN
          rw [if_pos (by omega), if_pos (by rw [List.length_map]; omega)]
          rfl
        refine ⟨_, rfl, _, rfl, _, _, rfl, rfl, ⟨by omega, by omega⟩, _, rfl, D, _, _, _, rfl, rfl, SqL.of d1.d, at0, _, rfl, R, _, _, j, rfl, rfl, d1.r, hix, ?_⟩
        have d2 : Dk (upd H1 R (.lst ((row.map V.int).set j (V.int (z.fdiv (n : Int)))))) D R (k + 1) (row.set j (z.fdiv (n : Int))) := by
          refine ⟨by rw [upd_ne (Ne.symm d1.ne)]; exact d1.d, by rw [upd_same, List.map_set], by rw [List.length_set]; exact hlen, fun x hx => ?_, d1.k0⟩
          rcases List.mem_or_eq_of_mem_set hx with e | e
          · exact hd.lo x e
          · rw [e]
            exact Int.fdiv_nonneg hz0 (by omega)
        have b2 : ButS [D, R] H (upd H1 R (.lst ((row.map V.int).set j (V.int (z.fdiv (n : Int)))))) := fun b o e hb => by
          rw [upd_ne (fun z => hb (by simp [z]))]
          exact b1 b o e hb
        obtain ⟨y, hy, hyn⟩ := fmod_nat z n hn1
        refine ⟨_, rfl, _, rfl, _, _, rfl, rfl, by omega, ?_⟩
        have e2 := q y _ hyn ⟨⟨_, _, d2, by omega⟩, b2⟩
        rw [← hy] at e2
        exact e2
      · obtain ⟨y, hy, hyn⟩ := rest z hz0
        refine ⟨_, rfl, _, _, rfl, rfl, (by show (0 : Int) < 2147483587; decide), _, rfl, D, _, _, _, rfl, rfl, SqL.of d1.d, at1, _, _, rfl, rfl, .inl ⟨by decide, by decide⟩, _, _, rfl, rfl, _, _, rfl, rfl, _, _, rfl, rfl, ⟨by decide, by decide, restB z hz0⟩, _, _, rfl, rfl, (by show (0 : Int) < 2147483647; decide), _, rfl, _, _, rfl, rfl, by omega, ?_⟩
        exact fin _ y hy hyn
    · obtain ⟨y, hy, hyn⟩ := rest 0 (by decide)
      refine ⟨_, rfl, _, _, rfl, rfl, (by show (0 : Int) < 2147483587; decide), _, rfl, D, _, _, _, rfl, rfl, SqL.of d1.d, at1, _, _, rfl, rfl, .inl ⟨by decide, by decide⟩, _, _, rfl, rfl, _, _, rfl, rfl, _, _, rfl, rfl, ⟨by decide, by decide, restB 0 (by decide)⟩, _, _, rfl, rfl, (by show (0 : Int) < 2147483647; decide), _, rfl, _, _, rfl, rfl, by omega, ?_⟩
      exact fin _ y hy hyn
end
end My

set_option Elab.async false
set_option linter.all false
set_option maxRecDepth 100000
set_option maxHeartbeats 4000000
namespace My
open PySem L2
theorem Dw.step {D R : Addr} {k k1 n1 n2 : Int} {H H1 H2 : Hp} (a : Dw D R k n1 H H1) (hk : k1 ≤ k + n1) (b : Dw D R k1 n2 H1 H2) : Dw D R k (n1 + n2) H H2 := by
  obtain ⟨k2, row2, h2, hk2⟩ := b.ex
  exact ⟨⟨k2, row2, h2, by omega⟩, a.b.trans b.b⟩
theorem Dw.mono {D R : Addr} {k n1 n2 : Int} {H H1 : Hp} (a : Dw D R k n1 H H1) (hn : n1 ≤ n2) : Dw D R k n2 H H1 := by
  obtain ⟨k2, row2, h2, hk2⟩ := a.ex
  exact ⟨⟨k2, row2, h2, by omega⟩, a.b⟩
theorem joinLen {x : Str} (hx : x.length = 0) : ∀ (l : List Str), (∀ a, a ∈ l → a.length = 1) → (Str.join x l).length = l.length
  | [], _ => rfl
  | [a], h => h a (by simp)
  | a :: b :: r, h => by
    have ih := joinLen hx (b :: r) (fun y hy => h y (by simp only [List.mem_cons] at hy ⊢; exact .inr hy))
    show (a ++ x ++ Str.join x (b :: r)).length = _
    rw [PySem.Str.length_append, PySem.Str.length_append, hx, ih, h a (by simp)]
    simp only [List.length_cons]
    omega
theorem sum1 : ∀ (l : List Str), (∀ a, a ∈ l → a.length = 1) → (l.map (·.length)).sum = l.length
  | [], _ => rfl
  | a :: r, h => by
    rw [List.map_cons, List.sum_cons, sum1 r (fun y hy => h y (by simp [hy])), h a (by simp), List.length_cons]
    omega
def okS (x : Str) : Prop := PyData.strOk x = true
theorem okS_app {a b : Str} (h1 : okS a) (h2 : okS b) : okS (a ++ b) := by
  unfold okS PyData.strOk at *
  show ((a.cps ++ b.cps).all _) = true
  rw [Array.all_append, h1, h2]
  rfl
theorem okS_one {c : Nat} (h : c < 0x110000) : okS ⟨#[c]⟩ := by
  unfold okS PyData.strOk
  simp [h]
theorem okS_e : okS "" := by unfold okS; decide +kernel
theorem okS_join {x : Str} (hx : okS x) : ∀ (l : List Str), (∀ a, a ∈ l → okS a) → okS (Str.join x l)
  | [], _ => okS_e
  | [a], h => h a (by simp)
  | a :: b :: r, h => by
    have ih := okS_join hx (b :: r) (fun y hy => h y (by simp only [List.mem_cons] at hy ⊢; exact .inr hy))
    show okS (a ++ x ++ Str.join x (b :: r))
    exact okS_app (okS_app (h a (by simp)) hx) ih
theorem atC {xs : List Nat} {i : Nat} (h : i < xs.length) (hb : xs.all (fun c => decide (c < 0x110000)) = true) : ∃ c, atI xs (i : Int) = some c ∧ c < 0x110000 := by
  refine ⟨xs[i], ?_, of_decide_eq_true (List.all_eq_true.mp hb _ (List.getElem_mem h))⟩
  unfold atI ixN
  rw [if_pos (by omega), if_pos (by omega)]
  exact List.getElem?_eq_getElem h
theorem atN {xs : List V} {p : V → Bool} (h : xs.all p = true) {i : Nat} (hi : i < xs.length) : ∃ v, atI xs (i : Int) = some v ∧ p v = true :=
  ⟨xs[i], at_of (j := i) rfl (List.getElem?_eq_getElem hi), List.all_eq_true.mp h _ (List.getElem_mem hi)⟩
def isSh : V → Bool
  | .str x => decide (x.length ≤ 100) && PyData.strOk x
  | _ => false
theorem isSh_shape : ∀ {v : V}, isSh v = true → ∃ x, v = .str x ∧ x.length ≤ 100 ∧ okS x
  | .str x, h => by
    obtain ⟨h1, h2⟩ := Bool.and_eq_true_iff.mp h
    exact ⟨x, rfl, of_decide_eq_true h1, h2⟩
def isC : V → Bool
  | .int x => decide (0 ≤ x ∧ x ≤ 40)
  | _ => false
theorem isC_shape : ∀ {v : V}, isC v = true → ∃ m : Nat, v = .int (m : Int) ∧ m ≤ 40
  | .int x, h => by
    have := of_decide_eq_true h
    exact ⟨x.toNat, by congr 1; omega, by omega⟩
def spWord : Sp := fun vs H Q _ => ∃ (D R : Addr) (k : Int) (row : List Int) (f : Str) (m : Nat), vs = [.ref D, .str f, .int m] ∧ Dk H D R k row ∧ k ≤ 100000 ∧ 1 ≤ m ∧ m ≤ 100 ∧ f.length ≤ 100 ∧ okS f ∧
  ∀ (x : Str) (H' : Hp), x.length ≤ 200 → okS x → Dw D R k 101 H H' → Q (.str x) H'
def spText : Sp := fun vs H Q _ => ∃ (D R : Addr) (k : Int) (row : List Int), vs = [.ref D] ∧ Dk H D R k row ∧ k ≤ 100000 ∧
  ∀ (x : Str) (H' : Hp), x.length ≤ 200 → Dw D R k 101 H H' → Q (.str x) H'
def spWords (K : PySem.W.Frag) : Sp := fun vs H Q _ => ∃ (D R : Addr) (k : Int) (row : List Int) (n : Nat), vs = [.ref D, .int n] ∧ Dk H D R k row ∧ k ≤ 1000 ∧ n ≤ 12 ∧
  ∀ (W : Addr) (ws : List Str) (H' : Hp), H W = none → H' W = some (.lst (ws.map V.str)) → ws.length = n → (∀ x, x ∈ ws → x.length ≤ 1000 ∧ okS x) → Dw D R k 1300 H H' → Q (.ref W) H'
section
variable {P : Program} {w : World} {K : PySem.W.Frag} {mg : Str → Option Value} {base : Heap}
theorem ok_law_word (T : Tx K mg) : FnOk P w K mg base CX0 2 T.d_law_word.f T.d_law_word.fd ["_law_deck_here", "_law_first", "_law_most"] spWord := by
  have nd := sc_law_word.nd
  have G_law_draw := ok_law_draw (P := P) (w := w) (base := base) T
  refine T.d_law_word.fn.ok sc_law_word (fun vs H Q E h => ?_) (fun cdv A outer s H vs Q E hr h => ?_)
  · obtain ⟨D, R, k, row, f, m, rfl, _⟩ := h
    rfl
  · obtain ⟨D, R, k, row, f, m, rfl, hd, hk1, hm1, hm2, hf, hfo, q⟩ := h
    have h_law_draw := hr
    refine ⟨_, (pss_cons (ps_set (i := 3) nd rfl (Or.inr rfl) pe_str)
      (pss_one (ps_ret (pe_op op_add_str (pv 1) (pe_bm PySem.F.plainAttrs_str PySem.F.slot_str_join PySem.F.type_str_join mt_join pe_str (pa_cons (pe_lc (own := [("_law_k", 4)]) (g := (gName 4)) (tt := tYes) rfl nd (pi_range1 (by rfl) T.z_range (pa_cons (pe_call G_law_draw h_law_draw rfl T.d_law_draw.m T.d_law_draw.kp T.d_law_draw.b .nil pass0 (pa_cons (pv 0) (pa_cons (pv 2) pa_nil))) pa_nil)) (blkOk_by (N := N_law_word) (sc := defScope s_law_word) (by decide +kernel)) (fun _ _ _ _ _ => (pg_name (i := 4) nd rfl (Or.inl rfl))) (fun _ _ _ _ _ => pts_nil) (fun _ _ _ _ _ => (pe_ix ix_str (pv 3) (pe_call G_law_draw h_law_draw rfl T.d_law_draw.m T.d_law_draw.kp T.d_law_draw.b .nil pass0 (pa_cons (pv 0) (pa_cons pe_int pa_nil))) (fun _ _ => rfl)))) pa_nil)))))), ?_⟩
    refine ⟨_, rfl, rfl, _, rfl, _, rfl, D, R, k, row, m, rfl, hd, by omega, by omega, by omega, fun z H1 hz dw1 => ?_⟩
    obtain ⟨k1, row1, d1, hk⟩ := dw1.ex
    refine ⟨_, rfl, by omega, by omega, fun L nL => ?_⟩
    have hLD : L ≠ D := fun e => by rw [e, d1.d] at nL; cases nL
    have hLR : L ≠ R := fun e => by rw [e, d1.r] at nL; cases nL
    refine lc_range (lo := 0) (n := ((z : Nat) : Int).toNat) (fun i H' => ∃ (ys : List Str), ys.length = i ∧ (∀ a, a ∈ ys → a.length = 1 ∧ okS a) ∧ H' L = some (.lst (ys.map V.str)) ∧ Dw D R k1 i H1 H') ⟨[], rfl, fun a ha => by simp at ha, upd_same, (Dw.refl d1 (by decide)).mut nL d1⟩ ?_ ?_
    · rintro i H2 hi ⟨ys, hl, hy, hL, dw⟩
      obtain ⟨k2, row2, d2, hk2⟩ := dw.ex
      refine ⟨rfl, _, rfl, _, rfl, D, R, k2, row2, 36, rfl, d2, by omega, by decide, by decide, fun z2 H3 hz2 dw3 => ?_⟩
      obtain ⟨c, hc, hcl⟩ := atC (xs := (Str.ofString "abcdefghijklmnopqrstuvwxyz0123456789").cps.toList) (i := z2) (by
        rw [show (Str.ofString "abcdefghijklmnopqrstuvwxyz0123456789").cps.toList.length = 36 by decide +kernel]
        exact hz2) (by decide +kernel)
      refine ⟨_, _, c, rfl, rfl, by decide +kernel, hc, _, dw3.lst d2 hL hLD hLR, szl (by rw [List.length_map]; omega), ys ++ [⟨#[c]⟩], by rw [List.length_append, hl]; rfl, fun a ha => ?_, by rw [upd_same, List.map_append]; rfl, ((dw.step hk2 dw3).mut nL d1).mono (by omega)⟩
      rcases List.mem_append.mp ha with e | e
      · exact hy a e
      · rw [List.mem_singleton] at e
        rw [e]
        exact ⟨rfl, okS_one hcl⟩
    · rintro H2 ⟨ys, hl, hy, hL, dw⟩
      have hm3 : ys.length ≤ 100 := by omega
      have hjl : (Txt.join (Str.ofString "") ys).length = ys.length := by rw [TL.join_eq, joinLen rfl ys (fun a ha => (hy a ha).1)]
      refine ⟨_, L, ys, rfl, rfl, .inl (SqL.of hL), ?_, ?_⟩
      · rw [sum1 ys (fun a ha => (hy a ha).1)]
        show ys.length + ys.length * 0 ≤ 16777216
        omega
      · refine ⟨_, _, rfl, rfl, ?_, q _ H2 ?_ (okS_app hfo (by rw [TL.join_eq]; exact okS_join okS_e ys (fun a ha => (hy a ha).2))) ((dw1.step hk dw).mono (by omega))⟩
        · rw [hjl]
          refine Nat.le_trans (show _ ≤ 200 by omega) (by decide)
        · rw [PySem.Str.length_append, hjl]
          omega
theorem ok_law_words (T : Tx K mg) : FnOk P w K mg base CX0 3 T.d_law_words.f T.d_law_words.fd ["_law_deck_here", "_law_many"] (spWords K) := by
  have nd := sc_law_words.nd
  have G_law_draw := ok_law_draw (P := P) (w := w) (base := base) T
  have G_law_word := ok_law_word (P := P) (w := w) (base := base) T
  refine T.d_law_words.fn.ok sc_law_words (fun vs H Q E h => ?_) (fun cdv A outer s H vs Q E hr h => ?_)
  · obtain ⟨D, R, k, row, n, rfl, _⟩ := h
    rfl
  · obtain ⟨D, R, k, row, n, rfl, hd, hk1, hn, q⟩ := h
    have h_law_draw : Room 1 _ := hr.mono (by omega)
    have h_law_word := hr
    refine ⟨_, (pss_cons (ps_set (i := 2) nd rfl (Or.inr rfl) (pe_ix ix_list (pe_lst (pa_cons pe_str (pa_cons pe_str (pa_cons pe_str (pa_cons pe_str pa_nil))))) (pe_call G_law_draw h_law_draw rfl T.d_law_draw.m T.d_law_draw.kp T.d_law_draw.b .nil pass0 (pa_cons (pv 0) (pa_cons pe_int pa_nil))) (fun _ _ => rfl)))
      (pss_cons (ps_set (i := 3) nd rfl (Or.inr rfl) pe_str)
      (pss_cons (ps_set (i := 4) nd rfl (Or.inr rfl) (pe_call G_law_draw h_law_draw rfl T.d_law_draw.m T.d_law_draw.kp T.d_law_draw.b .nil pass0 (pa_cons (pv 0) (pa_cons pe_int pa_nil))))
      (pss_one (ps_ret (pe_lc (own := [("_law_k", 5)]) (g := (gName 5)) (tt := tYes) rfl nd (pi_range1 (by rfl) T.z_range (pa_cons (pv 1) pa_nil)) (blkOk_by (N := N_law_words) (sc := defScope s_law_words) (by decide +kernel)) (fun _ _ _ _ _ => (pg_name (i := 5) nd rfl (Or.inl rfl))) (fun _ _ _ _ _ => pts_nil) (fun _ _ _ _ _ => (pe_op op_add_str (pe_op op_add_str (pv 2) (pe_ix ix_str (pv 3) (pe_op op_mod (pe_op op_add (pv 4) (pe_op op_mul pe_int (pv 5))) pe_int) (fun _ _ => rfl))) (pe_call G_law_word h_law_word rfl T.d_law_word.m T.d_law_word.kp T.d_law_word.b .nil pass0 (pa_cons (pv 0) (pa_cons pe_str (pa_cons pe_int pa_nil)))))))))))), ?_⟩
    refine ⟨(by show 4 ≤ sizeLine; decide), fun p np => ⟨_, rfl, D, R, k, row, 4, rfl, hd.same (same_new np _), by omega, by decide, by decide, fun z H1 hz dw1 => ?_⟩⟩
    obtain ⟨v, hv, hp⟩ := atN (xs := [V.str "x", V.str "zq", V.str "v0", V.str "qqq"]) (p := isSh) (by decide +kernel) (show z < 4 from hz)
    obtain ⟨fr, rfl, hfr, hfo⟩ := isSh_shape hp
    have d0 := hd.same (same_new np (HO.lst [V.str "x", V.str "zq", V.str "v0", V.str "qqq"]))
    have hpD : p ≠ D := fun e => by rw [e, hd.d] at np; cases np
    have hpR : p ≠ R := fun e => by rw [e, hd.r] at np; cases np
    refine ⟨p, _, _, _, rfl, rfl, SqL.of (dw1.lst d0 upd_same hpD hpR), hv, ?_⟩
    obtain ⟨k1, row1, d1, hk⟩ := dw1.ex
    have dw0 : Dw D R k 1 H H1 := ⟨dw1.ex, (ButS.same (same_new np _)).trans dw1.b⟩
    refine ⟨_, rfl, D, R, k1, row1, 36, rfl, d1, by omega, by decide, by decide, fun z2 H2 hz2 dw2 => ?_⟩
    have dw02 := dw0.step hk dw2
    obtain ⟨k2, row2, d2, hk2⟩ := dw2.ex
    refine ⟨_, rfl, _, rfl, by omega, by omega, fun L nL => ?_⟩
    have nL0 : H L = none := by
      cases e : H L with
      | none => rfl
      | some o =>
        by_cases h1 : L = D
        · rw [h1, d2.d] at nL; cases nL
        · by_cases h2 : L = R
          · rw [h2, d2.r] at nL; cases nL
          · rw [dw02.lst hd e h1 h2] at nL; cases nL
    have hLD : L ≠ D := fun e => by rw [e, d2.d] at nL; cases nL
    have hLR : L ≠ R := fun e => by rw [e, d2.r] at nL; cases nL
    refine lc_range (lo := 0) (n := ((n : Nat) : Int).toNat) (fun i H' => ∃ (ys : List Str), ys.length = i ∧ (∀ a, a ∈ ys → a.length ≤ 1000 ∧ okS a) ∧ H' L = some (.lst (ys.map V.str)) ∧ Dw D R k2 (101 * i) H2 H') ⟨[], rfl, fun a ha => by simp at ha, upd_same, (Dw.refl d2 (by decide)).mut nL d2⟩ ?_ ?_
    · rintro i H3 hi ⟨ys, hl, hy, hL, dw⟩
      obtain ⟨k3, row3, d3, hk3⟩ := dw.ex
      obtain ⟨g, hg, hgl⟩ : ∃ g : Nat, ((z2 : Int) + 5 * (0 + (i : Int))) % 36 = (g : Int) ∧ g < 36 := by
        have h0 := Int.emod_nonneg ((z2 : Int) + 5 * (0 + (i : Int))) (show (36 : Int) ≠ 0 by decide)
        have h1 := Int.emod_lt_of_pos ((z2 : Int) + 5 * (0 + (i : Int))) (show (0 : Int) < 36 by decide)
        exact ⟨(((z2 : Int) + 5 * (0 + (i : Int))) % 36).toNat, by omega, by omega⟩
      obtain ⟨c, hc, hcl⟩ := atC (xs := (Str.ofString "abcdefghijklmnopqrstuvwxyz0123456789").cps.toList) (i := g) (by
        rw [show (Str.ofString "abcdefghijklmnopqrstuvwxyz0123456789").cps.toList.length = 36 by decide +kernel]
        exact hgl) (by decide +kernel)
      rw [← hg] at hc
      refine ⟨rfl, _, rfl, _, rfl, _, rfl, _, rfl, _, _, rfl, rfl, .inl ⟨by decide, by decide⟩, _, _, rfl, rfl, _, _, rfl, rfl, (by show (0 : Int) < 36; decide), _, _, c, rfl, rfl, by decide +kernel, hc, ?_⟩
      have h1 : (⟨#[c]⟩ : Str).length = 1 := rfl
      refine ⟨_, _, rfl, rfl, by rw [h1]; exact Nat.le_trans (show _ ≤ 200 by omega) (by decide), ?_⟩
      refine ⟨_, rfl, D, R, k3, row3, "", 8, rfl, d3, by omega, by decide, by decide, by decide +kernel, okS_e, fun x H4 hx hxo dw4 => ?_⟩
      have hl2 : (fr ++ (⟨#[c]⟩ : Str)).length = fr.length + 1 := by rw [PySem.Str.length_append, h1]
      refine ⟨_, _, rfl, rfl, by rw [hl2]; exact Nat.le_trans (show _ ≤ 1000 by omega) (by decide), _, dw4.lst d3 hL hLD hLR, szl (by rw [List.length_map]; omega), ys ++ [fr ++ ⟨#[c]⟩ ++ x], by rw [List.length_append, hl]; rfl, fun a ha => ?_, by rw [upd_same, List.map_append]; rfl, ((dw.step hk3 dw4).mut nL d2).mono (by omega)⟩
      rcases List.mem_append.mp ha with e | e
      · exact hy a e
      · rw [List.mem_singleton] at e
        rw [e]
        refine ⟨by rw [PySem.Str.length_append, hl2]; omega, okS_app (okS_app hfo (okS_one hcl)) hxo⟩
    · rintro H3 ⟨ys, hl, hy, hL, dw⟩
      exact q L ys H3 nL0 hL (by omega) hy ((dw02.step (by omega) dw).mono (by omega))
end
end My

set_option Elab.async false
set_option linter.all false
set_option maxRecDepth 100000
set_option maxHeartbeats 4000000
namespace My
open PySem L2
def flatV : V → Bool
  | .int _ => true
  | .str _ => true
  | .bl _ => true
  | .non => true
  | _ => false
mutual
/-- the e that the laws draw -/
def qOk (nm : List Str) : Nd → Prop
  | .mk _ w its _ _ ks => (w ∈ plainW ∧ ∃ y, its = [y] ∧ flatV y = true) ∨ (w = "none" ∧ its = []) ∨ (w = "self" ∧ its = []) ∨ (w = "name" ∧ ∃ x, its = [.str x] ∧ among x nm = true) ∨ ((w = "field" ∨ w = "new") ∧ ∃ x, its = [.str x]) ∨ ((w = "send" ∨ w = "up" ∨ w = "list") ∧ qsOk nm ks)
def qsOk (nm : List Str) : List Nd → Prop
  | [] => True
  | k :: ks => qOk nm k ∧ qsOk nm ks
end
mutual
theorem qOk.e {nm : List Str} : ∀ (t : Nd), qOk nm t → eOk nm [] t
  | .mk v w its ps m ks, h => by
    simp only [qOk] at h
    simp only [eOk]
    rcases h with ⟨h, y, e, _⟩ | ⟨h, _⟩ | ⟨h, _⟩ | ⟨h, x, e, hx⟩ | ⟨h, x, e⟩ | ⟨h, hk⟩
    · exact .inl ⟨h, y, e⟩
    · exact .inr (.inl h)
    · exact .inr (.inr (.inl h))
    · exact .inr (.inr (.inr (.inl ⟨h, x, e, by unfold lookN; rw [if_pos hx]; rfl⟩)))
    · exact .inr (.inr (.inr (.inr (.inr (.inl ⟨h, x, e⟩)))))
    · exact .inr (.inr (.inr (.inr (.inr (.inr ⟨h, qsOk.e ks hk⟩)))))
theorem qsOk.e {nm : List Str} : ∀ (ts : List Nd), qsOk nm ts → esOk nm [] ts
  | [], _ => by simp only [esOk]
  | t :: ts, h => by
    simp only [qsOk] at h
    simp only [esOk]
    exact ⟨qOk.e t h.1, qsOk.e ts h.2⟩
end
theorem qsOk_snoc {nm : List Str} : ∀ {ts : List Nd} {t : Nd}, qsOk nm ts → qOk nm t → qsOk nm (ts ++ [t])
  | [], t, _, h => by simp only [List.nil_append, qsOk]; exact ⟨h, trivial⟩
  | a :: ts, t, h, h2 => by
    simp only [qsOk, List.cons_append] at h ⊢
    exact ⟨h.1, qsOk_snoc h.2 h2⟩
theorem qsOk_get {nm : List Str} : ∀ {ks : List Nd} {i : Nat} {k : Nd}, qsOk nm ks → ks[i]? = some k → qOk nm k
  | [], i, k, s, e => by simp at e
  | t :: ts, 0, k, s, e => by
    have e' : t = k := Option.some.inj e
    subst e'
    simp only [qsOk] at s
    exact s.1
  | t :: ts, i + 1, k, s, e => by
    rw [List.getElem?_cons_succ] at e
    simp only [qsOk] at s
    exact qsOk_get s.2 e
theorem kidsOf {K : PySem.W.Frag} {H : Hp} {w : Str} {its : List V} {ps : List Str} {m : Nat} {ks : List V} (f : Form K H w its ps m ks) (hw : w = "send" ∨ w = "up" ∨ w = "list") :
    ∃ (a : Addr) (xs : List V), SqT K H a xs ∧ ((w = "send" ∧ ∃ e mm, its = [e, .str mm, .ref a] ∧ ks = e :: xs) ∨ (w = "up" ∧ ∃ mm, its = [.str mm, .ref a] ∧ ks = xs) ∨ (w = "list" ∧ its = [.ref a] ∧ ks = xs)) := by
  cases f with
  | send e mm a xs g => exact ⟨a, xs, g, .inl ⟨rfl, e, mm, rfl, rfl⟩⟩
  | up mm a _ g => exact ⟨a, _, g, .inr (.inl ⟨rfl, mm, rfl, rfl⟩)⟩
  | list a _ g => exact ⟨a, _, g, .inr (.inr ⟨rfl, rfl, rfl⟩)⟩
  | one w h e => exact absurd hw (by revert h; unfold oneW; intro h; exact (by decide +kernel : ∀ w ∈ (["do", "say", "return", "raise"] : List Str), ¬ (w = "send" ∨ w = "up" ∨ w = "list")) w h)
  | leaf w h => exact absurd hw (by have z : ∀ w, w ∈ leafW → ¬ (w = "send" ∨ w = "up" ∨ w = "list") := by unfold leafW; decide +kernel
                                    exact z w h)
  | _ => exact absurd hw (by decide +kernel)
theorem leaf_nil {K : PySem.W.Frag} {H : Hp} {w : Str} {its : List V} {ps : List Str} {m : Nat} {ks : List V} (f : Form K H w its ps m ks) (hw : w ∈ leafW) : ks = [] := by
  cases f with
  | leaf w h => rfl
  | one w h e =>
    exfalso
    have z : ∀ w, w ∈ oneW → w ∉ leafW := by unfold oneW leafW; decide +kernel
    exact z w h hw
  | _ => exact absurd hw (by unfold leafW; decide +kernel)
theorem CpB.snoc {K : PySem.W.Frag} {H H2 : Hp} {M r : Addr} {ras : List Addr} {rows : List (List V)} {row : List V} (h : CpB K H M ras rows) (s2 : Same H H2) (hr : SqT K H2 r row) : CpB K (upd H2 M (.lst (ras.map V.ref ++ [V.ref r]))) M (ras ++ [r]) (rows ++ [row]) := by
  have kp : Keep H2 (upd H2 M (.lst (ras.map V.ref ++ [V.ref r]))) := (But.set (D := M) _).keep (s2 _ _ h.l)
  refine ⟨by rw [upd_same, List.map_append]; rfl, by rw [List.length_append, List.length_append, h.len]; rfl, fun i a' x g1 g2 => ?_⟩
  by_cases hi : i < ras.length
  · rw [List.getElem?_append_left hi] at g1
    rw [List.getElem?_append_left (by rw [← h.len]; exact hi)] at g2
    exact kp.sqt (s2.sqt (h.at_ i a' x g1 g2))
  · have hi' : i = ras.length := by
      obtain ⟨hlt, _⟩ := List.getElem?_eq_some_iff.mp g1
      rw [List.length_append, List.length_singleton] at hlt
      omega
    subst hi'
    rw [List.getElem?_append_right (Nat.le_refl _), Nat.sub_self] at g1
    rw [h.len, List.getElem?_append_right (Nat.le_refl _), Nat.sub_self] at g2
    have q1 : r = a' := Option.some.inj g1
    have q2 : row = x := Option.some.inj g2
    subst q1 q2
    exact kp.sqt hr
end My

set_option Elab.async false
set_option linter.all false
set_option maxRecDepth 100000
set_option maxHeartbeats 4000000
namespace My
open PySem L2
def spSame0 : Sp := fun vs H Q _ => ∃ v : V, vs = [v, v] ∧ flatV v = true ∧ ∀ H', Same H H' → Q (.bl true) H'
def spSame1 (K : PySem.W.Frag) : Sp := fun vs H Q _ => spSame0 vs H Q E0 ∨ ∃ (a b : Addr) (xs : List V), vs = [.ref a, .ref b] ∧ SqT K H a xs ∧ SqT K H b xs ∧ xs.all flatV = true ∧ xs.length ≤ 1000 ∧ ∀ H', Same H H' → Q (.bl true) H'
section
variable {P : Program} {w : World} {K : PySem.W.Frag} {mg : Str → Option Value} {base : Heap}
theorem ok_same0 (T : Tx K mg) : FnOk P w K mg base CX0 1 T.d_law_same.f T.d_law_same.fd ["_law_one", "_law_other"] spSame0 := by
  have nd := sc_law_same.nd
  have G_law_same : FnOk P w K mg base CX0 0 T.d_law_same.f T.d_law_same.fd ["_law_one", "_law_other"] (fun _ _ _ _ => False) := fn_never fun _ _ _ _ h => h
  refine T.d_law_same.fn.ok sc_law_same (fun vs H Q E h => ?_) (fun cdv A outer s H vs Q E hr h => ?_)
  · obtain ⟨v, rfl, _⟩ := h
    rfl
  · obtain ⟨v, rfl, hv, q⟩ := h
    have h_law_same := hr
    refine ⟨_, (pss_cons (ps_if (pt_val (pe_callB call_isi (by rfl) T.z_isinstance (by decide +kernel) (pa_cons (pv 1) (pa_cons (pe_bltn (v := .ty "tuple") (by rfl) T.z_tuple (by decide +kernel) rfl) pa_nil))))
      (pss_cons (ps_if (PW.pt (pw_or (pt_not (pt_val (pe_callB call_isi (by rfl) T.z_isinstance (by decide +kernel) (pa_cons (pv 0) (pa_cons (pe_bltn (v := .ty "tuple") (by rfl) T.z_tuple (by decide +kernel) rfl) pa_nil))))) (pw_or1 (pt_cmpR op_ne (pe_callB call_len_seq (by rfl) T.z_len PySem.boot_len (pa_cons (pv 0) pa_nil)) (pe_callB call_len_seq (by rfl) T.z_len PySem.boot_len (pa_cons (pv 1) pa_nil)) (nomark _)))))
      (pss_one (ps_ret pe_bl))
      pss_nil)
      (pss_one (ps_ret (pe_cmpR (op_eqD hr.units) (pe_lc (own := [("_law_k", 2)]) (g := (gName 2)) (tt := tNot (tB (tCall _ [] E0 (tCons (tOp (rIxT K) (tVar 0) (tVar 2)) (tCons (tOp (rIxT K) (tVar 1) (tVar 2)) tNil))))) rfl nd (pi_range1 (by rfl) T.z_range (pa_cons (pe_callB call_len_seq (by rfl) T.z_len PySem.boot_len (pa_cons (pv 1) pa_nil)) pa_nil)) (blkOk_by (N := N_law_same) (sc := defScope s_law_same) (by decide +kernel)) (fun _ _ _ _ _ => (pg_name (i := 2) nd rfl (Or.inl rfl))) (fun _ _ _ _ _ => (pts_one (pt_not (pt_val (pe_call G_law_same h_law_same rfl T.d_law_same.m T.d_law_same.kp T.d_law_same.b .nil pass0 (pa_cons (pe_ix ix_tup (pv 0) (pv 2) (fun _ _ => rfl)) (pa_cons (pe_ix ix_tup (pv 1) (pv 2) (fun _ _ => rfl)) pa_nil))))))) (fun _ _ _ _ _ => (pv 2))) (pe_lst pa_nil) (nomark _)))))
      pss_nil)
      (pss_one (ps_ret (pe_and (pe_cmpR op_eq (pe_callB call_isi (by rfl) T.z_isinstance (by decide +kernel) (pa_cons (pv 0) (pa_cons (pe_bltn (v := .ty "bool") (by rfl) T.z_bool (by decide +kernel) rfl) pa_nil))) (pe_callB call_isi (by rfl) T.z_isinstance (by decide +kernel) (pa_cons (pv 1) (pa_cons (pe_bltn (v := .ty "bool") (by rfl) T.z_bool (by decide +kernel) rfl) pa_nil))) (nomark _)) (pe_one (pe_cmpR op_eq (pv 0) (pv 1) (nomark _))))))), ?_⟩
    cases v with
    | int i =>
      refine ⟨_, rfl, V.int i, .ty "tuple", _, .type "tuple", false, rfl, .ty _, .base (.int i), rfl, _, rfl, iteN rfl ?_⟩
      refine ⟨_, rfl, V.int i, .ty "bool", _, .type "bool", false, rfl, .ty _, .base (.int i), rfl, _, rfl, V.int i, .ty "bool", _, .type "bool", false, rfl, .ty _, .base (.int i), rfl, rfl, ?_⟩
      refine ⟨_, rfl, iteY (by decide +kernel) ⟨_, rfl, _, rfl, rfl, ?_⟩⟩
      have e := q H (Same.refl _)
      rw [show true = decide (V.int i = V.int i) from (decide_eq_true rfl).symm] at e
      exact e
    | str x =>
      refine ⟨_, rfl, V.str x, .ty "tuple", _, .type "tuple", false, rfl, .ty _, .base (.str x), rfl, _, rfl, iteN rfl ?_⟩
      refine ⟨_, rfl, V.str x, .ty "bool", _, .type "bool", false, rfl, .ty _, .base (.str x), rfl, _, rfl, V.str x, .ty "bool", _, .type "bool", false, rfl, .ty _, .base (.str x), rfl, rfl, ?_⟩
      refine ⟨_, rfl, iteY (by decide +kernel) ⟨_, rfl, _, rfl, rfl, ?_⟩⟩
      have e := q H (Same.refl _)
      rw [show true = decide (V.str x = V.str x) from (decide_eq_true rfl).symm] at e
      exact e
    | bl x =>
      refine ⟨_, rfl, V.bl x, .ty "tuple", _, .type "tuple", false, rfl, .ty _, .base (.bl x), rfl, _, rfl, iteN rfl ?_⟩
      refine ⟨_, rfl, V.bl x, .ty "bool", _, .type "bool", true, rfl, .ty _, .base (.bl x), rfl, _, rfl, V.bl x, .ty "bool", _, .type "bool", true, rfl, .ty _, .base (.bl x), rfl, rfl, ?_⟩
      refine ⟨_, rfl, iteY (by decide +kernel) ⟨_, rfl, _, rfl, rfl, ?_⟩⟩
      have e := q H (Same.refl _)
      rw [show true = decide (V.bl x = V.bl x) from (decide_eq_true rfl).symm] at e
      exact e
    | non =>
      refine ⟨_, rfl, V.non, .ty "tuple", _, .type "tuple", false, rfl, .ty _, .base .non, rfl, _, rfl, iteN rfl ?_⟩
      refine ⟨_, rfl, V.non, .ty "bool", _, .type "bool", false, rfl, .ty _, .base .non, rfl, _, rfl, V.non, .ty "bool", _, .type "bool", false, rfl, .ty _, .base .non, rfl, rfl, ?_⟩
      refine ⟨_, rfl, iteY (by decide +kernel) ⟨_, rfl, _, rfl, rfl, ?_⟩⟩
      have e := q H (Same.refl _)
      rw [show true = decide (V.non = V.non) from (decide_eq_true rfl).symm] at e
      exact e
    | _ => cases hv
/-- a row against a row -/
theorem ty_tup {H : Hp} {a : Addr} {xs : List V} (h : SqT K H a xs) : TyX K H (.ref a) (.type "tuple") := by
  rcases h with h | ⟨o, its, n, e, c, _⟩
  · rcases h with h | ⟨o, h⟩
    · exact .base (.tup h)
    · exact .fTuple h
  · exact .kTuple e c
def spTup (K : PySem.W.Frag) (R : Hp → V → V → Prop) : Sp := fun vs H Q _ => ∃ (a b : Addr) (xs ys : List V), vs = [.ref a, .ref b] ∧ SqT K H a xs ∧ SqT K H b ys ∧ xs.length = ys.length ∧ xs.length ≤ 5000 ∧
  (∀ (i : Nat) (x y : V), xs[i]? = some x → ys[i]? = some y → R H x y) ∧ (∀ H' x y, Same H H' → R H x y → R H' x y) ∧ ∀ H', Same H H' → Q (.bl true) H'
theorem ok_tup (T : Tx K mg) {R : Hp → V → V → Prop} {sp : Sp} {lv : Nat} (hsp : ∀ H x y Q, R H x y → (∀ H', Same H H' → Q (.bl true) H') → sp [x, y] H Q E0)
    (G_law_same : FnOk P w K mg base CX0 lv T.d_law_same.f T.d_law_same.fd ["_law_one", "_law_other"] sp) :
    FnOk P w K mg base CX0 (lv + 1) T.d_law_same.f T.d_law_same.fd ["_law_one", "_law_other"] (spTup K R) := by
  have nd := sc_law_same.nd
  refine T.d_law_same.fn.ok (k := lv) sc_law_same (fun vs H Q E h => ?_) (fun cdv A outer s H vs Q E hr h => ?_)
  · obtain ⟨a, b, xs, ys, rfl, _⟩ := h
    rfl
  · obtain ⟨a, b, xs, ys, rfl, ha, hb, hl, hl2, hR, hRs, q⟩ := h
    have h_law_same := hr
    refine ⟨_, (pss_cons (ps_if (pt_val (pe_callB call_isi (by rfl) T.z_isinstance (by decide +kernel) (pa_cons (pv 1) (pa_cons (pe_bltn (v := .ty "tuple") (by rfl) T.z_tuple (by decide +kernel) rfl) pa_nil))))
      (pss_cons (ps_if (PW.pt (pw_or (pt_not (pt_val (pe_callB call_isi (by rfl) T.z_isinstance (by decide +kernel) (pa_cons (pv 0) (pa_cons (pe_bltn (v := .ty "tuple") (by rfl) T.z_tuple (by decide +kernel) rfl) pa_nil))))) (pw_or1 (pt_cmpR op_ne (pe_callB call_len_seq (by rfl) T.z_len PySem.boot_len (pa_cons (pv 0) pa_nil)) (pe_callB call_len_seq (by rfl) T.z_len PySem.boot_len (pa_cons (pv 1) pa_nil)) (nomark _)))))
      (pss_one (ps_ret pe_bl))
      pss_nil)
      (pss_one (ps_ret (pe_cmpR (op_eqD hr.units) (pe_lc (own := [("_law_k", 2)]) (g := (gName 2)) (tt := tNot (tB (tCall _ [] E0 (tCons (tOp (rIxT K) (tVar 0) (tVar 2)) (tCons (tOp (rIxT K) (tVar 1) (tVar 2)) tNil))))) rfl nd (pi_range1 (by rfl) T.z_range (pa_cons (pe_callB call_len_seq (by rfl) T.z_len PySem.boot_len (pa_cons (pv 1) pa_nil)) pa_nil)) (blkOk_by (N := N_law_same) (sc := defScope s_law_same) (by decide +kernel)) (fun _ _ _ _ _ => (pg_name (i := 2) nd rfl (Or.inl rfl))) (fun _ _ _ _ _ => (pts_one (pt_not (pt_val (pe_call G_law_same h_law_same rfl T.d_law_same.m T.d_law_same.kp T.d_law_same.b .nil pass0 (pa_cons (pe_ix ix_tup (pv 0) (pv 2) (fun _ _ => rfl)) (pa_cons (pe_ix ix_tup (pv 1) (pv 2) (fun _ _ => rfl)) pa_nil))))))) (fun _ _ _ _ _ => (pv 2))) (pe_lst pa_nil) (nomark _)))))
      pss_nil)
      (pss_one (ps_ret (pe_and (pe_cmpR op_eq (pe_callB call_isi (by rfl) T.z_isinstance (by decide +kernel) (pa_cons (pv 0) (pa_cons (pe_bltn (v := .ty "bool") (by rfl) T.z_bool (by decide +kernel) rfl) pa_nil))) (pe_callB call_isi (by rfl) T.z_isinstance (by decide +kernel) (pa_cons (pv 1) (pa_cons (pe_bltn (v := .ty "bool") (by rfl) T.z_bool (by decide +kernel) rfl) pa_nil))) (nomark _)) (pe_one (pe_cmpR op_eq (pv 0) (pv 1) (nomark _))))))), ?_⟩
    refine ⟨_, rfl, .ref b, .ty "tuple", _, .type "tuple", true, rfl, .ty _, ty_tup hb, rfl, _, rfl, iteY rfl ?_⟩
    refine ⟨_, rfl, .ref a, .ty "tuple", _, .type "tuple", true, rfl, .ty _, ty_tup ha, rfl, _, rfl, iteN rfl ?_⟩
    refine ⟨_, rfl, a, _, rfl, .inr ha, _, rfl, b, _, rfl, .inr hb, rfl, _, rfl, ?_⟩
    refine iteN (by rw [hl]; simp) ?_
    refine ⟨_, rfl, b, _, rfl, .inr hb, _, rfl, by omega, by omega, fun L nL => ?_⟩
    refine lc_range (lo := 0) (n := ((ys.length : Nat) : Int).toNat) (fun i H' => Same H H' ∧ H' L = some (.lst [])) ⟨same_new nL _, upd_same⟩ ?_ ?_
    · rintro i H' hi ⟨s', hL⟩
      have hi1 : i < xs.length := by omega
      have hi2 : i < ys.length := by omega
      refine ⟨rfl, _, rfl, _, rfl, a, _, _, xs[i], rfl, rfl, s'.sqt ha, at_of (j := i) (by omega) (List.getElem?_eq_getElem hi1), _, rfl, _, rfl, b, _, _, ys[i], rfl, rfl, s'.sqt hb, at_of (j := i) (by omega) (List.getElem?_eq_getElem hi2), ?_⟩
      refine hsp _ _ _ _ (hRs _ _ _ s' (hR i _ _ (List.getElem?_eq_getElem hi1) (List.getElem?_eq_getElem hi2))) (fun H2 s2 => ⟨_, rfl, iteN rfl ⟨s'.trans s2, s2 _ _ hL⟩⟩)
    · rintro H' ⟨s', hL⟩
      refine ⟨(by show 0 ≤ sizeLine; decide), fun p2 np2 => ?_⟩
      have s2 := same_new np2 (HO.lst [])
      refine ⟨.list [], .list [], .lst (SqL.of (s2 _ _ hL)) .nil, .lst (SqL.of upd_same) .nil, by decide +kernel, by decide +kernel, ?_⟩
      have e := q _ (s'.trans s2)
      rw [show true = PyData.eqv (.list []) (.list []) from by decide +kernel] at e
      exact e
def R0 (_ : Hp) (x y : V) : Prop := x = y ∧ flatV x = true
def R1 (K : PySem.W.Frag) (H : Hp) (x y : V) : Prop := ∃ (a b : Addr) (xs : List V), x = .ref a ∧ y = .ref b ∧ SqT K H a xs ∧ SqT K H b xs ∧ xs.all flatV = true ∧ xs.length ≤ 5000
theorem ok_same1 (T : Tx K mg) : FnOk P w K mg base CX0 2 T.d_law_same.f T.d_law_same.fd ["_law_one", "_law_other"] (spTup K R0) :=
  ok_tup T (R := R0) (sp := spSame0) (lv := 1) (fun H x y Q h q => ⟨x, by rw [h.1], h.2, q⟩) (ok_same0 T)
theorem ok_same2 (T : Tx K mg) : FnOk P w K mg base CX0 3 T.d_law_same.f T.d_law_same.fd ["_law_one", "_law_other"] (spTup K (R1 K)) :=
  ok_tup T (R := R1 K) (sp := spTup K R0) (lv := 2) (fun H x y Q h q => by
    obtain ⟨a, b, xs, rfl, rfl, h1, h2, h3, h4⟩ := h
    refine ⟨a, b, xs, xs, rfl, h1, h2, rfl, h4, fun i x y e1 e2 => ?_, fun H' x y _ h => h, q⟩
    have e := Option.some.inj (e1.symm.trans e2)
    exact ⟨e, List.all_eq_true.mp h3 x (List.mem_of_getElem? e1)⟩) (ok_same1 T)
end
end My

set_option Elab.async false
set_option linter.all false
set_option maxRecDepth 100000
set_option maxHeartbeats 4000000
namespace My
open PySem L2
def rowOk (r : List V) : Prop := r.all flatV = true ∧ r.length ≤ 10
theorem nameRow_ok (nm : List Str) (n : Nat) (word x : Str) : rowOk (nameRow nm n word x []) := by
  unfold nameRow lookN
  by_cases h : among x nm = true
  · rw [if_pos h]; exact ⟨rfl, by simp⟩
  · rw [if_neg h]; exact ⟨rfl, by simp⟩
theorem rE_flat {K : PySem.W.Frag} {H : Hp} {nm : List Str} {t : Nd} (h : NdAt K H t) : qOk nm t → ∀ (n : Nat) (r : List V), r ∈ rE nm n [] t → rowOk r := by
  induction h with
  | mk a w its ps m ks h1 h2 h3 h4 ih =>
    intro hq n r hr
    simp only [qOk] at hq
    unfold rE at hr
    rcases hq with ⟨hw, y, rfl, hy⟩ | ⟨rfl, rfl⟩ | ⟨rfl, rfl⟩ | ⟨rfl, x, rfl, hx⟩ | ⟨hw, x, rfl⟩ | ⟨hw, hks⟩
    · rw [if_pos hw, List.mem_singleton] at hr
      rw [hr]
      exact ⟨by show (true && (true && (flatV y && true))) = true; rw [hy]; rfl, by simp⟩
    · rw [if_neg (by unfold plainW; decide +kernel), if_pos rfl, List.mem_singleton] at hr
      rw [hr]
      exact ⟨rfl, by simp⟩
    · rw [if_neg (by unfold plainW; decide +kernel), if_neg (by decide +kernel), if_pos rfl, List.mem_singleton] at hr
      rw [hr]
      exact ⟨rfl, by simp⟩
    · rw [if_neg (by unfold plainW; decide +kernel), if_neg (by decide +kernel), if_neg (by decide +kernel), if_pos rfl, List.mem_singleton] at hr
      rw [hr]
      exact nameRow_ok _ _ _ _
    · have z : ∀ w : Str, (w = "field" ∨ w = "new") → w ∉ plainW ∧ ¬ w = "none" ∧ ¬ w = "self" ∧ ¬ w = "name" ∧ ¬ w = "block" := by
        intro w h
        unfold plainW
        rcases h with rfl | rfl <;> decide +kernel
      obtain ⟨y1, y2, y3, y4, y5⟩ := z w hw
      rw [if_neg y1, if_neg y2, if_neg y3, if_neg y4, if_neg y5, if_pos hw, List.mem_singleton] at hr
      rw [hr]
      exact ⟨rfl, by simp⟩
    · have z : ∀ w : Str, (w = "send" ∨ w = "up" ∨ w = "list") → w ∉ plainW ∧ ¬ w = "none" ∧ ¬ w = "self" ∧ ¬ w = "name" ∧ ¬ w = "block" ∧ ¬ (w = "field" ∨ w = "new") := by
        intro w h
        unfold plainW
        rcases h with rfl | rfl | rfl <;> decide +kernel
      obtain ⟨y1, y2, y3, y4, y5, y6⟩ := z w hw
      rw [if_neg y1, if_neg y2, if_neg y3, if_neg y4, if_neg y5, if_neg y6] at hr
      have go : ∀ (ts : List Nd), (∀ k, k ∈ ts → k ∈ ks) → qsOk nm ts → ∀ (n : Nat) (r : List V), r ∈ rEs nm n [] ts → rowOk r := by
        intro ts
        induction ts with
        | nil => intro _ _ n r hr; simp [rEs] at hr
        | cons k ts iht =>
          intro hm hq n r hr
          simp only [qsOk] at hq
          simp only [rEs] at hr
          rcases List.mem_append.mp hr with e | e
          · exact ih k (hm k (by simp)) hq.1 n r e
          · exact iht (fun k' h => hm k' (by simp [h])) hq.2 _ r e
      rcases List.mem_append.mp hr with e | e
      · exact go ks (fun _ h => h) hks _ r e
      · rw [List.mem_singleton] at e
        rw [e]
        obtain ⟨a', xs, _, hf⟩ := kidsOf h2 hw
        rcases hf with ⟨rfl, e', mm, rfl, _⟩ | ⟨rfl, mm, rfl, _⟩ | ⟨rfl, rfl, _⟩
        · unfold usedRow
          rw [if_pos rfl]
          exact ⟨rfl, by simp⟩
        · unfold usedRow
          rw [if_neg (by decide +kernel), if_pos rfl]
          exact ⟨rfl, by simp⟩
        · unfold usedRow
          rw [if_neg (by decide +kernel), if_neg (by decide +kernel)]
          exact ⟨rfl, by simp⟩
theorem qWord {nm : List Str} {v : V} {w : Str} {its : List V} {ps : List Str} {m : Nat} {ks : List Nd} (h : qOk nm (.mk v w its ps m ks)) : ¬ w = "set" ∧ ¬ w = "try" := by
  simp only [qOk] at h
  have z : ∀ w : Str, (w ∈ plainW ∨ w = "none" ∨ w = "self" ∨ w = "name" ∨ (w = "field" ∨ w = "new") ∨ (w = "send" ∨ w = "up" ∨ w = "list")) → ¬ w = "set" ∧ ¬ w = "try" := by
    intro w h
    unfold plainW at h
    simp only [List.mem_cons, List.not_mem_nil, or_false] at h
    rcases h with (rfl | rfl | rfl) | rfl | rfl | rfl | (rfl | rfl) | (rfl | rfl | rfl) <;> decide +kernel
  rcases h with ⟨h, _⟩ | ⟨h, _⟩ | ⟨h, _⟩ | ⟨h, _⟩ | ⟨h, _⟩ | ⟨h, _⟩
  · exact z w (.inl h)
  · exact z w (.inr (.inl h))
  · exact z w (.inr (.inr (.inl h)))
  · exact z w (.inr (.inr (.inr (.inl h))))
  · exact z w (.inr (.inr (.inr (.inr (.inl h)))))
  · exact z w (.inr (.inr (.inr (.inr (.inr h)))))
theorem nameStep_not {acc : List Str} {w : Str} {its : List V} {h : List (List Str)} (h1 : ¬ w = "set") (h2 : ¬ w = "try") : nameStep acc w its h = acc := by
  unfold nameStep
  rw [nameOf_not h1 h2]
theorem qKids {K : PySem.W.Frag} {H : Hp} {nm : List Str} {v : V} {w : Str} {its : List V} {ps : List Str} {m : Nat} {ks : List Nd} (f : Form K H w its ps m (ks.map Nd.v)) (h : qOk nm (.mk v w its ps m ks)) : qsOk nm ks := by
  simp only [qOk] at h
  have nil : w ∈ leafW → qsOk nm ks := fun hl => by
    have := List.map_eq_nil_iff.mp (leaf_nil f hl)
    subst this
    simp only [qsOk]
  have z : ∀ w : Str, (w ∈ plainW ∨ w = "none" ∨ w = "self" ∨ w = "name" ∨ (w = "field" ∨ w = "new")) → w ∈ leafW := by
    intro w h
    unfold plainW at h
    simp only [List.mem_cons, List.not_mem_nil, or_false] at h
    unfold leafW
    rcases h with (rfl | rfl | rfl) | rfl | rfl | rfl | (rfl | rfl) <;> decide +kernel
  rcases h with ⟨h, _⟩ | ⟨h, _⟩ | ⟨h, _⟩ | ⟨h, _⟩ | ⟨h, _⟩ | ⟨_, h⟩
  · exact nil (z w (.inl h))
  · exact nil (z w (.inr (.inl h)))
  · exact nil (z w (.inr (.inr (.inl h))))
  · exact nil (z w (.inr (.inr (.inr (.inl h)))))
  · exact nil (z w (.inr (.inr (.inr (.inr h)))))
  · exact h
theorem namesOf_append (acc : List Str) (xs ys : List Rec) : namesOf acc (xs ++ ys) = namesOf (namesOf acc xs) ys := by
  unfold namesOf
  rw [List.foldl_append]
theorem names_q {K : PySem.W.Frag} {H : Hp} {nm : List Str} {t : Nd} (h : NdAt K H t) : qOk nm t → ∀ (n : Nat) (a c : Int) (hd : List (List Str)) (acc : List Str), namesOf acc (recs n a c hd t) = acc := by
  induction h with
  | mk b w its ps m ks h1 h2 h3 h4 ih =>
    intro hq n a c hd acc
    obtain ⟨w1, w2⟩ := qWord hq
    have hk := qKids h2 hq
    have go : ∀ (ts : List Nd), (∀ k, k ∈ ts → k ∈ ks) → qsOk nm ts → ∀ (n : Nat) (a c : Int) (hd : List (List Str)) (acc : List Str), namesOf acc (recsL n a c hd ts) = acc := by
      intro ts
      induction ts with
      | nil => intro _ _ n a c hd acc; simp only [recsL]; rfl
      | cons k ts iht =>
        intro hm hq n a c hd acc
        simp only [qsOk] at hq
        simp only [recsL]
        rw [namesOf_append, ih k (hm k (by simp)) hq.1, iht (fun k' h => hm k' (by simp [h])) hq.2]
    simp only [recs]
    show namesOf (nameStep acc w its hd) (recsL _ _ _ _ ks) = acc
    rw [nameStep_not w1 w2]
    exact go ks (fun _ h => h) hk _ _ _ _ _
/-- a method of one statement: do, say, return or raise an e -/
theorem names_one {K : PySem.W.Frag} {H : Hp} {nm : List Str} {t : Nd} (h : NdAt K H t) (hq : qOk nm t) {v : V} {w : Str} (hw : w ∈ oneW) (its : List V) (ps : List Str) : namesOf ps (recsL 0 (-1) (-1) [] [.mk v w its [] 0 [t]]) = ps := by
  have z : ∀ w : Str, w ∈ oneW → ¬ w = "set" ∧ ¬ w = "try" := by unfold oneW; decide +kernel
  obtain ⟨w1, w2⟩ := z w hw
  simp only [recsL, recs, List.append_nil]
  show namesOf (nameStep ps w its []) _ = ps
  rw [nameStep_not w1 w2]
  exact names_q h hq _ _ _ _ _
end My

set_option Elab.async false
set_option linter.all false
set_option maxRecDepth 100000
set_option maxHeartbeats 4000000
namespace My
open PySem L2
/-- rows against rows: equal, whatever the place -/
theorem same_rows {K : PySem.W.Frag} {H : Hp} {tR tT e1 e2 : Addr} {ras : List Addr} {RW : List (List V)} {Q : VK} {E : XK} (hR : Rows K H tR (RW ++ endRows)) (hT : SqT K H tT ((ras ++ [e1, e2]).map V.ref)) (hlC : ras.length = RW.length)
    (hat : ∀ (i : Nat) (a : Addr) (r : List V), ras[i]? = some a → RW[i]? = some r → SqT K H a r) (he1 : SqT K H e1 [V.int (-1), V.str "push", V.non]) (he2 : SqT K H e2 [V.int (-1), V.str "return"])
    (hfl : ∀ r, r ∈ RW → rowOk r) (hl : RW.length ≤ 4000) (q : ∀ H', Same H H' → Q (.bl true) H') : spTup K (R1 K) [.ref tR, .ref tT] H Q E := by
  obtain ⟨rr, hTR, hlen, hatR⟩ := hR.ex
  have hflat : ∀ r, r ∈ RW ++ endRows → rowOk r := by
    intro r hr
    rcases List.mem_append.mp hr with e | e
    · exact hfl r e
    · simp only [endRows, List.mem_cons, List.not_mem_nil, or_false] at e
      rcases e with e | e <;> rw [e] <;> exact ⟨rfl, by simp⟩
  have hmat : ∀ (i : Nat) (a : Addr) (r : List V), (ras ++ [e1, e2])[i]? = some a → (RW ++ endRows)[i]? = some r → SqT K H a r := by
    intro i a r g1 g2
    by_cases hi : i < RW.length
    · rw [List.getElem?_append_left (by rw [hlC]; exact hi)] at g1
      rw [List.getElem?_append_left hi] at g2
      exact hat i a r g1 g2
    · rw [List.getElem?_append_right (by rw [hlC]; omega), hlC] at g1
      rw [List.getElem?_append_right (by omega)] at g2
      generalize i - RW.length = j at g1 g2
      match j, g1, g2 with
      | 0, g1, g2 => cases Option.some.inj g1; cases Option.some.inj g2; exact he1
      | 1, g1, g2 => cases Option.some.inj g1; cases Option.some.inj g2; exact he2
      | j + 2, g1, g2 => simp at g1
  refine ⟨tR, tT, _, _, rfl, hTR, hT, ?_, ?_, ?_, ?_, q⟩
  · rw [List.length_map, List.length_map, hlen, List.length_append, List.length_append, hlC]; rfl
  · rw [List.length_map, hlen]; simp only [List.length_append, List.length_cons, List.length_nil, endRows]; omega
  · intro i x y g1 g2
    rw [List.getElem?_map] at g1 g2
    obtain ⟨ax, hax, rfl⟩ := Option.map_eq_some_iff.mp g1
    obtain ⟨ay, hay, rfl⟩ := Option.map_eq_some_iff.mp g2
    have hil : i < rr.length := (List.getElem?_eq_some_iff.mp hax).1
    have hir : i < (RW ++ endRows).length := by rw [← hlen]; exact hil
    have gr := List.getElem?_eq_getElem hir
    obtain ⟨f1, f2⟩ := hflat _ (List.getElem_mem hir)
    exact ⟨ax, ay, _, rfl, rfl, hatR i ax _ hax gr, hmat i ay _ hay gr, f1, by omega⟩
  · rintro H' x y s' ⟨a1, b1, xs, rfl, rfl, h1, h2, h3, h4⟩
    exact ⟨a1, b1, xs, rfl, rfl, s'.sqt h1, s'.sqt h2, h3, h4⟩
end My

set_option Elab.async false
set_option linter.all false
set_option maxRecDepth 100000
set_option maxHeartbeats 4000000
namespace My
open PySem L2
/-- a list of words beside the deck -/
structure Nl (H : Hp) (N D R : Addr) (nm : List Str) : Prop where
  l : H N = some (.lst (nm.map V.str))
  nD : N ≠ D
  nR : N ≠ R
  ok : ∀ x, x ∈ nm → okS x
theorem Nl.dw {H H' : Hp} {N D R : Addr} {nm : List Str} {k k0 n : Int} {row : List Int} (h : Nl H N D R nm) (a : Dw D R k n H H') (d : Dk H D R k0 row) : Nl H' N D R nm := ⟨a.lst d h.l h.nD h.nR, h.nD, h.nR, h.ok⟩
theorem Nl.same {H H' : Hp} {N D R : Addr} {nm : List Str} (h : Nl H N D R nm) (s : Same H H') : Nl H' N D R nm := ⟨s _ _ h.l, h.nD, h.nR, h.ok⟩
def tr (b : Addr) (z : Bool) : Nd := .mk (.ref b) "truth" [.bl z] [] 0 []
def nu (b : Addr) (i : Int) : Nd := .mk (.ref b) "number" [.int i] [] 0 []
/-- the statements of this law, at most n deep -/
inductive T57 (K : PySem.W.Frag) (H : Hp) : Nat → Nd → Prop
  | say (n : Nat) (a b : Addr) (i : Int) : SqT K H a [.str "say", .ref b] → SqT K H b [.str "number", .int i] → T57 K H (n + 1) (.mk (.ref a) "say" [.ref b] [] 0 [nu b i])
  | loop (n : Nat) (a b p : Addr) (z : Bool) (ts : List Nd) : SqT K H a [.str "while", .ref b, .ref p] → SqT K H b [.str "truth", .bl z] → SqT K H p (ts.map Nd.v) → (∀ t, t ∈ ts → T57 K H n t) →
      T57 K H (n + 1) (.mk (.ref a) "while" [.ref b, .ref p] [] ts.length (tr b z :: ts))
  | tri (n : Nat) (a p q : Addr) (x : Str) (ts us : List Nd) : okS x → SqT K H a [.str "try", .ref p, .str x, .ref q] → SqT K H p (ts.map Nd.v) → SqT K H q (us.map Nd.v) → (∀ t, t ∈ ts → T57 K H n t) → (∀ t, t ∈ us → T57 K H n t) →
      T57 K H (n + 1) (.mk (.ref a) "try" [.ref p, .str x, .ref q] [] ts.length (ts ++ us))
  | cond (n : Nat) (a b p q : Addr) (z : Bool) (ts us : List Nd) : SqT K H a [.str "if", .ref b, .ref p, .ref q] → SqT K H b [.str "truth", .bl z] → SqT K H p (ts.map Nd.v) → SqT K H q (us.map Nd.v) → (∀ t, t ∈ ts → T57 K H n t) → (∀ t, t ∈ us → T57 K H n t) →
      T57 K H (n + 1) (.mk (.ref a) "if" [.ref b, .ref p, .ref q] [] ts.length (tr b z :: (ts ++ us)))
theorem T57.keep {K : PySem.W.Frag} {H H' : Hp} (k : Keep H H') {n : Nat} {t : Nd} (h : T57 K H n t) : T57 K H' n t := by
  induction h with
  | say n a b i h1 h2 => exact .say n a b i (k.sqt h1) (k.sqt h2)
  | loop n a b p z ts h1 h2 h3 h4 ih => exact .loop n a b p z ts (k.sqt h1) (k.sqt h2) (k.sqt h3) ih
  | tri n a p q x ts us hx h1 h2 h3 h4 h5 ih1 ih2 => exact .tri n a p q x ts us hx (k.sqt h1) (k.sqt h2) (k.sqt h3) ih1 ih2
  | cond n a b p q z ts us h1 h2 h3 h4 h5 h6 ih1 ih2 => exact .cond n a b p q z ts us (k.sqt h1) (k.sqt h2) (k.sqt h3) (k.sqt h4) ih1 ih2
theorem tr_nd {K : PySem.W.Frag} {H : Hp} {b : Addr} {z : Bool} (h : SqT K H b [.str "truth", .bl z]) : NdAt K H (tr b z) := mkNode0 h (.leaf _ (by unfold leafW; decide +kernel) _) (fun k hk => by simp at hk)
theorem nu_nd {K : PySem.W.Frag} {H : Hp} {b : Addr} {z : Int} (h : SqT K H b [.str "number", .int z]) : NdAt K H (nu b z) := mkNode0 h (.leaf _ (by unfold leafW; decide +kernel) _) (fun k hk => by simp at hk)
theorem T57.nd {K : PySem.W.Frag} {H : Hp} {n : Nat} {t : Nd} (h : T57 K H n t) : NdAt K H t := by
  induction h with
  | say n a b i h1 h2 =>
    refine mkNode0 h1 (.one _ (by unfold oneW; decide +kernel) _) fun k hk => ?_
    rw [List.mem_singleton] at hk
    rw [hk]
    exact nu_nd h2
  | loop n a b p z ts h1 h2 h3 h4 ih =>
    refine mkNode0 h1 ?_ fun k hk => ?_
    · have := Form.loop (K := K) (H := H) (.ref b) p (ts.map Nd.v) h3
      rw [List.length_map] at this
      exact this
    · rcases List.mem_cons.mp hk with e | e
      · rw [e]; exact tr_nd h2
      · exact ih k e
  | tri n a p q x ts us hx h1 h2 h3 h4 h5 ih1 ih2 =>
    refine mkNode0 h1 ?_ fun k hk => ?_
    · have := Form.tri (K := K) (H := H) x p q (ts.map Nd.v) (us.map Nd.v) h2 h3
      rw [List.length_map, ← List.map_append] at this
      exact this
    · rcases List.mem_append.mp hk with e | e
      · exact ih1 k e
      · exact ih2 k e
  | cond n a b p q z ts us h1 h2 h3 h4 h5 h6 ih1 ih2 =>
    refine mkNode0 h1 ?_ fun k hk => ?_
    · have := Form.cond (K := K) (H := H) (.ref b) p q (ts.map Nd.v) (us.map Nd.v) h3 h4
      rw [List.length_map, List.cons_append, ← List.map_append] at this
      exact this
    · rcases List.mem_cons.mp hk with e | e
      · rw [e]; exact tr_nd h2
      · rcases List.mem_append.mp e with e | e
        · exact ih1 k e
        · exact ih2 k e
theorem hgtL_app {N : Nat} {ts us : List Nd} (h1 : ∀ t, t ∈ ts → hgt t ≤ N) (h2 : ∀ t, t ∈ us → hgt t ≤ N) : hgtL (ts ++ us) ≤ N := hgtL_sub fun t ht => (List.mem_append.mp ht).elim (h1 t) (h2 t)
theorem T57.hgt {K : PySem.W.Frag} {H : Hp} {n : Nat} {t : Nd} (h : T57 K H n t) : My.hgt t ≤ n + 1 := by
  induction h with
  | say n a b i h1 h2 => simp only [My.hgt, hgtL, nu]; omega
  | loop n a b p z ts h1 h2 h3 h4 ih =>
    have := hgtL_sub ih
    simp only [My.hgt, hgtL, tr]
    omega
  | tri n a p q x ts us hx h1 h2 h3 h4 h5 ih1 ih2 =>
    have := hgtL_app ih1 ih2
    simp only [My.hgt]
    omega
  | cond n a b p q z ts us h1 h2 h3 h4 h5 h6 ih1 ih2 =>
    have := hgtL_app ih1 ih2
    simp only [My.hgt, hgtL, tr]
    omega
/-! ### the words that are taken -/
mutual
def tkN : Nd → List Str
  | .mk _ w its _ _ ks => (if w = "try" then [xOf its 1] else []) ++ tkL ks
def tkL : List Nd → List Str
  | [] => []
  | k :: ks => tkN k ++ tkL ks
end
theorem tkL_append : ∀ (xs ys : List Nd), tkL (xs ++ ys) = tkL xs ++ tkL ys
  | [], ys => by simp [tkL]
  | k :: ks, ys => by simp only [List.cons_append, tkL]; rw [tkL_append ks ys, List.append_assoc]
mutual
theorem tkN_len : ∀ t : Nd, (tkN t).length ≤ size t
  | .mk _ w its _ _ ks => by
    have := tkL_len ks
    simp only [tkN, size, List.length_append]
    split <;> simp <;> omega
theorem tkL_len : ∀ ts : List Nd, (tkL ts).length ≤ sizeL ts
  | [] => by simp [tkL]
  | k :: ks => by
    have h1 := tkN_len k
    have h2 := tkL_len ks
    simp only [tkL, sizeL, List.length_append]
    omega
end
def addW (acc : List Str) (xs : List Str) : List Str := xs.foldl (fun acc x => if among x acc = true then acc else acc ++ [x]) acc
theorem addW_append (acc xs ys : List Str) : addW acc (xs ++ ys) = addW (addW acc xs) ys := by unfold addW; rw [List.foldl_append]
mutual
def pl : Nd → Prop
  | .mk _ w its _ _ ks => ¬ w = "block" ∧ ¬ w = "set" ∧ (w = "try" → ∃ a x b, its = [a, .str x, b]) ∧ plL ks
def plL : List Nd → Prop
  | [] => True
  | k :: ks => pl k ∧ plL ks
end
theorem plL_all : ∀ {ts : List Nd}, (∀ t, t ∈ ts → pl t) → plL ts
  | [], _ => by simp only [plL]
  | t :: ts, h => by simp only [plL]; exact ⟨h t (by simp), plL_all fun u hu => h u (by simp [hu])⟩
mutual
theorem pl_names : ∀ (t : Nd), pl t → ∀ (n : Nat) (a c : Int) (acc : List Str), namesOf acc (recs n a c [] t) = addW acc (tkN t)
  | .mk v w its ps m ks, h, n, a, c, acc => by
    simp only [pl] at h
    obtain ⟨h1, h2, h3, h4⟩ := h
    simp only [recs, tkN]
    rw [if_neg h1, if_neg h1]
    show namesOf (nameStep acc w its []) (recsL _ _ _ [] ks) = _
    rw [plL_names ks h4]
    by_cases hw : w = "try"
    · subst hw
      obtain ⟨a', x, b', rfl⟩ := h3 rfl
      rw [if_pos rfl, addW_append]
      congr 1
      unfold nameStep addW
      have e : nameOf "try" [a', .str x, b'] = some x := by unfold nameOf; rw [if_neg (by decide +kernel), if_pos rfl]
      rw [e]
      show (if (!among x acc && !hidden x []) = true then acc ++ [x] else acc) = (if among x acc = true then acc else acc ++ [x])
      simp only [hidden, List.any_nil, Bool.not_false, Bool.and_true]
      cases among x acc <;> simp
    · rw [if_neg hw, nameStep_not h2 hw, List.nil_append]
theorem plL_names : ∀ (ts : List Nd), plL ts → ∀ (n : Nat) (a c : Int) (acc : List Str), namesOf acc (recsL n a c [] ts) = addW acc (tkL ts)
  | [], _, n, a, c, acc => by simp only [recsL, tkL]; rfl
  | k :: ks, h, n, a, c, acc => by
    simp only [plL] at h
    simp only [recsL, tkL]
    rw [namesOf_append, addW_append, pl_names k h.1, plL_names ks h.2]
end
theorem pl_tr (b : Addr) (z : Bool) : pl (tr b z) := by simp only [tr, pl, plL]; exact ⟨by decide +kernel, by decide +kernel, fun h => absurd h (by decide +kernel), trivial⟩
theorem pl_nu (b : Addr) (z : Int) : pl (nu b z) := by simp only [nu, pl, plL]; exact ⟨by decide +kernel, by decide +kernel, fun h => absurd h (by decide +kernel), trivial⟩
theorem tk_tr (b : Addr) (z : Bool) : tkN (tr b z) = [] := by simp only [tr, tkN, tkL]; rw [if_neg (by decide +kernel)]; rfl
theorem tk_nu (b : Addr) (z : Int) : tkN (nu b z) = [] := by simp only [nu, tkN, tkL]; rw [if_neg (by decide +kernel)]; rfl
theorem T57.pl {K : PySem.W.Frag} {H : Hp} {n : Nat} {t : Nd} (h : T57 K H n t) : My.pl t := by
  induction h with
  | say n a b i h1 h2 => simp only [My.pl, plL]; exact ⟨by decide +kernel, by decide +kernel, fun h => absurd h (by decide +kernel), pl_nu _ _, trivial⟩
  | loop n a b p z ts h1 h2 h3 h4 ih => simp only [My.pl, plL]; exact ⟨by decide +kernel, by decide +kernel, fun h => absurd h (by decide +kernel), pl_tr _ _, plL_all ih⟩
  | tri n a p q x ts us hx h1 h2 h3 h4 h5 ih1 ih2 => simp only [My.pl]; exact ⟨by decide +kernel, by decide +kernel, fun _ => ⟨_, _, _, rfl⟩, plL_all fun t ht => (List.mem_append.mp ht).elim (ih1 t) (ih2 t)⟩
  | cond n a b p q z ts us h1 h2 h3 h4 h5 h6 ih1 ih2 => simp only [My.pl, plL]; exact ⟨by decide +kernel, by decide +kernel, fun h => absurd h (by decide +kernel), pl_tr _ _, plL_all fun t ht => (List.mem_append.mp ht).elim (ih1 t) (ih2 t)⟩
theorem tkL_mem : ∀ {ts : List Nd} {t : Nd} {x : Str}, t ∈ ts → x ∈ tkN t → x ∈ tkL ts
  | k :: ks, t, x, h, hx => by
    simp only [tkL]
    rcases List.mem_cons.mp h with e | e
    · subst e; exact List.mem_append.mpr (.inl hx)
    · exact List.mem_append.mpr (.inr (tkL_mem e hx))
theorem T57.tok {K : PySem.W.Frag} {H : Hp} {n : Nat} {t : Nd} (h : T57 K H n t) : ∀ x, x ∈ tkN t → okS x := by
  have all : ∀ (ts : List Nd), (∀ t, t ∈ ts → ∀ x, x ∈ tkN t → okS x) → ∀ x, x ∈ tkL ts → okS x := by
    intro ts
    induction ts with
    | nil => intro _ x hx; simp [tkL] at hx
    | cons k ks ih =>
      intro h x hx
      simp only [tkL] at hx
      rcases List.mem_append.mp hx with e | e
      · exact h k (by simp) x e
      · exact ih (fun t ht => h t (by simp [ht])) x e
  induction h with
  | say n a b i h1 h2 => intro x hx; simp only [tkN, tkL, tk_nu] at hx; rw [if_neg (by decide +kernel)] at hx; simp at hx
  | loop n a b p z ts h1 h2 h3 h4 ih => intro x hx; simp only [tkN, tkL, tk_tr] at hx; rw [if_neg (by decide +kernel)] at hx; exact all ts ih x (by simpa using hx)
  | tri n a p q x ts us hx h1 h2 h3 h4 h5 ih1 ih2 =>
    intro y hy
    simp only [tkN] at hy
    rw [if_pos trivial, tkL_append] at hy
    rcases List.mem_append.mp hy with e | e
    · rw [List.mem_singleton] at e; rw [e]; exact hx
    · rcases List.mem_append.mp e with e | e
      · exact all ts ih1 y e
      · exact all us ih2 y e
  | cond n a b p q z ts us h1 h2 h3 h4 h5 h6 ih1 ih2 =>
    intro y hy
    simp only [tkN, tkL, tk_tr] at hy
    rw [if_neg (by decide +kernel), tkL_append] at hy
    rcases List.mem_append.mp (show y ∈ tkL ts ++ tkL us by simpa using hy) with e | e
    · exact all ts ih1 y e
    · exact all us ih2 y e
theorem ssOk_all {nm : List Str} : ∀ {ts : List Nd}, (∀ t, t ∈ ts → sOk nm t) → ssOk nm ts
  | [], _ => by simp only [ssOk]
  | t :: ts, h => by simp only [ssOk]; exact ⟨h t (by simp), ssOk_all fun u hu => h u (by simp [hu])⟩
theorem eOk_tr (nm : List Str) (b : Addr) (z : Bool) : eOk nm [] (tr b z) := by simp only [tr, eOk]; exact .inl ⟨by unfold plainW; decide +kernel, _, rfl⟩
theorem T57.sok {K : PySem.W.Frag} {H : Hp} {nm : List Str} {n : Nat} {t : Nd} (h : T57 K H n t) : (∀ x, x ∈ tkN t → among x nm = true) → sOk nm t := by
  induction h with
  | say n a b i h1 h2 =>
    intro _
    simp only [sOk, nu, eOk]
    exact .inl ⟨by unfold oneW; decide +kernel, trivial, .inl ⟨by unfold plainW; decide +kernel, _, rfl⟩⟩
  | loop n a b p z ts h1 h2 h3 h4 ih =>
    intro hx
    simp only [tkN, tkL] at hx
    simp only [sOk]
    exact .inr (.inr (.inr (.inr ⟨by simp, eOk_tr _ _ _, ssOk_all fun t ht => ih t ht fun x e => hx x (by simp [tkL_mem ht e])⟩)))
  | tri n a p q x ts us hx h1 h2 h3 h4 h5 ih1 ih2 =>
    intro hy
    simp only [tkN] at hy
    rw [if_pos trivial, tkL_append] at hy
    have hxx : among x nm = true := hy x (by simp [xOf])
    have all : ∀ t, t ∈ ts ++ us → sOk nm t := fun t ht => (List.mem_append.mp ht).elim (fun e => ih1 t e fun y hy' => hy y (by simp [tkL_mem e hy'])) (fun e => ih2 t e fun y hy' => hy y (by simp [tkL_mem e hy']))
    generalize ts ++ us = ks at all
    cases ks with
    | nil => simp only [sOk]; exact ⟨trivial, _, _, _, rfl, hxx⟩
    | cons k r => simp only [sOk]; exact .inr (.inr (.inr (.inl ⟨trivial, all k (by simp), ssOk_all fun t ht => all t (by simp [ht]), _, _, _, rfl, hxx⟩)))
  | cond n a b p q z ts us h1 h2 h3 h4 h5 h6 ih1 ih2 =>
    intro hy
    simp only [tkN, tkL] at hy
    rw [tkL_append] at hy
    simp only [sOk]
    exact .inr (.inr (.inr (.inr ⟨by simp, eOk_tr _ _ _, ssOk_all fun t ht => (List.mem_append.mp ht).elim (fun e => ih1 t e fun y hy' => hy y (by simp [tkL_mem e hy'])) (fun e => ih2 t e fun y hy' => hy y (by simp [tkL_mem e hy']))⟩)))
theorem rSs_flat {nm : List Str} : ∀ (ts : List Nd) (s n : Nat), (∀ t, t ∈ ts → ∀ s n r, r ∈ rS nm s n [] t → rowOk r) → ∀ r, r ∈ rSs nm s n [] ts → rowOk r
  | [], s, n, _, r, hr => by rw [rSs_nil] at hr; simp at hr
  | t :: ts, s, n, h, r, hr => by
    rw [rSs_cons] at hr
    rcases List.mem_append.mp hr with e | e
    · exact h t (by simp) _ _ r e
    · exact rSs_flat ts _ _ (fun u hu => h u (by simp [hu])) r e
theorem rE_tr (nm : List Str) (n : Nat) (b : Addr) (z : Bool) : rE nm n [] (tr b z) = [[vi n, .str "push", .bl z]] := by
  unfold tr rE
  rw [if_pos (by unfold plainW; decide +kernel)]
  rfl
theorem rE_nu (nm : List Str) (n : Nat) (b : Addr) (z : Int) : rE nm n [] (nu b z) = [[vi n, .str "push", .int z]] := by
  unfold nu rE
  rw [if_pos (by unfold plainW; decide +kernel)]
  rfl
theorem T57.flat {K : PySem.W.Frag} {H : Hp} {nm : List Str} {m : Nat} {t : Nd} (h : T57 K H m t) : ∀ (s n : Nat) (r : List V), r ∈ rS nm s n [] t → rowOk r := by
  have one : ∀ (r row : List V), rowOk row → r ∈ [row] → rowOk r := fun r row h e => by rw [List.mem_singleton] at e; rw [e]; exact h
  have two : ∀ (a b : List V) (r : List V), rowOk a → rowOk b → r ∈ [a, b] → rowOk r := fun a b r h1 h2 e => by
    simp only [List.mem_cons, List.not_mem_nil, or_false] at e
    rcases e with e | e <;> rw [e] <;> assumption
  have three : ∀ (a b c : List V) (r : List V), rowOk a → rowOk b → rowOk c → r ∈ [a, b, c] → rowOk r := fun a b c r h1 h2 h3 e => by
    simp only [List.mem_cons, List.not_mem_nil, or_false] at e
    rcases e with e | e | e <;> rw [e] <;> assumption
  induction h with
  | say n a b i h1 h2 =>
    intro s n r hr
    rw [rS_one (by unfold oneW; decide +kernel), rE_nu] at hr
    rcases List.mem_append.mp hr with e | e
    · rcases List.mem_append.mp e with e | e
      · exact one r _ ⟨rfl, by simp⟩ e
      · exact one r _ ⟨rfl, by simp⟩ e
    · exact one r _ ⟨rfl, by simp⟩ e
  | loop n a b p z ts h1 h2 h3 h4 ih =>
    intro s n r hr
    rw [rS_while, rE_tr, List.take_length] at hr
    rcases List.mem_append.mp hr with e | e
    · rcases List.mem_append.mp e with e | e
      · rcases List.mem_append.mp e with e | e
        · rcases List.mem_append.mp e with e | e
          · exact one r _ ⟨rfl, by simp⟩ e
          · exact one r _ ⟨rfl, by simp⟩ e
        · exact one r _ ⟨rfl, by simp⟩ e
      · exact rSs_flat ts _ _ (fun t ht s n r => ih t ht s n r) r e
    · exact one r _ ⟨rfl, by simp⟩ e
  | tri n a p q x ts us hx h1 h2 h3 h4 h5 ih1 ih2 =>
    intro s n r hr
    rw [rS_try, List.take_left, List.drop_left] at hr
    rcases List.mem_append.mp hr with e | e
    · rcases List.mem_append.mp e with e | e
      · rcases List.mem_append.mp e with e | e
        · exact two _ _ r ⟨rfl, by simp⟩ ⟨rfl, by simp⟩ e
        · exact rSs_flat ts _ _ (fun t ht s n r => ih1 t ht s n r) r e
      · exact three _ _ _ r ⟨rfl, by simp⟩ ⟨rfl, by simp⟩ (nameRow_ok _ _ _ _) e
    · exact rSs_flat us _ _ (fun t ht s n r => ih2 t ht s n r) r e
  | cond n a b p q z ts us h1 h2 h3 h4 h5 h6 ih1 ih2 =>
    intro s n r hr
    rw [rS_if, rE_tr, List.take_left, List.drop_left] at hr
    rcases List.mem_append.mp hr with e | e
    · rcases List.mem_append.mp e with e | e
      · rcases List.mem_append.mp e with e | e
        · rcases List.mem_append.mp e with e | e
          · rcases List.mem_append.mp e with e | e
            · exact one r _ ⟨rfl, by simp⟩ e
            · exact one r _ ⟨rfl, by simp⟩ e
          · exact one r _ ⟨rfl, by simp⟩ e
        · exact rSs_flat ts _ _ (fun t ht s n r => ih1 t ht s n r) r e
      · exact one r _ ⟨rfl, by simp⟩ e
    · exact rSs_flat us _ _ (fun t ht s n r => ih2 t ht s n r) r e
end My

set_option Elab.async false
set_option linter.all false
set_option maxRecDepth 100000
set_option maxHeartbeats 4000000
namespace My
open PySem L2
theorem ButS.weak {S S' : List Addr} {H H' : Hp} (sub : ∀ x, x ∈ S → x ∈ S') (b : ButS S H H') : ButS S' H H' := fun c o h n => b c o h fun m => n (sub c m)
/-- the deck and the count of statements left -/
structure St7 (H : Hp) (D R L : Addr) (k : Int) (l : Nat) : Prop where
  dk : ∃ row, Dk H D R k row
  l : H L = some (.lst [.int l])
  nD : L ≠ D
  nR : L ≠ R
theorem St7.same {H H' : Hp} {D R L : Addr} {k : Int} {l : Nat} (h : St7 H D R L k l) (s : Same H H') : St7 H' D R L k l := ⟨h.dk.elim fun row d => ⟨row, d.same s⟩, s _ _ h.l, h.nD, h.nR⟩
theorem St7.keep {H H' : Hp} {D R L : Addr} {k : Int} {l : Nat} (h : St7 H D R L k l) (b : ButS [D, R, L] H H') : Keep H H' := b.keep fun s hs => by
  obtain ⟨row, d⟩ := h.dk
  simp only [List.mem_cons, List.not_mem_nil, or_false] at hs
  rcases hs with rfl | rfl | rfl
  · exact ⟨_, d.d⟩
  · exact ⟨_, d.r⟩
  · exact ⟨_, h.l⟩
/-- behind a draw -/
theorem St7.dw {H H' : Hp} {D R L : Addr} {k n : Int} {l : Nat} {row : List Int} (h : St7 H D R L k l) (d : Dk H D R k row) (a : Dw D R k n H H') : ∃ k', k' ≤ k + n ∧ St7 H' D R L k' l ∧ ButS [D, R, L] H H' := by
  obtain ⟨k', row', d', hk⟩ := a.ex
  exact ⟨k', hk, ⟨⟨row', d'⟩, a.lst d h.l h.nD h.nR, h.nD, h.nR⟩, a.b.weak fun x hx => by simp only [List.mem_cons, List.not_mem_nil, or_false] at hx ⊢; rcases hx with e | e <;> simp [e]⟩
/-- what else is read: stays -/
theorem ButS.at3 {H H' : Hp} {D R L W : Addr} {o : HO} (b : ButS [D, R, L] H H') (h : H W = some o) (h1 : W ≠ D) (h2 : W ≠ R) (h3 : W ≠ L) : H' W = some o := b W o h (by simp [h1, h2, h3])
def spStm (K : PySem.W.Frag) (N : Nat) : Sp := fun vs H Q _ => ∃ (D R W L : Addr) (k : Int) (l : Nat) (ws : List Str), vs = [.ref D, .ref W, .ref L, .int N] ∧ St7 H D R L k l ∧ k + 5 * l + 10 * N ≤ 40000 ∧ Nl H W D R ws ∧ W ≠ L ∧ ws.length = 7 ∧
  ∀ (t : Nd) (H' : Hp) (k' : Int) (l' : Nat), T57 K H' (N + 1) t → St7 H' D R L k' l' → k' + 5 * l' ≤ k + 5 * l + 5 → size t + 2 * l' ≤ 2 * l + 2 → ButS [D, R, L] H H' → Q t.v H'
def spSts (K : PySem.W.Frag) (N : Nat) : Sp := fun vs H Q _ => ∃ (D R W L : Addr) (k : Int) (l : Nat) (ws : List Str) (m : Nat), vs = [.ref D, .ref W, .ref L, .int N, .int m] ∧ m ≤ 10 ∧ St7 H D R L k l ∧ k + 5 * l + 10 * N ≤ 40000 ∧ Nl H W D R ws ∧ W ≠ L ∧ ws.length = 7 ∧
  ∀ (p : Addr) (ts : List Nd) (H' : Hp) (k' : Int) (l' : Nat), SqT K H' p (ts.map Nd.v) → (∀ t, t ∈ ts → T57 K H' (N + 1) t) → St7 H' D R L k' l' → k' + 5 * l' ≤ k + 5 * l + 1 → sizeL ts + 2 * l' ≤ 2 * l → ButS [D, R, L] H H' → Q (.ref p) H'
def spStsP (K : PySem.W.Frag) : Nat → Sp
  | 0 => fun _ _ _ _ => False
  | N + 1 => spSts K N
section
variable {P : Program} {w : World} {K : PySem.W.Frag} {mg : Str → Option Value} {base : Heap}
theorem ok_sts (T : Tx K mg) {N lv : Nat} (hlv : 1 ≤ lv) (G_law_statement : FnOk P w K mg base CX0 lv T.d_law_statement.f T.d_law_statement.fd ["_law_deck_here", "_law_words_here", "_law_left", "_law_deep"] (spStm K N)) :
    FnOk P w K mg base CX0 (lv + 1) T.d_law_statements.f T.d_law_statements.fd ["_law_deck_here", "_law_words_here", "_law_left", "_law_deep", "_law_most"] (spSts K N) := by
  have nd := sc_law_statements.nd
  have G_law_draw := ok_law_draw (P := P) (w := w) (base := base) T
  refine T.d_law_statements.fn.ok (k := lv) sc_law_statements (fun vs H Q E h => ?_) (fun cdv A outer s H vs Q E hr h => ?_)
  · obtain ⟨D, R, W, L, k, l, ws, m, rfl, _⟩ := h
    rfl
  · obtain ⟨D, R, W, L, k, l, ws, m, rfl, hm, hS, hk1, hW, hWL, hwl, q⟩ := h
    have h_law_draw : Room 1 _ := hr.mono (by omega)
    have h_law_statement := hr
    refine ⟨_, (pss_cons (ps_set (i := 5) nd rfl (Or.inl rfl) (pe_lst pa_nil))
      (pss_cons (ps_for PassesOwn.never rfl (pi_range1 (by rfl) T.z_range (pa_cons (pe_call G_law_draw h_law_draw rfl T.d_law_draw.m T.d_law_draw.kp T.d_law_draw.b .nil pass0 (pa_cons (pv 0) (pa_cons (pe_op op_add (pv 4) pe_int) pa_nil))) pa_nil)) (pg_name (i := 6) nd rfl (Or.inl rfl))
      (pss_one (ps_if (pt_cmpR op_gt (pe_ix ix_list (pv 2) pe_int (fun _ _ => rfl)) pe_int (nomark _))
      (pss_cons (ps_asg (pe_op op_sub (pe_ix ix_list (pv 2) pe_int (fun _ _ => rfl)) pe_int) (pg_sub (pv 2) pe_int set_list))
      (pss_one (ps_expr (pe_bm PySem.F.plainAttrs_list PySem.F.slot_list_append PySem.F.type_list_append mt_append (pv 5) (pa_cons (pe_call G_law_statement h_law_statement rfl T.d_law_statement.m T.d_law_statement.kp T.d_law_statement.b .nil pass0 (pa_cons (pv 0) (pa_cons (pv 1) (pa_cons (pv 2) (pa_cons (pv 3) pa_nil))))) pa_nil)))))
      pss_nil)))
      (pss_one (ps_ret (pe_callTy call_tuple_of (by rfl) T.z_tuple (by decide +kernel) (pa_cons (pv 5) pa_nil)))))), ?_⟩
    refine ⟨(by show 0 ≤ sizeLine; decide), fun F nF => ?_⟩
    have s1 := same_new nF (HO.lst [])
    have hF1 : upd H F (.lst []) F = some (.lst []) := upd_same
    have b1 : ButS [D, R, L] H (upd H F (.lst [])) := ButS.same s1
    have hS1 := hS.same s1
    have hW1 := hW.same s1
    have hFx : ∀ {y : Addr} {o : HO}, H y = some o → F ≠ y := fun h e => by rw [← e, nF] at h; cases h
    generalize upd H F (.lst []) = H1 at hF1 b1 hS1 hW1 ⊢
    obtain ⟨row, d⟩ := hS.dk
    have hFD := hFx d.d
    have hFR := hFx d.r
    have hFL := hFx hS.l
    obtain ⟨row1, d1⟩ := hS1.dk
    refine ⟨_, rfl, _, rfl, _, _, rfl, rfl, D, R, k, row1, m + 1, rfl, d1, by omega, by omega, by omega, fun z H2 hz dw2 => ?_⟩
    obtain ⟨k2, hk2, hS2, b2⟩ := hS1.dw d1 dw2
    refine ⟨_, rfl, by omega, by omega, ?_⟩
    refine for_range (lo := 0) (n := ((z : Nat) : Int).toNat) (fun i σ H' => ∃ (v6 : Option V) (ts : List Nd) (k' : Int) (l' : Nat), σ = [some (.ref D), some (.ref W), some (.ref L), some (.int N), some (.int m), some (.ref F), v6] ∧
      H' F = some (.lst (ts.map Nd.v)) ∧ (∀ t, t ∈ ts → T57 K H' (N + 1) t) ∧ St7 H' D R L k' l' ∧ k' + 5 * l' ≤ k + 5 * l + 1 ∧ sizeL ts + 2 * l' ≤ 2 * l ∧ ts.length ≤ i ∧ ButS [D, R, L] H H') ?_ ?_ ?_
    · exact ⟨none, [], k2, l, rfl, b2.at3 hF1 hFD hFR hFL, fun t ht => by simp at ht, hS2, by omega, by simp only [sizeL]; omega, Nat.le_refl _, b1.trans b2⟩
    · rintro i σ H3 hi ⟨v6, ts, k3, l3, rfl, hF3, hts, hS3, hk3, hsz, htl, b3⟩
      refine ⟨_, rfl, L, _, _, _, rfl, rfl, SqL.of hS3.l, at0, _, _, rfl, rfl, _, rfl, iteB (fun c => ?_) (fun c => ?_)⟩
      · have c' := of_decide_eq_true c
        obtain ⟨l4, rfl⟩ : ∃ l4, l3 = l4 + 1 := ⟨l3 - 1, by omega⟩
        refine ⟨_, rfl, L, _, _, _, rfl, rfl, SqL.of hS3.l, at0, _, _, rfl, rfl, _, rfl, L, _, _, 0, rfl, rfl, hS3.l, rfl, ?_⟩
        have e4 : [V.int ((l4 + 1 : Nat) : Int)].set 0 (V.int (((l4 + 1 : Nat) : Int) - 1)) = [V.int (l4 : Int)] := by rw [dec1]; rfl
        have b4 : ButS [D, R, L] H3 (upd H3 L (.lst ([V.int ((l4 + 1 : Nat) : Int)].set 0 (V.int (((l4 + 1 : Nat) : Int) - 1))))) := ButS.set _ (by simp)
        have hS4 : St7 (upd H3 L (.lst ([V.int ((l4 + 1 : Nat) : Int)].set 0 (V.int (((l4 + 1 : Nat) : Int) - 1))))) D R L k3 l4 := by
          obtain ⟨row3, d3⟩ := hS3.dk
          exact ⟨⟨row3, by rw [upd_ne (Ne.symm hS3.nD)]; exact d3.d, by rw [upd_ne (Ne.symm hS3.nR)]; exact d3.r, d3.len, d3.lo, d3.k0⟩, by rw [upd_same, e4], hS3.nD, hS3.nR⟩
        have hF4 := b4.at3 hF3 hFD hFR hFL
        have kp4 := hS3.keep b4
        generalize upd H3 L (.lst ([V.int ((l4 + 1 : Nat) : Int)].set 0 (V.int (((l4 + 1 : Nat) : Int) - 1)))) = H4 at b4 hS4 hF4 kp4 ⊢
        have b04 := b3.trans b4
        have hW4 : Nl H4 W D R ws := ⟨b04.at3 hW.l hW.nD hW.nR hWL, hW.nD, hW.nR, hW.ok⟩
        refine ⟨_, rfl, .inl ⟨rfl, _, SqL.of hF4⟩, _, rfl, _, rfl, _, rfl, _, rfl, D, R, W, L, k3, l4, ws, rfl, hS4, by omega, hW4, hWL, hwl, fun t H5 k5 l5 ht hS5 hk5 hs5 b5 => ?_⟩
        have hF5 := b5.at3 hF4 hFD hFR hFL
        have kp5 := kp4.trans (hS4.keep b5)
        refine ⟨F, _, _, rfl, rfl, hF5, szl (by rw [List.length_map]; omega), ?_⟩
        have kp6 : Keep H5 (upd H5 F (.lst (ts.map Nd.v ++ [t.v]))) := (But.set (D := F) _).keep hF5
        refine ⟨some (.int (0 + (i : Int))), ts ++ [t], k5, l5, rfl, by rw [upd_same, List.map_append]; rfl, fun u hu => ?_, ?_, by omega, by rw [sizeL_append]; simp only [sizeL]; omega, by rw [List.length_append, List.length_singleton]; omega, (b04.trans b5).mut nF⟩
        · rcases List.mem_append.mp hu with e | e
          · exact (hts u e).keep (kp5.trans kp6)
          · rw [List.mem_singleton] at e
            rw [e]
            exact ht.keep kp6
        · obtain ⟨row5, d5⟩ := hS5.dk
          exact ⟨⟨row5, by rw [upd_ne (Ne.symm hFD)]; exact d5.d, by rw [upd_ne (Ne.symm hFR)]; exact d5.r, d5.len, d5.lo, d5.k0⟩, by rw [upd_ne (Ne.symm hFL)]; exact hS5.l, hS5.nD, hS5.nR⟩
      · exact ⟨some (.int (0 + (i : Int))), ts, k3, l3, rfl, hF3, hts, hS3, hk3, hsz, by omega, b3⟩
    · rintro σ H3 ⟨v6, ts, k3, l3, rfl, hF3, hts, hS3, hk3, hsz, htl, b3⟩
      refine ⟨_, rfl, F, _, rfl, .inl ⟨SqL.of hF3, fun p np => ?_⟩⟩
      have sp := same_new np (HO.tup (ts.map Nd.v))
      exact q p ts _ k3 l3 (SqT.of upd_same) (fun t ht => (hts t ht).keep (Keep.same sp)) (hS3.same sp) hk3 hsz (b3.trans (ButS.same sp))
theorem ok_stm (T : Tx K mg) (N lv : Nat) (hlv : 1 ≤ lv) (G_law_statements : FnOk P w K mg base CX0 lv T.d_law_statements.f T.d_law_statements.fd ["_law_deck_here", "_law_words_here", "_law_left", "_law_deep", "_law_most"] (spStsP K N)) :
    FnOk P w K mg base CX0 (lv + 1) T.d_law_statement.f T.d_law_statement.fd ["_law_deck_here", "_law_words_here", "_law_left", "_law_deep"] (spStm K N) := by
  have nd := sc_law_statement.nd
  have G_law_draw := ok_law_draw (P := P) (w := w) (base := base) T
  refine T.d_law_statement.fn.ok (k := lv) sc_law_statement (fun vs H Q E h => ?_) (fun cdv A outer s H vs Q E hr h => ?_)
  · obtain ⟨D, R, W, L, k, l, ws, rfl, _⟩ := h
    rfl
  · obtain ⟨D, R, W, L, k, l, ws, rfl, hS, hk1, hW, hWL, hwl, q⟩ := h
    have h_law_draw : Room 1 _ := hr.mono (by omega)
    have h_law_statements := hr
    obtain ⟨row, d⟩ := hS.dk
    refine ⟨_, (pss_cons (ps_set (i := 4) nd rfl (Or.inl rfl) (pe_call G_law_draw h_law_draw rfl T.d_law_draw.m T.d_law_draw.kp T.d_law_draw.b .nil pass0 (pa_cons (pv 0) (pa_cons pe_int pa_nil))))
      (pss_cons (ps_if (PW.pt (pw_or (pt_cmpR op_eq (pv 3) pe_int (nomark _)) (pw_or1 (pt_cmpR op_eq (pv 4) pe_int (nomark _)))))
      (pss_one (ps_ret (pe_tup (pa_cons pe_str (pa_cons (pe_tup (pa_cons pe_str (pa_cons (pe_call G_law_draw h_law_draw rfl T.d_law_draw.m T.d_law_draw.kp T.d_law_draw.b .nil pass0 (pa_cons (pv 0) (pa_cons pe_int pa_nil))) pa_nil))) pa_nil)))))
      pss_nil)
      (pss_cons (ps_set (i := 5) nd rfl (Or.inl rfl) (pe_tup (pa_cons pe_str (pa_cons (pe_cmpR op_eq (pe_call G_law_draw h_law_draw rfl T.d_law_draw.m T.d_law_draw.kp T.d_law_draw.b .nil pass0 (pa_cons (pv 0) (pa_cons pe_int pa_nil))) pe_int (nomark _)) pa_nil))))
      (pss_cons (ps_set (i := 6) nd rfl (Or.inl rfl) (pe_call G_law_statements h_law_statements rfl T.d_law_statements.m T.d_law_statements.kp T.d_law_statements.b .nil pass0 (pa_cons (pv 0) (pa_cons (pv 1) (pa_cons (pv 2) (pa_cons (pe_op op_sub (pv 3) pe_int) (pa_cons pe_int pa_nil)))))))
      (pss_cons (ps_if (pt_cmpR op_eq (pv 4) pe_int (nomark _))
      (pss_one (ps_ret (pe_tup (pa_cons pe_str (pa_cons (pv 5) (pa_cons (pv 6) pa_nil))))))
      pss_nil)
      (pss_cons (ps_set (i := 7) nd rfl (Or.inl rfl) (pe_call G_law_statements h_law_statements rfl T.d_law_statements.m T.d_law_statements.kp T.d_law_statements.b .nil pass0 (pa_cons (pv 0) (pa_cons (pv 1) (pa_cons (pv 2) (pa_cons (pe_op op_sub (pv 3) pe_int) (pa_cons pe_int pa_nil)))))))
      (pss_cons (ps_if (pt_cmpR op_eq (pv 4) pe_int (nomark _))
      (pss_one (ps_ret (pe_tup (pa_cons pe_str (pa_cons (pv 6) (pa_cons (pe_ix ix_list (pv 1) (pe_call G_law_draw h_law_draw rfl T.d_law_draw.m T.d_law_draw.kp T.d_law_draw.b .nil pass0 (pa_cons (pv 0) (pa_cons pe_int pa_nil))) (fun _ _ => rfl)) (pa_cons (pv 7) pa_nil)))))))
      pss_nil)
      (pss_one (ps_ret (pe_tup (pa_cons pe_str (pa_cons (pv 5) (pa_cons (pv 6) (pa_cons (pv 7) pa_nil)))))))))))))), ?_⟩
    refine ⟨_, rfl, D, R, k, row, 5, rfl, d, by omega, by decide, by decide, fun z H1 hz dw1 => ?_⟩
    obtain ⟨k1, hk1', hS1, b1⟩ := hS.dw d dw1
    obtain ⟨row1, d1⟩ := hS1.dk
    have say : ∀ (z3 : Nat) (H3 : Hp) (b a : Addr), Dw D R k1 1 H1 H3 → H3 b = none → upd H3 b (.tup [.str "number", .int z3]) a = none → Q (.ref a) (upd (upd H3 b (.tup [.str "number", .int z3])) a (.tup [.str "say", .ref b])) := by
      intro z3 H3 b a dw3 nb na
      obtain ⟨k3, hk3, hS3, b3⟩ := hS1.dw d1 dw3
      have s1 := same_new nb (HO.tup [.str "number", .int z3])
      have s2 := same_new na (HO.tup [.str "say", .ref b])
      exact q (.mk (.ref a) "say" [.ref b] [] 0 [nu b z3]) _ k3 l (.say N a b z3 (SqT.of upd_same) (s2.sqt (SqT.of upd_same))) (hS3.same (s1.trans s2)) (by omega) (by simp only [size, sizeL, nu]; omega) ((b1.trans b3).trans (ButS.same (s1.trans s2)))
    refine ⟨_, rfl, rfl, _, rfl, ?_⟩
    refine iteB (fun c => ?_) (fun c => ?_)
    · exact iteY rfl ⟨_, rfl, D, R, k1, row1, 100, rfl, d1, by omega, by decide, by decide, fun z3 H3 hz3 dw3 => ⟨(by show 2 ≤ sizeLine; decide), fun b nb => ⟨(by show 2 ≤ sizeLine; decide), fun a na => say z3 H3 b a dw3 nb na⟩⟩⟩
    refine ⟨_, rfl, rfl, _, rfl, iteB (fun c2 => ?_) (fun c2 => ?_)⟩
    · exact ⟨_, rfl, D, R, k1, row1, 100, rfl, d1, by omega, by decide, by decide, fun z3 H3 hz3 dw3 => ⟨(by show 2 ≤ sizeLine; decide), fun b nb => ⟨(by show 2 ≤ sizeLine; decide), fun a na => say z3 H3 b a dw3 nb na⟩⟩⟩
    obtain ⟨M, rfl⟩ : ∃ M, N = M + 1 := by
      cases N with
      | zero => exact absurd rfl (of_decide_eq_false c)
      | succ M => exact ⟨M, rfl⟩
    refine ⟨_, rfl, D, R, k1, row1, 2, rfl, d1, by omega, by decide, by decide, fun z3 H3 hz3 dw3 => ⟨rfl, (by show 2 ≤ sizeLine; decide), fun b nb => ?_⟩⟩
    obtain ⟨k3, hk3, hS3, b3⟩ := hS1.dw d1 dw3
    generalize decide (V.int (z3 : Int) = V.int 0) = tv
    have s4 := same_new nb (HO.tup [.str "truth", .bl tv])
    have hb4 : SqT K (upd H3 b (.tup [.str "truth", .bl tv])) b [.str "truth", .bl tv] := SqT.of upd_same
    have hS4 := hS3.same s4
    have b4 := (b1.trans b3).trans (ButS.same (S := [D, R, L]) s4)
    generalize upd H3 b (.tup [.str "truth", .bl tv]) = H4 at hb4 hS4 b4 ⊢
    have nlW : ∀ {H' : Hp}, ButS [D, R, L] H H' → Nl H' W D R ws := fun b' => ⟨b'.at3 hW.l hW.nD hW.nR hWL, hW.nD, hW.nR, hW.ok⟩
    refine ⟨_, rfl, _, rfl, _, rfl, _, rfl, _, _, rfl, rfl, D, R, W, L, k3, l, ws, 3, (by show [V.ref D, V.ref W, V.ref L, V.int (((M + 1 : Nat) : Int) - 1), V.int 3] = _; rw [dec1]; rfl), by decide, hS4, by omega, nlW b4, hWL, hwl, fun p ts H5 k5 l5 hp hts hS5 hk5 hs5 b5 => ?_⟩
    have kp5 := hS4.keep b5
    have hb5 := kp5.sqt hb4
    refine ⟨_, rfl, rfl, _, rfl, iteB (fun c3 => ?_) (fun c3 => ?_)⟩
    · refine ⟨_, rfl, _, rfl, (by show 3 ≤ sizeLine; decide), fun a na => ?_⟩
      have s6 := same_new na (HO.tup [.str "while", .ref b, .ref p])
      exact q (.mk (.ref a) "while" [.ref b, .ref p] [] ts.length (tr b tv :: ts)) _ k5 l5 (.loop _ a b p tv ts (SqT.of upd_same) (s6.sqt hb5) (s6.sqt hp) fun t ht => (hts t ht).keep (Keep.same s6)) (hS5.same s6) (by omega) (by simp only [size, sizeL, tr]; omega) ((b4.trans b5).trans (ButS.same s6))
    refine ⟨_, rfl, _, rfl, _, rfl, _, rfl, _, _, rfl, rfl, D, R, W, L, k5, l5, ws, 3, (by show [V.ref D, V.ref W, V.ref L, V.int (((M + 1 : Nat) : Int) - 1), V.int 3] = _; rw [dec1]; rfl), by decide, hS5, by omega, nlW (b4.trans b5), hWL, hwl, fun p2 us H6 k6 l6 hp2 hus hS6 hk6 hs6 b6 => ?_⟩
    have kp6 := hS5.keep b6
    obtain ⟨row6, d6⟩ := hS6.dk
    refine ⟨_, rfl, rfl, _, rfl, iteB (fun c4 => ?_) (fun c4 => ?_)⟩
    · have hW6 := nlW ((b4.trans b5).trans b6)
      refine ⟨_, rfl, _, rfl, _, rfl, D, R, k6, row6, 6, rfl, d6, by omega, by decide, by decide, fun z7 H7 hz7 dw7 => ?_⟩
      obtain ⟨k7, hk7, hS7, b7⟩ := hS6.dw d6 dw7
      have kp7 := hS6.keep b7
      have hW7 := hW6.dw dw7 d6
      have hz7' : z7 < ws.length := by omega
      refine ⟨W, _, _, V.str ws[z7], rfl, rfl, SqL.of hW7.l, at_of (j := z7) rfl (by rw [List.getElem?_map, List.getElem?_eq_getElem hz7']; rfl), _, rfl, (by show 4 ≤ sizeLine; decide), fun a na => ?_⟩
      have s8 := same_new na (HO.tup [.str "try", .ref p, .str ws[z7], .ref p2])
      have k8 := Keep.same s8
      exact q (.mk (.ref a) "try" [.ref p, .str ws[z7], .ref p2] [] ts.length (ts ++ us)) _ k7 l6 (.tri _ a p p2 _ ts us (hW.ok _ (List.getElem_mem hz7')) (SqT.of upd_same) (k8.sqt (kp7.sqt (kp6.sqt hp))) (k8.sqt (kp7.sqt hp2)) (fun t ht => (hts t ht).keep ((kp6.trans kp7).trans k8)) fun t ht => (hus t ht).keep (kp7.trans k8)) (hS7.same s8) (by omega) (by simp only [size]; rw [sizeL_append]; omega) ((((b4.trans b5).trans b6).trans b7).trans (ButS.same s8))
    · refine ⟨_, rfl, _, rfl, _, rfl, (by show 4 ≤ sizeLine; decide), fun a na => ?_⟩
      have s8 := same_new na (HO.tup [.str "if", .ref b, .ref p, .ref p2])
      have k8 := Keep.same s8
      exact q (.mk (.ref a) "if" [.ref b, .ref p, .ref p2] [] ts.length (tr b tv :: (ts ++ us))) _ k6 l6 (.cond _ a b p p2 tv ts us (SqT.of upd_same) (k8.sqt (kp6.sqt hb5)) (k8.sqt (kp6.sqt hp)) (k8.sqt hp2) (fun t ht => (hts t ht).keep (kp6.trans k8)) fun t ht => (hus t ht).keep k8) (hS6.same s8) (by omega) (by simp only [size, sizeL, tr]; rw [sizeL_append]; omega) (((b4.trans b5).trans b6).trans (ButS.same s8))
theorem ok_stm_n (T : Tx K mg) : ∀ N, FnOk P w K mg base CX0 (2 + 2 * N) T.d_law_statement.f T.d_law_statement.fd ["_law_deck_here", "_law_words_here", "_law_left", "_law_deep"] (spStm K N)
  | 0 => ok_stm T 0 1 (by omega) (fn_never fun _ _ _ _ h => h)
  | N + 1 => ok_stm T (N + 1) (2 + 2 * N + 1) (by omega) (ok_sts T (by omega) (ok_stm_n T N))
theorem ok_sts_n (T : Tx K mg) (N : Nat) : FnOk P w K mg base CX0 (3 + 2 * N) T.d_law_statements.f T.d_law_statements.fd ["_law_deck_here", "_law_words_here", "_law_left", "_law_deep", "_law_most"] (spSts K N) := (ok_sts T (by omega) (ok_stm_n T N)).mono (by omega)
end
end My

set_option Elab.async false
set_option linter.all false
set_option maxRecDepth 100000
set_option maxHeartbeats 4000000
namespace My
open PySem L2
def spTk (K : PySem.W.Frag) (N : Nat) : Sp := fun vs H Q _ => ∃ (p : Addr) (ts : List Nd), vs = [.ref p] ∧ SqT K H p (ts.map Nd.v) ∧ (∀ t, t ∈ ts → T57 K H N t) ∧ sizeL ts ≤ 1000 ∧
  ∀ (L : Addr) (H' : Hp), Same H H' → H L = none → H' L = some (.lst ((tkL ts).map V.str)) → Q (.ref L) H'
def spTkP (K : PySem.W.Frag) : Nat → Sp
  | 0 => fun _ _ _ _ => False
  | N + 1 => spTk K N
theorem catL {xs ys : List Str} : xs.map V.str ++ ys.map V.str = (xs ++ ys).map V.str := by rw [List.map_append]
section
variable {P : Program} {w : World} {K : PySem.W.Frag} {mg : Str → Option Value} {base : Heap}
theorem ok_tk (T : Tx K mg) (N lv : Nat) (G_law_taken : FnOk P w K mg base CX0 lv T.d_law_taken.f T.d_law_taken.fd ["_law_statements_here"] (spTkP K N)) :
    FnOk P w K mg base CX0 (lv + 1) T.d_law_taken.f T.d_law_taken.fd ["_law_statements_here"] (spTk K N) := by
  have nd := sc_law_taken.nd
  refine T.d_law_taken.fn.ok (k := lv) sc_law_taken (fun vs H Q E h => ?_) (fun cdv A outer s H vs Q E hr h => ?_)
  · obtain ⟨p, ts, rfl, _⟩ := h
    rfl
  · obtain ⟨p, ts, rfl, hp, hts, hsz, q⟩ := h
    have h_law_taken := hr
    refine ⟨_, (pss_cons (ps_set (i := 1) nd rfl (Or.inl rfl) (pe_lst pa_nil))
      (pss_cons (ps_for PassesOwn.never rfl (pi_tup (pv 0)) (pg_name (i := 2) nd rfl (Or.inl rfl))
      (pss_cons (ps_if (pt_cmpR op_eq (pe_ix ix_tup (pv 2) pe_int (fun _ _ => rfl)) pe_str (nomark _))
      (pss_one (ps_set (i := 1) nd rfl (Or.inl rfl) (pe_op op_cat (pe_op op_cat (pe_op op_cat (pv 1) (pe_lst (pa_cons (pe_ix ix_tup (pv 2) pe_int (fun _ _ => rfl)) pa_nil))) (pe_call G_law_taken h_law_taken rfl T.d_law_taken.m T.d_law_taken.kp T.d_law_taken.b .nil pass0 (pa_cons (pe_ix ix_tup (pv 2) pe_int (fun _ _ => rfl)) pa_nil))) (pe_call G_law_taken h_law_taken rfl T.d_law_taken.m T.d_law_taken.kp T.d_law_taken.b .nil pass0 (pa_cons (pe_ix ix_tup (pv 2) pe_int (fun _ _ => rfl)) pa_nil)))))
      pss_nil)
      (pss_cons (ps_if (pt_cmpR op_eq (pe_ix ix_tup (pv 2) pe_int (fun _ _ => rfl)) pe_str (nomark _))
      (pss_one (ps_set (i := 1) nd rfl (Or.inl rfl) (pe_op op_cat (pv 1) (pe_call G_law_taken h_law_taken rfl T.d_law_taken.m T.d_law_taken.kp T.d_law_taken.b .nil pass0 (pa_cons (pe_ix ix_tup (pv 2) pe_int (fun _ _ => rfl)) pa_nil)))))
      pss_nil)
      (pss_one (ps_if (pt_cmpR op_eq (pe_ix ix_tup (pv 2) pe_int (fun _ _ => rfl)) pe_str (nomark _))
      (pss_one (ps_set (i := 1) nd rfl (Or.inl rfl) (pe_op op_cat (pe_op op_cat (pv 1) (pe_call G_law_taken h_law_taken rfl T.d_law_taken.m T.d_law_taken.kp T.d_law_taken.b .nil pass0 (pa_cons (pe_ix ix_tup (pv 2) pe_int (fun _ _ => rfl)) pa_nil))) (pe_call G_law_taken h_law_taken rfl T.d_law_taken.m T.d_law_taken.kp T.d_law_taken.b .nil pass0 (pa_cons (pe_ix ix_tup (pv 2) pe_int (fun _ _ => rfl)) pa_nil)))))
      pss_nil)))))
      (pss_one (ps_ret (pv 1))))), ?_⟩
    refine ⟨(by show 0 ≤ sizeLine; decide), fun F nF => ?_⟩
    have s1 := same_new nF (HO.lst [])
    refine ⟨_, rfl, p, rfl, ⟨_, s1.sqt hp⟩, ?_⟩
    refine for_tup (K := K) (a := p) (xs := ts.map Nd.v) (fun i σ H' => ∃ (F : Addr) (v2 : Option V), σ = [some (.ref p), some (.ref F), v2] ∧ H F = none ∧ H' F = some (.lst ((tkL (ts.take i)).map V.str)) ∧ Same H H') ?_ ?_ ?_ ?_
    · exact ⟨F, none, rfl, nF, upd_same, s1⟩
    · rintro i σ H' _ ⟨_, _, _, _, _, s'⟩
      exact s'.sqt hp
    · rintro i y σ H2 hi ⟨F2, v2, rfl, nF2, hF2, s2⟩
      obtain ⟨t, hti, rfl⟩ : ∃ k, ts[i]? = some k ∧ y = k.v := by
        rw [List.getElem?_map] at hi
        cases e : ts[i]? with
        | none => rw [e] at hi; cases hi
        | some k => rw [e] at hi; exact ⟨k, rfl, (Option.some.inj hi).symm⟩
      have htm : t ∈ ts := List.mem_of_getElem? hti
      have htk : tkL (ts.take (i + 1)) = tkL (ts.take i) ++ tkN t := by rw [List.take_add_one, hti, tkL_append]; simp [tkL]
      have hszi : sizeL (ts.take i) + size t ≤ 1000 := by
        have := sizeL_append (ts.take (i + 1)) (ts.drop (i + 1))
        rw [List.take_append_drop, List.take_add_one, hti, sizeL_append] at this
        simp only [Option.toList, sizeL] at this
        omega
      have hl1 := tkL_len (ts.take i)
      generalize hA : tkL (ts.take i) = A at hF2 htk hl1
      have fin : ∀ (F3 : Addr) (H3 : Hp) (v : Option V), H F3 = none → H3 F3 = some (.lst ((A ++ tkN t).map V.str)) → Same H H3 → ∃ (F : Addr) (v2 : Option V), [some (V.ref p), some (.ref F3), v] = [some (.ref p), some (.ref F), v2] ∧ H F = none ∧ H3 F = some (.lst ((tkL (ts.take (i + 1))).map V.str)) ∧ Same H H3 := fun F3 H3 v n h s => ⟨F3, v, rfl, n, by rw [htk]; exact h, s⟩
      have ht2 := (hts t htm).keep (Keep.same s2)
      clear hi
      cases ht2 with
      | say n a b z h1 h2 =>
        refine ⟨_, rfl, a, _, _, _, rfl, rfl, h1, at0, rfl, _, rfl, iteN (by decide +kernel) ?_⟩
        refine ⟨_, rfl, a, _, _, _, rfl, rfl, h1, at0, rfl, _, rfl, iteN (by decide +kernel) ?_⟩
        refine ⟨_, rfl, a, _, _, _, rfl, rfl, h1, at0, rfl, _, rfl, iteN (by decide +kernel) ?_⟩
        refine fin F2 H2 _ nF2 ?_ s2
        simp only [tkN, tkL, tk_nu]
        rw [if_neg (by decide +kernel)]
        simpa using hF2
      | loop n a b p1 z us h1 h2 h3 h4 =>
        refine ⟨_, rfl, a, _, _, _, rfl, rfl, h1, at0, rfl, _, rfl, iteN (by decide +kernel) ?_⟩
        refine ⟨_, rfl, a, _, _, _, rfl, rfl, h1, at0, rfl, _, rfl, iteY (by decide +kernel) ?_⟩
        have hsu : sizeL us ≤ 1000 := by simp only [size, sizeL] at hszi; omega
        have hlu := tkL_len us
        refine ⟨_, rfl, _, rfl, a, _, _, _, rfl, rfl, h1, at2, p1, us, rfl, h3, h4, hsu, fun L1 H3 s3 nL1 hL1 => ?_⟩
        refine ⟨F2, L1, _, _, rfl, rfl, s3 _ _ hF2, hL1, sz (by rw [List.length_map, List.length_map]; simp only [size, sizeL] at hszi; omega), fun F4 nF4 => ?_⟩
        have s4 := s3.trans (same_new nF4 (HO.lst (A.map V.str ++ (tkL us).map V.str)))
        have hF4 : upd H3 F4 (.lst (A.map V.str ++ (tkL us).map V.str)) F4 = some (.lst ((A ++ tkL us).map V.str)) := by rw [upd_same, catL]
        have nF4' : H F4 = none := (s2.trans s3).free nF4
        change tSeq _ _ _ _ (upd H3 F4 (.lst (A.map V.str ++ (tkL us).map V.str))) at *
        generalize upd H3 F4 (.lst (A.map V.str ++ (tkL us).map V.str)) = H4 at s4 hF4 ⊢
        refine ⟨_, rfl, a, _, _, _, rfl, rfl, s4.sqt h1, at0, rfl, _, rfl, iteN (by decide +kernel) ?_⟩
        refine fin F4 H4 _ nF4' ?_ (s2.trans s4)
        simp only [tkN, tkL, tk_tr]
        rw [if_neg (by decide +kernel)]
        simpa using hF4
      | tri n a p1 p2 x us xs hx h1 h2 h3 h4 h5 =>
        have hsz2 := hszi
        simp only [size] at hsz2
        rw [sizeL_append] at hsz2
        have hlu := tkL_len us
        have hlx := tkL_len xs
        refine ⟨_, rfl, a, _, _, _, rfl, rfl, h1, at0, rfl, _, rfl, iteY (by decide +kernel) ?_⟩
        refine ⟨_, rfl, _, rfl, a, _, _, _, rfl, rfl, h1, at2, (by show 1 ≤ sizeLine; decide), fun q1 nq1 => ?_⟩
        have sq1 := same_new nq1 (HO.lst [V.str x])
        refine ⟨F2, q1, _, _, rfl, rfl, sq1 _ _ hF2, upd_same, sz (by rw [List.length_map]; simp only [List.length_cons, List.length_nil]; omega), fun q2 nq2 => ?_⟩
        have sq2 := sq1.trans (same_new nq2 (HO.lst (A.map V.str ++ [V.str x])))
        have hq2 : upd (upd H2 q1 (.lst [V.str x])) q2 (.lst (A.map V.str ++ [V.str x])) q2 = some (.lst ((A ++ [x]).map V.str)) := by rw [upd_same, List.map_append]; rfl
        refine ⟨_, rfl, a, _, _, _, rfl, rfl, sq2.sqt h1, at1, p1, us, rfl, sq2.sqt h2, fun t ht => (h4 t ht).keep (Keep.same sq2), by omega, fun L1 H3 s3 nL1 hL1 => ?_⟩
        refine ⟨q2, L1, _, _, rfl, rfl, s3 _ _ hq2, hL1, sz (by rw [List.length_map, List.length_map, List.length_append, List.length_singleton]; omega), fun q3 nq3 => ?_⟩
        have sq3 := (sq2.trans s3).trans (same_new nq3 (HO.lst ((A ++ [x]).map V.str ++ (tkL us).map V.str)))
        have hq3 : upd H3 q3 (.lst ((A ++ [x]).map V.str ++ (tkL us).map V.str)) q3 = some (.lst (((A ++ [x]) ++ tkL us).map V.str)) := by rw [upd_same, catL]
        refine ⟨_, rfl, a, _, _, _, rfl, rfl, sq3.sqt h1, at3, p2, xs, rfl, sq3.sqt h3, fun t ht => (h5 t ht).keep (Keep.same sq3), by omega, fun L2 H4 s4 nL2 hL2 => ?_⟩
        refine ⟨q3, L2, _, _, rfl, rfl, s4 _ _ hq3, hL2, sz (by rw [List.length_map, List.length_map, List.length_append, List.length_append, List.length_singleton]; omega), fun q4 nq4 => ?_⟩
        have sq4 := (sq3.trans s4).trans (same_new nq4 (HO.lst (((A ++ [x]) ++ tkL us).map V.str ++ (tkL xs).map V.str)))
        have hq4 : upd H4 q4 (.lst (((A ++ [x]) ++ tkL us).map V.str ++ (tkL xs).map V.str)) q4 = some (.lst ((((A ++ [x]) ++ tkL us) ++ tkL xs).map V.str)) := by rw [upd_same, catL]
        have nq4' : H q4 = none := ((s2.trans sq3).trans s4).free nq4
        change tSeq _ _ _ _ (upd H4 q4 (.lst (((A ++ [x]) ++ tkL us).map V.str ++ (tkL xs).map V.str))) at *
        generalize upd H4 q4 (.lst (((A ++ [x]) ++ tkL us).map V.str ++ (tkL xs).map V.str)) = H5 at sq4 hq4 ⊢
        refine ⟨_, rfl, a, _, _, _, rfl, rfl, sq4.sqt h1, at0, rfl, _, rfl, iteN (by decide +kernel) ?_⟩
        refine ⟨_, rfl, a, _, _, _, rfl, rfl, sq4.sqt h1, at0, rfl, _, rfl, iteN (by decide +kernel) ?_⟩
        refine fin q4 H5 _ nq4' ?_ (s2.trans sq4)
        simp only [tkN]
        rw [if_pos trivial, tkL_append, hq4]
        simp [xOf]
      | cond n a b p1 p2 z us xs h1 h2 h3 h4 h5 h6 =>
        have hsz2 := hszi
        simp only [size, sizeL] at hsz2
        rw [sizeL_append] at hsz2
        have hlu := tkL_len us
        have hlx := tkL_len xs
        refine ⟨_, rfl, a, _, _, _, rfl, rfl, h1, at0, rfl, _, rfl, iteN (by decide +kernel) ?_⟩
        refine ⟨_, rfl, a, _, _, _, rfl, rfl, h1, at0, rfl, _, rfl, iteN (by decide +kernel) ?_⟩
        refine ⟨_, rfl, a, _, _, _, rfl, rfl, h1, at0, rfl, _, rfl, iteY (by decide +kernel) ?_⟩
        refine ⟨_, rfl, _, rfl, a, _, _, _, rfl, rfl, h1, at2, p1, us, rfl, h3, h5, by omega, fun L1 H3 s3 nL1 hL1 => ?_⟩
        refine ⟨F2, L1, _, _, rfl, rfl, s3 _ _ hF2, hL1, sz (by rw [List.length_map, List.length_map]; omega), fun q3 nq3 => ?_⟩
        have sq3 := s3.trans (same_new nq3 (HO.lst (A.map V.str ++ (tkL us).map V.str)))
        have hq3 : upd H3 q3 (.lst (A.map V.str ++ (tkL us).map V.str)) q3 = some (.lst ((A ++ tkL us).map V.str)) := by rw [upd_same, catL]
        refine ⟨_, rfl, a, _, _, _, rfl, rfl, sq3.sqt h1, at3, p2, xs, rfl, sq3.sqt h4, fun t ht => (h6 t ht).keep (Keep.same sq3), by omega, fun L2 H4 s4 nL2 hL2 => ?_⟩
        refine ⟨q3, L2, _, _, rfl, rfl, s4 _ _ hq3, hL2, sz (by rw [List.length_map, List.length_map, List.length_append]; omega), fun q4 nq4 => ?_⟩
        have sq4 := (sq3.trans s4).trans (same_new nq4 (HO.lst ((A ++ tkL us).map V.str ++ (tkL xs).map V.str)))
        have hq4 : upd H4 q4 (.lst ((A ++ tkL us).map V.str ++ (tkL xs).map V.str)) q4 = some (.lst (((A ++ tkL us) ++ tkL xs).map V.str)) := by rw [upd_same, catL]
        have nq4' : H q4 = none := ((s2.trans sq3).trans s4).free nq4
        refine fin q4 _ _ nq4' ?_ (s2.trans sq4)
        simp only [tkN, tkL, tk_tr]
        rw [if_neg (by decide +kernel), tkL_append, hq4]
        simp
    · rintro σ H2 ⟨F2, v2, rfl, nF2, hF2, s2⟩
      rw [List.length_map, List.take_length] at hF2
      exact ⟨_, rfl, q F2 H2 s2 nF2 hF2⟩
theorem ok_tk_n (T : Tx K mg) : ∀ N, FnOk P w K mg base CX0 (N + 1) T.d_law_taken.f T.d_law_taken.fd ["_law_statements_here"] (spTk K N)
  | 0 => ok_tk T 0 0 (fn_never fun _ _ _ _ h => h)
  | N + 1 => ok_tk T (N + 1) (N + 1) (ok_tk_n T N)
end
end My

set_option Elab.async false
set_option linter.all false
set_option maxRecDepth 100000
set_option maxHeartbeats 8000000
namespace My
open PySem L2
/-- a list of rows, some of them not yet made -/
structure CpO (K : PySem.W.Frag) (H : Hp) (M : Addr) (vs : List V) (rows : List (Option (List V))) : Prop where
  l : H M = some (.lst vs)
  len : vs.length = rows.length
  at_ : ∀ (i : Nat) (v : V) (r : List V), vs[i]? = some v → rows[i]? = some (some r) → ∃ a, v = .ref a ∧ SqT K H a r
theorem CpO.cast {K : PySem.W.Frag} {H : Hp} {M : Addr} {vs : List V} {r1 r2 : List (Option (List V))} (h : CpO K H M vs r1) (e : r1 = r2) : CpO K H M vs r2 := e ▸ h
theorem CpO.put {K : PySem.W.Frag} {H H2 : Hp} {M : Addr} {vs : List V} {rows : List (Option (List V))} (h : CpO K H M vs rows) (k : Keep H H2) (v : V) (row : Option (List V)) (hv : ∀ r, row = some r → ∃ a, v = .ref a ∧ SqT K H2 a r) (hM : H2 M = some (.lst vs)) :
    CpO K (upd H2 M (.lst (vs ++ [v]))) M (vs ++ [v]) (rows ++ [row]) := by
  have kp : Keep H2 (upd H2 M (.lst (vs ++ [v]))) := (But.set (D := M) _).keep hM
  refine ⟨upd_same, by rw [List.length_append, List.length_append, h.len]; rfl, fun i u r g1 g2 => ?_⟩
  by_cases hi : i < vs.length
  · rw [List.getElem?_append_left hi] at g1
    rw [List.getElem?_append_left (by rw [← h.len]; exact hi)] at g2
    obtain ⟨a, e, s⟩ := h.at_ i u r g1 g2
    exact ⟨a, e, kp.sqt (k.sqt s)⟩
  · have hi' : i = vs.length := by
      obtain ⟨hlt, _⟩ := List.getElem?_eq_some_iff.mp g1
      rw [List.length_append, List.length_singleton] at hlt
      omega
    subst hi'
    rw [List.getElem?_append_right (Nat.le_refl _), Nat.sub_self] at g1
    rw [h.len, List.getElem?_append_right (Nat.le_refl _), Nat.sub_self] at g2
    have q1 : v = u := Option.some.inj g1
    have q2 : row = some r := Option.some.inj g2
    obtain ⟨a, e, s⟩ := hv r q2
    exact ⟨a, q1.symm.trans e, kp.sqt s⟩
theorem CpO.sett {K : PySem.W.Frag} {H H2 : Hp} {M r : Addr} {vs : List V} {rows : List (Option (List V))} {row : List V} (h : CpO K H M vs rows) (k : Keep H H2) (j : Nat) (hr : SqT K H2 r row) (hM : H2 M = some (.lst vs)) :
    CpO K (upd H2 M (.lst (vs.set j (.ref r)))) M (vs.set j (.ref r)) (rows.set j (some row)) := by
  have kp : Keep H2 (upd H2 M (.lst (vs.set j (.ref r)))) := (But.set (D := M) _).keep hM
  refine ⟨upd_same, by rw [List.length_set, List.length_set, h.len], fun i u x g1 g2 => ?_⟩
  rw [List.getElem?_set] at g1 g2
  by_cases hij : j = i
  · rw [if_pos hij] at g1 g2
    split at g1
    · split at g2
      · have q1 := Option.some.inj g1
        have q2 := Option.some.inj (Option.some.inj g2)
        subst q1 q2
        exact ⟨r, rfl, kp.sqt hr⟩
      · cases g2
    · cases g1
  · rw [if_neg hij] at g1 g2
    obtain ⟨a, e, s⟩ := h.at_ i u x g1 g2
    exact ⟨a, e, kp.sqt (k.sqt s)⟩
theorem ixN_nat {n j : Nat} (h : j < n) : ixN n (j : Int) = some j := by
  unfold ixN
  rw [if_pos (by omega), if_pos (by omega)]
  rfl
theorem ixP {nm : List Str} {x : Str} (hx : among x nm = true) : (nm.map V.str)[idx x nm]? = some (V.str x) ∧ eqV (V.str x) (V.str x) = true ∧ ∀ (m : Nat) (z' : V), m < idx x nm → (nm.map V.str)[m]? = some z' → eqV z' (V.str x) = false := by
  obtain ⟨g1, g2⟩ := idx_at (among_iff hx)
  refine ⟨by rw [List.getElem?_map, g1]; rfl, by rw [eqV_str]; exact beq_self_eq_true x, fun m z' hm hz' => ?_⟩
  rw [List.getElem?_map] at hz'
  cases e5 : nm[m]? with
  | none => rw [e5] at hz'; cases hz'
  | some y =>
    rw [e5] at hz'
    have := Option.some.inj hz'
    subst this
    rw [eqV_str]
    have ne : y ≠ x := fun q => g2 m hm (by rw [e5, q])
    exact beq_eq_false_iff_ne.mpr ne
def sm (rows : List (List V)) : List (Option (List V)) := rows.map some
theorem sm_append (a b : List (List V)) : sm (a ++ b) = sm a ++ sm b := List.map_append
theorem sm_len (a : List (List V)) : (sm a).length = a.length := List.length_map ..
def spPut7 (K : PySem.W.Frag) (N : Nat) : Sp := fun vs H Q _ => ∃ (M C : Addr) (ms : List V) (rows : List (Option (List V))) (nm : List Str) (n : Nat) (t : Nd), vs = [.ref M, t.v, vi n, .ref C] ∧ CpO K H M ms rows ∧ H C = some (.lst (nm.map V.str)) ∧ C ≠ M ∧
  T57 K H N t ∧ (∀ x, x ∈ tkN t → among x nm = true) ∧ rows.length + 5 * size t ≤ 5000 ∧
  ∀ (ms2 : List V) (H' : Hp), CpO K H' M ms2 (rows ++ sm (rS nm rows.length n [] t)) → But M H H' → Q (vi (n + size t)) H'
def spAll7 (K : PySem.W.Frag) (N : Nat) : Sp := fun vs H Q _ => ∃ (M C p : Addr) (ms : List V) (rows : List (Option (List V))) (nm : List Str) (n : Nat) (ts : List Nd), vs = [.ref M, .ref p, vi n, .ref C] ∧ CpO K H M ms rows ∧ H C = some (.lst (nm.map V.str)) ∧ C ≠ M ∧
  SqT K H p (ts.map Nd.v) ∧ (∀ t, t ∈ ts → T57 K H N t) ∧ (∀ x, x ∈ tkL ts → among x nm = true) ∧ rows.length + 5 * sizeL ts ≤ 5000 ∧
  ∀ (ms2 : List V) (H' : Hp), CpO K H' M ms2 (rows ++ sm (rSs nm rows.length n [] ts)) → But M H H' → Q (vi (n + sizeL ts)) H'
def spAllP (K : PySem.W.Frag) : Nat → Sp
  | 0 => fun _ _ _ _ => False
  | N + 1 => spAll7 K N
section
variable {P : Program} {w : World} {K : PySem.W.Frag} {mg : Str → Option Value} {base : Heap}
theorem ok_all7 (T : Tx K mg) {N lv : Nat} (G_law_put : FnOk P w K mg base CX0 lv T.d_law_put.f T.d_law_put.fd ["_law_made", "_law_node", "_law_at", "_law_names"] (spPut7 K N)) :
    FnOk P w K mg base CX0 (lv + 1) T.d_law_all.f T.d_law_all.fd ["_law_made", "_law_statements_here", "_law_at", "_law_names"] (spAll7 K N) := by
  have nd := sc_law_all.nd
  refine T.d_law_all.fn.ok (k := lv) sc_law_all (fun vs H Q E h => ?_) (fun cdv A outer s H vs Q E hr h => ?_)
  · obtain ⟨M, C, p, ms, rows, nm, n, ts, rfl, _⟩ := h
    rfl
  · obtain ⟨M, C, p, ms, rows, nm, n, ts, rfl, hM, hC, hCM, hp, hts, htk, hsz, q⟩ := h
    have h_law_put := hr
    refine ⟨_, (pss_cons (ps_for PassesOwn.never rfl (pi_tup (pv 1)) (pg_name (i := 4) nd rfl (Or.inl rfl))
      (pss_one (ps_set (i := 2) nd rfl (Or.inl rfl) (pe_call G_law_put h_law_put rfl T.d_law_put.m T.d_law_put.kp T.d_law_put.b .nil pass0 (pa_cons (pv 0) (pa_cons (pv 4) (pa_cons (pv 2) (pa_cons (pv 3) pa_nil))))))))
      (pss_one (ps_ret (pv 2)))), ?_⟩
    refine ⟨_, rfl, p, rfl, ⟨_, hp⟩, ?_⟩
    refine for_tup (K := K) (a := p) (xs := ts.map Nd.v) (fun i σ H' => ∃ (v4 : Option V) (ms2 : List V), σ = [some (.ref M), some (.ref p), some (vi (n + sizeL (ts.take i))), some (.ref C), v4] ∧ CpO K H' M ms2 (rows ++ sm (rSs nm rows.length n [] (ts.take i))) ∧ But M H H') ?_ ?_ ?_ ?_
    · refine ⟨none, ms, rfl, ?_, But.refl _ _⟩
      rw [List.take_zero, rSs_nil]
      exact hM.cast (by simp [sm])
    · rintro i σ H' _ ⟨_, _, _, _, b⟩
      exact (b.keep hM.l).sqt hp
    · rintro i y σ H2 hi ⟨v4, ms2, rfl, C2, b2⟩
      obtain ⟨t, hti, rfl⟩ : ∃ k, ts[i]? = some k ∧ y = k.v := by
        rw [List.getElem?_map] at hi
        cases e : ts[i]? with
        | none => rw [e] at hi; cases hi
        | some k => rw [e] at hi; exact ⟨k, rfl, (Option.some.inj hi).symm⟩
      have htm : t ∈ ts := List.mem_of_getElem? hti
      have htk2 : ts.take (i + 1) = ts.take i ++ [t] := by rw [List.take_add_one, hti]; rfl
      have hszi : sizeL (ts.take i) + size t ≤ sizeL ts := by
        have := sizeL_append (ts.take (i + 1)) (ts.drop (i + 1))
        rw [List.take_append_drop, htk2, sizeL_append] at this
        simp only [sizeL] at this
        omega
      have hrl := rSs_len nm [] (ts.take i) rows.length n
      refine ⟨_, rfl, _, rfl, _, rfl, _, rfl, M, C, ms2, _, nm, n + sizeL (ts.take i), t, rfl, C2, b2 _ _ hC hCM, hCM, (hts t htm).keep (b2.keep hM.l), fun x hx => htk x (tkL_mem htm hx), by rw [List.length_append, sm_len]; omega, fun ms3 H3 C3 b3 => ?_⟩
      refine ⟨some t.v, ms3, ?_, C3.cast ?_, b2.trans b3⟩
      · rw [htk2, sizeL_append]
        simp only [sizeL, Nat.add_zero]
        rw [show n + (sizeL (ts.take i) + size t) = n + sizeL (ts.take i) + size t by omega]
        rfl
      · rw [htk2, rSs_append, rSs_cons, rSs_nil, List.append_nil, sm_append, List.append_assoc, List.length_append, sm_len]
    · rintro σ H2 ⟨v4, ms2, rfl, C2, b2⟩
      rw [List.length_map, List.take_length] at *
      exact ⟨_, rfl, q ms2 H2 C2 b2⟩
theorem ok_put7 (T : Tx K mg) (N lv : Nat) (G_law_all : FnOk P w K mg base CX0 lv T.d_law_all.f T.d_law_all.fd ["_law_made", "_law_statements_here", "_law_at", "_law_names"] (spAllP K N)) :
    FnOk P w K mg base CX0 (lv + 1) T.d_law_put.f T.d_law_put.fd ["_law_made", "_law_node", "_law_at", "_law_names"] (spPut7 K N) := by
  have nd := sc_law_put.nd
  refine T.d_law_put.fn.ok (k := lv) sc_law_put (fun vs H Q E h => ?_) (fun cdv A outer s H vs Q E hr h => ?_)
  · obtain ⟨M, C, ms, rows, nm, n, t, rfl, _⟩ := h
    rfl
  · obtain ⟨M, C, ms, rows, nm, n, t, rfl, hM, hC, hCM, hT, htk, hsz, q⟩ := h
    have h_law_all := hr
    refine ⟨_, (pss_cons (ps_set (i := 4) nd rfl (Or.inl rfl) (pe_callB call_len_seq (by rfl) T.z_len PySem.boot_len (pa_cons (pv 0) pa_nil)))
      (pss_cons (ps_expr (pe_bm PySem.F.plainAttrs_list PySem.F.slot_list_append PySem.F.type_list_append mt_append (pv 0) (pa_cons (pe_tup (pa_cons (pv 2) (pa_cons pe_str pa_nil))) pa_nil)))
      (pss_cons (ps_if (pt_cmpR op_eq (pe_ix ix_tup (pv 1) pe_int (fun _ _ => rfl)) pe_str (nomark _))
      (pss_cons (ps_expr (pe_bm PySem.F.plainAttrs_list PySem.F.slot_list_append PySem.F.type_list_append mt_append (pv 0) (pa_cons (pe_tup (pa_cons (pe_op op_add (pv 2) pe_int) (pa_cons pe_str (pa_cons (pe_ix ix_tup (pe_ix ix_tup (pv 1) pe_int (fun _ _ => rfl)) pe_int (fun _ _ => rfl)) pa_nil)))) pa_nil)))
      (pss_cons (ps_expr (pe_bm PySem.F.plainAttrs_list PySem.F.slot_list_append PySem.F.type_list_append mt_append (pv 0) (pa_cons (pe_tup (pa_cons (pv 2) (pa_cons pe_str pa_nil))) pa_nil)))
      (pss_one (ps_ret (pe_op op_add (pv 2) pe_int)))))
      pss_nil)
      (pss_cons (ps_if (pt_cmpR op_eq (pe_ix ix_tup (pv 1) pe_int (fun _ _ => rfl)) pe_str (nomark _))
      (pss_cons (ps_expr (pe_bm PySem.F.plainAttrs_list PySem.F.slot_list_append PySem.F.type_list_append mt_append (pv 0) (pa_cons pe_non pa_nil)))
      (pss_cons (ps_set (i := 5) nd rfl (Or.inl rfl) (pe_call G_law_all h_law_all rfl T.d_law_all.m T.d_law_all.kp T.d_law_all.b .nil pass0 (pa_cons (pv 0) (pa_cons (pe_ix ix_tup (pv 1) pe_int (fun _ _ => rfl)) (pa_cons (pe_op op_add (pv 2) pe_int) (pa_cons (pv 3) pa_nil))))))
      (pss_cons (ps_expr (pe_bm PySem.F.plainAttrs_list PySem.F.slot_list_append PySem.F.type_list_append mt_append (pv 0) (pa_cons (pe_tup (pa_cons (pv 2) (pa_cons pe_str pa_nil))) pa_nil)))
      (pss_cons (ps_set (i := 6) nd rfl (Or.inl rfl) (pe_callB call_len_seq (by rfl) T.z_len PySem.boot_len (pa_cons (pv 0) pa_nil)))
      (pss_cons (ps_expr (pe_bm PySem.F.plainAttrs_list PySem.F.slot_list_append PySem.F.type_list_append mt_append (pv 0) (pa_cons pe_non pa_nil)))
      (pss_cons (ps_asg (pe_tup (pa_cons (pv 2) (pa_cons pe_str (pa_cons (pe_callB call_len_seq (by rfl) T.z_len PySem.boot_len (pa_cons (pv 0) pa_nil)) pa_nil)))) (pg_sub (pv 0) (pe_op op_add (pv 4) pe_int) set_list))
      (pss_cons (ps_expr (pe_bm PySem.F.plainAttrs_list PySem.F.slot_list_append PySem.F.type_list_append mt_append (pv 0) (pa_cons (pe_tup (pa_cons (pv 2) (pa_cons pe_str (pa_cons pe_int (pa_cons (pe_bm PySem.F.plainAttrs_list PySem.F.slot_list_index PySem.F.type_list_index mt_index (pv 3) (pa_cons (pe_ix ix_tup (pv 1) pe_int (fun _ _ => rfl)) pa_nil)) pa_nil))))) pa_nil)))
      (pss_cons (ps_set (i := 5) nd rfl (Or.inl rfl) (pe_call G_law_all h_law_all rfl T.d_law_all.m T.d_law_all.kp T.d_law_all.b .nil pass0 (pa_cons (pv 0) (pa_cons (pe_ix ix_tup (pv 1) pe_int (fun _ _ => rfl)) (pa_cons (pv 5) (pa_cons (pv 3) pa_nil))))))
      (pss_cons (ps_asg (pe_tup (pa_cons (pv 2) (pa_cons pe_str (pa_cons (pe_callB call_len_seq (by rfl) T.z_len PySem.boot_len (pa_cons (pv 0) pa_nil)) pa_nil)))) (pg_sub (pv 0) (pv 6) set_list))
      (pss_one (ps_ret (pv 5))))))))))))
      pss_nil)
      (pss_cons (ps_expr (pe_bm PySem.F.plainAttrs_list PySem.F.slot_list_append PySem.F.type_list_append mt_append (pv 0) (pa_cons (pe_tup (pa_cons (pe_op op_add (pv 2) pe_int) (pa_cons pe_str (pa_cons (pe_ix ix_tup (pe_ix ix_tup (pv 1) pe_int (fun _ _ => rfl)) pe_int (fun _ _ => rfl)) pa_nil)))) pa_nil)))
      (pss_cons (ps_expr (pe_bm PySem.F.plainAttrs_list PySem.F.slot_list_append PySem.F.type_list_append mt_append (pv 0) (pa_cons pe_non pa_nil)))
      (pss_cons (ps_set (i := 5) nd rfl (Or.inl rfl) (pe_call G_law_all h_law_all rfl T.d_law_all.m T.d_law_all.kp T.d_law_all.b .nil pass0 (pa_cons (pv 0) (pa_cons (pe_ix ix_tup (pv 1) pe_int (fun _ _ => rfl)) (pa_cons (pe_op op_add (pv 2) pe_int) (pa_cons (pv 3) pa_nil))))))
      (pss_cons (ps_if (pt_cmpR op_eq (pe_ix ix_tup (pv 1) pe_int (fun _ _ => rfl)) pe_str (nomark _))
      (pss_cons (ps_expr (pe_bm PySem.F.plainAttrs_list PySem.F.slot_list_append PySem.F.type_list_append mt_append (pv 0) (pa_cons (pe_tup (pa_cons (pv 2) (pa_cons pe_str (pa_cons (pv 4) pa_nil)))) pa_nil)))
      (pss_cons (ps_asg (pe_tup (pa_cons (pv 2) (pa_cons pe_str (pa_cons (pe_callB call_len_seq (by rfl) T.z_len PySem.boot_len (pa_cons (pv 0) pa_nil)) pa_nil)))) (pg_sub (pv 0) (pe_op op_add (pv 4) pe_int) set_list))
      (pss_one (ps_ret (pv 5)))))
      pss_nil)
      (pss_cons (ps_set (i := 6) nd rfl (Or.inl rfl) (pe_callB call_len_seq (by rfl) T.z_len PySem.boot_len (pa_cons (pv 0) pa_nil)))
      (pss_cons (ps_expr (pe_bm PySem.F.plainAttrs_list PySem.F.slot_list_append PySem.F.type_list_append mt_append (pv 0) (pa_cons pe_non pa_nil)))
      (pss_cons (ps_asg (pe_tup (pa_cons (pv 2) (pa_cons pe_str (pa_cons (pe_callB call_len_seq (by rfl) T.z_len PySem.boot_len (pa_cons (pv 0) pa_nil)) pa_nil)))) (pg_sub (pv 0) (pe_op op_add (pv 4) pe_int) set_list))
      (pss_cons (ps_set (i := 5) nd rfl (Or.inl rfl) (pe_call G_law_all h_law_all rfl T.d_law_all.m T.d_law_all.kp T.d_law_all.b .nil pass0 (pa_cons (pv 0) (pa_cons (pe_ix ix_tup (pv 1) pe_int (fun _ _ => rfl)) (pa_cons (pv 5) (pa_cons (pv 3) pa_nil))))))
      (pss_cons (ps_asg (pe_tup (pa_cons (pv 2) (pa_cons pe_str (pa_cons (pe_callB call_len_seq (by rfl) T.z_len PySem.boot_len (pa_cons (pv 0) pa_nil)) pa_nil)))) (pg_sub (pv 0) (pv 6) set_list))
      (pss_one (ps_ret (pv 5)))))))))))))))), ?_⟩
    have add : ∀ {H1 : Hp} {ms1 : List V} {rows1 : List (Option (List V))} {a : Addr} (row : List V), CpO K H1 M ms1 rows1 → H1 a = none → CpO K (upd (upd H1 a (.tup row)) M (.lst (ms1 ++ [V.ref a]))) M (ms1 ++ [V.ref a]) (rows1 ++ [some row]) ∧ But M H1 (upd (upd H1 a (.tup row)) M (.lst (ms1 ++ [V.ref a]))) ∧ upd H1 a (.tup row) M = some (.lst ms1) := by
      intro H1 ms1 rows1 a row C na
      have s := same_new na (HO.tup row)
      exact ⟨C.put (Keep.same s) _ _ (fun r e => ⟨a, rfl, by cases e; exact SqT.of upd_same⟩) (s _ _ C.l), (But.same s).trans (But.set _), s _ _ C.l⟩
    have hole : ∀ {H1 : Hp} {ms1 : List V} {rows1 : List (Option (List V))}, CpO K H1 M ms1 rows1 → CpO K (upd H1 M (.lst (ms1 ++ [V.non]))) M (ms1 ++ [V.non]) (rows1 ++ [none]) ∧ But M H1 (upd H1 M (.lst (ms1 ++ [V.non]))) := by
      intro H1 ms1 rows1 C
      exact ⟨C.put (Keep.refl _) _ _ (fun r e => by cases e) C.l, But.set _⟩
    have setr : ∀ {H1 : Hp} {ms1 : List V} {rows1 : List (Option (List V))} {a : Addr} (row : List V) (j : Nat), CpO K H1 M ms1 rows1 → H1 a = none → CpO K (upd (upd H1 a (.tup row)) M (.lst (ms1.set j (V.ref a)))) M (ms1.set j (V.ref a)) (rows1.set j (some row)) ∧ But M H1 (upd (upd H1 a (.tup row)) M (.lst (ms1.set j (V.ref a)))) ∧ upd H1 a (.tup row) M = some (.lst ms1) := by
      intro H1 ms1 rows1 a row j C na
      have s := same_new na (HO.tup row)
      exact ⟨C.sett (Keep.same s) j (SqT.of upd_same) (s _ _ C.l), (But.same s).trans (But.set _), s _ _ C.l⟩
    have hpos := size_pos t
    refine ⟨_, rfl, M, _, rfl, .inl (SqL.of hM.l), ?_⟩
    rw [hM.len]
    generalize hs : rows.length = s0 at *
    refine ⟨_, rfl, .inl ⟨rfl, _, SqL.of hM.l⟩, _, rfl, (by show 2 ≤ sizeLine; decide), fun a1 na1 => ?_⟩
    obtain ⟨C1, b1, m1⟩ := add [vi n, V.str "beat"] hM na1
    refine ⟨M, _, _, rfl, rfl, m1, szl (by rw [hM.len]; omega), ?_⟩
    have kp1 := b1.keep hM.l
    generalize upd (upd H a1 (.tup [vi n, V.str "beat"])) M (.lst (ms ++ [V.ref a1])) = H1 at C1 b1 kp1 ⊢
    generalize ms ++ [V.ref a1] = ms1 at C1 ⊢
    have l1 : (rows ++ [some [vi n, V.str "beat"]]).length = s0 + 1 := by rw [List.length_append, hs]; rfl
    have hC1 := b1 _ _ hC hCM
    cases hT with
    | say N' a b i h1 h2 =>
      have h1' := kp1.sqt h1
      refine ⟨_, rfl, a, _, _, _, rfl, rfl, h1', at0, rfl, _, rfl, iteY (by decide +kernel) ?_⟩
      refine ⟨_, rfl, .inl ⟨rfl, _, SqL.of C1.l⟩, _, rfl, _, _, rfl, rfl, _, rfl, a, _, _, _, rfl, rfl, h1', at1, b, _, _, _, rfl, rfl, kp1.sqt h2, at1, (by show 3 ≤ sizeLine; decide), fun a2 na2 => ?_⟩
      obtain ⟨C2, b2, m2⟩ := add [vi (n + 1), V.str "push", V.int i] C1 na2
      refine ⟨M, _, _, rfl, rfl, m2, szl (by rw [C1.len, l1]; omega), ?_⟩
      refine ⟨_, rfl, .inl ⟨rfl, _, SqL.of C2.l⟩, _, rfl, (by show 2 ≤ sizeLine; decide), fun a3 na3 => ?_⟩
      obtain ⟨C3, b3, m3⟩ := add [vi n, V.str "say"] C2 na3
      refine ⟨M, _, _, rfl, rfl, m3, szl (by rw [C2.len, List.length_append, l1, List.length_singleton]; omega), _, rfl, _, _, rfl, rfl, ?_⟩
      refine q _ _ (C3.cast ?_) ((b1.trans b2).trans b3)
      rw [rS_one (by unfold oneW; decide +kernel), rE_nu, if_neg (by decide +kernel)]
      simp [sm]
    | tri N' a p1 p2 x ts us hx h1 h2 h3 h4 h5 =>
      have h1' := kp1.sqt h1
      have hsz2 := hsz
      simp only [size] at hsz2
      rw [sizeL_append] at hsz2
      have hxi : among x nm = true := htk x (by simp only [tkN]; rw [if_pos trivial]; simp [xOf])
      have hk1 : ∀ y, y ∈ tkL ts → among y nm = true := fun y hy => htk y (by simp only [tkN]; rw [tkL_append]; simp [hy])
      have hk2 : ∀ y, y ∈ tkL us → among y nm = true := fun y hy => htk y (by simp only [tkN]; rw [tkL_append]; simp [hy])
      refine ⟨_, rfl, a, _, _, _, rfl, rfl, h1', at0, rfl, _, rfl, iteN (by decide +kernel) ?_⟩
      refine ⟨_, rfl, a, _, _, _, rfl, rfl, h1', at0, rfl, _, rfl, iteY (by decide +kernel) ?_⟩
      obtain ⟨C2, b2⟩ := hole C1
      refine ⟨_, rfl, .inl ⟨rfl, _, SqL.of C1.l⟩, M, _, _, rfl, rfl, C1.l, szl (by rw [C1.len, l1]; omega), ?_⟩
      have kp2 := kp1.trans (b2.keep C1.l)
      have l2 : (rows ++ [some [vi n, V.str "beat"]] ++ [none]).length = s0 + 2 := by rw [List.length_append, l1]; rfl
      generalize upd H1 M (.lst (ms1 ++ [V.non])) = H2 at C2 b2 kp2 ⊢
      generalize ms1 ++ [V.non] = ms2 at C2 ⊢
      have hone := rSs_len nm [] ts (s0 + 2) (n + 1)
      refine ⟨_, rfl, _, rfl, a, _, _, _, rfl, rfl, kp2.sqt h1, at1, _, rfl, _, _, rfl, rfl, _, rfl, M, C, p1, ms2, _, nm, n + 1, ts, rfl, C2, b2 _ _ hC1 hCM, hCM, kp2.sqt h2, fun t ht => (h4 t ht).keep kp2, hk1, by rw [l2]; omega, fun ms3 H3 C3 b3 => ?_⟩
      rw [l2] at C3
      generalize ho : rSs nm (s0 + 2) (n + 1) [] ts = one at C3 hone
      have kp3 := kp2.trans (b3.keep C2.l)
      have B3 := (b1.trans b2).trans b3
      have l3 : (rows ++ [some [vi n, V.str "beat"]] ++ [none] ++ sm one).length = s0 + 2 + one.length := by rw [List.length_append, l2, sm_len]
      refine ⟨_, rfl, .inl ⟨rfl, _, SqL.of C3.l⟩, _, rfl, (by show 2 ≤ sizeLine; decide), fun a4 na4 => ?_⟩
      obtain ⟨C4, b4, m4⟩ := add [vi n, V.str "untry"] C3 na4
      refine ⟨M, _, _, rfl, rfl, m4, szl (by rw [C3.len, l3]; omega), ?_⟩
      have kp4 := kp3.trans (b4.keep C3.l)
      generalize upd (upd H3 a4 (.tup [vi n, V.str "untry"])) M (.lst (ms3 ++ [V.ref a4])) = H4 at C4 b4 kp4 ⊢
      generalize ms3 ++ [V.ref a4] = ms4 at C4 ⊢
      have B4 := B3.trans b4
      have l4 : ms4.length = s0 + 2 + one.length + 1 := by rw [C4.len, List.length_append, l3]; rfl
      refine ⟨_, rfl, M, _, rfl, .inl (SqL.of C4.l), ?_⟩
      rw [l4]
      obtain ⟨C5, b5⟩ := hole C4
      refine ⟨_, rfl, .inl ⟨rfl, _, SqL.of C4.l⟩, M, _, _, rfl, rfl, C4.l, szl (by omega), ?_⟩
      have kp5 := kp4.trans (b5.keep C4.l)
      generalize upd H4 M (.lst (ms4 ++ [V.non])) = H5 at C5 b5 kp5 ⊢
      have l5 : (ms4 ++ [V.non]).length = s0 + 2 + one.length + 2 := by rw [List.length_append, l4]; rfl
      generalize ms4 ++ [V.non] = ms5 at C5 l5 ⊢
      have B5 := B4.trans b5
      refine ⟨_, rfl, _, rfl, M, _, rfl, .inl (SqL.of C5.l), ?_⟩
      rw [l5]
      refine ⟨(by show 3 ≤ sizeLine; decide), fun a6 na6 => ?_⟩
      obtain ⟨C6, b6, m6⟩ := setr [vi n, V.str "try", V.int ((s0 + 2 + one.length + 2 : Nat) : Int)] (s0 + 1) C5 na6
      refine ⟨_, rfl, _, rfl, _, _, rfl, rfl, M, _, _, s0 + 1, rfl, rfl, m6, ixN_nat (j := s0 + 1) (by omega), ?_⟩
      have e6 : (rows ++ [some [vi n, V.str "beat"]] ++ [none] ++ sm one ++ [some [vi n, V.str "untry"]] ++ [none]).set (s0 + 1) (some [vi n, V.str "try", V.int ((s0 + 2 + one.length + 2 : Nat) : Int)]) = rows ++ [some [vi n, V.str "beat"], some [vi n, V.str "try", V.int ((s0 + 2 + one.length + 2 : Nat) : Int)]] ++ sm one ++ [some [vi n, V.str "untry"]] ++ [none] := by
        rw [show rows ++ [some [vi n, V.str "beat"]] ++ [none] ++ sm one ++ [some [vi n, V.str "untry"]] ++ [none] = (rows ++ [some [vi n, V.str "beat"]]) ++ none :: (sm one ++ [some [vi n, V.str "untry"]] ++ [none]) by simp, set_mid _ _ _ _ l1.symm]
        simp
      have C6' := C6.cast e6
      have kp6 := kp5.trans (b6.keep C5.l)
      have B6 := B5.trans b6
      generalize upd (upd H5 a6 (.tup [vi n, V.str "try", V.int ((s0 + 2 + one.length + 2 : Nat) : Int)])) M (.lst (ms5.set (s0 + 1) (V.ref a6))) = H6 at C6' b6 kp6 B6 ⊢
      generalize ms5.set (s0 + 1) (V.ref a6) = ms6 at C6' ⊢
      have l6 : (rows ++ [some [vi n, V.str "beat"], some [vi n, V.str "try", V.int ((s0 + 2 + one.length + 2 : Nat) : Int)]] ++ sm one ++ [some [vi n, V.str "untry"]] ++ [none]).length = s0 + 2 + one.length + 2 := by
        simp only [List.length_append, List.length_cons, List.length_nil, sm_len, hs]
      have hC6 := B6 _ _ hC hCM
      obtain ⟨g1, g2, g3⟩ := ixP hxi
      refine ⟨_, rfl, .inl ⟨rfl, _, SqL.of C6'.l⟩, _, rfl, _, rfl, .inl ⟨rfl, _, SqL.of hC6⟩, _, rfl, a, _, _, _, rfl, rfl, kp6.sqt h1, at2, C, _, V.str x, idx x nm, V.str x, rfl, rfl, SqL.of hC6, rfl, flat_strs _, g1, g2, g3, (by show 4 ≤ sizeLine; decide), fun a7 na7 => ?_⟩
      obtain ⟨C7, b7, m7⟩ := add [vi n, V.str "setname", V.int 0, V.int (idx x nm : Nat)] C6' na7
      refine ⟨M, _, _, rfl, rfl, m7, szl (by rw [C6'.len, l6]; omega), ?_⟩
      have kp7 := kp6.trans (b7.keep C6'.l)
      have B7 := B6.trans b7
      generalize upd (upd H6 a7 (.tup [vi n, V.str "setname", V.int 0, V.int (idx x nm : Nat)])) M (.lst (ms6 ++ [V.ref a7])) = H7 at C7 b7 kp7 B7 ⊢
      generalize ms6 ++ [V.ref a7] = ms7 at C7 ⊢
      have l7 : (rows ++ [some [vi n, V.str "beat"], some [vi n, V.str "try", V.int ((s0 + 2 + one.length + 2 : Nat) : Int)]] ++ sm one ++ [some [vi n, V.str "untry"]] ++ [none] ++ [some [vi n, V.str "setname", V.int 0, V.int (idx x nm : Nat)]]).length = s0 + 2 + one.length + 3 := by
        rw [List.length_append, l6]; rfl
      have htwo := rSs_len nm [] us (s0 + 2 + one.length + 3) (n + 1 + sizeL ts)
      refine ⟨_, rfl, _, rfl, a, _, _, _, rfl, rfl, kp7.sqt h1, at3, _, rfl, _, rfl, M, C, p2, ms7, _, nm, n + 1 + sizeL ts, us, rfl, C7, B7 _ _ hC hCM, hCM, kp7.sqt h3, fun t ht => (h5 t ht).keep kp7, hk2, by rw [l7]; omega, fun ms8 H8 C8 b8 => ?_⟩
      rw [l7] at C8
      generalize ht : rSs nm (s0 + 2 + one.length + 3) (n + 1 + sizeL ts) [] us = two at C8 htwo
      have l8 : ms8.length = s0 + 2 + one.length + 3 + two.length := by rw [C8.len, List.length_append, l7, sm_len]
      refine ⟨_, rfl, _, rfl, M, _, rfl, .inl (SqL.of C8.l), ?_⟩
      rw [l8]
      refine ⟨(by show 3 ≤ sizeLine; decide), fun a9 na9 => ?_⟩
      obtain ⟨C9, b9, m9⟩ := setr [vi n, V.str "jump", V.int ((s0 + 2 + one.length + 3 + two.length : Nat) : Int)] (s0 + 2 + one.length + 1) C8 na9
      refine ⟨_, rfl, _, rfl, M, _, _, s0 + 2 + one.length + 1, rfl, rfl, m9, ixN_nat (j := s0 + 2 + one.length + 1) (by omega), _, rfl, ?_⟩
      have fin := q _ _ (C9.cast ?_) ((B7.trans b8).trans b9)
      · have es : n + size (.mk (.ref a) "try" [.ref p1, .str x, .ref p2] [] ts.length (ts ++ us)) = n + 1 + sizeL ts + sizeL us := by simp only [size]; rw [sizeL_append]; omega
        rw [es] at fin
        exact fin
      · rw [rS_try, List.take_left, List.drop_left, ho, ht, show nameRow nm n "setname" (xOf [V.ref p1, V.str x, V.ref p2] 1) [] = _ from nameRow_of hxi]
        rw [show rows ++ [some [vi n, V.str "beat"], some [vi n, V.str "try", V.int ((s0 + 2 + one.length + 2 : Nat) : Int)]] ++ sm one ++ [some [vi n, V.str "untry"]] ++ [none] ++ [some [vi n, V.str "setname", V.int 0, V.int (idx x nm : Nat)]] ++ sm two
          = (rows ++ [some [vi n, V.str "beat"], some [vi n, V.str "try", V.int ((s0 + 2 + one.length + 2 : Nat) : Int)]] ++ sm one ++ [some [vi n, V.str "untry"]]) ++ none :: ([some [vi n, V.str "setname", V.int 0, V.int (idx x nm : Nat)]] ++ sm two) by simp,
          set_mid _ _ _ _ (by simp only [List.length_append, List.length_cons, List.length_nil, sm_len, hs])]
        simp [sm, vi]
        rfl
    | loop N' a b p1 z ts h1 h2 h3 h4 =>
      have h1' := kp1.sqt h1
      have hsz2 := hsz
      simp only [size, sizeL, tr] at hsz2
      have hk1 : ∀ y, y ∈ tkL ts → among y nm = true := fun y hy => htk y (by simp only [tkN, tkL]; simp [hy])
      refine ⟨_, rfl, a, _, _, _, rfl, rfl, h1', at0, rfl, _, rfl, iteN (by decide +kernel) ?_⟩
      refine ⟨_, rfl, a, _, _, _, rfl, rfl, h1', at0, rfl, _, rfl, iteN (by decide +kernel) ?_⟩
      refine ⟨_, rfl, .inl ⟨rfl, _, SqL.of C1.l⟩, _, rfl, _, _, rfl, rfl, _, rfl, a, _, _, _, rfl, rfl, h1', at1, b, _, _, _, rfl, rfl, kp1.sqt h2, at1, (by show 3 ≤ sizeLine; decide), fun a0 na0 => ?_⟩
      obtain ⟨C0, b0, m0⟩ := add [vi (n + 1), V.str "push", V.bl z] C1 na0
      refine ⟨M, _, _, rfl, rfl, m0, szl (by rw [C1.len, l1]; omega), ?_⟩
      have kp0 := kp1.trans (b0.keep C1.l)
      have l0 : (rows ++ [some [vi n, V.str "beat"]] ++ [some [vi (n + 1), V.str "push", V.bl z]]).length = s0 + 2 := by rw [List.length_append, l1]; rfl
      have B0 := b1.trans b0
      change tSeq _ _ _ _ (upd (upd H1 a0 (.tup [vi (n + 1), V.str "push", V.bl z])) M (.lst (ms1 ++ [V.ref a0])))
      generalize upd (upd H1 a0 (.tup [vi (n + 1), V.str "push", V.bl z])) M (.lst (ms1 ++ [V.ref a0])) = H0 at C0 b0 kp0 B0 ⊢
      generalize ms1 ++ [V.ref a0] = ms0 at C0 ⊢
      obtain ⟨C2, b2⟩ := hole C0
      refine ⟨_, rfl, .inl ⟨rfl, _, SqL.of C0.l⟩, M, _, _, rfl, rfl, C0.l, szl (by rw [C0.len, l0]; omega), ?_⟩
      have kp2 := kp0.trans (b2.keep C0.l)
      have l2 : (rows ++ [some [vi n, V.str "beat"]] ++ [some [vi (n + 1), V.str "push", V.bl z]] ++ [none]).length = s0 + 3 := by rw [List.length_append, l0]; rfl
      generalize upd H0 M (.lst (ms0 ++ [V.non])) = H2 at C2 b2 kp2 ⊢
      generalize ms0 ++ [V.non] = ms2 at C2 ⊢
      have B2 := B0.trans b2
      have hone := rSs_len nm [] ts (s0 + 3) (n + 2)
      refine ⟨_, rfl, _, rfl, a, _, _, _, rfl, rfl, kp2.sqt h1, at2, _, rfl, _, _, rfl, rfl, _, rfl, M, C, p1, ms2, _, nm, n + 2, ts, rfl, C2, B2 _ _ hC hCM, hCM, kp2.sqt h3, fun t ht => (h4 t ht).keep kp2, hk1, by rw [l2]; omega, fun ms3 H3 C3 b3 => ?_⟩
      rw [l2] at C3
      generalize ho : rSs nm (s0 + 3) (n + 2) [] ts = one at C3 hone
      have kp3 := kp2.trans (b3.keep C2.l)
      have B3 := B2.trans b3
      have l3 : ms3.length = s0 + 3 + one.length := by rw [C3.len, List.length_append, l2, sm_len]
      refine ⟨_, rfl, a, _, _, _, rfl, rfl, kp3.sqt h1, at0, rfl, _, rfl, iteY (by decide +kernel) ?_⟩
      refine ⟨_, rfl, .inl ⟨rfl, _, SqL.of C3.l⟩, _, rfl, _, rfl, (by show 3 ≤ sizeLine; decide), fun a4 na4 => ?_⟩
      obtain ⟨C4, b4, m4⟩ := add [vi n, V.str "jump", V.int (s0 : Nat)] C3 na4
      refine ⟨M, _, _, rfl, rfl, m4, szl (by omega), ?_⟩
      have B4 := B3.trans b4
      generalize upd (upd H3 a4 (.tup [vi n, V.str "jump", V.int (s0 : Nat)])) M (.lst (ms3 ++ [V.ref a4])) = H4 at C4 b4 B4 ⊢
      have l4 : (ms3 ++ [V.ref a4]).length = s0 + 3 + one.length + 1 := by rw [List.length_append, l3]; rfl
      generalize ms3 ++ [V.ref a4] = ms4 at C4 l4 ⊢
      refine ⟨_, rfl, _, rfl, M, _, rfl, .inl (SqL.of C4.l), ?_⟩
      rw [l4]
      refine ⟨(by show 3 ≤ sizeLine; decide), fun a6 na6 => ?_⟩
      obtain ⟨C6, b6, m6⟩ := setr [vi n, V.str "unless", V.int ((s0 + 3 + one.length + 1 : Nat) : Int)] (s0 + 2) C4 na6
      refine ⟨_, rfl, _, rfl, _, _, rfl, rfl, M, _, _, s0 + 2, rfl, rfl, m6, ixN_nat (j := s0 + 2) (by omega), _, rfl, ?_⟩
      have fin := q _ _ (C6.cast ?_) (B4.trans b6)
      · have es : n + size (.mk (.ref a) "while" [.ref b, .ref p1] [] ts.length (tr b z :: ts)) = n + 2 + sizeL ts := by simp only [size, sizeL, tr]; omega
        rw [es] at fin
        exact fin
      · rw [rS_while, rE_tr, List.take_length]
        rw [show rSs nm (s0 + 1 + [[vi (n + 1), V.str "push", V.bl z]].length + 1) (n + 1 + size (tr b z)) [] ts = one from ho]
        rw [show rows ++ [some [vi n, V.str "beat"]] ++ [some [vi (n + 1), V.str "push", V.bl z]] ++ [none] ++ sm one ++ [some [vi n, V.str "jump", V.int (s0 : Nat)]]
          = (rows ++ [some [vi n, V.str "beat"]] ++ [some [vi (n + 1), V.str "push", V.bl z]]) ++ none :: (sm one ++ [some [vi n, V.str "jump", V.int (s0 : Nat)]]) by simp,
          set_mid _ _ _ _ l0.symm]
        simp [sm, vi]
        omega
    | cond N' a b p1 p2 z ts us h1 h2 h3 h4 h5 h6 =>
      have h1' := kp1.sqt h1
      have hsz2 := hsz
      simp only [size, sizeL, tr] at hsz2
      rw [sizeL_append] at hsz2
      have hk1 : ∀ y, y ∈ tkL ts → among y nm = true := fun y hy => htk y (by simp only [tkN, tkL]; rw [tkL_append]; simp [hy])
      have hk2 : ∀ y, y ∈ tkL us → among y nm = true := fun y hy => htk y (by simp only [tkN, tkL]; rw [tkL_append]; simp [hy])
      refine ⟨_, rfl, a, _, _, _, rfl, rfl, h1', at0, rfl, _, rfl, iteN (by decide +kernel) ?_⟩
      refine ⟨_, rfl, a, _, _, _, rfl, rfl, h1', at0, rfl, _, rfl, iteN (by decide +kernel) ?_⟩
      refine ⟨_, rfl, .inl ⟨rfl, _, SqL.of C1.l⟩, _, rfl, _, _, rfl, rfl, _, rfl, a, _, _, _, rfl, rfl, h1', at1, b, _, _, _, rfl, rfl, kp1.sqt h2, at1, (by show 3 ≤ sizeLine; decide), fun a0 na0 => ?_⟩
      obtain ⟨C0, b0, m0⟩ := add [vi (n + 1), V.str "push", V.bl z] C1 na0
      refine ⟨M, _, _, rfl, rfl, m0, szl (by rw [C1.len, l1]; omega), ?_⟩
      have kp0 := kp1.trans (b0.keep C1.l)
      have l0 : (rows ++ [some [vi n, V.str "beat"]] ++ [some [vi (n + 1), V.str "push", V.bl z]]).length = s0 + 2 := by rw [List.length_append, l1]; rfl
      have B0 := b1.trans b0
      change tSeq _ _ _ _ (upd (upd H1 a0 (.tup [vi (n + 1), V.str "push", V.bl z])) M (.lst (ms1 ++ [V.ref a0])))
      generalize upd (upd H1 a0 (.tup [vi (n + 1), V.str "push", V.bl z])) M (.lst (ms1 ++ [V.ref a0])) = H0 at C0 b0 kp0 B0 ⊢
      generalize ms1 ++ [V.ref a0] = ms0 at C0 ⊢
      obtain ⟨C2, b2⟩ := hole C0
      refine ⟨_, rfl, .inl ⟨rfl, _, SqL.of C0.l⟩, M, _, _, rfl, rfl, C0.l, szl (by rw [C0.len, l0]; omega), ?_⟩
      have kp2 := kp0.trans (b2.keep C0.l)
      have l2 : (rows ++ [some [vi n, V.str "beat"]] ++ [some [vi (n + 1), V.str "push", V.bl z]] ++ [none]).length = s0 + 3 := by rw [List.length_append, l0]; rfl
      generalize upd H0 M (.lst (ms0 ++ [V.non])) = H2 at C2 b2 kp2 ⊢
      generalize ms0 ++ [V.non] = ms2 at C2 ⊢
      have B2 := B0.trans b2
      have hone := rSs_len nm [] ts (s0 + 3) (n + 2)
      refine ⟨_, rfl, _, rfl, a, _, _, _, rfl, rfl, kp2.sqt h1, at2, _, rfl, _, _, rfl, rfl, _, rfl, M, C, p1, ms2, _, nm, n + 2, ts, rfl, C2, B2 _ _ hC hCM, hCM, kp2.sqt h3, fun t ht => (h5 t ht).keep kp2, hk1, by rw [l2]; omega, fun ms3 H3 C3 b3 => ?_⟩
      rw [l2] at C3
      generalize ho : rSs nm (s0 + 3) (n + 2) [] ts = one at C3 hone
      have kp3 := kp2.trans (b3.keep C2.l)
      have B3 := B2.trans b3
      have l3 : ms3.length = s0 + 3 + one.length := by rw [C3.len, List.length_append, l2, sm_len]
      refine ⟨_, rfl, a, _, _, _, rfl, rfl, kp3.sqt h1, at0, rfl, _, rfl, iteN (by decide +kernel) ?_⟩
      refine ⟨_, rfl, M, _, rfl, .inl (SqL.of C3.l), ?_⟩
      rw [l3]
      obtain ⟨C5, b5⟩ := hole C3
      refine ⟨_, rfl, .inl ⟨rfl, _, SqL.of C3.l⟩, M, _, _, rfl, rfl, C3.l, szl (by omega), ?_⟩
      have kp5 := kp3.trans (b5.keep C3.l)
      generalize upd H3 M (.lst (ms3 ++ [V.non])) = H5 at C5 b5 kp5 ⊢
      have l5 : (ms3 ++ [V.non]).length = s0 + 3 + one.length + 1 := by rw [List.length_append, l3]; rfl
      generalize ms3 ++ [V.non] = ms5 at C5 l5 ⊢
      have B5 := B3.trans b5
      refine ⟨_, rfl, _, rfl, M, _, rfl, .inl (SqL.of C5.l), ?_⟩
      rw [l5]
      refine ⟨(by show 3 ≤ sizeLine; decide), fun a6 na6 => ?_⟩
      obtain ⟨C6, b6, m6⟩ := setr [vi n, V.str "unless", V.int ((s0 + 3 + one.length + 1 : Nat) : Int)] (s0 + 2) C5 na6
      refine ⟨_, rfl, _, rfl, _, _, rfl, rfl, M, _, _, s0 + 2, rfl, rfl, m6, ixN_nat (j := s0 + 2) (by omega), ?_⟩
      have e6 : (rows ++ [some [vi n, V.str "beat"]] ++ [some [vi (n + 1), V.str "push", V.bl z]] ++ [none] ++ sm one ++ [none]).set (s0 + 2) (some [vi n, V.str "unless", V.int ((s0 + 3 + one.length + 1 : Nat) : Int)]) = rows ++ [some [vi n, V.str "beat"], some [vi (n + 1), V.str "push", V.bl z], some [vi n, V.str "unless", V.int ((s0 + 3 + one.length + 1 : Nat) : Int)]] ++ sm one ++ [none] := by
        rw [show rows ++ [some [vi n, V.str "beat"]] ++ [some [vi (n + 1), V.str "push", V.bl z]] ++ [none] ++ sm one ++ [none] = (rows ++ [some [vi n, V.str "beat"]] ++ [some [vi (n + 1), V.str "push", V.bl z]]) ++ none :: (sm one ++ [none]) by simp, set_mid _ _ _ _ l0.symm]
        simp
      have C6' := C6.cast e6
      have kp6 := kp5.trans (b6.keep C5.l)
      have B6 := B5.trans b6
      generalize upd (upd H5 a6 (.tup [vi n, V.str "unless", V.int ((s0 + 3 + one.length + 1 : Nat) : Int)])) M (.lst (ms5.set (s0 + 2) (V.ref a6))) = H6 at C6' b6 kp6 B6 ⊢
      generalize ms5.set (s0 + 2) (V.ref a6) = ms6 at C6' ⊢
      have l6 : (rows ++ [some [vi n, V.str "beat"], some [vi (n + 1), V.str "push", V.bl z], some [vi n, V.str "unless", V.int ((s0 + 3 + one.length + 1 : Nat) : Int)]] ++ sm one ++ [none]).length = s0 + 3 + one.length + 1 := by
        simp only [List.length_append, List.length_cons, List.length_nil, sm_len, hs]
      have htwo := rSs_len nm [] us (s0 + 3 + one.length + 1) (n + 2 + sizeL ts)
      refine ⟨_, rfl, _, rfl, a, _, _, _, rfl, rfl, kp6.sqt h1, at3, _, rfl, _, rfl, M, C, p2, ms6, _, nm, n + 2 + sizeL ts, us, rfl, C6', B6 _ _ hC hCM, hCM, kp6.sqt h4, fun t ht => (h6 t ht).keep kp6, hk2, by rw [l6]; omega, fun ms8 H8 C8 b8 => ?_⟩
      rw [l6] at C8
      generalize ht : rSs nm (s0 + 3 + one.length + 1) (n + 2 + sizeL ts) [] us = two at C8 htwo
      have l8 : ms8.length = s0 + 3 + one.length + 1 + two.length := by rw [C8.len, List.length_append, l6, sm_len]
      refine ⟨_, rfl, _, rfl, M, _, rfl, .inl (SqL.of C8.l), ?_⟩
      rw [l8]
      refine ⟨(by show 3 ≤ sizeLine; decide), fun a9 na9 => ?_⟩
      obtain ⟨C9, b9, m9⟩ := setr [vi n, V.str "jump", V.int ((s0 + 3 + one.length + 1 + two.length : Nat) : Int)] (s0 + 3 + one.length) C8 na9
      refine ⟨_, rfl, _, rfl, M, _, _, s0 + 3 + one.length, rfl, rfl, m9, ixN_nat (j := s0 + 3 + one.length) (by omega), _, rfl, ?_⟩
      have fin := q _ _ (C9.cast ?_) ((B6.trans b8).trans b9)
      · have es : n + size (.mk (.ref a) "if" [.ref b, .ref p1, .ref p2] [] ts.length (tr b z :: (ts ++ us))) = n + 2 + sizeL ts + sizeL us := by simp only [size, sizeL, tr]; rw [sizeL_append]; omega
        rw [es] at fin
        exact fin
      · rw [rS_if, rE_tr, List.take_left, List.drop_left]
        rw [show rSs nm (s0 + 1 + [[vi (n + 1), V.str "push", V.bl z]].length + 1) (n + 1 + size (tr b z)) [] ts = one from ho]
        rw [show rSs nm (s0 + 1 + [[vi (n + 1), V.str "push", V.bl z]].length + 1 + one.length + 1) (n + 1 + size (tr b z) + sizeL ts) [] us = two from ht]
        rw [show rows ++ [some [vi n, V.str "beat"], some [vi (n + 1), V.str "push", V.bl z], some [vi n, V.str "unless", V.int ((s0 + 3 + one.length + 1 : Nat) : Int)]] ++ sm one ++ [none] ++ sm two
          = (rows ++ [some [vi n, V.str "beat"], some [vi (n + 1), V.str "push", V.bl z], some [vi n, V.str "unless", V.int ((s0 + 3 + one.length + 1 : Nat) : Int)]] ++ sm one) ++ none :: (sm two) by simp,
          set_mid _ _ _ _ (by simp only [List.length_append, List.length_cons, List.length_nil, sm_len, hs])]
        simp [sm, vi]
        omega
theorem ok_put7_n (T : Tx K mg) : ∀ N, FnOk P w K mg base CX0 (1 + 2 * N) T.d_law_put.f T.d_law_put.fd ["_law_made", "_law_node", "_law_at", "_law_names"] (spPut7 K N)
  | 0 => ok_put7 T 0 0 (fn_never fun _ _ _ _ h => h)
  | N + 1 => ok_put7 T (N + 1) (1 + 2 * N + 1) (ok_all7 T (ok_put7_n T N))
theorem ok_all7_n (T : Tx K mg) (N : Nat) : FnOk P w K mg base CX0 (2 + 2 * N) T.d_law_all.f T.d_law_all.fd ["_law_made", "_law_statements_here", "_law_at", "_law_names"] (spAll7 K N) := (ok_all7 T (ok_put7_n T N)).mono (by omega)
end
end My

set_option Elab.async false
set_option linter.all false
set_option maxRecDepth 100000
set_option maxHeartbeats 4000000
namespace My
open PySem L2
def spLaw (K : PySem.W.Frag) : Sp := fun vs H Q _ => ∃ (a : Addr) (ns : List Int), vs = [.ref a] ∧ SqL K H a (ns.map V.int) ∧ ∀ H', Q (.bl true) H'
theorem addW_snoc (acc xs : List Str) (x : Str) : addW acc (xs ++ [x]) = if among x (addW acc xs) = true then addW acc xs else addW acc xs ++ [x] := by rw [addW_append]; rfl
def stW (acc : List Str) (x : Str) : List Str := if among x acc = true then acc else acc ++ [x]
theorem addW_cons (acc xs : List Str) (x : Str) : addW acc (x :: xs) = addW (stW acc x) xs := rfl
theorem stW_mono {acc : List Str} {x y : Str} (h : among y acc = true) : among y (stW acc x) = true := by
  unfold stW
  split
  · exact h
  · exact among_mem (List.mem_append.mpr (.inl (among_iff h)))
theorem stW_self {acc : List Str} {x : Str} : among x (stW acc x) = true := by
  unfold stW
  split
  · assumption
  · exact among_mem (by simp)
theorem addW_len : ∀ (acc xs : List Str), (addW acc xs).length ≤ acc.length + xs.length
  | acc, [] => Nat.le_refl _
  | acc, x :: xs => by
    rw [addW_cons]
    have h := addW_len (stW acc x) xs
    have h2 : (stW acc x).length ≤ acc.length + 1 := by
      unfold stW
      split
      · omega
      · simp
    simp only [List.length_cons]
    omega
theorem addW_mono {y : Str} : ∀ {xs acc : List Str}, among y acc = true → among y (addW acc xs) = true
  | [], acc, h => h
  | x :: xs, acc, h => by rw [addW_cons]; exact addW_mono (stW_mono h)
theorem addW_all {y : Str} : ∀ {xs acc : List Str}, y ∈ xs → among y (addW acc xs) = true
  | x :: xs, acc, h => by
    rw [addW_cons]
    rcases List.mem_cons.mp h with e | e
    · subst e; exact addW_mono stW_self
    · exact addW_all e
/-- rows all made -/
theorem CpO.all {K : PySem.W.Frag} {H : Hp} {M : Addr} {vs : List V} {rows : List (List V)} (h : CpO K H M vs (sm rows)) : ∃ ras : List Addr, vs = ras.map V.ref ∧ CpB K H M ras rows := by
  have ex : ∀ (vs : List V) (rows : List (List V)), vs.length = rows.length → (∀ (i : Nat) (v : V) (r : List V), vs[i]? = some v → rows[i]? = some r → ∃ a, v = .ref a ∧ SqT K H a r) → ∃ ras : List Addr, vs = ras.map V.ref := by
    intro vs
    induction vs with
    | nil => intro rows _ _; exact ⟨[], rfl⟩
    | cons v vs ih =>
      intro rows hl hat
      cases rows with
      | nil => cases hl
      | cons r rows =>
        obtain ⟨a, rfl, _⟩ := hat 0 v r rfl rfl
        obtain ⟨ras, rfl⟩ := ih rows (Nat.succ.inj hl) fun i v r g1 g2 => hat (i + 1) v r g1 g2
        exact ⟨a :: ras, rfl⟩
  have hat : ∀ (i : Nat) (v : V) (r : List V), vs[i]? = some v → rows[i]? = some r → ∃ a, v = .ref a ∧ SqT K H a r := fun i v r g1 g2 => h.at_ i v r g1 (by unfold sm; rw [List.getElem?_map, g2]; rfl)
  have hl : vs.length = rows.length := by rw [h.len, sm_len]
  obtain ⟨ras, rfl⟩ := ex vs rows hl hat
  refine ⟨ras, rfl, h.l, by rw [List.length_map] at hl; exact hl, fun i a r g1 g2 => ?_⟩
  obtain ⟨b, e, s⟩ := hat i (.ref a) r (by rw [List.getElem?_map, g1]; rfl) g2
  cases e
  exact s
section
variable {P : Program} {w : World} {K : PySem.W.Frag} {mg : Str → Option Value} {base : Heap}
theorem fn_any {k : Nat} {f : Addr} {fd : FuncData} {ps : List Str} {sp : Nat → Sp} {M : Nat} (h : ∀ N, N ≤ M → FnOk P w K mg base CX0 k f fd ps (sp N)) : FnOk P w K mg base CX0 k f fd ps (fun vs H Q E => ∃ N, N ≤ M ∧ sp N vs H Q E) :=
  ⟨fun vs H Q E ⟨N, hN, h'⟩ => (h N hN).1 vs H Q E h', fun A outer s H args us vs Q E a b c d ⟨N, hN, h'⟩ => (h N hN).2 A outer s H args us vs Q E a b c d h'⟩
theorem ok_law (T : Tx K mg) : FnOk P w K mg base CX0 206 T.d_law.f T.d_law.fd ["_law_script"] (spLaw K) := by
  have nd := sc_law.nd
  have G_law_deck := ok_law_deck (P := P) (w := w) (base := base) T
  have G_law_draw := ok_law_draw (P := P) (w := w) (base := base) T
  have G_law_words := ok_law_words (P := P) (w := w) (base := base) T
  have G_law_statements := fn_any (P := P) (w := w) (base := base) (k := 13) (sp := spSts K) (M := 5) fun N hN => (ok_sts_n T N).mono (by omega)
  have G_law_taken := fn_any (P := P) (w := w) (base := base) (k := 7) (sp := spTk K) (M := 6) fun N hN => (ok_tk_n T N).mono (by omega)
  have G_law_all := fn_any (P := P) (w := w) (base := base) (k := 14) (sp := spAll7 K) (M := 6) fun N hN => (ok_all7_n T N).mono (by omega)
  have G_rows_of := ok_rows_of (P := P) (w := w) (base := base) T
  have G_law_same := ok_same2 (P := P) (w := w) (base := base) T
  refine T.d_law.fn.ok (k := 205) sc_law (fun vs H Q E h => ?_) (fun cdv A outer s H vs Q E hr h => ?_)
  · obtain ⟨a, ns, rfl, _⟩ := h
    rfl
  · obtain ⟨a, ns, rfl, hS, q⟩ := h
    have h_law_deck : Room 1 _ := hr.mono (by decide)
    have h_law_draw : Room 1 _ := hr.mono (by decide)
    have h_law_words : Room 3 _ := hr.mono (by decide)
    have h_law_statements : Room 13 _ := hr.mono (by decide)
    have h_law_taken : Room 7 _ := hr.mono (by decide)
    have h_law_all : Room 14 _ := hr.mono (by decide)
    have h_rows_of : Room 205 _ := hr
    have h_law_same : Room 3 _ := hr.mono (by decide)
    refine ⟨_, (pss_cons (ps_set (i := 1) nd rfl (Or.inl rfl) (pe_call G_law_deck h_law_deck rfl T.d_law_deck.m T.d_law_deck.kp T.d_law_deck.b .nil pass0 (pa_cons (pv 0) pa_nil)))
      (pss_cons (ps_set (i := 2) nd rfl (Or.inl rfl) (pe_call G_law_words h_law_words rfl T.d_law_words.m T.d_law_words.kp T.d_law_words.b .nil pass0 (pa_cons (pv 1) (pa_cons pe_int pa_nil))))
      (pss_cons (ps_set (i := 3) nd rfl (Or.inl rfl) (pe_slice sl_list (pv 2) po_none (po_some (pe_call G_law_draw h_law_draw rfl T.d_law_draw.m T.d_law_draw.kp T.d_law_draw.b .nil pass0 (pa_cons (pv 1) (pa_cons pe_int pa_nil))))))
      (pss_cons (ps_set (i := 4) nd rfl (Or.inl rfl) (pe_callTy call_tuple_of (by rfl) T.z_tuple (by decide +kernel) (pa_cons (pv 3) pa_nil)))
      (pss_cons (ps_set (i := 5) nd rfl (Or.inl rfl) (pe_call G_law_statements h_law_statements rfl T.d_law_statements.m T.d_law_statements.kp T.d_law_statements.b .nil pass0 (pa_cons (pv 1) (pa_cons (pv 2) (pa_cons (pe_lst (pa_cons pe_int pa_nil)) (pa_cons (pe_call G_law_draw h_law_draw rfl T.d_law_draw.m T.d_law_draw.kp T.d_law_draw.b .nil pass0 (pa_cons (pv 1) (pa_cons pe_int pa_nil))) (pa_cons pe_int pa_nil)))))))
      (pss_cons (ps_for PassesOwn.never rfl (pi_list (pe_call G_law_taken h_law_taken rfl T.d_law_taken.m T.d_law_taken.kp T.d_law_taken.b .nil pass0 (pa_cons (pv 5) pa_nil))) (pg_name (i := 6) nd rfl (Or.inl rfl))
      (pss_one (ps_if (pt_cmpR op_notIn_seq (pv 6) (pv 3) rfl)
      (pss_one (ps_expr (pe_bm PySem.F.plainAttrs_list PySem.F.slot_list_append PySem.F.type_list_append mt_append (pv 3) (pa_cons (pv 6) pa_nil))))
      pss_nil)))
      (pss_cons (ps_set (i := 7) nd rfl (Or.inl rfl) (pe_lst pa_nil))
      (pss_cons (ps_expr (pe_call G_law_all h_law_all rfl T.d_law_all.m T.d_law_all.kp T.d_law_all.b .nil pass0 (pa_cons (pv 7) (pa_cons (pv 5) (pa_cons pe_int (pa_cons (pv 3) pa_nil))))))
      (pss_cons (ps_set (i := 8) nd rfl (Or.inl rfl) (pe_op op_catA (pe_callTy call_tuple_of (by rfl) T.z_tuple (by decide +kernel) (pa_cons (pv 7) pa_nil)) (pe_tup (pa_cons (pe_tup (pa_cons (pe_un un_neg pe_int) (pa_cons pe_str (pa_cons pe_non pa_nil)))) (pa_cons (pe_tup (pa_cons (pe_un un_neg pe_int) (pa_cons pe_str pa_nil))) pa_nil)))))
      (pss_one (ps_ret (pe_call G_law_same h_law_same rfl T.d_law_same.m T.d_law_same.kp T.d_law_same.b .nil pass0 (pa_cons (pe_call G_rows_of h_rows_of rfl T.d_rows_of.m T.d_rows_of.kp T.d_rows_of.b .nil pass0 (pa_cons (pe_tup (pa_cons pe_str (pa_cons (pe_ix ix_list (pv 2) pe_int (fun _ _ => rfl)) (pa_cons (pv 4) (pa_cons (pv 5) pa_nil))))) (pa_cons (pe_un un_neg pe_int) pa_nil))) (pa_cons (pv 8) pa_nil)))))))))))))), ?_⟩
    refine ⟨_, rfl, a, ns, rfl, hS, fun D R row H1 s1 nD nR d1 => ?_⟩
    refine ⟨_, rfl, D, R, 0, row, 7, rfl, d1, by decide, by decide, fun W ws H2 nW hW hwl hws dw2 => ?_⟩
    obtain ⟨k2, row2, d2, hk2⟩ := dw2.ex
    have hWD : W ≠ D := fun e => by rw [e, d1.d] at nW; cases nW
    have hWR : W ≠ R := fun e => by rw [e, d1.r] at nW; cases nW
    have hW2 : Nl H2 W D R ws := ⟨hW, hWD, hWR, fun x hx => (hws x hx).2⟩
    refine ⟨_, rfl, _, rfl, D, R, k2, row2, 4, rfl, d2, by omega, by decide, by decide, fun z H3 hz dw3 => ?_⟩
    obtain ⟨k3, row3, d3, hk3⟩ := dw3.ex
    have hW3 := hW2.dw dw3 d2
    refine ⟨_, rfl, W, _, rfl, SqL.of hW3.l, fun N nN => ?_⟩
    have ecut : cutV (ws.map V.str) none (some (z : Int)) = (ws.take z).map V.str := by rw [cut_take _ z (by rw [List.length_map]; omega), List.map_take]
    rw [ecut]
    have s4 := same_new nN (HO.lst ((ws.take z).map V.str))
    refine ⟨_, rfl, N, _, rfl, .inl ⟨SqL.of upd_same, fun G nG => ?_⟩⟩
    have s5 := same_new nG (HO.tup ((ws.take z).map V.str))
    refine ⟨_, rfl, _, rfl, (by show 1 ≤ sizeLine; decide), fun L nL => ?_⟩
    have s6 := same_new nL (HO.lst [V.int 60])
    have S6 := (s4.trans s5).trans s6
    have hND : N ≠ D := fun e => by rw [e, d3.d] at nN; cases nN
    have hNR : N ≠ R := fun e => by rw [e, d3.r] at nN; cases nN
    have hWN : W ≠ N := fun e => by rw [e] at hW3; rw [hW3.l] at nN; cases nN
    have hN6 : upd (upd (upd H3 N (.lst ((ws.take z).map V.str))) G (.tup ((ws.take z).map V.str))) L (.lst [V.int 60]) N = some (.lst ((ws.take z).map V.str)) := s6 _ _ (s5 _ _ upd_same)
    have hG6 : SqT K (upd (upd (upd H3 N (.lst ((ws.take z).map V.str))) G (.tup ((ws.take z).map V.str))) L (.lst [V.int 60])) G ((ws.take z).map V.str) := s6.sqt (SqT.of upd_same)
    have hL6 : upd (upd (upd H3 N (.lst ((ws.take z).map V.str))) G (.tup ((ws.take z).map V.str))) L (.lst [V.int 60]) L = some (.lst [V.int (60 : Nat)]) := upd_same
    have hW6 := hW3.same S6
    have d6 := d3.same S6
    have hLx : ∀ {y : Addr} {o : HO}, upd (upd H3 N (.lst ((ws.take z).map V.str))) G (.tup ((ws.take z).map V.str)) y = some o → L ≠ y := fun h e => by rw [← e, nL] at h; cases h
    have hLD : L ≠ D := hLx (s5 _ _ (s4 _ _ d3.d))
    have hLR : L ≠ R := hLx (s5 _ _ (s4 _ _ d3.r))
    have hLW : L ≠ W := hLx (s5 _ _ (s4 _ _ hW3.l))
    have hLN : L ≠ N := hLx (s5 _ _ upd_same)
    generalize upd (upd (upd H3 N (.lst ((ws.take z).map V.str))) G (.tup ((ws.take z).map V.str))) L (.lst [V.int 60]) = H6 at hN6 hG6 hL6 hW6 d6 S6 ⊢
    refine ⟨_, rfl, D, R, k3, row3, 6, rfl, d6, by omega, by decide, by decide, fun z7 H7 hz7 dw7 => ?_⟩
    have hS6 : St7 H6 D R L k3 60 := ⟨⟨row3, d6⟩, hL6, hLD, hLR⟩
    obtain ⟨k7, hk7, hS7, b7⟩ := hS6.dw d6 dw7
    have hW7 := hW6.dw dw7 d6
    have kp7 := hS6.keep b7
    have hN7 := b7.at3 hN6 hND hNR (Ne.symm hLN)
    refine ⟨z7, by omega, D, R, W, L, k7, 60, ws, 4, rfl, by decide, hS7, by omega, hW7, Ne.symm hLW, hwl, fun B ts H8 k8 l8 hB8 hts8 hS8 hk8 hsz8 b8 => ?_⟩
    have kp8 := hS7.keep b8
    have hN8 := b8.at3 hN7 hND hNR (Ne.symm hLN)
    have hW8 := b8.at3 hW7.l hW7.nD hW7.nR (Ne.symm hLW)
    have hG8 := kp8.sqt (kp7.sqt hG6)
    have hts8' : ∀ t, t ∈ ts → T57 K H8 (z7 + 1) t := hts8
    have hsz : sizeL ts ≤ 120 := by omega
    have htl := tkL_len ts
    refine ⟨_, rfl, z7 + 1, by omega, B, ts, rfl, hB8, hts8', by omega, fun F H9 s9 nF hF9 => ?_⟩
    have hNF : N ≠ F := fun e => by rw [e, nF] at hN8; cases hN8
    refine ⟨F, rfl, ⟨_, SqL.of hF9⟩, ?_⟩
    refine for_list (K := K) (a := F) (xs := (tkL ts).map V.str) (fun i σ H' => ∃ (v6 : Option V), σ = [some (.ref a), some (.ref D), some (.ref W), some (.ref N), some (.ref G), some (.ref B), v6, none, none] ∧ H' N = some (.lst ((addW (ws.take z) ((tkL ts).take i)).map V.str)) ∧ But N H9 H') ?_ ?_ ?_ ?_
    · exact ⟨none, rfl, s9 _ _ hN8, But.refl _ _⟩
    · rintro i σ H' _ ⟨_, _, _, b⟩
      exact SqL.of (b _ _ hF9 (Ne.symm hNF))
    · rintro i y σ H10 hi ⟨v6, rfl, hN10, b10⟩
      obtain ⟨x, hxi, rfl⟩ : ∃ k, (tkL ts)[i]? = some k ∧ y = .str k := by
        rw [List.getElem?_map] at hi
        cases e : (tkL ts)[i]? with
        | none => rw [e] at hi; cases hi
        | some k => rw [e] at hi; exact ⟨k, rfl, (Option.some.inj hi).symm⟩
      have htk : (tkL ts).take (i + 1) = (tkL ts).take i ++ [x] := by rw [List.take_add_one, hxi]; rfl
      have hil := (List.getElem?_eq_some_iff.mp hxi).1
      have hal := addW_len (ws.take z) ((tkL ts).take i)
      rw [List.length_take, List.length_take] at hal
      have hadd := addW_snoc (ws.take z) ((tkL ts).take i) x
      rw [← htk] at hadd
      generalize addW (ws.take z) ((tkL ts).take i) = A at hN10 hal hadd
      refine ⟨_, rfl, _, rfl, N, _, rfl, .inl (SqL.of hN10), rfl, flat_strs _, _, rfl, iteB (fun c => ?_) (fun c => ?_)⟩
      · have c' : ¬ among x A = true := by
          have : (!among x A) = true := c
          intro h
          rw [h] at this
          cases this
        rw [if_neg c'] at hadd
        refine ⟨_, rfl, .inl ⟨rfl, _, SqL.of hN10⟩, _, rfl, N, _, _, rfl, rfl, hN10, szl (by rw [List.length_map]; omega), ?_⟩
        exact ⟨_, rfl, by rw [upd_same, hadd, List.map_append]; rfl, b10.trans (But.set _)⟩
      · have c' : among x A = true := by
          have : (!among x A) = false := c
          cases h : among x A with
          | true => rfl
          | false => rw [h] at this; cases this
        rw [if_pos c'] at hadd
        exact ⟨_, rfl, by rw [hadd]; exact hN10, b10⟩
    · rintro σ H10 ⟨v6, rfl, hN10, b10⟩
      rw [List.length_map, List.take_length] at hN10
      have hnm : namesOf (ws.take z) (recsL 0 (-1) (-1) [] ts) = addW (ws.take z) (tkL ts) := plL_names ts (plL_all fun t ht => (hts8 t ht).pl) _ _ _ _
      have hall : ∀ x, x ∈ tkL ts → among x (addW (ws.take z) (tkL ts)) = true := fun x hx => addW_all hx
      generalize addW (ws.take z) (tkL ts) = nm at hN10 hnm hall
      have kp10 : Keep H8 H10 := (Keep.same s9).trans (b10.keep (s9 _ _ hN8))
      have hW10 := b10 _ _ (s9 _ _ hW8) hWN
      refine ⟨(by show 0 ≤ sizeLine; decide), fun M nM => ?_⟩
      have s11 := same_new nM (HO.lst [])
      have C11 : CpO K (upd H10 M (.lst [])) M [] [] := ⟨upd_same, rfl, fun i v r g => by simp at g⟩
      have hNM : N ≠ M := ne_of_none hN10 nM
      have hWM : W ≠ M := ne_of_none hW10 nM
      have kp11 := kp10.trans (Keep.same s11)
      have hN11 := s11 _ _ hN10
      have hW11 := s11 _ _ hW10
      generalize upd H10 M (.lst []) = H11 at s11 C11 kp11 hN11 hW11 ⊢
      refine ⟨_, rfl, _, rfl, _, rfl, z7 + 1, by omega, M, N, B, [], [], nm, 0, ts, rfl, C11, hN11, hNM, kp11.sqt hB8, fun t ht => (hts8' t ht).keep kp11, hall, by simp only [List.length_nil]; omega, fun ms H12 C12 b12 => ?_⟩
      rw [List.nil_append, List.length_nil] at C12
      obtain ⟨ras, rfl, C10⟩ := C12.all
      have hrs := rSs_len nm [] ts 0 0
      have kp12 := kp11.trans (b12.keep C11.l)
      refine ⟨_, rfl, M, _, rfl, .inl ⟨SqL.of C10.l, fun tm ntm => ?_⟩⟩
      refine ⟨_, rfl, (by show 3 ≤ sizeLine; decide), fun e1 ne1 => ⟨_, rfl, (by show 2 ≤ sizeLine; decide), fun e2 ne2 => ⟨(by show 2 ≤ sizeLine; decide), fun ee nee => ?_⟩⟩⟩
      have q1 := same_new ntm (HO.tup (ras.map V.ref))
      have q2 := same_new ne1 (HO.tup [V.int (-1), V.str "push", V.non])
      have q3 := same_new ne2 (HO.tup [V.int (-1), V.str "return"])
      have q4 := same_new nee (HO.tup [V.ref e1, V.ref e2])
      refine catA (xs := ras.map V.ref) (ys := [V.ref e1, V.ref e2]) (q4.sqt (q3.sqt (q2.sqt (SqT.of upd_same)))) (SqT.of upd_same) (by rw [List.length_map, C10.len]; simp only [List.length_cons, List.length_nil]; omega) fun tT H13 s13 h13 => ?_
      have S13 := (((q1.trans q2).trans q3).trans q4).trans s13
      have he1 : SqT K H13 e1 [V.int (-1), V.str "push", V.non] := s13.sqt (q4.sqt (q3.sqt (SqT.of upd_same)))
      have he2 : SqT K H13 e2 [V.int (-1), V.str "return"] := s13.sqt (q4.sqt (SqT.of upd_same))
      have hW13 := S13 _ _ (b12 _ _ hW11 hWM)
      have kp13 := kp12.trans (Keep.same S13)
      have h6w : 6 < ws.length := by omega
      refine ⟨_, rfl, W, _, _, V.str ws[6], rfl, rfl, SqL.of hW13, at_of (j := 6) rfl (by rw [List.getElem?_map, List.getElem?_eq_getElem h6w]; rfl), _, rfl, _, rfl, (by show 4 ≤ sizeLine; decide), fun ta nta => ?_⟩
      have U := same_new nta (HO.tup [V.str "method", V.str ws[6], V.ref G, V.ref B])
      have kpU := kp13.trans (Keep.same U)
      have hM : MethAt K (upd H13 ta (.tup [V.str "method", V.str ws[6], V.ref G, V.ref B])) ta ws[6] G B (ws.take z) ts := ⟨SqT.of upd_same, kpU.sqt hG8, kpU.sqt hB8, fun t ht => ((hts8 t ht).keep kpU).nd, by omega, by rw [List.length_take]; omega⟩
      refine ⟨_, rfl, ta, G, B, ws[6], ws.take z, ts, rfl, hM, ?_, ?_, by omega, fun tR H14 hR s14 => ?_⟩
      · rw [hnm]
        exact ssOk_all fun t ht => (hts8 t ht).sok fun x hx => hall x (tkL_mem ht hx)
      · exact hgtL_sub fun t ht => Nat.le_trans (hts8 t ht).hgt (by omega)
      rw [hnm] at hR
      have V14 := U.trans s14
      refine ⟨_, rfl, same_rows (E := E0) hR (ras := ras) (V14.sqt (by rw [List.map_append]; exact h13)) C10.len (fun i a r g1 g2 => V14.sqt (S13.sqt (C10.at_ i a r g1 g2))) (V14.sqt he1) (V14.sqt he2) (rSs_flat ts 0 0 fun t ht s n r => (hts8 t ht).flat s n r) (by omega) fun H' _ => q _⟩
end
end My

set_option Elab.async false
set_option linter.all false
set_option maxRecDepth 100000
set_option maxHeartbeats 8000000
namespace My
open PySem L2

noncomputable def metD_mk {K : PySem.W.Frag} {C : Addr} {x q : Str} {st : Stmt} {ps : List Str} {f dT dE : Addr} {od an oT oE : Option Addr} {sl sT sE : Array (Option Value)} {oc kV dc pm cd ct : Value} {nT nE : Nat}
    (l : K.lookup f = some ⟨oc, od, .func (PySem.W.fnOf x q (defArgs st) (defBody st) (defScope st) (.ref dT) kV dc pm an cd ct), sl⟩)
    (lt : K.lookup dT = some ⟨.type "tuple", oT, .seq #[.ref dE] nT, sT⟩) (le : K.lookup dE = some ⟨.type "tuple", oE, .seq #[] nE, sE⟩)
    (c : PySem.W.codeIn K cd q = true) (k : PySem.W.keepIn K (.ref f) = true) (me : Meth K C x f)
    (h1 : ∀ (T : Addr) (kV doc pm : Value) (an : Option Addr) (cdv ct : Value) (us its : List Value), us.length = ps.length → its.length = 1 →
      ∃ k, bindArgs (PySem.W.fnOf x q (defArgs st) (defBody st) (defScope st) (.ref T) kV doc pm an cdv ct) ⟨us, []⟩ = seqItems? (.ref T) >>= k ∧ k (some its.toArray) = pure (ps.zip us))
    (h2 : ∀ (T : Addr) (kV doc pm : Value) (an : Option Addr) (cdv ct : Value) (us its : List Value), us.length = ps.length - 1 → its.length = 1 →
      ∃ k, bindArgs (PySem.W.fnOf x q (defArgs st) (defBody st) (defScope st) (.ref T) kV doc pm an cdv ct) ⟨us, []⟩ = seqItems? (.ref T) >>= k ∧ k (some its.toArray) = pure (ps.zip (us ++ its))) : MetD K C x q st ps where
  f := f
  fd := _
  E := dE
  e0 := fun H => .inr ⟨_, _, _, le, rfl, rfl, by show 0 ≤ sizeLine; decide, .nil⟩
  fn := ⟨⟨_, _, _, _, _, _, _, _, _, _, rfl, l, c, .inr ⟨by simp, dT, _, [.ref dE], nT, rfl, lt, rfl, .cons rfl .nil⟩, .inl rfl⟩, k⟩
  me := me
  b := fun s us X hlen => by
    rw [List.append_nil] at hlen ⊢
    obtain ⟨k, e1, e2⟩ := h1 dT kV dc pm an cd ct us [.ref dE] hlen rfl
    refine BindsTo.of_looks fun M => ?_
    rw [e1]
    exact looks_items X lt rfl (.of_pure e2)
  bd := fun s us X hlen => by
    have l2 : us.length = ps.length - 1 := by rw [List.length_append] at hlen; simp only [List.length_cons, List.length_nil] at hlen; omega
    obtain ⟨k, e1, e2⟩ := h2 dT kV dc pm an cd ct us [.ref dE] l2 rfl
    refine BindsTo.of_looks fun M => ?_
    rw [e1]
    exact looks_items X lt rfl (.of_pure e2)
theorem all_mk {l : PySem.W.OpenLaw} {w : World} {K : PySem.W.Frag} {h : Heap} {mg : Str → Option Value} {fa : Addr} (X : K.In h) (G : h.Ns mainGlobals mg) (hfa : mg "law" = some (.ref fa))
    {t_PARAMETERS : Tok}
    {t_BODY : Tok}
    {u_PLAIN : Addr} {uo_PLAIN : Option Addr} {us_PLAIN : Array (Option Value)} {un_PLAIN : Nat} {ut_PLAIN_0 ut_PLAIN_1 ut_PLAIN_2 : Tok}
    {u_ONE : Addr} {uo_ONE : Option Addr} {us_ONE : Array (Option Value)} {un_ONE : Nat} {ut_ONE_0 ut_ONE_1 ut_ONE_2 ut_ONE_3 : Tok}
    {C_Shape : Addr}
    {C_Compiler : Addr}
    {f1 : Addr} {od1 an1 : Option Addr} {sl1 : Array (Option Value)} {oc1 kV1 dc1 pm1 cd1 ct1 : Value}
    {f2 : Addr} {od2 an2 : Option Addr} {sl2 : Array (Option Value)} {oc2 kV2 dc2 pm2 cd2 ct2 : Value}
    {f3 : Addr} {od3 an3 : Option Addr} {sl3 : Array (Option Value)} {oc3 kV3 dc3 pm3 cd3 ct3 : Value}
    {f4 : Addr} {od4 an4 : Option Addr} {sl4 : Array (Option Value)} {oc4 kV4 dc4 pm4 cd4 ct4 : Value}
    {f5 : Addr} {od5 an5 : Option Addr} {sl5 : Array (Option Value)} {oc5 kV5 dc5 pm5 cd5 ct5 : Value}
    {f6 : Addr} {od6 an6 : Option Addr} {sl6 : Array (Option Value)} {oc6 kV6 dc6 pm6 cd6 ct6 : Value}
    {f7 : Addr} {od7 an7 : Option Addr} {sl7 : Array (Option Value)} {oc7 kV7 dc7 pm7 cd7 ct7 : Value}
    {f8 : Addr} {od8 an8 : Option Addr} {sl8 : Array (Option Value)} {oc8 kV8 dc8 pm8 cd8 ct8 : Value}
    {f9 : Addr} {od9 an9 : Option Addr} {sl9 : Array (Option Value)} {oc9 kV9 dc9 pm9 cd9 ct9 : Value}
    {f10 dT10 dE10 : Addr} {od10 an10 oT10 oE10 : Option Addr} {sl10 sT10 sE10 : Array (Option Value)} {oc10 kV10 dc10 pm10 cd10 ct10 : Value} {nT10 nE10 : Nat}
    {f11 : Addr} {od11 an11 : Option Addr} {sl11 : Array (Option Value)} {oc11 kV11 dc11 pm11 cd11 ct11 : Value}
    {f12 : Addr} {od12 an12 : Option Addr} {sl12 : Array (Option Value)} {oc12 kV12 dc12 pm12 cd12 ct12 : Value}
    {f13 : Addr} {od13 an13 : Option Addr} {sl13 : Array (Option Value)} {oc13 kV13 dc13 pm13 cd13 ct13 : Value}
    {f14 : Addr} {od14 an14 : Option Addr} {sl14 : Array (Option Value)} {oc14 kV14 dc14 pm14 cd14 ct14 : Value}
    {f15 : Addr} {od15 an15 : Option Addr} {sl15 : Array (Option Value)} {oc15 kV15 dc15 pm15 cd15 ct15 : Value}
    {f16 : Addr} {od16 an16 : Option Addr} {sl16 : Array (Option Value)} {oc16 kV16 dc16 pm16 cd16 ct16 : Value}
    {f17 : Addr} {od17 an17 : Option Addr} {sl17 : Array (Option Value)} {oc17 kV17 dc17 pm17 cd17 ct17 : Value}
    {f18 : Addr} {od18 an18 : Option Addr} {sl18 : Array (Option Value)} {oc18 kV18 dc18 pm18 cd18 ct18 : Value}
    {f19 : Addr} {od19 an19 : Option Addr} {sl19 : Array (Option Value)} {oc19 kV19 dc19 pm19 cd19 ct19 : Value}
    {f20 : Addr} {od20 an20 : Option Addr} {sl20 : Array (Option Value)} {oc20 kV20 dc20 pm20 cd20 ct20 : Value}
    {f21 : Addr} {od21 an21 : Option Addr} {sl21 : Array (Option Value)} {oc21 kV21 dc21 pm21 cd21 ct21 : Value}
    {f22 : Addr} {od22 an22 : Option Addr} {sl22 : Array (Option Value)} {oc22 kV22 dc22 pm22 cd22 ct22 : Value}
    {f23 : Addr} {od23 an23 : Option Addr} {sl23 : Array (Option Value)} {oc23 kV23 dc23 pm23 cd23 ct23 : Value}
    {f24 : Addr} {od24 an24 : Option Addr} {sl24 : Array (Option Value)} {oc24 kV24 dc24 pm24 cd24 ct24 : Value}
    {f25 : Addr} {od25 an25 : Option Addr} {sl25 : Array (Option Value)} {oc25 kV25 dc25 pm25 cd25 ct25 : Value}
    {f26 : Addr} {od26 an26 : Option Addr} {sl26 : Array (Option Value)} {oc26 kV26 dc26 pm26 cd26 ct26 : Value}
    {f27 : Addr} {od27 an27 : Option Addr} {sl27 : Array (Option Value)} {oc27 kV27 dc27 pm27 cd27 ct27 : Value}
    {f28 : Addr} {od28 an28 : Option Addr} {sl28 : Array (Option Value)} {oc28 kV28 dc28 pm28 cd28 ct28 : Value}
    {f29 : Addr} {od29 an29 : Option Addr} {sl29 : Array (Option Value)} {oc29 kV29 dc29 pm29 cd29 ct29 : Value}
    {f30 : Addr} {od30 an30 : Option Addr} {sl30 : Array (Option Value)} {oc30 kV30 dc30 pm30 cd30 ct30 : Value}
    {f31 : Addr} {od31 an31 : Option Addr} {sl31 : Array (Option Value)} {oc31 kV31 dc31 pm31 cd31 ct31 : Value}
    (z_len : PySem.W.nsIn K mainGlobals "len" = some none)
    (z_range : PySem.W.nsIn K mainGlobals "range" = some none)
    (z_tuple : PySem.W.nsIn K mainGlobals "tuple" = some none)
    (z_list : PySem.W.nsIn K mainGlobals "list" = some none)
    (z_isinstance : PySem.W.nsIn K mainGlobals "isinstance" = some none)
    (z_abs : PySem.W.nsIn K mainGlobals "abs" = some none)
    (z_bool : PySem.W.nsIn K mainGlobals "bool" = some none)
    (z_enumerate : PySem.W.nsIn K mainGlobals "enumerate" = some none)
    (c_PARAMETERS : PySem.W.nsIn K mainGlobals "PARAMETERS" = some (some (.int 2 t_PARAMETERS)))
    (c_BODY : PySem.W.nsIn K mainGlobals "BODY" = some (some (.int 3 t_BODY)))
    (ua_PLAIN : PySem.W.nsIn K mainGlobals "PLAIN" = some (some (.ref u_PLAIN)))
    (ul_PLAIN : K.lookup u_PLAIN = some ⟨.type "tuple", uo_PLAIN, .seq #[.str "number" ut_PLAIN_0, .str "text" ut_PLAIN_1, .str "truth" ut_PLAIN_2] un_PLAIN, us_PLAIN⟩)
    (ua_ONE : PySem.W.nsIn K mainGlobals "ONE" = some (some (.ref u_ONE)))
    (ul_ONE : K.lookup u_ONE = some ⟨.type "tuple", uo_ONE, .seq #[.str "do" ut_ONE_0, .str "say" ut_ONE_1, .str "return" ut_ONE_2, .str "raise" ut_ONE_3] un_ONE, us_ONE⟩)
    (a_Shape : PySem.W.nsIn K mainGlobals "Shape" = some (some (.ref C_Shape)))
    (pg_Shape : PySem.W.plainGet K C_Shape Str.empty = true)
    (hd_Shape : PySem.W.hasDictIn K C_Shape = true)
    (po_Shape : PySem.W.plainOver K C_Shape = true)
    (sa_Shape : PySem.W.findIn K (.ref C_Shape) "__setattr__" = some (some (.builtin "object.__setattr__")))
    (mk_Shape : PySem.W.makesIn K C_Shape = true)
    (kc_Shape : PySem.W.keepIn K (.ref C_Shape) = true)
    (n_Shape_tree : PySem.W.findIn K (.ref C_Shape) "tree" = some none)
    (n_Shape_nodes : PySem.W.findIn K (.ref C_Shape) "nodes" = some none)
    (n_Shape_above : PySem.W.findIn K (.ref C_Shape) "above" = some none)
    (n_Shape_children : PySem.W.findIn K (.ref C_Shape) "children" = some none)
    (n_Shape_code : PySem.W.findIn K (.ref C_Shape) "code" = some none)
    (n_Shape_codes : PySem.W.findIn K (.ref C_Shape) "codes" = some none)
    (n_Shape_names : PySem.W.findIn K (.ref C_Shape) "names" = some none)
    (a_Compiler : PySem.W.nsIn K mainGlobals "Compiler" = some (some (.ref C_Compiler)))
    (pg_Compiler : PySem.W.plainGet K C_Compiler Str.empty = true)
    (hd_Compiler : PySem.W.hasDictIn K C_Compiler = true)
    (po_Compiler : PySem.W.plainOver K C_Compiler = true)
    (sa_Compiler : PySem.W.findIn K (.ref C_Compiler) "__setattr__" = some (some (.builtin "object.__setattr__")))
    (mk_Compiler : PySem.W.makesIn K C_Compiler = true)
    (kc_Compiler : PySem.W.keepIn K (.ref C_Compiler) = true)
    (n_Compiler_form : PySem.W.findIn K (.ref C_Compiler) "form" = some none)
    (n_Compiler_code : PySem.W.findIn K (.ref C_Compiler) "code" = some none)
    (n_Compiler_made : PySem.W.findIn K (.ref C_Compiler) "made" = some none)
    (a1 : PySem.W.nsIn K mainGlobals "parts_of" = some (some (.ref f1)))
    (l1 : K.lookup f1 = some ⟨oc1, od1, .func (PySem.W.fnOf "parts_of" "parts_of" (defArgs s_parts_of) (defBody s_parts_of) (defScope s_parts_of) .none kV1 dc1 pm1 an1 cd1 ct1), sl1⟩)
    (c1 : PySem.W.codeIn K cd1 "parts_of" = true)
    (k1 : PySem.W.keepIn K (.ref f1) = true)
    (a2 : PySem.W.findIn K (.ref C_Shape) "__init__" = some (some (.ref f2)))
    (i2 : PySem.W.isFn K (.ref f2) = true)
    (l2 : K.lookup f2 = some ⟨oc2, od2, .func (PySem.W.fnOf "__init__" "Shape.__init__" (defArgs s_Shape_init__) (defBody s_Shape_init__) (defScope s_Shape_init__) .none kV2 dc2 pm2 an2 cd2 ct2), sl2⟩)
    (c2 : PySem.W.codeIn K cd2 "Shape.__init__" = true)
    (k2 : PySem.W.keepIn K (.ref f2) = true)
    (a3 : PySem.W.findIn K (.ref C_Shape) "add" = some (some (.ref f3)))
    (i3 : PySem.W.isFn K (.ref f3) = true)
    (l3 : K.lookup f3 = some ⟨oc3, od3, .func (PySem.W.fnOf "add" "Shape.add" (defArgs s_Shape_add) (defBody s_Shape_add) (defScope s_Shape_add) .none kV3 dc3 pm3 an3 cd3 ct3), sl3⟩)
    (c3 : PySem.W.codeIn K cd3 "Shape.add" = true)
    (k3 : PySem.W.keepIn K (.ref f3) = true)
    (a4 : PySem.W.findIn K (.ref C_Shape) "is_parameter" = some (some (.ref f4)))
    (i4 : PySem.W.isFn K (.ref f4) = true)
    (l4 : K.lookup f4 = some ⟨oc4, od4, .func (PySem.W.fnOf "is_parameter" "Shape.is_parameter" (defArgs s_Shape_is_parameter) (defBody s_Shape_is_parameter) (defScope s_Shape_is_parameter) .none kV4 dc4 pm4 an4 cd4 ct4), sl4⟩)
    (c4 : PySem.W.codeIn K cd4 "Shape.is_parameter" = true)
    (k4 : PySem.W.keepIn K (.ref f4) = true)
    (a5 : PySem.W.findIn K (.ref C_Shape) "all_names" = some (some (.ref f5)))
    (i5 : PySem.W.isFn K (.ref f5) = true)
    (l5 : K.lookup f5 = some ⟨oc5, od5, .func (PySem.W.fnOf "all_names" "Shape.all_names" (defArgs s_Shape_all_names) (defBody s_Shape_all_names) (defScope s_Shape_all_names) .none kV5 dc5 pm5 an5 cd5 ct5), sl5⟩)
    (c5 : PySem.W.codeIn K cd5 "Shape.all_names" = true)
    (k5 : PySem.W.keepIn K (.ref f5) = true)
    (a6 : PySem.W.findIn K (.ref C_Shape) "parameters" = some (some (.ref f6)))
    (i6 : PySem.W.isFn K (.ref f6) = true)
    (l6 : K.lookup f6 = some ⟨oc6, od6, .func (PySem.W.fnOf "parameters" "Shape.parameters" (defArgs s_Shape_parameters) (defBody s_Shape_parameters) (defScope s_Shape_parameters) .none kV6 dc6 pm6 an6 cd6 ct6), sl6⟩)
    (c6 : PySem.W.codeIn K cd6 "Shape.parameters" = true)
    (k6 : PySem.W.keepIn K (.ref f6) = true)
    (a7 : PySem.W.findIn K (.ref C_Shape) "firsts" = some (some (.ref f7)))
    (i7 : PySem.W.isFn K (.ref f7) = true)
    (l7 : K.lookup f7 = some ⟨oc7, od7, .func (PySem.W.fnOf "firsts" "Shape.firsts" (defArgs s_Shape_firsts) (defBody s_Shape_firsts) (defScope s_Shape_firsts) .none kV7 dc7 pm7 an7 cd7 ct7), sl7⟩)
    (c7 : PySem.W.codeIn K cd7 "Shape.firsts" = true)
    (k7 : PySem.W.keepIn K (.ref f7) = true)
    (a8 : PySem.W.findIn K (.ref C_Shape) "found" = some (some (.ref f8)))
    (i8 : PySem.W.isFn K (.ref f8) = true)
    (l8 : K.lookup f8 = some ⟨oc8, od8, .func (PySem.W.fnOf "found" "Shape.found" (defArgs s_Shape_found) (defBody s_Shape_found) (defScope s_Shape_found) .none kV8 dc8 pm8 an8 cd8 ct8), sl8⟩)
    (c8 : PySem.W.codeIn K cd8 "Shape.found" = true)
    (k8 : PySem.W.keepIn K (.ref f8) = true)
    (a9 : PySem.W.findIn K (.ref C_Compiler) "__init__" = some (some (.ref f9)))
    (i9 : PySem.W.isFn K (.ref f9) = true)
    (l9 : K.lookup f9 = some ⟨oc9, od9, .func (PySem.W.fnOf "__init__" "Compiler.__init__" (defArgs s_Compiler_init__) (defBody s_Compiler_init__) (defScope s_Compiler_init__) .none kV9 dc9 pm9 an9 cd9 ct9), sl9⟩)
    (c9 : PySem.W.codeIn K cd9 "Compiler.__init__" = true)
    (k9 : PySem.W.keepIn K (.ref f9) = true)
    (a10 : PySem.W.findIn K (.ref C_Compiler) "come" = some (some (.ref f10)))
    (i10 : PySem.W.isFn K (.ref f10) = true)
    (l10 : K.lookup f10 = some ⟨oc10, od10, .func (PySem.W.fnOf "come" "Compiler.come" (defArgs s_Compiler_come) (defBody s_Compiler_come) (defScope s_Compiler_come) (.ref dT10) kV10 dc10 pm10 an10 cd10 ct10), sl10⟩)
    (lt10 : K.lookup dT10 = some ⟨.type "tuple", oT10, .seq #[.ref dE10] nT10, sT10⟩)
    (le10 : K.lookup dE10 = some ⟨.type "tuple", oE10, .seq #[] nE10, sE10⟩)
    (c10 : PySem.W.codeIn K cd10 "Compiler.come" = true)
    (k10 : PySem.W.keepIn K (.ref f10) = true)
    (a11 : PySem.W.findIn K (.ref C_Compiler) "mend" = some (some (.ref f11)))
    (i11 : PySem.W.isFn K (.ref f11) = true)
    (l11 : K.lookup f11 = some ⟨oc11, od11, .func (PySem.W.fnOf "mend" "Compiler.mend" (defArgs s_Compiler_mend) (defBody s_Compiler_mend) (defScope s_Compiler_mend) .none kV11 dc11 pm11 an11 cd11 ct11), sl11⟩)
    (c11 : PySem.W.codeIn K cd11 "Compiler.mend" = true)
    (k11 : PySem.W.keepIn K (.ref f11) = true)
    (a12 : PySem.W.findIn K (.ref C_Compiler) "worked" = some (some (.ref f12)))
    (i12 : PySem.W.isFn K (.ref f12) = true)
    (l12 : K.lookup f12 = some ⟨oc12, od12, .func (PySem.W.fnOf "worked" "Compiler.worked" (defArgs s_Compiler_worked) (defBody s_Compiler_worked) (defScope s_Compiler_worked) .none kV12 dc12 pm12 an12 cd12 ct12), sl12⟩)
    (c12 : PySem.W.codeIn K cd12 "Compiler.worked" = true)
    (k12 : PySem.W.keepIn K (.ref f12) = true)
    (a13 : PySem.W.findIn K (.ref C_Compiler) "used" = some (some (.ref f13)))
    (i13 : PySem.W.isFn K (.ref f13) = true)
    (l13 : K.lookup f13 = some ⟨oc13, od13, .func (PySem.W.fnOf "used" "Compiler.used" (defArgs s_Compiler_used) (defBody s_Compiler_used) (defScope s_Compiler_used) .none kV13 dc13 pm13 an13 cd13 ct13), sl13⟩)
    (c13 : PySem.W.codeIn K cd13 "Compiler.used" = true)
    (k13 : PySem.W.keepIn K (.ref f13) = true)
    (a14 : PySem.W.findIn K (.ref C_Compiler) "all_done" = some (some (.ref f14)))
    (i14 : PySem.W.isFn K (.ref f14) = true)
    (l14 : K.lookup f14 = some ⟨oc14, od14, .func (PySem.W.fnOf "all_done" "Compiler.all_done" (defArgs s_Compiler_all_done) (defBody s_Compiler_all_done) (defScope s_Compiler_all_done) .none kV14 dc14 pm14 an14 cd14 ct14), sl14⟩)
    (c14 : PySem.W.codeIn K cd14 "Compiler.all_done" = true)
    (k14 : PySem.W.keepIn K (.ref f14) = true)
    (a15 : PySem.W.findIn K (.ref C_Compiler) "done" = some (some (.ref f15)))
    (i15 : PySem.W.isFn K (.ref f15) = true)
    (l15 : K.lookup f15 = some ⟨oc15, od15, .func (PySem.W.fnOf "done" "Compiler.done" (defArgs s_Compiler_done) (defBody s_Compiler_done) (defScope s_Compiler_done) .none kV15 dc15 pm15 an15 cd15 ct15), sl15⟩)
    (c15 : PySem.W.codeIn K cd15 "Compiler.done" = true)
    (k15 : PySem.W.keepIn K (.ref f15) = true)
    (a16 : PySem.W.findIn K (.ref C_Compiler) "chosen" = some (some (.ref f16)))
    (i16 : PySem.W.isFn K (.ref f16) = true)
    (l16 : K.lookup f16 = some ⟨oc16, od16, .func (PySem.W.fnOf "chosen" "Compiler.chosen" (defArgs s_Compiler_chosen) (defBody s_Compiler_chosen) (defScope s_Compiler_chosen) .none kV16 dc16 pm16 an16 cd16 ct16), sl16⟩)
    (c16 : PySem.W.codeIn K cd16 "Compiler.chosen" = true)
    (k16 : PySem.W.keepIn K (.ref f16) = true)
    (a17 : PySem.W.findIn K (.ref C_Compiler) "tried" = some (some (.ref f17)))
    (i17 : PySem.W.isFn K (.ref f17) = true)
    (l17 : K.lookup f17 = some ⟨oc17, od17, .func (PySem.W.fnOf "tried" "Compiler.tried" (defArgs s_Compiler_tried) (defBody s_Compiler_tried) (defScope s_Compiler_tried) .none kV17 dc17 pm17 an17 cd17 ct17), sl17⟩)
    (c17 : PySem.W.codeIn K cd17 "Compiler.tried" = true)
    (k17 : PySem.W.keepIn K (.ref f17) = true)
    (a18 : PySem.W.findIn K (.ref C_Compiler) "whole" = some (some (.ref f18)))
    (i18 : PySem.W.isFn K (.ref f18) = true)
    (l18 : K.lookup f18 = some ⟨oc18, od18, .func (PySem.W.fnOf "whole" "Compiler.whole" (defArgs s_Compiler_whole) (defBody s_Compiler_whole) (defScope s_Compiler_whole) .none kV18 dc18 pm18 an18 cd18 ct18), sl18⟩)
    (c18 : PySem.W.codeIn K cd18 "Compiler.whole" = true)
    (k18 : PySem.W.keepIn K (.ref f18) = true)
    (a19 : PySem.W.nsIn K mainGlobals "compiled" = some (some (.ref f19)))
    (l19 : K.lookup f19 = some ⟨oc19, od19, .func (PySem.W.fnOf "compiled" "compiled" (defArgs s_compiled) (defBody s_compiled) (defScope s_compiled) .none kV19 dc19 pm19 an19 cd19 ct19), sl19⟩)
    (c19 : PySem.W.codeIn K cd19 "compiled" = true)
    (k19 : PySem.W.keepIn K (.ref f19) = true)
    (a20 : PySem.W.nsIn K mainGlobals "rows_of" = some (some (.ref f20)))
    (l20 : K.lookup f20 = some ⟨oc20, od20, .func (PySem.W.fnOf "rows_of" "rows_of" (defArgs s_rows_of) (defBody s_rows_of) (defScope s_rows_of) .none kV20 dc20 pm20 an20 cd20 ct20), sl20⟩)
    (c20 : PySem.W.codeIn K cd20 "rows_of" = true)
    (k20 : PySem.W.keepIn K (.ref f20) = true)
    (a21 : PySem.W.nsIn K mainGlobals "_law_deck" = some (some (.ref f21)))
    (l21 : K.lookup f21 = some ⟨oc21, od21, .func (PySem.W.fnOf "_law_deck" "_law_deck" (defArgs s_law_deck) (defBody s_law_deck) (defScope s_law_deck) .none kV21 dc21 pm21 an21 cd21 ct21), sl21⟩)
    (c21 : PySem.W.codeIn K cd21 "_law_deck" = true)
    (k21 : PySem.W.keepIn K (.ref f21) = true)
    (a22 : PySem.W.nsIn K mainGlobals "_law_draw" = some (some (.ref f22)))
    (l22 : K.lookup f22 = some ⟨oc22, od22, .func (PySem.W.fnOf "_law_draw" "_law_draw" (defArgs s_law_draw) (defBody s_law_draw) (defScope s_law_draw) .none kV22 dc22 pm22 an22 cd22 ct22), sl22⟩)
    (c22 : PySem.W.codeIn K cd22 "_law_draw" = true)
    (k22 : PySem.W.keepIn K (.ref f22) = true)
    (a23 : PySem.W.nsIn K mainGlobals "_law_word" = some (some (.ref f23)))
    (l23 : K.lookup f23 = some ⟨oc23, od23, .func (PySem.W.fnOf "_law_word" "_law_word" (defArgs s_law_word) (defBody s_law_word) (defScope s_law_word) .none kV23 dc23 pm23 an23 cd23 ct23), sl23⟩)
    (c23 : PySem.W.codeIn K cd23 "_law_word" = true)
    (k23 : PySem.W.keepIn K (.ref f23) = true)
    (a24 : PySem.W.nsIn K mainGlobals "_law_words" = some (some (.ref f24)))
    (l24 : K.lookup f24 = some ⟨oc24, od24, .func (PySem.W.fnOf "_law_words" "_law_words" (defArgs s_law_words) (defBody s_law_words) (defScope s_law_words) .none kV24 dc24 pm24 an24 cd24 ct24), sl24⟩)
    (c24 : PySem.W.codeIn K cd24 "_law_words" = true)
    (k24 : PySem.W.keepIn K (.ref f24) = true)
    (a25 : PySem.W.nsIn K mainGlobals "_law_statements" = some (some (.ref f25)))
    (l25 : K.lookup f25 = some ⟨oc25, od25, .func (PySem.W.fnOf "_law_statements" "_law_statements" (defArgs s_law_statements) (defBody s_law_statements) (defScope s_law_statements) .none kV25 dc25 pm25 an25 cd25 ct25), sl25⟩)
    (c25 : PySem.W.codeIn K cd25 "_law_statements" = true)
    (k25 : PySem.W.keepIn K (.ref f25) = true)
    (a26 : PySem.W.nsIn K mainGlobals "_law_statement" = some (some (.ref f26)))
    (l26 : K.lookup f26 = some ⟨oc26, od26, .func (PySem.W.fnOf "_law_statement" "_law_statement" (defArgs s_law_statement) (defBody s_law_statement) (defScope s_law_statement) .none kV26 dc26 pm26 an26 cd26 ct26), sl26⟩)
    (c26 : PySem.W.codeIn K cd26 "_law_statement" = true)
    (k26 : PySem.W.keepIn K (.ref f26) = true)
    (a27 : PySem.W.nsIn K mainGlobals "_law_taken" = some (some (.ref f27)))
    (l27 : K.lookup f27 = some ⟨oc27, od27, .func (PySem.W.fnOf "_law_taken" "_law_taken" (defArgs s_law_taken) (defBody s_law_taken) (defScope s_law_taken) .none kV27 dc27 pm27 an27 cd27 ct27), sl27⟩)
    (c27 : PySem.W.codeIn K cd27 "_law_taken" = true)
    (k27 : PySem.W.keepIn K (.ref f27) = true)
    (a28 : PySem.W.nsIn K mainGlobals "_law_all" = some (some (.ref f28)))
    (l28 : K.lookup f28 = some ⟨oc28, od28, .func (PySem.W.fnOf "_law_all" "_law_all" (defArgs s_law_all) (defBody s_law_all) (defScope s_law_all) .none kV28 dc28 pm28 an28 cd28 ct28), sl28⟩)
    (c28 : PySem.W.codeIn K cd28 "_law_all" = true)
    (k28 : PySem.W.keepIn K (.ref f28) = true)
    (a29 : PySem.W.nsIn K mainGlobals "_law_put" = some (some (.ref f29)))
    (l29 : K.lookup f29 = some ⟨oc29, od29, .func (PySem.W.fnOf "_law_put" "_law_put" (defArgs s_law_put) (defBody s_law_put) (defScope s_law_put) .none kV29 dc29 pm29 an29 cd29 ct29), sl29⟩)
    (c29 : PySem.W.codeIn K cd29 "_law_put" = true)
    (k29 : PySem.W.keepIn K (.ref f29) = true)
    (a30 : PySem.W.nsIn K mainGlobals "_law_same" = some (some (.ref f30)))
    (l30 : K.lookup f30 = some ⟨oc30, od30, .func (PySem.W.fnOf "_law_same" "_law_same" (defArgs s_law_same) (defBody s_law_same) (defScope s_law_same) .none kV30 dc30 pm30 an30 cd30 ct30), sl30⟩)
    (c30 : PySem.W.codeIn K cd30 "_law_same" = true)
    (k30 : PySem.W.keepIn K (.ref f30) = true)
    (a31 : PySem.W.nsIn K mainGlobals "law" = some (some (.ref f31)))
    (l31 : K.lookup f31 = some ⟨oc31, od31, .func (PySem.W.fnOf "law" "law" (defArgs s_law) (defBody s_law) (defScope s_law) .none kV31 dc31 pm31 an31 cd31 ct31), sl31⟩)
    (c31 : PySem.W.codeIn K cd31 "law" = true)
    (k31 : PySem.W.keepIn K (.ref f31) = true) :
    ∃ fd : FuncData, (∀ (s : Shared) (v : Value), BindsTo s fd ⟨[v], []⟩ [("_law_script", v)]) ∧ ∀ base : Heap, K.In base → base.Ns mainGlobals mg → FnOk l.prog w K mg base CX0 206 fa fd ["_law_script"] (spLaw K) := by
  have e := hfa.symm.trans (PySem.W.mg_of X G a31)
  cases e
  have T : ∃ T : Tx K mg, T.d_law.f = fa ∧ T.d_law.fd = PySem.W.fnOf "law" "law" (defArgs s_law) (defBody s_law) (defScope s_law) .none kV31 dc31 pm31 an31 cd31 ct31 := ⟨{
      z_len := PySem.W.mg_none_of X G z_len,
      z_range := PySem.W.mg_none_of X G z_range,
      z_tuple := PySem.W.mg_none_of X G z_tuple,
      z_list := PySem.W.mg_none_of X G z_list,
      z_isinstance := PySem.W.mg_none_of X G z_isinstance,
      z_abs := PySem.W.mg_none_of X G z_abs,
      z_bool := PySem.W.mg_none_of X G z_bool,
      z_enumerate := PySem.W.mg_none_of X G z_enumerate,
      t_PARAMETERS := t_PARAMETERS,
      c_PARAMETERS := PySem.W.mg_of X G c_PARAMETERS,
      t_BODY := t_BODY,
      c_BODY := PySem.W.mg_of X G c_BODY,
      k_PLAIN := ⟨_, PySem.W.mg_of X G ua_PLAIN, fun H => .inr ⟨_, _, _, ul_PLAIN, rfl, rfl, by show 3 ≤ sizeLine; decide, (.cons ⟨_, rfl⟩ (.cons ⟨_, rfl⟩ (.cons ⟨_, rfl⟩ .nil)))⟩⟩,
      k_ONE := ⟨_, PySem.W.mg_of X G ua_ONE, fun H => .inr ⟨_, _, _, ul_ONE, rfl, rfl, by show 4 ≤ sizeLine; decide, (.cons ⟨_, rfl⟩ (.cons ⟨_, rfl⟩ (.cons ⟨_, rfl⟩ (.cons ⟨_, rfl⟩ .nil))))⟩⟩,
      Shape := ⟨C_Shape, ⟨pg_Shape, hd_Shape, po_Shape, sa_Shape⟩, PySem.W.mg_of X G a_Shape, n_Shape_tree, n_Shape_nodes, n_Shape_above, n_Shape_children, n_Shape_code, n_Shape_codes, n_Shape_names⟩,
      Compiler := ⟨C_Compiler, ⟨pg_Compiler, hd_Compiler, po_Compiler, sa_Compiler⟩, PySem.W.mg_of X G a_Compiler, n_Compiler_form, n_Compiler_code, n_Compiler_made⟩,
      d_parts_of := ⟨f1, _, fun_mk (st := s_parts_of) l1 c1 k1, PySem.W.mg_of X G a1, (fun_mk (st := s_parts_of) l1 c1 k1).binds (ps := ["node"]) fun _ _ _ _ _ _ us hl => match us, hl with | [_], _ => rfl⟩,
      d_Shape_init__ := ⟨f2, _, fun_mk (st := s_Shape_init__) l2 c2 k2, ⟨mk_Shape, a2, i2, kc_Shape⟩, (fun_mk (st := s_Shape_init__) l2 c2 k2).binds (ps := ["self", "method"]) fun _ _ _ _ _ _ us hl => match us, hl with | [_, _], _ => rfl⟩,
      d_Shape_add := ⟨f3, _, fun_mk (st := s_Shape_add) l3 c3 k3, ⟨a3, i3, k3⟩, (fun_mk (st := s_Shape_add) l3 c3 k3).binds (ps := ["self", "node", "above", "code"]) fun _ _ _ _ _ _ us hl => match us, hl with | [_, _, _, _], _ => rfl⟩,
      d_Shape_is_parameter := ⟨f4, _, fun_mk (st := s_Shape_is_parameter) l4 c4 k4, ⟨a4, i4, k4⟩, (fun_mk (st := s_Shape_is_parameter) l4 c4 k4).binds (ps := ["self", "word", "code"]) fun _ _ _ _ _ _ us hl => match us, hl with | [_, _, _], _ => rfl⟩,
      d_Shape_all_names := ⟨f5, _, fun_mk (st := s_Shape_all_names) l5 c5 k5, ⟨a5, i5, k5⟩, (fun_mk (st := s_Shape_all_names) l5 c5 k5).binds (ps := ["self"]) fun _ _ _ _ _ _ us hl => match us, hl with | [_], _ => rfl⟩,
      d_Shape_parameters := ⟨f6, _, fun_mk (st := s_Shape_parameters) l6 c6 k6, ⟨a6, i6, k6⟩, (fun_mk (st := s_Shape_parameters) l6 c6 k6).binds (ps := ["self", "code"]) fun _ _ _ _ _ _ us hl => match us, hl with | [_, _], _ => rfl⟩,
      d_Shape_firsts := ⟨f7, _, fun_mk (st := s_Shape_firsts) l7 c7 k7, ⟨a7, i7, k7⟩, (fun_mk (st := s_Shape_firsts) l7 c7 k7).binds (ps := ["self", "code"]) fun _ _ _ _ _ _ us hl => match us, hl with | [_, _], _ => rfl⟩,
      d_Shape_found := ⟨f8, _, fun_mk (st := s_Shape_found) l8 c8 k8, ⟨a8, i8, k8⟩, (fun_mk (st := s_Shape_found) l8 c8 k8).binds (ps := ["self", "word", "code"]) fun _ _ _ _ _ _ us hl => match us, hl with | [_, _, _], _ => rfl⟩,
      d_Compiler_init__ := ⟨f9, _, fun_mk (st := s_Compiler_init__) l9 c9 k9, ⟨mk_Compiler, a9, i9, kc_Compiler⟩, (fun_mk (st := s_Compiler_init__) l9 c9 k9).binds (ps := ["self", "form", "code"]) fun _ _ _ _ _ _ us hl => match us, hl with | [_, _, _], _ => rfl⟩,
      d_Compiler_come := metD_mk l10 lt10 le10 c10 k10 ⟨a10, i10, k10⟩ (ps := ["self", "at", "word", "more"]) (fun T kV doc pm an cdv ct us its hl hi => match us, hl, its, hi with | [_, _, _, _], _, [_], _ => ⟨_, rfl, rfl⟩) (fun T kV doc pm an cdv ct us its hl hi => match us, hl, its, hi with | [_, _, _], _, [_], _ => ⟨_, rfl, rfl⟩),
      d_Compiler_mend := ⟨f11, _, fun_mk (st := s_Compiler_mend) l11 c11 k11, ⟨a11, i11, k11⟩, (fun_mk (st := s_Compiler_mend) l11 c11 k11).binds (ps := ["self", "number"]) fun _ _ _ _ _ _ us hl => match us, hl with | [_, _], _ => rfl⟩,
      d_Compiler_worked := ⟨f12, _, fun_mk (st := s_Compiler_worked) l12 c12 k12, ⟨a12, i12, k12⟩, (fun_mk (st := s_Compiler_worked) l12 c12 k12).binds (ps := ["self", "at"]) fun _ _ _ _ _ _ us hl => match us, hl with | [_, _], _ => rfl⟩,
      d_Compiler_used := ⟨f13, _, fun_mk (st := s_Compiler_used) l13 c13 k13, ⟨a13, i13, k13⟩, (fun_mk (st := s_Compiler_used) l13 c13 k13).binds (ps := ["self", "at", "node"]) fun _ _ _ _ _ _ us hl => match us, hl with | [_, _, _], _ => rfl⟩,
      d_Compiler_all_done := ⟨f14, _, fun_mk (st := s_Compiler_all_done) l14 c14 k14, ⟨a14, i14, k14⟩, (fun_mk (st := s_Compiler_all_done) l14 c14 k14).binds (ps := ["self", "numbers"]) fun _ _ _ _ _ _ us hl => match us, hl with | [_, _], _ => rfl⟩,
      d_Compiler_done := ⟨f15, _, fun_mk (st := s_Compiler_done) l15 c15 k15, ⟨a15, i15, k15⟩, (fun_mk (st := s_Compiler_done) l15 c15 k15).binds (ps := ["self", "at"]) fun _ _ _ _ _ _ us hl => match us, hl with | [_, _], _ => rfl⟩,
      d_Compiler_chosen := ⟨f16, _, fun_mk (st := s_Compiler_chosen) l16 c16 k16, ⟨a16, i16, k16⟩, (fun_mk (st := s_Compiler_chosen) l16 c16 k16).binds (ps := ["self", "at", "node", "kids", "beat"]) fun _ _ _ _ _ _ us hl => match us, hl with | [_, _, _, _, _], _ => rfl⟩,
      d_Compiler_tried := ⟨f17, _, fun_mk (st := s_Compiler_tried) l17 c17 k17, ⟨a17, i17, k17⟩, (fun_mk (st := s_Compiler_tried) l17 c17 k17).binds (ps := ["self", "at", "node", "kids"]) fun _ _ _ _ _ _ us hl => match us, hl with | [_, _, _, _], _ => rfl⟩,
      d_Compiler_whole := ⟨f18, _, fun_mk (st := s_Compiler_whole) l18 c18 k18, ⟨a18, i18, k18⟩, (fun_mk (st := s_Compiler_whole) l18 c18 k18).binds (ps := ["self"]) fun _ _ _ _ _ _ us hl => match us, hl with | [_], _ => rfl⟩,
      d_compiled := ⟨f19, _, fun_mk (st := s_compiled) l19 c19 k19, PySem.W.mg_of X G a19, (fun_mk (st := s_compiled) l19 c19 k19).binds (ps := ["form", "code"]) fun _ _ _ _ _ _ us hl => match us, hl with | [_, _], _ => rfl⟩,
      d_rows_of := ⟨f20, _, fun_mk (st := s_rows_of) l20 c20 k20, PySem.W.mg_of X G a20, (fun_mk (st := s_rows_of) l20 c20 k20).binds (ps := ["method", "node"]) fun _ _ _ _ _ _ us hl => match us, hl with | [_, _], _ => rfl⟩,
      d_law_deck := ⟨f21, _, fun_mk (st := s_law_deck) l21 c21 k21, PySem.W.mg_of X G a21, (fun_mk (st := s_law_deck) l21 c21 k21).binds (ps := ["_law_script"]) fun _ _ _ _ _ _ us hl => match us, hl with | [_], _ => rfl⟩,
      d_law_draw := ⟨f22, _, fun_mk (st := s_law_draw) l22 c22 k22, PySem.W.mg_of X G a22, (fun_mk (st := s_law_draw) l22 c22 k22).binds (ps := ["_law_deck_here", "_law_many"]) fun _ _ _ _ _ _ us hl => match us, hl with | [_, _], _ => rfl⟩,
      d_law_word := ⟨f23, _, fun_mk (st := s_law_word) l23 c23 k23, PySem.W.mg_of X G a23, (fun_mk (st := s_law_word) l23 c23 k23).binds (ps := ["_law_deck_here", "_law_first", "_law_most"]) fun _ _ _ _ _ _ us hl => match us, hl with | [_, _, _], _ => rfl⟩,
      d_law_words := ⟨f24, _, fun_mk (st := s_law_words) l24 c24 k24, PySem.W.mg_of X G a24, (fun_mk (st := s_law_words) l24 c24 k24).binds (ps := ["_law_deck_here", "_law_many"]) fun _ _ _ _ _ _ us hl => match us, hl with | [_, _], _ => rfl⟩,
      d_law_statements := ⟨f25, _, fun_mk (st := s_law_statements) l25 c25 k25, PySem.W.mg_of X G a25, (fun_mk (st := s_law_statements) l25 c25 k25).binds (ps := ["_law_deck_here", "_law_words_here", "_law_left", "_law_deep", "_law_most"]) fun _ _ _ _ _ _ us hl => match us, hl with | [_, _, _, _, _], _ => rfl⟩,
      d_law_statement := ⟨f26, _, fun_mk (st := s_law_statement) l26 c26 k26, PySem.W.mg_of X G a26, (fun_mk (st := s_law_statement) l26 c26 k26).binds (ps := ["_law_deck_here", "_law_words_here", "_law_left", "_law_deep"]) fun _ _ _ _ _ _ us hl => match us, hl with | [_, _, _, _], _ => rfl⟩,
      d_law_taken := ⟨f27, _, fun_mk (st := s_law_taken) l27 c27 k27, PySem.W.mg_of X G a27, (fun_mk (st := s_law_taken) l27 c27 k27).binds (ps := ["_law_statements_here"]) fun _ _ _ _ _ _ us hl => match us, hl with | [_], _ => rfl⟩,
      d_law_all := ⟨f28, _, fun_mk (st := s_law_all) l28 c28 k28, PySem.W.mg_of X G a28, (fun_mk (st := s_law_all) l28 c28 k28).binds (ps := ["_law_made", "_law_statements_here", "_law_at", "_law_names"]) fun _ _ _ _ _ _ us hl => match us, hl with | [_, _, _, _], _ => rfl⟩,
      d_law_put := ⟨f29, _, fun_mk (st := s_law_put) l29 c29 k29, PySem.W.mg_of X G a29, (fun_mk (st := s_law_put) l29 c29 k29).binds (ps := ["_law_made", "_law_node", "_law_at", "_law_names"]) fun _ _ _ _ _ _ us hl => match us, hl with | [_, _, _, _], _ => rfl⟩,
      d_law_same := ⟨f30, _, fun_mk (st := s_law_same) l30 c30 k30, PySem.W.mg_of X G a30, (fun_mk (st := s_law_same) l30 c30 k30).binds (ps := ["_law_one", "_law_other"]) fun _ _ _ _ _ _ us hl => match us, hl with | [_, _], _ => rfl⟩,
      d_law := ⟨fa, _, fun_mk (st := s_law) l31 c31 k31, PySem.W.mg_of X G a31, (fun_mk (st := s_law) l31 c31 k31).binds (ps := ["_law_script"]) fun _ _ _ _ _ _ us hl => match us, hl with | [_], _ => rfl⟩
    }, rfl, rfl⟩
  obtain ⟨T, e1, e2⟩ := T
  refine ⟨PySem.W.fnOf "law" "law" (defArgs s_law) (defBody s_law) (defScope s_law) .none kV31 dc31 pm31 an31 cd31 ct31, fun s v => .of_eq rfl, fun base _ _ => ?_⟩
  have z := ok_law (P := l.prog) (w := w) (base := base) T
  rw [e1, e2] at z
  exact z
theorem walk {l : PySem.W.OpenLaw} {q : Program} {loose : List Str} {XP : (Str → Option Value) → Heap → Prop} {YP : World → Heap → Prop} {d : DefRec} {K : Params → PySem.W.Frag} (hn : l.most = some 63) (hdf : d.params.defaults = [])
    (hY : ∀ (w : World) (h : Heap), YP w h → (K w.params).In h)
    (F : ∀ (w : World) (mg : Str → Option Value) (fa : Addr) (h : Heap), (K w.params).In h → h.Ns mainGlobals mg → mg d.name = some (.ref fa) →
      ∃ fd : FuncData, (∀ (s : Shared) (u : Value), BindsTo s fd ⟨[u], []⟩ [("_law_script", u)]) ∧ ∀ base : Heap, (K w.params).In base → base.Ns mainGlobals mg → FnOk l.prog w (K w.params) mg base CX0 206 fa fd ["_law_script"] (spLaw (K w.params))) :
    PySem.W.WalkO q loose XP YP l.row.toRowW d [] (fun f vs => PySem.call f vs) :=
  L2.walk_of (n := 63) (k := 206) (x := "_law_script") (CX := fun _ => CX0) (sp := fun w => spLaw (K w.params)) hn (by decide) hdf ⟨rfl, by decide, by decide⟩ hY F (fun _ _ a ns hl _ hS => by first | exact ⟨a, ns, rfl, hS, hl, fun _ => rfl⟩ | exact ⟨a, ns, rfl, hS, fun _ => rfl⟩) fun _ _ _ _ _ z => z
end My
open PySem PySem.W PyProof.Rows
set_option maxRecDepth 100000 in
set_option maxHeartbeats 0 in
theorem PySem.Challenge.cw_sendstead_k57_rows_of_turns_holds : PySem.Challenge.rw_sendstead_k57_rows_of_turns.Holds := by
  w_on; o_law; k_head; (case hw => w_witness2)
  k_fill
  refine My.walk (l := PySem.Challenge.rw_sendstead_k57_rows_of_turns) rfl rfl (fun w h Y => PySem.W.kIn_of Y) ?F
  case F =>
    intro w mg fa h KX G hmg
    refine' My.all_mk KX G hmg ?z_len ?z_range ?z_tuple ?z_list ?z_isinstance ?z_abs ?z_bool ?z_enumerate ?c_PARAMETERS ?c_BODY ?ua_PLAIN ?ul_PLAIN ?ua_ONE ?ul_ONE ?a_Shape ?pg_Shape ?hd_Shape ?po_Shape ?sa_Shape ?mk_Shape ?kc_Shape ?n_Shape_tree ?n_Shape_nodes ?n_Shape_above ?n_Shape_children ?n_Shape_code ?n_Shape_codes ?n_Shape_names ?a_Compiler ?pg_Compiler ?hd_Compiler ?po_Compiler ?sa_Compiler ?mk_Compiler ?kc_Compiler ?n_Compiler_form ?n_Compiler_code ?n_Compiler_made ?a1 ?l1 ?c1 ?k1 ?a2 ?i2 ?l2 ?c2 ?k2 ?a3 ?i3 ?l3 ?c3 ?k3 ?a4 ?i4 ?l4 ?c4 ?k4 ?a5 ?i5 ?l5 ?c5 ?k5 ?a6 ?i6 ?l6 ?c6 ?k6 ?a7 ?i7 ?l7 ?c7 ?k7 ?a8 ?i8 ?l8 ?c8 ?k8 ?a9 ?i9 ?l9 ?c9 ?k9 ?a10 ?i10 ?l10 ?lt10 ?le10 ?c10 ?k10 ?a11 ?i11 ?l11 ?c11 ?k11 ?a12 ?i12 ?l12 ?c12 ?k12 ?a13 ?i13 ?l13 ?c13 ?k13 ?a14 ?i14 ?l14 ?c14 ?k14 ?a15 ?i15 ?l15 ?c15 ?k15 ?a16 ?i16 ?l16 ?c16 ?k16 ?a17 ?i17 ?l17 ?c17 ?k17 ?a18 ?i18 ?l18 ?c18 ?k18 ?a19 ?l19 ?c19 ?k19 ?a20 ?l20 ?c20 ?k20 ?a21 ?l21 ?c21 ?k21 ?a22 ?l22 ?c22 ?k22 ?a23 ?l23 ?c23 ?k23 ?a24 ?l24 ?c24 ?k24 ?a25 ?l25 ?c25 ?k25 ?a26 ?l26 ?c26 ?k26 ?a27 ?l27 ?c27 ?k27 ?a28 ?l28 ?c28 ?k28 ?a29 ?l29 ?c29 ?k29 ?a30 ?l30 ?c30 ?k30 ?a31 ?l31 ?c31 ?k31
    (case z_len => k_is)
    (case z_range => k_is)
    (case z_tuple => k_is)
    (case z_list => k_is)
    (case z_isinstance => k_is)
    (case z_abs => k_is)
    (case z_bool => k_is)
    (case z_enumerate => k_is)
    (case c_PARAMETERS => k_is)
    (case c_BODY => k_is)
    (case ua_PLAIN => k_is)
    (case ul_PLAIN => k_is)
    (case ua_ONE => k_is)
    (case ul_ONE => k_is)
    (case a_Shape => k_is)
    (case pg_Shape => k_is)
    (case hd_Shape => k_is)
    (case po_Shape => k_is)
    (case sa_Shape => k_is)
    (case mk_Shape => k_is)
    (case kc_Shape => k_is)
    (case n_Shape_tree => k_is)
    (case n_Shape_nodes => k_is)
    (case n_Shape_above => k_is)
    (case n_Shape_children => k_is)
    (case n_Shape_code => k_is)
    (case n_Shape_codes => k_is)
    (case n_Shape_names => k_is)
    (case a_Compiler => k_is)
    (case pg_Compiler => k_is)
    (case hd_Compiler => k_is)
    (case po_Compiler => k_is)
    (case sa_Compiler => k_is)
    (case mk_Compiler => k_is)
    (case kc_Compiler => k_is)
    (case n_Compiler_form => k_is)
    (case n_Compiler_code => k_is)
    (case n_Compiler_made => k_is)
    (case a1 => k_is)
    (case l1 => k_is)
    (case c1 => k_is)
    (case k1 => k_is)
    (case a2 => k_is)
    (case i2 => k_is)
    (case l2 => k_is)
    (case c2 => k_is)
    (case k2 => k_is)
    (case a3 => k_is)
    (case i3 => k_is)
    (case l3 => k_is)
    (case c3 => k_is)
    (case k3 => k_is)
    (case a4 => k_is)
    (case i4 => k_is)
    (case l4 => k_is)
    (case c4 => k_is)
    (case k4 => k_is)
    (case a5 => k_is)
    (case i5 => k_is)
    (case l5 => k_is)
    (case c5 => k_is)
    (case k5 => k_is)
    (case a6 => k_is)
    (case i6 => k_is)
    (case l6 => k_is)
    (case c6 => k_is)
    (case k6 => k_is)
    (case a7 => k_is)
    (case i7 => k_is)
    (case l7 => k_is)
    (case c7 => k_is)
    (case k7 => k_is)
    (case a8 => k_is)
    (case i8 => k_is)
    (case l8 => k_is)
    (case c8 => k_is)
    (case k8 => k_is)
    (case a9 => k_is)
    (case i9 => k_is)
    (case l9 => k_is)
    (case c9 => k_is)
    (case k9 => k_is)
    (case a10 => k_is)
    (case i10 => k_is)
    (case l10 => k_is)
    (case lt10 => k_is)
    (case le10 => k_is)
    (case c10 => k_is)
    (case k10 => k_is)
    (case a11 => k_is)
    (case i11 => k_is)
    (case l11 => k_is)
    (case c11 => k_is)
    (case k11 => k_is)
    (case a12 => k_is)
    (case i12 => k_is)
    (case l12 => k_is)
    (case c12 => k_is)
    (case k12 => k_is)
    (case a13 => k_is)
    (case i13 => k_is)
    (case l13 => k_is)
    (case c13 => k_is)
    (case k13 => k_is)
    (case a14 => k_is)
    (case i14 => k_is)
    (case l14 => k_is)
    (case c14 => k_is)
    (case k14 => k_is)
    (case a15 => k_is)
    (case i15 => k_is)
    (case l15 => k_is)
    (case c15 => k_is)
    (case k15 => k_is)
    (case a16 => k_is)
    (case i16 => k_is)
    (case l16 => k_is)
    (case c16 => k_is)
    (case k16 => k_is)
    (case a17 => k_is)
    (case i17 => k_is)
    (case l17 => k_is)
    (case c17 => k_is)
    (case k17 => k_is)
    (case a18 => k_is)
    (case i18 => k_is)
    (case l18 => k_is)
    (case c18 => k_is)
    (case k18 => k_is)
    (case a19 => k_is)
    (case l19 => k_is)
    (case c19 => k_is)
    (case k19 => k_is)
    (case a20 => k_is)
    (case l20 => k_is)
    (case c20 => k_is)
    (case k20 => k_is)
    (case a21 => k_is)
    (case l21 => k_is)
    (case c21 => k_is)
    (case k21 => k_is)
    (case a22 => k_is)
    (case l22 => k_is)
    (case c22 => k_is)
    (case k22 => k_is)
    (case a23 => k_is)
    (case l23 => k_is)
    (case c23 => k_is)
    (case k23 => k_is)
    (case a24 => k_is)
    (case l24 => k_is)
    (case c24 => k_is)
    (case k24 => k_is)
    (case a25 => k_is)
    (case l25 => k_is)
    (case c25 => k_is)
    (case k25 => k_is)
    (case a26 => k_is)
    (case l26 => k_is)
    (case c26 => k_is)
    (case k26 => k_is)
    (case a27 => k_is)
    (case l27 => k_is)
    (case c27 => k_is)
    (case k27 => k_is)
    (case a28 => k_is)
    (case l28 => k_is)
    (case c28 => k_is)
    (case k28 => k_is)
    (case a29 => k_is)
    (case l29 => k_is)
    (case c29 => k_is)
    (case k29 => k_is)
    (case a30 => k_is)
    (case l30 => k_is)
    (case c30 => k_is)
    (case k30 => k_is)
    (case a31 => k_is)
    (case l31 => k_is)
    (case c31 => k_is)
    (case k31 => k_is)

