import PyProof.Rows.All
import Wide.All
import OpenK.AllK
import Wide.FinOn
import HandS.ForMost
import HandS.TupAny
import HandS.IsInst
import HandS.Walk
import HandS.Codes
import PySem.Challenge.RW_sendstead_k07_names
set_option Elab.async false
set_option linter.all false
set_option maxRecDepth 100000
namespace My
open PySem L2
/-! ### trees of nodes -/
/-- a node: its value, its word, its other items, a block's parameters, the nodes within -/
inductive Nd where
  | mk (v : V) (w : Str) (its : List V) (ps : List Str) (ks : List Nd)
def Nd.v : Nd → V | .mk v _ _ _ _ => v
def Nd.w : Nd → Str | .mk _ w _ _ _ => w
def Nd.its : Nd → List V | .mk _ _ its _ _ => its
def Nd.ps : Nd → List Str | .mk _ _ _ ps _ => ps
def Nd.ks : Nd → List Nd | .mk _ _ _ _ ks => ks
/-- what is told of a node by its number -/
structure Rec where
  v : V
  w : Str
  its : List V
  ps : List Str
  above : Int
  code : Int
  hid : List (List Str)
  kids : List Int
mutual
def size : Nd → Nat
  | .mk _ _ _ _ ks => 1 + sizeL ks
def sizeL : List Nd → Nat
  | [] => 0
  | k :: ks => size k + sizeL ks
end
def kidNums (n : Nat) : List Nd → List Int
  | [] => []
  | k :: ks => (n : Int) :: kidNums (n + size k) ks
mutual
def recs (n : Nat) (above code : Int) (hid : List (List Str)) : Nd → List Rec
  | .mk v w its ps ks => ⟨v, w, its, ps, above, code, hid, kidNums (n + 1) ks⟩ :: recsL (n + 1) n (if w = "block" then (n : Int) else code) (if w = "block" then ps :: hid else hid) ks
def recsL (n : Nat) (above code : Int) (hid : List (List Str)) : List Nd → List Rec
  | [] => []
  | k :: ks => recs n above code hid k ++ recsL (n + size k) above code hid ks
end
mutual
theorem recs_len : ∀ (t : Nd) (n : Nat) (a c : Int) (h : List (List Str)), (recs n a c h t).length = size t
  | .mk v w its ps ks, n, a, c, h => by
    unfold recs size
    rw [List.length_cons, recsL_len ks]
    omega
theorem recsL_len : ∀ (ts : List Nd) (n : Nat) (a c : Int) (h : List (List Str)), (recsL n a c h ts).length = sizeL ts
  | [], n, a, c, h => by unfold recsL sizeL; rfl
  | k :: ks, n, a, c, h => by
    unfold recsL sizeL
    rw [List.length_append, recs_len k, recsL_len ks]
end
theorem recsL_append : ∀ (xs ys : List Nd) (n : Nat) (a c : Int) (h : List (List Str)), recsL n a c h (xs ++ ys) = recsL n a c h xs ++ recsL (n + sizeL xs) a c h ys
  | [], ys, n, a, c, h => by simp [recsL, sizeL]
  | k :: ks, ys, n, a, c, h => by
    simp only [List.cons_append, recsL, sizeL]
    rw [recsL_append ks ys, List.append_assoc, Nat.add_assoc]
theorem kidNums_append : ∀ (xs ys : List Nd) (n : Nat), kidNums n (xs ++ ys) = kidNums n xs ++ kidNums (n + sizeL xs) ys
  | [], ys, n => by simp [kidNums, sizeL]
  | k :: ks, ys, n => by
    simp only [List.cons_append, kidNums, sizeL]
    rw [kidNums_append ks ys, Nat.add_assoc]
theorem sizeL_append : ∀ (xs ys : List Nd), sizeL (xs ++ ys) = sizeL xs + sizeL ys
  | [], ys => by simp [sizeL]
  | k :: ks, ys => by
    simp only [List.cons_append, sizeL]
    rw [sizeL_append ks ys, Nat.add_assoc]
theorem kidNums_len : ∀ (xs : List Nd) (n : Nat), (kidNums n xs).length = xs.length
  | [], n => rfl
  | k :: ks, n => by simp [kidNums, kidNums_len ks]
theorem size_pos : ∀ t : Nd, 0 < size t
  | .mk _ _ _ _ ks => by unfold size; omega
theorem len_le_sizeL : ∀ ts : List Nd, ts.length ≤ sizeL ts
  | [] => Nat.le_refl _
  | k :: ks => by
    have h1 := size_pos k
    have h2 := len_le_sizeL ks
    simp only [List.length_cons, sizeL]
    omega
/-! ### how a node stands in the room -/
def oneW : List Str := ["do", "say", "return", "raise"]
def leafW : List Str := ["number", "text", "truth", "none", "self", "name", "field", "new"]
inductive Form (K : PySem.W.Frag) (H : Hp) : Str → List V → List Str → List V → Prop
  | set (x : Str) (e : V) : Form K H "set" [.str x, e] [] [e]
  | setfield (x : Str) (e : V) : Form K H "setfield" [.str x, e] [] [e]
  | one (w : Str) (h : w ∈ oneW) (e : V) : Form K H w [e] [] [e]
  | cond (e : V) (a b : Addr) (xs ys : List V) : SqT K H a xs → SqT K H b ys → Form K H "if" [e, .ref a, .ref b] [] ((e :: xs) ++ ys)
  | loop (e : V) (a : Addr) (xs : List V) : SqT K H a xs → Form K H "while" [e, .ref a] [] (e :: xs)
  | tri (x : Str) (a b : Addr) (xs ys : List V) : SqT K H a xs → SqT K H b ys → Form K H "try" [.ref a, .str x, .ref b] [] (xs ++ ys)
  | send (e : V) (m : Str) (a : Addr) (xs : List V) : SqT K H a xs → Form K H "send" [e, .str m, .ref a] [] (e :: xs)
  | up (m : Str) (a : Addr) (xs : List V) : SqT K H a xs → Form K H "up" [.str m, .ref a] [] xs
  | block (p a : Addr) (ps : List Str) (xs : List V) : ps.length ≤ 10 → SqT K H p (ps.map V.str) → SqT K H a xs → Form K H "block" [.ref p, .ref a] ps xs
  | list (a : Addr) (xs : List V) : SqT K H a xs → Form K H "list" [.ref a] [] xs
  | leaf (w : Str) (h : w ∈ leafW) (its : List V) : Form K H w its [] []
/-- data that stand still (no lists), at most n deep: what can be compared -/
inductive Flat : V → PyData → Prop
  | non : Flat .non .none
  | bl (b : Bool) : Flat (.bl b) (.bool b)
  | int (i : Int) : Flat (.int i) (.int i)
  | str (x : Str) : PySem.PyData.canLay0 (.str x) = true → Flat (.str x) (.str x)
def Dt (K : PySem.W.Frag) (H : Hp) : Nat → V → PyData → Prop
  | 0, v, d => Flat v d
  | n + 1, v, d => Flat v d ∨ ∃ (a : Addr) (xs : List V) (ds : List PyData), v = .ref a ∧ d = .tuple ds ∧ SqT K H a xs ∧ Paired (Dt K H n) xs ds
def Dok (K : PySem.W.Frag) (H : Hp) (n : Nat) (v : V) : Prop := ∃ d, Dt K H n v d
theorem Dt.flat {K : PySem.W.Frag} {H : Hp} {v : V} {d : PyData} (h : Flat v d) : ∀ n, Dt K H n v d
  | 0 => h
  | _ + 1 => .inl h
theorem paired_imp {α β : Type} {F G : α → β → Prop} (h : ∀ a b, F a b → G a b) : ∀ {xs : List α} {ys : List β}, Paired F xs ys → Paired G xs ys
  | _, _, .nil => .nil
  | _, _, .cons p q => .cons (h _ _ p) (paired_imp h q)
theorem Dt.mono1 {K : PySem.W.Frag} {H : Hp} : ∀ {n : Nat} {v : V} {d : PyData}, Dt K H n v d → Dt K H (n + 1) v d
  | 0, _, _, h => .inl h
  | n + 1, _, _, h => by
    rcases h with h | ⟨a, xs, ds, rfl, rfl, h1, h2⟩
    · exact .inl h
    · exact .inr ⟨a, xs, ds, rfl, rfl, h1, paired_imp (fun _ _ q => Dt.mono1 q) h2⟩
theorem Dt.mono {K : PySem.W.Frag} {H : Hp} {n m : Nat} {v : V} {d : PyData} (l : n ≤ m) (h : Dt K H n v d) : Dt K H m v d := by
  induction l with
  | refl => exact h
  | step _ ih => exact ih.mono1
theorem Dok.mono {K : PySem.W.Frag} {H : Hp} {n m : Nat} {v : V} (l : n ≤ m) (h : Dok K H n v) : Dok K H m v := h.elim fun d q => ⟨d, q.mono l⟩
theorem dpAll_of {K : PySem.W.Frag} {H : Hp} {n : Nat} (ih : ∀ {v : V} {d : PyData}, Dt K H n v d → Dp K H v d ∧ d.canLay0 = true ∧ d.depth ≤ n) :
    ∀ {xs : List V} {ds : List PyData}, Paired (Dt K H n) xs ds → DpAll K H xs ds ∧ PyData.canLayAll0 ds = true ∧ PyData.depthAll ds ≤ n
  | _, _, .nil => ⟨.nil, rfl, by simp [PyData.depthAll]⟩
  | _, _, .cons p q => by
    obtain ⟨a1, a2, a3⟩ := ih p
    obtain ⟨b1, b2, b3⟩ := dpAll_of ih q
    refine ⟨.cons a1 b1, by simp [PyData.canLayAll0, a2, b2], ?_⟩
    simp only [PyData.depthAll]
    omega
theorem flat_dp {K : PySem.W.Frag} {H : Hp} {v : V} {d : PyData} (h : Flat v d) : Dp K H v d ∧ d.canLay0 = true ∧ d.depth = 0 := by
  cases h with
  | non => exact ⟨.non, rfl, by simp [PyData.depth]⟩
  | bl b => exact ⟨.bl b, rfl, by simp [PyData.depth]⟩
  | int i => exact ⟨.int i, rfl, by simp [PyData.depth]⟩
  | str x h => exact ⟨.str x, h, by simp [PyData.depth]⟩
theorem Dt.dp {K : PySem.W.Frag} {H : Hp} : ∀ {n : Nat} {v : V} {d : PyData}, Dt K H n v d → Dp K H v d ∧ d.canLay0 = true ∧ d.depth ≤ n
  | 0, _, _, h => by
    obtain ⟨a, b, c⟩ := flat_dp (K := K) (H := H) h
    exact ⟨a, b, by omega⟩
  | n + 1, _, _, h => by
    rcases h with h | ⟨a, xs, ds, rfl, rfl, h1, h2⟩
    · obtain ⟨a, b, c⟩ := flat_dp (K := K) (H := H) h
      exact ⟨a, b, by omega⟩
    · obtain ⟨b1, b2, b3⟩ := dpAll_of (fun q => Dt.dp q) h2
      refine ⟨.tup h1 b1, by simpa [PyData.canLay0] using b2, ?_⟩
      simp only [PyData.depth]
      omega
theorem Dt.shaped {K : PySem.W.Frag} {H : Hp} {n : Nat} {v : V} {d : PyData} (h : Dt K H n v d) (hn : n ≤ 64) : SeqAt.shaped d = true := by
  obtain ⟨_, b, c⟩ := h.dp
  unfold SeqAt.shaped
  rw [b, decide_eq_true (by omega : d.depth ≤ 64)]
  rfl
inductive NdAt (K : PySem.W.Frag) (H : Hp) : Nd → Prop
  | mk (a : Addr) (w : Str) (its : List V) (ps : List Str) (ks : List Nd) : SqT K H a (.str w :: its) → Form K H w its ps (ks.map Nd.v) → (Dok K H 60 (.ref a) ∧ ∀ x, x ∈ its → Dok K H 60 x) → (∀ k, k ∈ ks → NdAt K H k) → NdAt K H (.mk (.ref a) w its ps ks)
/-- the name that a node sets or takes -/
def nameOf (w : Str) (its : List V) : Option Str := if w = "set" then (match its with | .str x :: _ => some x | _ => none) else if w = "try" then (match its with | _ :: .str x :: _ => some x | _ => none) else none
theorem nameOf_set (x : Str) (e : V) : nameOf "set" [.str x, e] = some x := rfl
theorem nameOf_try (x : Str) (a b : Addr) : nameOf "try" [.ref a, .str x, .ref b] = some x := by unfold nameOf; rw [if_neg (by decide +kernel), if_pos rfl]
theorem nameOf_not {w : Str} {its : List V} (h1 : ¬ w = "set") (h2 : ¬ w = "try") : nameOf w its = none := by unfold nameOf; rw [if_neg h1, if_neg h2]
/-- no name in it is the word z -/
inductive Good (z : Str) : Nd → Prop
  | mk (v : V) (w : Str) (its : List V) (ps : List Str) (ks : List Nd) : (∀ x, nameOf w its = some x → x ≠ z ∧ PySem.PyData.canLay0 (.str x) = true) → (∀ k, k ∈ ks → Good z k) → Good z (.mk v w its ps ks)
def NdG (K : PySem.W.Frag) (H : Hp) (t : Nd) : Prop := NdAt K H t ∧ Good "zz" t
/-! ### heaps: what stays -/
/-- all tuples (and what is locked) stand as they did -/
def Keep (H H' : Hp) : Prop := (∀ a xs, H a = some (.tup xs) → H' a = some (.tup xs)) ∧ (∀ a o u, H a = some (.frz o u) → H' a = some (.frz o u))
theorem Keep.refl (H : Hp) : Keep H H := ⟨fun _ _ h => h, fun _ _ _ h => h⟩
theorem Keep.trans {H H1 H2 : Hp} (a : Keep H H1) (b : Keep H1 H2) : Keep H H2 := ⟨fun x xs h => b.1 x xs (a.1 x xs h), fun x o u h => b.2 x o u (a.2 x o u h)⟩
theorem Keep.same {H H' : Hp} (s : Same H H') : Keep H H' := ⟨fun a xs h => s a _ h, fun a o u h => s a _ h⟩
theorem Keep.sqt {K : PySem.W.Frag} {H H' : Hp} (k : Keep H H') {a : Addr} {xs : List V} (h : SqT K H a xs) : SqT K H' a xs := by
  rcases h with (h | ⟨o, h⟩) | h
  · exact .inl (.inl (k.1 _ _ h))
  · exact .inl (.inr ⟨o, k.2 _ _ _ h⟩)
  · exact .inr h
theorem Keep.form {K : PySem.W.Frag} {H H' : Hp} (k : Keep H H') {w : Str} {its : List V} {ps : List Str} {ks : List V} (f : Form K H w its ps ks) : Form K H' w its ps ks := by
  cases f with
  | set x e => exact .set x e
  | setfield x e => exact .setfield x e
  | one w h e => exact .one w h e
  | cond e a b xs ys h1 h2 => exact .cond e a b xs ys (k.sqt h1) (k.sqt h2)
  | loop e a xs h1 => exact .loop e a xs (k.sqt h1)
  | tri x a b xs ys h1 h2 => exact .tri x a b xs ys (k.sqt h1) (k.sqt h2)
  | send e m a xs h1 => exact .send e m a xs (k.sqt h1)
  | up m a _ h1 => exact .up m a _ (k.sqt h1)
  | block p a ps _ hl h1 h2 => exact .block p a ps _ hl (k.sqt h1) (k.sqt h2)
  | list a _ h1 => exact .list a _ (k.sqt h1)
  | leaf w h its => exact .leaf w h its

theorem Keep.dt {K : PySem.W.Frag} {H H' : Hp} (k : Keep H H') : ∀ {n : Nat} {v : V} {d : PyData}, Dt K H n v d → Dt K H' n v d
  | 0, _, _, h => h
  | n + 1, _, _, h => by
    rcases h with h | ⟨a, xs, ds, rfl, rfl, h1, h2⟩
    · exact .inl h
    · exact .inr ⟨a, xs, ds, rfl, rfl, k.sqt h1, paired_imp (fun _ _ q => Keep.dt k q) h2⟩
theorem Keep.dok {K : PySem.W.Frag} {H H' : Hp} (k : Keep H H') {n : Nat} {v : V} (h : Dok K H n v) : Dok K H' n v := h.elim fun d q => ⟨d, k.dt q⟩
theorem Keep.nd {K : PySem.W.Frag} {H H' : Hp} (k : Keep H H') {t : Nd} (h : NdAt K H t) : NdAt K H' t := by
  induction h with
  | mk a w its ps ks h1 h2 h3 h4 ih => exact .mk a w its ps ks (k.sqt h1) (k.form h2) ⟨k.dok h3.1, fun x hx => k.dok (h3.2 x hx)⟩ ih
theorem Keep.ndg {K : PySem.W.Frag} {H H' : Hp} (k : Keep H H') {t : Nd} (h : NdG K H t) : NdG K H' t := ⟨k.nd h.1, h.2⟩
theorem paired_map {α β : Type} {F : α → β → Prop} : ∀ {xs : List α}, (∀ x, x ∈ xs → ∃ d, F x d) → ∃ ds, Paired F xs ds
  | [], _ => ⟨[], .nil⟩
  | x :: xs, h => by
    obtain ⟨d, hd⟩ := h x (by simp)
    obtain ⟨ds, hds⟩ := paired_map (xs := xs) (fun y hy => h y (by simp [hy]))
    exact ⟨d :: ds, .cons hd hds⟩
/-- a tuple of data is a datum -/
theorem Dok.tup {K : PySem.W.Frag} {H : Hp} {n : Nat} {a : Addr} {xs : List V} (h : SqT K H a xs) (hx : ∀ x, x ∈ xs → Dok K H n x) : Dok K H (n + 1) (.ref a) := by
  obtain ⟨ds, hd⟩ := paired_map hx
  exact ⟨.tuple ds, .inr ⟨a, xs, ds, rfl, rfl, h, hd⟩⟩
theorem Dok.str {K : PySem.W.Frag} {H : Hp} {n : Nat} {x : Str} (h : PySem.PyData.canLay0 (.str x) = true) : Dok K H n (.str x) := ⟨_, Dt.flat (.str x h) n⟩
theorem Dok.int {K : PySem.W.Frag} {H : Hp} {n : Nat} {i : Int} : Dok K H n (.int i) := ⟨_, Dt.flat (.int i) n⟩
theorem Dok.bl {K : PySem.W.Frag} {H : Hp} {n : Nat} {i : Bool} : Dok K H n (.bl i) := ⟨_, Dt.flat (.bl i) n⟩
theorem Dok.non {K : PySem.W.Frag} {H : Hp} {n : Nat} : Dok K H n .non := ⟨_, Dt.flat .non n⟩
/-! ### an object changes, all else stays -/
/-- all that stood but at D stands -/
def But (D : Addr) (H H' : Hp) : Prop := ∀ b o, H b = some o → b ≠ D → H' b = some o
theorem But.refl (D : Addr) (H : Hp) : But D H H := fun _ _ h _ => h
theorem But.trans {D : Addr} {H H1 H2 : Hp} (a : But D H H1) (b : But D H1 H2) : But D H H2 := fun c o h n => b c o (a c o h n) n
theorem But.same {D : Addr} {H H' : Hp} (s : Same H H') : But D H H' := fun b o h _ => s b o h
theorem But.set {D : Addr} {H : Hp} (o : HO) : But D H (upd H D o) := fun b u h n => by rw [upd_ne n]; exact h
theorem But.keep {D : Addr} {H H' : Hp} {xs : List V} (b : But D H H') (h : H D = some (.lst xs)) : Keep H H' :=
  ⟨fun a ys e => b a _ e (ne_of e h (by intro z; cases z)), fun a o u e => b a _ e (ne_of e h (by intro z; cases z))⟩
theorem same_new {H : Hp} {p : Addr} (h : H p = none) (o : HO) : Same H (upd H p o) := fun b u q => by rw [upd_ne (ne_of_none q h)]; exact q
theorem _root_.L2.Same.sqt {K : PySem.W.Frag} {H H' : Hp} (s : Same H H') {a : Addr} {xs : List V} (h : SqT K H a xs) : SqT K H' a xs := (Keep.same s).sqt h
/-- t + u, whatever is empty -/
theorem catA {K : PySem.W.Frag} {H : Hp} {a b : Addr} {xs ys : List V} {Q : VK} (h1 : SqT K H a xs) (h2 : SqT K H b ys) (hl : xs.length + ys.length ≤ 100000)
    (q : ∀ (r : Addr) (H' : Hp), Same H H' → SqT K H' r (xs ++ ys) → Q (.ref r) H') : rCatA K (.ref a) (.ref b) H Q := by
  refine ⟨a, b, xs, ys, rfl, rfl, h1, h2, Nat.le_trans hl (by decide), fun e => ?_, fun e1 e2 => ?_, fun e1 e2 p n => q p _ (same_new n _) (SqT.of upd_same)⟩
  · subst e
    exact q b H (Same.refl H) h2
  · subst e2
    exact q a H (Same.refl H) (by rw [List.append_nil]; exact h1)
theorem sz {n : Nat} (h : n ≤ 100000) : n ≤ sizeLine := Nat.le_trans h (by decide)
theorem szl {n : Nat} (h : n < 100000) : n < sizeLine := Nat.lt_of_lt_of_le h (by decide)
end My


set_option Elab.async false
set_option linter.all false
set_option maxRecDepth 100000
namespace My
open PySem L2
/-! ### the text by places -/
def top (i : Nat) : Stmt := PySem.Challenge.pw_sendstead_k07_names.main.body.getD i (.Pass ⟨0, 0, 0, 0⟩)
abbrev s_parts_of : Stmt := top 4
abbrev N_parts_of : List Str := ["node", "word"]
theorem sc_parts_of : FnScope N_parts_of ["node"] (defScope s_parts_of) := ⟨rfl, rfl, rfl, by decide +kernel, rfl, by decide +kernel, by decide +kernel⟩
abbrev s_Shape_init__ : Stmt := inClass (top 5) 0
abbrev N_Shape_init__ : List Str := ["self", "method", "statement", "at", "node"]
theorem sc_Shape_init__ : FnScope N_Shape_init__ ["self", "method"] (defScope s_Shape_init__) := ⟨rfl, rfl, rfl, by decide +kernel, rfl, by decide +kernel, by decide +kernel⟩
abbrev s_Shape_add : Stmt := inClass (top 5) 1
abbrev N_Shape_add : List Str := ["self", "node", "above", "code", "at", "inner", "part"]
theorem sc_Shape_add : FnScope N_Shape_add ["self", "node", "above", "code"] (defScope s_Shape_add) := ⟨rfl, rfl, rfl, by decide +kernel, rfl, by decide +kernel, by decide +kernel⟩
abbrev s_Shape_is_parameter : Stmt := inClass (top 5) 2
abbrev N_Shape_is_parameter : List Str := ["self", "word", "code"]
theorem sc_Shape_is_parameter : FnScope N_Shape_is_parameter ["self", "word", "code"] (defScope s_Shape_is_parameter) := ⟨rfl, rfl, rfl, by decide +kernel, rfl, by decide +kernel, by decide +kernel⟩
abbrev s_Shape_all_names : Stmt := inClass (top 5) 3
abbrev N_Shape_all_names : List Str := ["self", "found", "at", "node", "word"]
theorem sc_Shape_all_names : FnScope N_Shape_all_names ["self"] (defScope s_Shape_all_names) := ⟨rfl, rfl, rfl, by decide +kernel, rfl, by decide +kernel, by decide +kernel⟩
abbrev s_Shape_parameters : Stmt := inClass (top 5) 4
abbrev N_Shape_parameters : List Str := ["self", "code"]
theorem sc_Shape_parameters : FnScope N_Shape_parameters ["self", "code"] (defScope s_Shape_parameters) := ⟨rfl, rfl, rfl, by decide +kernel, rfl, by decide +kernel, by decide +kernel⟩
abbrev s_Shape_found : Stmt := inClass (top 5) 8
abbrev N_Shape_found : List Str := ["self", "word", "code", "out"]
theorem sc_Shape_found : FnScope N_Shape_found ["self", "word", "code"] (defScope s_Shape_found) := ⟨rfl, rfl, rfl, by decide +kernel, rfl, by decide +kernel, by decide +kernel⟩
abbrev s_names_of : Stmt := top 6
abbrev N_names_of : List Str := ["method"]
theorem sc_names_of : FnScope N_names_of ["method"] (defScope s_names_of) := ⟨rfl, rfl, rfl, by decide +kernel, rfl, by decide +kernel, by decide +kernel⟩
abbrev s_law_deck : Stmt := top 8
abbrev N_law_deck : List Str := ["_law_script", "_law_row", "_law_k", "_law_cell", "_law_n", "_law_one"]
theorem sc_law_deck : FnScope N_law_deck ["_law_script"] (defScope s_law_deck) := ⟨rfl, rfl, rfl, by decide +kernel, rfl, by decide +kernel, by decide +kernel⟩
abbrev s_law_next : Stmt := top 9
abbrev N_law_next : List Str := ["_law_deck_here", "_law_at", "_law_row", "_law_one"]
theorem sc_law_next : FnScope N_law_next ["_law_deck_here"] (defScope s_law_next) := ⟨rfl, rfl, rfl, by decide +kernel, rfl, by decide +kernel, by decide +kernel⟩
abbrev s_law_word : Stmt := top 10
abbrev N_law_word : List Str := ["_law_draw"]
theorem sc_law_word : FnScope N_law_word ["_law_draw"] (defScope s_law_word) := ⟨rfl, rfl, rfl, by decide +kernel, rfl, by decide +kernel, by decide +kernel⟩
abbrev s_law_name : Stmt := top 11
abbrev N_law_name : List Str := ["_law_draw"]
theorem sc_law_name : FnScope N_law_name ["_law_draw"] (defScope s_law_name) := ⟨rfl, rfl, rfl, by decide +kernel, rfl, by decide +kernel, by decide +kernel⟩
abbrev s_law_leaf : Stmt := top 12
abbrev N_law_leaf : List Str := ["_law_draw", "_law_way", "_law_rest", "_law_some"]
theorem sc_law_leaf : FnScope N_law_leaf ["_law_draw"] (defScope s_law_leaf) := ⟨rfl, rfl, rfl, by decide +kernel, rfl, by decide +kernel, by decide +kernel⟩
abbrev s_law_es : Stmt := top 13
abbrev N_law_es : List Str := ["_law_deck_here", "_law_many", "_law_depth", "_law_k"]
theorem sc_law_es : FnScope N_law_es ["_law_deck_here", "_law_many", "_law_depth"] (defScope s_law_es) := ⟨rfl, rfl, rfl, by decide +kernel, rfl, by decide +kernel, by decide +kernel⟩
abbrev s_law_e : Stmt := top 14
abbrev N_law_e : List Str := ["_law_deck_here", "_law_depth", "_law_draw", "_law_way", "_law_rest", "_law_message", "_law_receiver", "_law_words", "_law_k"]
theorem sc_law_e : FnScope N_law_e ["_law_deck_here", "_law_depth"] (defScope s_law_e) := ⟨rfl, rfl, rfl, by decide +kernel, rfl, by decide +kernel, by decide +kernel⟩
abbrev s_law_body : Stmt := top 15
abbrev N_law_body : List Str := ["_law_deck_here", "_law_many", "_law_depth", "_law_k"]
theorem sc_law_body : FnScope N_law_body ["_law_deck_here", "_law_many", "_law_depth"] (defScope s_law_body) := ⟨rfl, rfl, rfl, by decide +kernel, rfl, by decide +kernel, by decide +kernel⟩
abbrev s_law_statement : Stmt := top 16
abbrev N_law_statement : List Str := ["_law_deck_here", "_law_depth", "_law_draw", "_law_way", "_law_rest", "_law_test", "_law_first"]
theorem sc_law_statement : FnScope N_law_statement ["_law_deck_here", "_law_depth"] (defScope s_law_statement) := ⟨rfl, rfl, rfl, by decide +kernel, rfl, by decide +kernel, by decide +kernel⟩
abbrev s_law_method : Stmt := top 17
abbrev N_law_method : List Str := ["_law_deck_here", "_law_depth", "_law_draw", "_law_words", "_law_k"]
theorem sc_law_method : FnScope N_law_method ["_law_deck_here", "_law_depth"] (defScope s_law_method) := ⟨rfl, rfl, rfl, by decide +kernel, rfl, by decide +kernel, by decide +kernel⟩
abbrev s_law_trees : Stmt := top 18
abbrev N_law_trees : List Str := ["_law_deck_here", "_law_depth", "_law_found", "_law_k", "_law_draw", "_law_methods", "_law_fields", "_law_n"]
theorem sc_law_trees : FnScope N_law_trees ["_law_deck_here", "_law_depth"] (defScope s_law_trees) := ⟨rfl, rfl, rfl, by decide +kernel, rfl, by decide +kernel, by decide +kernel⟩
abbrev s_law_within : Stmt := top 19
abbrev N_law_within : List Str := ["_law_nodes", "_law_hidden", "_law_found", "_law_node", "_law_word_here", "_law_name_here"]
theorem sc_law_within : FnScope N_law_within ["_law_nodes", "_law_hidden", "_law_found"] (defScope s_law_within) := ⟨rfl, rfl, rfl, by decide +kernel, rfl, by decide +kernel, by decide +kernel⟩
abbrev s_law : Stmt := top 20
abbrev N_law : List Str := ["_law_script", "_law_deck_here", "_law_method_here", "_law_found", "_law_told", "_law_plain", "_law_rest", "_law_word_here"]
theorem sc_law : FnScope N_law ["_law_script"] (defScope s_law) := ⟨rfl, rfl, rfl, by decide +kernel, rfl, by decide +kernel, by decide +kernel⟩
/-! ### what the top has left -/
structure DefT (K : PySem.W.Frag) (mg : Str → Option Value) (x qual : Str) (st : Stmt) (ps : List Str) where
  f : Addr
  fd : FuncData
  fn : Fun K x qual st f fd
  m : mg x = some (.ref f)
  b : Binds K fd ps []
theorem DefT.kp {K : PySem.W.Frag} {mg : Str → Option Value} {x qual : Str} {st : Stmt} {ps : List Str} (D : DefT K mg x qual st ps) : PySem.W.keepIn K (.ref D.f) = true := D.fn.kp
structure MetT (K : PySem.W.Frag) (C : Addr) (x qual : Str) (st : Stmt) (ps : List Str) where
  f : Addr
  fd : FuncData
  fn : Fun K x qual st f fd
  me : Meth K C x f
  b : Binds K fd ps []
structure ShapeT (K : PySem.W.Frag) (mg : Str → Option Value) where
  C : Addr
  cl : Cls K C
  m : mg "Shape" = some (.ref C)
  n_tree : NoAttr K C "tree"
  n_nodes : NoAttr K C "nodes"
  n_above : NoAttr K C "above"
  n_children : NoAttr K C "children"
  n_code : NoAttr K C "code"
  n_codes : NoAttr K C "codes"
  n_names : NoAttr K C "names"
structure InitT (K : PySem.W.Frag) (C : Addr) (x qual : Str) (st : Stmt) (ps : List Str) where
  f : Addr
  fd : FuncData
  fn : Fun K x qual st f fd
  mkk : Mk K C f
  b : Binds K fd ps []
structure Tx (K : PySem.W.Frag) (mg : Str → Option Value) where
  z_len : mg "len" = none
  z_range : mg "range" = none
  z_tuple : mg "tuple" = none
  z_list : mg "list" = none
  z_isinstance : mg "isinstance" = none
  z_min : mg "min" = none
  z_enumerate : mg "enumerate" = none
  t_P : Tok
  c_PARAMETERS : mg "PARAMETERS" = some (.int 2 t_P)
  t_B : Tok
  c_BODY : mg "BODY" = some (.int 3 t_B)
  Shape : ShapeT K mg
  d_parts_of : DefT K mg "parts_of" "parts_of" s_parts_of ["node"]
  d_Shape_init__ : InitT K Shape.C "__init__" "Shape.__init__" s_Shape_init__ ["self", "method"]
  d_Shape_add : MetT K Shape.C "add" "Shape.add" s_Shape_add ["self", "node", "above", "code"]
  d_Shape_is_parameter : MetT K Shape.C "is_parameter" "Shape.is_parameter" s_Shape_is_parameter ["self", "word", "code"]
  d_Shape_all_names : MetT K Shape.C "all_names" "Shape.all_names" s_Shape_all_names ["self"]
  d_names_of : DefT K mg "names_of" "names_of" s_names_of ["method"]
  d_law_deck : DefT K mg "_law_deck" "_law_deck" s_law_deck ["_law_script"]
  d_law_next : DefT K mg "_law_next" "_law_next" s_law_next ["_law_deck_here"]
  d_law_word : DefT K mg "_law_word" "_law_word" s_law_word ["_law_draw"]
  d_law_name : DefT K mg "_law_name" "_law_name" s_law_name ["_law_draw"]
  d_law_leaf : DefT K mg "_law_leaf" "_law_leaf" s_law_leaf ["_law_draw"]
  d_law_es : DefT K mg "_law_es" "_law_es" s_law_es ["_law_deck_here", "_law_many", "_law_depth"]
  d_law_e : DefT K mg "_law_e" "_law_e" s_law_e ["_law_deck_here", "_law_depth"]
  d_law_body : DefT K mg "_law_body" "_law_body" s_law_body ["_law_deck_here", "_law_many", "_law_depth"]
  d_law_statement : DefT K mg "_law_statement" "_law_statement" s_law_statement ["_law_deck_here", "_law_depth"]
  d_law_method : DefT K mg "_law_method" "_law_method" s_law_method ["_law_deck_here", "_law_depth"]
  d_law_within : DefT K mg "_law_within" "_law_within" s_law_within ["_law_nodes", "_law_hidden", "_law_found"]
  d_law : DefT K mg "law" "law" s_law ["_law_script"]
end My

set_option Elab.async false
set_option linter.all false
set_option maxRecDepth 100000
set_option maxHeartbeats 4000000
namespace My
open PySem L2
theorem iteN {b : Bool} {A B : Prop} (h : b = false) (k : B) : if b = true then A else B := by
  subst h
  exact iteF k
theorem iteY {b : Bool} {A B : Prop} (h : b = true) (k : A) : if b = true then A else B := by
  subst h
  exact iteT k
theorem iteB {b : Bool} {A B : Prop} (h1 : b = true → A) (h2 : b = false → B) : if b = true then A else B := by
  cases b
  · exact iteF (h2 rfl)
  · exact iteT (h1 rfl)
theorem at0 {x : V} {xs : List V} : atI (x :: xs) 0 = some x := at_of (j := 0) rfl rfl
theorem at1 {x y : V} {xs : List V} : atI (x :: y :: xs) 1 = some y := at_of (j := 1) rfl rfl
theorem at2 {x y z : V} {xs : List V} : atI (x :: y :: z :: xs) 2 = some z := at_of (j := 2) rfl rfl
theorem at3 {x y z u : V} {xs : List V} : atI (x :: y :: z :: u :: xs) 3 = some u := at_of (j := 3) rfl rfl
theorem oneW_1 : ∀ w, w ∈ oneW → inV (.str w) [.str "set", .str "setfield"] = false := by unfold oneW; decide +kernel
theorem leafW_1 : ∀ w, w ∈ leafW → inV (.str w) [.str "set", .str "setfield"] = false := by unfold leafW; decide +kernel
theorem oneW_2 : ∀ w, w ∈ oneW → inV (.str w) [.str "do", .str "say", .str "return", .str "raise"] = true := by unfold oneW; decide +kernel
theorem leafW_2 : ∀ w, w ∈ leafW → inV (.str w) [.str "do", .str "say", .str "return", .str "raise"] = false := by unfold leafW; decide +kernel
def spParts (K : PySem.W.Frag) : Sp := fun vs H Q _ => ∃ (a : Addr) (w : Str) (its : List V) (pps : List Str) (ks : List V), vs = [.ref a] ∧ SqT K H a (.str w :: its) ∧ Form K H w its pps ks ∧ ks.length ≤ 1000 ∧
  ∀ (r : Addr) (H' : Hp), Same H H' → SqT K H' r ks → Q (.ref r) H'
section
variable {P : Program} {w : World} {K : PySem.W.Frag} {mg : Str → Option Value} {base : Heap}
local macro_rules | `(tactic| walk_at "eqN") => `(tactic| refine ⟨_, rfl, rfl, _, rfl, iteN (by decide +kernel) ?_⟩)
local macro_rules | `(tactic| walk_at "eqY") => `(tactic| refine ⟨_, rfl, rfl, _, rfl, iteY (by decide +kernel) ?_⟩)
theorem ok_parts_of (T : Tx K mg) : FnOk P w K mg base CX0 1 T.d_parts_of.f T.d_parts_of.fd ["node"] (spParts K) := by
  have nd := sc_parts_of.nd
  refine T.d_parts_of.fn.ok sc_parts_of (fun vs H Q E h => ?_) (fun cdv A outer s H vs Q E hr h => ?_)
  · obtain ⟨a, w, its, pps, ks, rfl, _⟩ := h
    rfl
  · obtain ⟨a, w, its, pps, ks, rfl, hS, hF, hk, q⟩ := h
    refine ⟨_, (pss_cons (ps_set (i := 1) nd rfl (Or.inl rfl) (pe_ix ix_tup (pv 0) pe_int (fun _ _ => rfl)))
      (pss_cons (ps_if (pt_cmpR op_in_seq (pv 1) (pe_tup (pa_cons pe_str (pa_cons pe_str pa_nil))) rfl)
      (pss_one (ps_ret (pe_tup (pa_cons (pe_ix ix_tup (pv 0) pe_int (fun _ _ => rfl)) pa_nil))))
      pss_nil)
      (pss_cons (ps_if (pt_cmpR op_in_seq (pv 1) (pe_tup (pa_cons pe_str (pa_cons pe_str (pa_cons pe_str (pa_cons pe_str pa_nil))))) rfl)
      (pss_one (ps_ret (pe_tup (pa_cons (pe_ix ix_tup (pv 0) pe_int (fun _ _ => rfl)) pa_nil))))
      pss_nil)
      (pss_cons (ps_if (pt_cmpR op_eq (pv 1) pe_str (nomark _))
      (pss_one (ps_ret (pe_op op_catA (pe_op op_catA (pe_tup (pa_cons (pe_ix ix_tup (pv 0) pe_int (fun _ _ => rfl)) pa_nil)) (pe_ix ix_tup (pv 0) pe_int (fun _ _ => rfl))) (pe_ix ix_tup (pv 0) pe_int (fun _ _ => rfl)))))
      pss_nil)
      (pss_cons (ps_if (pt_cmpR op_eq (pv 1) pe_str (nomark _))
      (pss_one (ps_ret (pe_op op_catA (pe_tup (pa_cons (pe_ix ix_tup (pv 0) pe_int (fun _ _ => rfl)) pa_nil)) (pe_ix ix_tup (pv 0) pe_int (fun _ _ => rfl)))))
      pss_nil)
      (pss_cons (ps_if (pt_cmpR op_eq (pv 1) pe_str (nomark _))
      (pss_one (ps_ret (pe_op op_catA (pe_ix ix_tup (pv 0) pe_int (fun _ _ => rfl)) (pe_ix ix_tup (pv 0) pe_int (fun _ _ => rfl)))))
      pss_nil)
      (pss_cons (ps_if (pt_cmpR op_eq (pv 1) pe_str (nomark _))
      (pss_one (ps_ret (pe_op op_catA (pe_tup (pa_cons (pe_ix ix_tup (pv 0) pe_int (fun _ _ => rfl)) pa_nil)) (pe_ix ix_tup (pv 0) pe_int (fun _ _ => rfl)))))
      pss_nil)
      (pss_cons (ps_if (PW.pt (pw_or (pt_cmpR op_eq (pv 1) pe_str (nomark _)) (pw_or1 (pt_cmpR op_eq (pv 1) pe_str (nomark _)))))
      (pss_one (ps_ret (pe_ix ix_tup (pv 0) pe_int (fun _ _ => rfl))))
      pss_nil)
      (pss_cons (ps_if (pt_cmpR op_eq (pv 1) pe_str (nomark _))
      (pss_one (ps_ret (pe_ix ix_tup (pv 0) pe_int (fun _ _ => rfl))))
      pss_nil)
      (pss_one (ps_ret (pe_tup pa_nil)))))))))))), ?_⟩
    refine ⟨_, rfl, a, _, _, _, rfl, rfl, hS, at0, ?_⟩
    refine ⟨_, rfl, (by show 2 ≤ sizeLine; decide), fun p1 n1 => ⟨p1, _, rfl, .inr (SqT.of upd_same), rfl, rfl, _, rfl, ?_⟩⟩
    have s1 := same_new n1 (HO.tup [V.str "set", V.str "setfield"])
    refine iteB (fun c1 => ?_) (fun c1 => ?_)
    · have hs := s1.sqt hS
      generalize upd H p1 _ = H1 at s1 hs ⊢
      cases hF with
      | set x e => exact ⟨_, rfl, a, _, _, _, rfl, rfl, hs, at2, (by show 1 ≤ sizeLine; decide), fun p n => q p _ (s1.trans (same_new n _)) (SqT.of upd_same)⟩
      | setfield x e => exact ⟨_, rfl, a, _, _, _, rfl, rfl, hs, at2, (by show 1 ≤ sizeLine; decide), fun p n => q p _ (s1.trans (same_new n _)) (SqT.of upd_same)⟩
      | one w h e => exact absurd ((oneW_1 w h).symm.trans c1) (by decide)
      | leaf w h => exact absurd ((leafW_1 w h).symm.trans c1) (by decide)
      | _ => exact absurd c1 (by decide +kernel)
    refine ⟨_, rfl, (by show 4 ≤ sizeLine; decide), fun p2 n2 => ⟨p2, _, rfl, .inr (SqT.of upd_same), rfl, rfl, _, rfl, ?_⟩⟩
    have s2 := s1.trans (same_new n2 (HO.tup [V.str "do", V.str "say", V.str "return", V.str "raise"]))
    have hs := s2.sqt hS
    generalize upd (upd H p1 _) p2 _ = H2 at s2 hs ⊢
    refine iteB (fun c2 => ?_) (fun c2 => ?_)
    · cases hF with
      | one w h e => exact ⟨_, rfl, a, _, _, _, rfl, rfl, hs, at1, (by show 1 ≤ sizeLine; decide), fun p n => q p _ (s2.trans (same_new n _)) (SqT.of upd_same)⟩
      | leaf w h => exact absurd ((leafW_2 w h).symm.trans c2) (by decide)
      | _ => exact absurd c2 (by decide +kernel)
    cases hF with
    | set x e => exact absurd c1 (by decide +kernel)
    | setfield x e => exact absurd c1 (by decide +kernel)
    | one w h e => exact absurd ((oneW_2 w h).symm.trans c2) (by decide)
    | cond e b c xs ys h1 h2 =>
      walk_at "eqY"
      have hl : (e :: (xs ++ ys)).length ≤ 1000 := hk
      simp only [List.length_cons, List.length_append] at hl
      refine ⟨_, rfl, a, _, _, _, rfl, rfl, hs, at1, (by show 1 ≤ sizeLine; decide), fun p3 n3 => ?_⟩
      have s3 := s2.trans (same_new n3 (HO.tup [e]))
      refine ⟨_, rfl, a, _, _, _, rfl, rfl, s3.sqt hS, at2, catA (xs := [e]) (SqT.of upd_same) (s3.sqt h1) (by simp only [List.length_cons, List.length_nil]; omega) fun r3 H3 s4 h3 => ?_⟩
      refine ⟨_, rfl, a, _, _, _, rfl, rfl, (s3.trans s4).sqt hS, at3, catA h3 ((s3.trans s4).sqt h2) (by simp only [List.length_cons, List.length_nil, List.length_append]; omega) fun r4 H4 s5 h4 => q r4 H4 ((s3.trans s4).trans s5) h4⟩
    | loop e b xs h1 =>
      walk_at "eqN"
      walk_at "eqY"
      have hl : (e :: xs).length ≤ 1000 := hk
      simp only [List.length_cons] at hl
      refine ⟨_, rfl, a, _, _, _, rfl, rfl, hs, at1, (by show 1 ≤ sizeLine; decide), fun p3 n3 => ?_⟩
      have s3 := s2.trans (same_new n3 (HO.tup [e]))
      exact ⟨_, rfl, a, _, _, _, rfl, rfl, s3.sqt hS, at2, catA (xs := [e]) (SqT.of upd_same) (s3.sqt h1) (by simp only [List.length_cons, List.length_nil]; omega) fun r3 H3 s4 h3 => q r3 H3 (s3.trans s4) h3⟩
    | tri x b c xs ys h1 h2 =>
      walk_at "eqN"
      walk_at "eqN"
      walk_at "eqY"
      have hl : (xs ++ ys).length ≤ 1000 := hk
      simp only [List.length_append] at hl
      exact ⟨_, rfl, a, _, _, _, rfl, rfl, hs, at1, _, rfl, a, _, _, _, rfl, rfl, hs, at3, catA (s2.sqt h1) (s2.sqt h2) (by omega) fun r3 H3 s4 h3 => q r3 H3 (s2.trans s4) h3⟩
    | send e m b xs h1 =>
      walk_at "eqN"
      walk_at "eqN"
      walk_at "eqN"
      walk_at "eqY"
      have hl : (e :: xs).length ≤ 1000 := hk
      simp only [List.length_cons] at hl
      refine ⟨_, rfl, a, _, _, _, rfl, rfl, hs, at1, (by show 1 ≤ sizeLine; decide), fun p3 n3 => ?_⟩
      have s3 := s2.trans (same_new n3 (HO.tup [e]))
      exact ⟨_, rfl, a, _, _, _, rfl, rfl, s3.sqt hS, at3, catA (xs := [e]) (SqT.of upd_same) (s3.sqt h1) (by simp only [List.length_cons, List.length_nil]; omega) fun r3 H3 s4 h3 => q r3 H3 (s3.trans s4) h3⟩
    | up m b _ h1 =>
      walk_at "eqN"
      walk_at "eqN"
      walk_at "eqN"
      walk_at "eqN"
      refine ⟨_, rfl, rfl, _, rfl, iteY (by decide +kernel) (iteY rfl ?_)⟩
      exact ⟨_, rfl, a, _, _, _, rfl, rfl, hs, at2, q b _ s2 (s2.sqt h1)⟩
    | block p b _ _ hpl h1 h2 =>
      walk_at "eqN"
      walk_at "eqN"
      walk_at "eqN"
      walk_at "eqN"
      refine ⟨_, rfl, rfl, _, rfl, iteN (by decide +kernel) ⟨_, rfl, rfl, _, rfl, iteY (by decide +kernel) ?_⟩⟩
      exact ⟨_, rfl, a, _, _, _, rfl, rfl, hs, at2, q b _ s2 (s2.sqt h2)⟩
    | list b _ h1 =>
      walk_at "eqN"
      walk_at "eqN"
      walk_at "eqN"
      walk_at "eqN"
      refine ⟨_, rfl, rfl, _, rfl, iteN (by decide +kernel) ⟨_, rfl, rfl, _, rfl, iteN (by decide +kernel) ?_⟩⟩
      walk_at "eqY"
      exact ⟨_, rfl, a, _, _, _, rfl, rfl, hs, at1, q b _ s2 (s2.sqt h1)⟩
    | leaf w h =>
      have z : ∀ x, x ∈ leafW → decide (V.str x = V.str "if") = false ∧ decide (V.str x = V.str "while") = false ∧ decide (V.str x = V.str "try") = false ∧ decide (V.str x = V.str "send") = false ∧ decide (V.str x = V.str "up") = false ∧ decide (V.str x = V.str "block") = false ∧ decide (V.str x = V.str "list") = false := by
        unfold leafW
        decide +kernel
      obtain ⟨z1, z2, z3, z4, z5, z6, z7⟩ := z w h
      refine ⟨_, rfl, rfl, _, rfl, iteN z1 ⟨_, rfl, rfl, _, rfl, iteN z2 ⟨_, rfl, rfl, _, rfl, iteN z3 ⟨_, rfl, rfl, _, rfl, iteN z4 ⟨_, rfl, rfl, _, rfl, iteN z5 ⟨_, rfl, rfl, _, rfl, iteN z6 ⟨_, rfl, rfl, _, rfl, iteN z7 ?_⟩⟩⟩⟩⟩⟩⟩
      exact ⟨(by show 0 ≤ sizeLine; decide), fun p n => q p _ (s2.trans (same_new n _)) (SqT.of upd_same)⟩
end
end My

set_option Elab.async false
set_option linter.all false
set_option maxRecDepth 100000
set_option maxHeartbeats 4000000
namespace My
open PySem L2
/-- the deck: a list of a count, the row, what is left -/
structure Deck (H : Hp) (D R : Addr) (k : Int) (row : List Int) (m : Int) : Prop where
  d : H D = some (.lst [.int k, .ref R, .int m])
  r : H R = some (.lst (row.map V.int))
  len : row.length ≤ 5000
  lo : ∀ x, x ∈ row → 0 ≤ x ∧ x < 4294967296
theorem Deck.ne {H : Hp} {D R : Addr} {k : Int} {row : List Int} {m : Int} (h : Deck H D R k row m) : R ≠ D := ne_of h.r h.d (by
  intro z
  have z1 := HO.lst.inj z
  cases row with
  | nil => cases z1
  | cons a r =>
    cases r with
    | nil => cases z1
    | cons b r2 => simp at z1)
theorem Deck.but {H H' : Hp} {D R : Addr} {k k' : Int} {row : List Int} {m m' : Int} (h : Deck H D R k row m) (b : But D H H') (e : H' D = some (.lst [.int k', .ref R, .int m'])) : Deck H' D R k' row m' :=
  ⟨e, b R _ h.r h.ne, h.len, h.lo⟩
theorem Deck.same {H H' : Hp} {D R : Addr} {k : Int} {row : List Int} {m : Int} (h : Deck H D R k row m) (s : Same H H') : Deck H' D R k row m := ⟨s _ _ h.d, s _ _ h.r, h.len, h.lo⟩
def spNext : Sp := fun vs H Q _ => ∃ (D R : Addr) (k : Int) (row : List Int) (m : Int), vs = [.ref D] ∧ Deck H D R k row m ∧ 0 ≤ k ∧ k ≤ 1000000 ∧
  ∀ (z : Int) (H' : Hp), 0 ≤ z → Deck H' D R (k + 1) row m → But D H H' → Q (.int z) H'
theorem atIx {row : List Int} {i : Int} (h0 : 0 ≤ i) (h1 : i < (row.length : Int)) : ∃ z, atI (row.map V.int) i = some (.int z) ∧ z ∈ row := by
  have hk : i.toNat < row.length := by omega
  refine ⟨row[i.toNat], at_of (j := i.toNat) (by omega) (by rw [List.getElem?_map, List.getElem?_eq_getElem hk]; rfl), List.getElem_mem hk⟩
section
variable {P : Program} {w : World} {K : PySem.W.Frag} {mg : Str → Option Value} {base : Heap}
theorem ok_law_next (T : Tx K mg) : FnOk P w K mg base CX0 1 T.d_law_next.f T.d_law_next.fd ["_law_deck_here"] spNext := by
  have nd := sc_law_next.nd
  refine T.d_law_next.fn.ok sc_law_next (fun vs H Q E h => ?_) (fun cdv A outer s H vs Q E hr h => ?_)
  · obtain ⟨D, R, k, row, m, rfl, _⟩ := h
    rfl
  · obtain ⟨D, R, k, row, m, rfl, hd, hk0, hk1, q⟩ := h
    refine ⟨_, (pss_cons (ps_set (i := 1) nd rfl (Or.inl rfl) (pe_ix ix_list (pv 0) pe_int (fun _ _ => rfl)))
      (pss_cons (ps_asg (pe_op op_add (pv 1) pe_int) (pg_sub (pv 0) pe_int set_list))
      (pss_cons (ps_set (i := 2) nd rfl (Or.inl rfl) (pe_ix ix_list (pv 0) pe_int (fun _ _ => rfl)))
      (pss_cons (ps_if (pt_cmpR op_lt (pv 1) (pe_callB call_len_seq (by rfl) T.z_len PySem.boot_len (pa_cons (pv 2) pa_nil)) (nomark _))
      (pss_one (ps_ret (pe_ix ix_list (pv 2) (pv 1) (fun _ _ => rfl))))
      pss_nil)
      (pss_cons (ps_if (pt_cmpR op_eq (pe_callB call_len_seq (by rfl) T.z_len PySem.boot_len (pa_cons (pv 2) pa_nil)) pe_int (nomark _))
      (pss_one (ps_ret (pe_op op_mod (pe_op op_mul (pe_op op_mul (pe_op op_mul (pe_op op_add (pv 1) pe_int) (pe_op op_add (pv 1) pe_int)) (pe_op op_add (pv 1) pe_int)) pe_int) pe_int)))
      pss_nil)
      (pss_cons (ps_set (i := 3) nd rfl (Or.inl rfl) (pe_op op_add (pe_ix ix_list (pv 2) (pe_op op_modN (pv 1) (pe_callB call_len_seq (by rfl) T.z_len PySem.boot_len (pa_cons (pv 2) pa_nil))) (fun _ _ => rfl)) (pe_op op_mul pe_int (pe_ix ix_list (pv 2) (pe_op op_modN (pe_op op_mul (pv 1) pe_int) (pe_callB call_len_seq (by rfl) T.z_len PySem.boot_len (pa_cons (pv 2) pa_nil))) (fun _ _ => rfl)))))
      (pss_cons (ps_set (i := 3) nd rfl (Or.inl rfl) (pe_op op_add (pe_op op_add (pv 3) (pe_op op_mul (pe_op op_mul (pv 1) (pv 1)) pe_int)) pe_int))
      (pss_one (ps_ret (pe_op op_mod (pe_op op_mul (pv 3) (pv 3)) pe_int)))))))))), ?_⟩
    refine ⟨_, rfl, D, _, _, _, rfl, rfl, SqL.of hd.d, at0, ?_⟩
    refine ⟨_, rfl, _, _, rfl, rfl, _, rfl, D, _, _, 0, rfl, rfl, hd.d, rfl, ?_⟩
    have b1 : But D H (upd H D (.lst ([V.int k, V.ref R, V.int m].set 0 (V.int (k + 1))))) := But.set _
    have d1 : Deck (upd H D (.lst ([V.int k, V.ref R, V.int m].set 0 (V.int (k + 1))))) D R (k + 1) row m := hd.but b1 upd_same
    generalize upd H D (.lst ([V.int k, V.ref R, V.int m].set 0 (V.int (k + 1)))) = H1 at b1 d1 ⊢
    refine ⟨_, rfl, D, _, _, _, rfl, rfl, SqL.of d1.d, at1, ?_⟩
    have q' : ∀ z : Int, 0 ≤ z → Q (.int z) H1 := fun z h => q z H1 h d1 b1
    have hlen := hd.len
    refine ⟨_, rfl, _, rfl, R, _, rfl, .inl (SqL.of d1.r), _, _, rfl, rfl, _, rfl, ?_⟩
    refine iteB (fun c => ?_) (fun c => ?_)
    · have c' := of_decide_eq_true c
      rw [List.length_map] at c'
      obtain ⟨z, hz, hm⟩ := atIx (row := row) hk0 c'
      exact ⟨_, rfl, _, rfl, R, _, _, _, rfl, rfl, SqL.of d1.r, hz, q' z (hd.lo z hm).1⟩
    have c' := of_decide_eq_false c
    rw [List.length_map] at c'
    refine ⟨_, rfl, R, _, rfl, .inl (SqL.of d1.r), rfl, _, rfl, ?_⟩
    refine iteB (fun c2 => ?_) (fun c2 => ?_)
    · refine ⟨_, rfl, _, _, rfl, rfl, _, rfl, _, _, rfl, rfl, _, _, rfl, rfl, .inl ⟨by omega, by omega⟩, _, rfl, _, _, rfl, rfl, _, _, rfl, rfl, .inr ⟨by omega, by omega⟩, _, _, rfl, rfl, .inr ⟨by decide, by decide⟩, _, _, rfl, rfl, (by show (0 : Int) < 2147483629; decide), ?_⟩
      exact q' _ (Int.emod_nonneg _ (by decide))
    have hpos : 0 < row.length := by
      have c3 := of_decide_eq_false c2
      rcases Nat.eq_zero_or_pos row.length with e | e
      · exfalso
        apply c3
        rw [List.length_map, e]
        rfl
      · exact e
    have hl : ((row.map V.int).length : Int) = (row.length : Int) := by rw [List.length_map]
    have i1 : 0 ≤ k.fmod ((row.map V.int).length : Int) ∧ k.fmod ((row.map V.int).length : Int) < (row.length : Int) := by
      rw [hl]
      exact ⟨Int.fmod_nonneg_of_pos _ (by omega), Int.fmod_lt_of_pos _ (by omega)⟩
    have i2 : 0 ≤ (k * 5).fmod ((row.map V.int).length : Int) ∧ (k * 5).fmod ((row.map V.int).length : Int) < (row.length : Int) := by
      rw [hl]
      exact ⟨Int.fmod_nonneg_of_pos _ (by omega), Int.fmod_lt_of_pos _ (by omega)⟩
    obtain ⟨z1, hz1, hm1⟩ := atIx (row := row) i1.1 i1.2
    obtain ⟨z2, hz2, hm2⟩ := atIx (row := row) i2.1 i2.2
    have l1 := hd.lo z1 hm1
    have l2 := hd.lo z2 hm2
    have ne0 : ((row.map V.int).length : Int) ≠ 0 := by omega
    refine ⟨_, rfl, _, rfl, _, rfl, R, _, rfl, .inl (SqL.of d1.r), _, _, rfl, rfl, ne0, R, _, _, _, rfl, rfl, SqL.of d1.r, hz1, ?_⟩
    refine ⟨_, rfl, _, rfl, _, _, rfl, rfl, .inl ⟨by omega, by omega⟩, _, rfl, R, _, rfl, .inl (SqL.of d1.r), _, _, rfl, rfl, ne0, R, _, _, _, rfl, rfl, SqL.of d1.r, hz2, ?_⟩
    refine ⟨_, _, rfl, rfl, .inl ⟨by decide, by decide⟩, _, _, rfl, rfl, ?_⟩
    have kk : 0 ≤ k * k ∧ k * k ≤ 1000000000000 := ⟨Int.mul_nonneg hk0 hk0, by
      have := Int.mul_le_mul hk1 hk1 hk0 (by decide)
      omega⟩
    refine ⟨_, rfl, _, rfl, _, rfl, _, _, rfl, rfl, .inl ⟨by omega, by omega⟩, _, _, rfl, rfl, .inr ⟨by decide, by decide⟩, _, _, rfl, rfl, _, _, rfl, rfl, ?_⟩
    refine ⟨_, rfl, _, rfl, _, _, rfl, rfl, .inl ⟨by omega, by omega⟩, _, _, rfl, rfl, (by show (0 : Int) < 2147483629; decide), ?_⟩
    exact q' _ (Int.emod_nonneg _ (by decide))
end
end My

set_option Elab.async false
set_option linter.all false
set_option maxRecDepth 100000
set_option maxHeartbeats 4000000
namespace My
open PySem L2
theorem op_mul_str {X : Cx} : OpR X (binaryOp .Mult) (fun x y H Q => ∃ i n, x = .str i ∧ y = .int n ∧ MulOk i n ∧ Q (.str (Txt.mul i n)) H) := by
  intro pins s σ H x y v u Q I rx ry h
  obtain ⟨i, n, rfl, rfl, hm, q⟩ := h
  obtain ⟨t, rfl⟩ := rx
  obtain ⟨t', rfl⟩ := ry
  exact SB.mul hm fun t' tk => ⟨.str (Txt.mul i n), H, I.tok _, ⟨_, rfl⟩, q⟩
theorem mulOk40 {x : Str} (h : x.length = 1) : MulOk x 40 := by
  refine ⟨by decide, fun _ _ => ?_, fun _ _ => ?_⟩
  · rw [h]; decide
  · rw [h]; decide +kernel
theorem same_mut {H H1 : Hp} {p : Addr} {o : HO} (e : Same H H1) (h : H p = none) : Same H (upd H1 p o) := fun a u ha => by
  rw [upd_ne (ne_of_none ha h)]
  exact e a u ha
def isS : V → Bool
  | .str x => PySem.PyData.canLay0 (.str x)
  | _ => false
theorem isS_shape : ∀ {v : V}, isS v = true → ∃ x, v = .str x ∧ PySem.PyData.canLay0 (.str x) = true
  | .str x, h => ⟨x, rfl, h⟩
def isZ : V → Bool
  | .str x => PySem.PyData.canLay0 (.str x) && decide (x ≠ "zz")
  | _ => false
theorem isZ_shape : ∀ {v : V}, isZ v = true → ∃ x, v = .str x ∧ PySem.PyData.canLay0 (.str x) = true ∧ x ≠ "zz"
  | .str x, h => by
    obtain ⟨h1, h2⟩ := Bool.and_eq_true_iff.mp h
    exact ⟨x, rfl, h1, of_decide_eq_true h2⟩
def isI : V → Bool
  | .int _ => true
  | _ => false
theorem isI_shape : ∀ {v : V}, isI v = true → ∃ x, v = .int x
  | .int x, h => ⟨x, rfl⟩
theorem pick {xs : List V} {p : V → Bool} (h : xs.all p = true) {d : Int} {n : Nat} (hn : xs.length = n) (hp : 0 < n) : ∃ v, atI xs (d % (n : Int)) = some v ∧ p v = true := by
  have h0 : 0 ≤ d % (n : Int) := Int.emod_nonneg _ (by omega)
  have h1 : d % (n : Int) < (n : Int) := Int.emod_lt_of_pos _ (by omega)
  have hk : (d % (n : Int)).toNat < xs.length := by omega
  exact ⟨xs[(d % (n : Int)).toNat], at_of (j := (d % (n : Int)).toNat) (by omega) (List.getElem?_eq_getElem hk), List.all_eq_true.mp h _ (List.getElem_mem hk)⟩
def spStr : Sp := fun vs H Q _ => ∃ d : Int, vs = [.int d] ∧ ∀ (x : Str) (H' : Hp), PySem.PyData.canLay0 (.str x) = true → x ≠ "zz" → Same H H' → Q (.str x) H'
def spLeaf (K : PySem.W.Frag) : Sp := fun vs H Q _ => ∃ d : Int, vs = [.int d] ∧ ∀ (a : Addr) (w : Str) (its : List V) (H' : Hp), Same H H' → SqT K H' a (.str w :: its) → w ∈ leafW → (∀ x, x ∈ its → Dok K H' 0 x) → Q (.ref a) H'
def spDeck (K : PySem.W.Frag) : Sp := fun vs H Q _ => ∃ (a : Addr) (ns : List Int), vs = [.ref a] ∧ SqL K H a (ns.map V.int) ∧ ns.length ≤ 63 ∧
  ∀ (D R : Addr) (row : List Int) (H' : Hp), Same H H' → H D = none → H R = none → Deck H' D R 0 row 70 → Q (.ref D) H'
section
variable {P : Program} {w : World} {K : PySem.W.Frag} {mg : Str → Option Value} {base : Heap}
theorem ok_law_word (T : Tx K mg) : FnOk P w K mg base CX0 1 T.d_law_word.f T.d_law_word.fd ["_law_draw"] spStr := by
  have nd := sc_law_word.nd
  refine T.d_law_word.fn.ok sc_law_word (fun vs H Q E h => ?_) (fun cdv A outer s H vs Q E hr h => ?_)
  · obtain ⟨d, rfl, _⟩ := h
    rfl
  · obtain ⟨d, rfl, q⟩ := h
    refine ⟨_, (pss_one (ps_ret (pe_ix ix_list (pe_lst (pa_cons pe_str (pa_cons pe_str (pa_cons pe_str (pa_cons pe_str (pa_cons pe_str (pa_cons pe_str (pa_cons pe_str (pa_cons pe_str (pa_cons pe_str (pa_cons pe_str pa_nil))))))))))) (pe_op op_mod (pv 0) pe_int) (fun _ _ => rfl)))), ?_⟩
    refine ⟨(by show 10 ≤ sizeLine; decide), fun p n => ?_⟩
    obtain ⟨v, hv, hp⟩ := pick (xs := [V.str "a", V.str "b", V.str "x1", V.str "sum", V.str "longnameofal", V.str "k9", V.str "z", V.str "kinds", V.str "news", V.str "e"]) (p := isZ) (d := d) (n := 10) (by decide +kernel) rfl (by decide)
    obtain ⟨x, rfl, hx, hz⟩ := isZ_shape hp
    exact ⟨_, rfl, _, _, rfl, rfl, (by show (0 : Int) < 10; decide), p, _, _, _, rfl, rfl, SqL.of upd_same, hv, q x _ hx hz (same_new n _)⟩
theorem ok_law_name (T : Tx K mg) : FnOk P w K mg base CX0 1 T.d_law_name.f T.d_law_name.fd ["_law_draw"] spStr := by
  have nd := sc_law_name.nd
  refine T.d_law_name.fn.ok sc_law_name (fun vs H Q E h => ?_) (fun cdv A outer s H vs Q E hr h => ?_)
  · obtain ⟨d, rfl, _⟩ := h
    rfl
  · obtain ⟨d, rfl, q⟩ := h
    refine ⟨_, (pss_one (ps_ret (pe_ix ix_list (pe_lst (pa_cons pe_str (pa_cons pe_str (pa_cons pe_str (pa_cons pe_str (pa_cons pe_str (pa_cons pe_str pa_nil))))))) (pe_op op_mod (pv 0) pe_int) (fun _ _ => rfl)))), ?_⟩
    refine ⟨(by show 6 ≤ sizeLine; decide), fun p n => ?_⟩
    obtain ⟨v, hv, hp⟩ := pick (xs := [V.str "Point", V.str "A", V.str "Cell9", V.str "Thing", V.str "LongNameOfIt", V.str "ZZ"]) (p := isZ) (d := d) (n := 6) (by decide +kernel) rfl (by decide)
    obtain ⟨x, rfl, hx, hz⟩ := isZ_shape hp
    exact ⟨_, rfl, _, _, rfl, rfl, (by show (0 : Int) < 6; decide), p, _, _, _, rfl, rfl, SqL.of upd_same, hv, q x _ hx hz (same_new n _)⟩
theorem ok_law_leaf (T : Tx K mg) : FnOk P w K mg base CX0 2 T.d_law_leaf.f T.d_law_leaf.fd ["_law_draw"] (spLeaf K) := by
  have nd := sc_law_leaf.nd
  have G_law_word := ok_law_word (P := P) (w := w) (base := base) T
  have G_law_name := ok_law_name (P := P) (w := w) (base := base) T
  refine T.d_law_leaf.fn.ok sc_law_leaf (fun vs H Q E h => ?_) (fun cdv A outer s H vs Q E hr h => ?_)
  · obtain ⟨d, rfl, _⟩ := h
    rfl
  · obtain ⟨d, rfl, q⟩ := h
    have h_law_word := hr
    have h_law_name := hr
    refine ⟨_, (pss_cons (ps_set (i := 1) nd rfl (Or.inl rfl) (pe_op op_mod (pv 0) pe_int))
      (pss_cons (ps_set (i := 2) nd rfl (Or.inl rfl) (pe_op op_fdiv (pv 0) pe_int))
      (pss_cons (ps_if (pt_cmpR op_eq (pv 1) pe_int (nomark _))
      (pss_cons (ps_set (i := 3) nd rfl (Or.inl rfl) (pe_lst (pa_cons pe_int (pa_cons pe_int (pa_cons (pe_un un_neg pe_int) (pa_cons pe_int (pa_cons (pe_op op_sub (pe_op op_pow pe_int pe_int) pe_int) (pa_cons (pe_op op_sub pe_int (pe_op op_pow pe_int pe_int)) (pa_cons (pe_op op_pow pe_int pe_int) (pa_cons (pe_un un_neg pe_int) pa_nil))))))))))
      (pss_one (ps_ret (pe_tup (pa_cons pe_str (pa_cons (pe_ix ix_list (pv 3) (pe_op op_mod (pv 2) pe_int) (fun _ _ => rfl)) pa_nil))))))
      pss_nil)
      (pss_cons (ps_if (pt_cmpR op_eq (pv 1) pe_int (nomark _))
      (pss_one (ps_ret (pe_tup (pa_cons pe_str (pa_cons (pe_ix ix_list (pe_lst (pa_cons pe_str (pa_cons pe_str (pa_cons pe_str (pa_cons (pe_op op_mul_str pe_str pe_int) (pa_cons pe_str (pa_cons pe_str pa_nil))))))) (pe_op op_mod (pv 2) pe_int) (fun _ _ => rfl)) pa_nil)))))
      pss_nil)
      (pss_cons (ps_if (pt_cmpR op_eq (pv 1) pe_int (nomark _))
      (pss_one (ps_ret (pe_tup (pa_cons pe_str (pa_cons (pe_cmpR op_eq (pe_op op_mod (pv 2) pe_int) pe_int (nomark _)) pa_nil)))))
      pss_nil)
      (pss_cons (ps_if (pt_cmpR op_eq (pv 1) pe_int (nomark _))
      (pss_one (ps_ret (pe_tup (pa_cons pe_str pa_nil))))
      pss_nil)
      (pss_cons (ps_if (pt_cmpR op_eq (pv 1) pe_int (nomark _))
      (pss_one (ps_ret (pe_tup (pa_cons pe_str pa_nil))))
      pss_nil)
      (pss_cons (ps_if (pt_cmpR op_eq (pv 1) pe_int (nomark _))
      (pss_one (ps_ret (pe_tup (pa_cons pe_str (pa_cons (pe_call G_law_word h_law_word rfl T.d_law_word.m T.d_law_word.kp T.d_law_word.b .nil pass0 (pa_cons (pv 2) pa_nil)) pa_nil)))))
      pss_nil)
      (pss_cons (ps_if (pt_cmpR op_eq (pv 1) pe_int (nomark _))
      (pss_one (ps_ret (pe_tup (pa_cons pe_str (pa_cons (pe_call G_law_word h_law_word rfl T.d_law_word.m T.d_law_word.kp T.d_law_word.b .nil pass0 (pa_cons (pv 2) pa_nil)) pa_nil)))))
      pss_nil)
      (pss_one (ps_ret (pe_tup (pa_cons pe_str (pa_cons (pe_call G_law_name h_law_name rfl T.d_law_name.m T.d_law_name.kp T.d_law_name.b .nil pass0 (pa_cons (pv 2) pa_nil)) pa_nil)))))))))))))), ?_⟩
    refine ⟨_, rfl, _, _, rfl, rfl, (by show (0 : Int) < 8; decide), ?_⟩
    refine ⟨_, rfl, _, _, rfl, rfl, ⟨by decide, by decide⟩, ?_⟩
    refine ⟨_, rfl, rfl, _, rfl, iteB (fun c => ?_) (fun c => ?_)⟩
    · refine ⟨_, rfl, _, _, rfl, rfl, ⟨by decide, by decide, by decide⟩, _, _, rfl, rfl, _, _, rfl, rfl, ⟨by decide, by decide, by decide⟩, _, _, rfl, rfl, _, _, rfl, rfl, ⟨by decide, by decide, by decide⟩, _, rfl, (by show 8 ≤ sizeLine; decide), fun p n => ?_⟩
      obtain ⟨v, hv, hp⟩ := pick (xs := [V.int 0, V.int 7, V.int (-1), V.int 42, V.int (10 ^ (12 : Int).toNat - 1), V.int (1 - 10 ^ (12 : Int).toNat), V.int (10 ^ (11 : Int).toNat), V.int (-90)]) (p := isI) (d := d / 8) (n := 8) rfl rfl (by decide)
      obtain ⟨x, rfl⟩ := isI_shape hp
      exact ⟨_, rfl, _, rfl, _, _, rfl, rfl, (by show (0 : Int) < 8; decide), p, _, _, _, rfl, rfl, SqL.of upd_same, hv, (by show 2 ≤ sizeLine; decide), fun r nr => q r _ _ _ ((same_new n _).trans (same_new nr _)) (SqT.of upd_same) (by decide +kernel) (fun y hy => by
        rw [List.mem_singleton] at hy; subst hy; exact Dok.int)⟩
    refine ⟨_, rfl, rfl, _, rfl, iteB (fun c => ?_) (fun c => ?_)⟩
    · refine ⟨_, _, rfl, rfl, mulOk40 (by decide +kernel), (by show 6 ≤ sizeLine; decide), fun p n => ?_⟩
      obtain ⟨v, hv, hp⟩ := pick (xs := [V.str "", V.str "a", V.str "Hello_9", V.str (Txt.mul "x" 40), V.str "_", V.str "nomethod"]) (p := isS) (d := d / 8) (n := 6) (by decide +kernel) rfl (by decide)
      obtain ⟨x, rfl, hx⟩ := isS_shape hp
      exact ⟨_, rfl, _, _, rfl, rfl, (by show (0 : Int) < 6; decide), p, _, _, _, rfl, rfl, SqL.of upd_same, hv, (by show 2 ≤ sizeLine; decide), fun r nr => q r _ _ _ ((same_new n _).trans (same_new nr _)) (SqT.of upd_same) (by decide +kernel) (fun y hy => by
        rw [List.mem_singleton] at hy; subst hy; exact Dok.str hx)⟩
    refine ⟨_, rfl, rfl, _, rfl, iteB (fun c => ?_) (fun c => ?_)⟩
    · exact ⟨_, rfl, _, _, rfl, rfl, (by show (0 : Int) < 2; decide), rfl, (by show 2 ≤ sizeLine; decide), fun r nr => q r _ _ _ (same_new nr _) (SqT.of upd_same) (by decide +kernel) (fun y hy => by
        rw [List.mem_singleton] at hy; subst hy; exact Dok.bl)⟩
    refine ⟨_, rfl, rfl, _, rfl, iteB (fun c => ?_) (fun c => ?_)⟩
    · exact ⟨(by show 1 ≤ sizeLine; decide), fun r nr => q r _ _ _ (same_new nr _) (SqT.of upd_same) (by decide +kernel) (fun y hy => by simp at hy)⟩
    refine ⟨_, rfl, rfl, _, rfl, iteB (fun c => ?_) (fun c => ?_)⟩
    · exact ⟨(by show 1 ≤ sizeLine; decide), fun r nr => q r _ _ _ (same_new nr _) (SqT.of upd_same) (by decide +kernel) (fun y hy => by simp at hy)⟩
    refine ⟨_, rfl, rfl, _, rfl, iteB (fun c => ?_) (fun c => ?_)⟩
    · exact ⟨_, rfl, _, rfl, fun x H' hx _ s' => ⟨(by show 2 ≤ sizeLine; decide), fun r nr => q r _ _ _ (s'.trans (same_new nr _)) (SqT.of upd_same) (by decide +kernel) (fun y hy => by
        rw [List.mem_singleton] at hy; subst hy; exact Dok.str hx)⟩⟩
    refine ⟨_, rfl, rfl, _, rfl, iteB (fun c => ?_) (fun c => ?_)⟩
    · exact ⟨_, rfl, _, rfl, fun x H' hx _ s' => ⟨(by show 2 ≤ sizeLine; decide), fun r nr => q r _ _ _ (s'.trans (same_new nr _)) (SqT.of upd_same) (by decide +kernel) (fun y hy => by
        rw [List.mem_singleton] at hy; subst hy; exact Dok.str hx)⟩⟩
    · exact ⟨_, rfl, _, rfl, fun x H' hx _ s' => ⟨(by show 2 ≤ sizeLine; decide), fun r nr => q r _ _ _ (s'.trans (same_new nr _)) (SqT.of upd_same) (by decide +kernel) (fun y hy => by
        rw [List.mem_singleton] at hy; subst hy; exact Dok.str hx)⟩⟩
end
end My

set_option Elab.async false
set_option linter.all false
set_option maxRecDepth 100000
set_option maxHeartbeats 4000000
namespace My
open PySem L2
theorem row_snoc {row : List Int} {x : Int} (h : ∀ y, y ∈ row → 0 ≤ y ∧ y < 4294967296) (h0 : 0 ≤ x) (h1 : x < 4294967296) : ∀ y, y ∈ row ++ [x] → 0 ≤ y ∧ y < 4294967296 := fun y hy => by
  rcases List.mem_append.mp hy with e | e
  · exact h y e
  · rw [List.mem_singleton] at e
    subst e
    exact ⟨h0, h1⟩
section
variable {P : Program} {w : World} {K : PySem.W.Frag} {mg : Str → Option Value} {base : Heap}
theorem ok_law_deck (T : Tx K mg) : FnOk P w K mg base CX0 1 T.d_law_deck.f T.d_law_deck.fd ["_law_script"] (spDeck K) := by
  have nd := sc_law_deck.nd
  refine T.d_law_deck.fn.ok sc_law_deck (fun vs H Q E h => ?_) (fun cdv A outer s H vs Q E hr h => ?_)
  · obtain ⟨a, ns, rfl, _⟩ := h
    rfl
  · obtain ⟨a, ns, rfl, hS, hl, q⟩ := h
    refine ⟨_, (pss_cons (ps_set (i := 1) nd rfl (Or.inl rfl) (pe_lst pa_nil))
      (pss_cons (ps_for PassesOwn.never rfl (pi_range1 (by rfl) T.z_range (pa_cons (pe_callB (call_min2 rfl) (by rfl) T.z_min (by decide +kernel) (pa_cons (pe_callB call_len_seq (by rfl) T.z_len PySem.boot_len (pa_cons (pv 0) pa_nil)) (pa_cons pe_int pa_nil))) pa_nil)) (pg_name (i := 2) nd rfl (Or.inl rfl))
      (pss_cons (ps_set (i := 3) nd rfl (Or.inl rfl) (pe_ix ix_list (pv 0) (pv 2) (fun _ _ => rfl)))
      (pss_one (ps_if (pt_cmpR op_ge (pv 3) (pe_op op_pow pe_int pe_int) (nomark _))
      (pss_one (ps_for PassesOwn.never rfl (pi_range1 (by rfl) T.z_range (pa_cons pe_int pa_nil)) (pg_name (i := 4) nd rfl (Or.inl rfl))
      (pss_one (ps_if (pt_cmpR op_gt (pv 3) pe_int (nomark _))
      (pss_cons (ps_expr (pe_bm PySem.F.plainAttrs_list PySem.F.slot_list_append PySem.F.type_list_append mt_append (pv 1) (pa_cons (pe_op op_mod (pv 3) pe_int) pa_nil)))
      (pss_one (ps_set (i := 3) nd rfl (Or.inl rfl) (pe_op op_fdiv (pv 3) pe_int))))
      pss_nil))))
      (pss_cons (ps_set (i := 5) nd rfl (Or.inl rfl) (pe_op op_add (pe_op op_add (pe_op op_mul (pv 3) pe_int) (pe_op op_mul (pe_op op_mul (pe_op op_add (pv 2) pe_int) (pe_op op_add (pv 2) pe_int)) pe_int)) pe_int))
      (pss_cons (ps_set (i := 5) nd rfl (Or.inl rfl) (pe_op op_mod (pv 5) pe_int))
      (pss_one (ps_expr (pe_bm PySem.F.plainAttrs_list PySem.F.slot_list_append PySem.F.type_list_append mt_append (pv 1) (pa_cons (pe_op op_mod (pe_op op_mul (pv 5) (pv 5)) pe_int) pa_nil))))))))))
      (pss_one (ps_ret (pe_lst (pa_cons pe_int (pa_cons (pv 1) (pa_cons pe_int pa_nil)))))))), ?_⟩
    refine ⟨(by show 0 ≤ sizeLine; decide), fun R nR => ?_⟩
    have s1 := same_new nR (HO.lst [])
    have hlm : ((ns.map V.int).length : Int) = (ns.length : Int) := by rw [List.length_map]
    refine ⟨_, rfl, a, _, rfl, .inl (s1.seq hS), _, _, rfl, _, rfl, by split <;> omega, by split <;> omega,
      for_range (lo := 0) (fun i σ H2 => ∃ (row : List Int) (v2 v3 v4 v5 : Option V), σ = [some (.ref a), some (.ref R), v2, v3, v4, v5] ∧ Same H H2 ∧ H2 R = some (.lst (row.map V.int)) ∧ row.length ≤ 60 * i ∧ i ≤ 63 ∧ ∀ x, x ∈ row → 0 ≤ x ∧ x < 4294967296)
        ⟨[], none, none, none, none, rfl, s1, upd_same, Nat.zero_le _, by decide, fun x hx => by simp at hx⟩ ?_ ?_⟩
    · rintro i σ H2 hi ⟨row, v2, v3, v4, v5, rfl, s2, hR, hrl, hi63, hb⟩
      have hin : i < ns.length ∧ i < 63 := by
        rw [hlm] at hi
        split at hi <;> omega
      obtain ⟨z, hz, hm⟩ := atIx (row := ns) (i := 0 + (i : Int)) (by omega) (by omega)
      refine ⟨_, rfl, _, rfl, a, _, _, _, rfl, rfl, s2.seq hS, hz, ?_⟩
      refine ⟨_, rfl, _, _, rfl, rfl, ⟨by decide, by decide, by decide⟩, _, _, rfl, rfl, _, rfl, iteB (fun c => ?_) (fun c => ?_)⟩
      · refine ⟨60, rfl, by decide, by decide, for_range (lo := 0) (n := 60) (fun j σ H3 => ∃ (row' : List Int) (z' : Int) (v4 : Option V), σ = [some (.ref a), some (.ref R), some (.int (0 + (i : Int))), some (.int z'), v4, v5] ∧ Same H H3 ∧ H3 R = some (.lst (row'.map V.int)) ∧ row'.length ≤ 60 * i + j ∧ ∀ x, x ∈ row' → 0 ≤ x ∧ x < 4294967296)
          ⟨row, z, v4, rfl, s2, hR, hrl, hb⟩ ?_ ?_⟩
        · rintro j σ H3 hj ⟨row', z', v4', rfl, s3, hR3, hrl3, hb3⟩
          refine ⟨_, rfl, _, _, rfl, rfl, _, rfl, iteB (fun c2 => ?_) (fun c2 => ?_)⟩
          · refine ⟨_, rfl, .inl ⟨rfl, _, SqL.of hR3⟩, _, rfl, _, _, rfl, rfl, (by show (0 : Int) < 1000000; decide), R, _, _, rfl, rfl, hR3, szl (by rw [List.length_map]; omega), ?_⟩
            refine ⟨_, rfl, _, _, rfl, rfl, ⟨by decide, by decide⟩, ?_⟩
            refine ⟨row' ++ [z' % 1000000], z' / 1000000, some (.int (0 + (j : Int))), rfl, same_mut s3 nR, by rw [upd_same, List.map_append]; rfl, by rw [List.length_append, List.length_singleton]; omega, row_snoc hb3 (Int.emod_nonneg _ (by decide)) ?_⟩
            have := Int.emod_lt_of_pos z' (show (0 : Int) < 1000000 by decide)
            omega
          · exact ⟨row', z', _, rfl, s3, hR3, by omega, hb3⟩
        · rintro σ H3 ⟨row', z', v4', rfl, s3, hR3, hrl3, hb3⟩
          exact ⟨row', _, _, _, _, rfl, s3, hR3, by omega, by omega, hb3⟩
      · refine ⟨_, rfl, _, _, rfl, rfl, .inr ⟨by decide, by decide⟩, _, rfl, _, _, rfl, rfl, _, rfl, _, _, rfl, rfl, _, _, rfl, rfl, .inl ⟨by omega, by omega⟩, _, _, rfl, rfl, .inr ⟨by decide, by decide⟩, _, _, rfl, rfl, _, _, rfl, rfl, ?_⟩
        refine ⟨_, rfl, _, _, rfl, rfl, (by show (0 : Int) < 2147483647; decide), ?_⟩
        obtain ⟨y, hy⟩ : ∃ y, (z * 48271 + (0 + (i : Int) + 1) * (0 + (i : Int) + 1) * 7919 + 11) % 2147483647 = y := ⟨_, rfl⟩
        have y0 : 0 ≤ y := by rw [← hy]; exact Int.emod_nonneg _ (by decide)
        have y1 : y < 2147483647 := by rw [← hy]; exact Int.emod_lt_of_pos _ (by decide)
        refine ⟨_, rfl, .inl ⟨rfl, _, SqL.of hR⟩, _, rfl, _, rfl, _, _, rfl, rfl, .inl ⟨by omega, by omega⟩, _, _, rfl, rfl, (by show (0 : Int) < 2147483629; decide), R, _, _, rfl, rfl, hR, szl (by rw [List.length_map]; omega), ?_⟩
        refine ⟨row ++ [y * y % 2147483629], _, _, _, _, rfl, same_mut s2 nR, by rw [upd_same, List.map_append, ← hy]; rfl, by rw [List.length_append, List.length_singleton]; omega, by omega, row_snoc hb (Int.emod_nonneg _ (by decide)) ?_⟩
        have := Int.emod_lt_of_pos (y * y) (show (0 : Int) < 2147483629 by decide)
        omega
    · rintro σ H2 ⟨row, v2, v3, v4, v5, rfl, s2, hR, hrl, hi63, hb⟩
      refine ⟨_, rfl, (by show 3 ≤ sizeLine; decide), fun D nD => q D R row _ (s2.trans (same_new nD _)) (s2.free nD) nR ⟨upd_same, ?_, by omega, hb⟩⟩
      rw [upd_ne (ne_of_none hR nD)]
      exact hR
end
end My

set_option Elab.async false
set_option linter.all false
set_option maxRecDepth 100000
set_option maxHeartbeats 4000000
namespace My
open PySem L2
/-- what one draw of a tree keeps: count and rest together, how low the rest comes -/
structure Drawn (K : PySem.W.Frag) (D R : Addr) (row : List Int) (k m : Int) (H H' : Hp) (k' m' : Int) : Prop where
  deck : Deck H' D R k' row m'
  sum : k' + m' = k + m
  k0 : 0 ≤ k'
  but : But D H H'
structure DeckOk (H : Hp) (D R : Addr) (k : Int) (row : List Int) (m l : Int) : Prop where
  deck : Deck H D R k row m
  k0 : 0 ≤ k
  sum : k + m ≤ 100
  low : l ≤ m
  low0 : -400 ≤ l
def spE (K : PySem.W.Frag) (N : Nat) : Sp := fun vs H Q _ => ∃ (D R : Addr) (k : Int) (row : List Int) (m : Int) (n : Nat), N = n + 1 ∧ n ≤ 12 ∧ vs = [.ref D, .int n] ∧ DeckOk H D R k row m (-400 + 20 * n) ∧
  ∀ (t : Nd) (k' m' : Int) (H' : Hp), Drawn K D R row k m H H' k' m' → NdG K H' t → Dok K H' (3 * n + 1) t.v → (size t : Int) = m - m' → min m (-(8 * n)) - 1 ≤ m' → Q t.v H'
def spS (K : PySem.W.Frag) (N : Nat) : Sp := fun vs H Q _ => ∃ (D R : Addr) (k : Int) (row : List Int) (m : Int) (n : Nat), N = n + 1 ∧ n ≤ 12 ∧ vs = [.ref D, .int n] ∧ DeckOk H D R k row m (-399 + 20 * n) ∧
  ∀ (t : Nd) (k' m' : Int) (H' : Hp), Drawn K D R row k m H H' k' m' → NdG K H' t → Dok K H' (3 * n + 2) t.v → (size t : Int) = m - m' → min m (-(8 * n)) - 2 ≤ m' → Q t.v H'
def spEs (K : PySem.W.Frag) (N : Nat) : Sp := fun vs H Q _ => ∃ (D R : Addr) (k : Int) (row : List Int) (m : Int) (n c : Nat), N = n + 1 ∧ n ≤ 12 ∧ c ≤ 4 ∧ vs = [.ref D, .int c, .int n] ∧ DeckOk H D R k row m (-396 + 20 * n) ∧
  ∀ (r : Addr) (ts : List Nd) (k' m' : Int) (H' : Hp), Drawn K D R row k m H H' k' m' → SqT K H' r (ts.map Nd.v) → ts.length = c → (∀ t, t ∈ ts → NdG K H' t ∧ Dok K H' (3 * n + 1) t.v) → (sizeL ts : Int) = m - m' → min m (-(8 * n)) - c ≤ m' → Q (.ref r) H'
def spB (K : PySem.W.Frag) (N : Nat) : Sp := fun vs H Q _ => ∃ (D R : Addr) (k : Int) (row : List Int) (m : Int) (n c : Nat), N = n + 1 ∧ n ≤ 12 ∧ c ≤ 4 ∧ vs = [.ref D, .int c, .int n] ∧ DeckOk H D R k row m (-391 + 20 * n) ∧
  ∀ (r : Addr) (ts : List Nd) (k' m' : Int) (H' : Hp), Drawn K D R row k m H H' k' m' → SqT K H' r (ts.map Nd.v) → ts.length = c → (∀ t, t ∈ ts → NdG K H' t ∧ Dok K H' (3 * n + 2) t.v) → (sizeL ts : Int) = m - m' → min m (-(8 * n)) - 2 * c ≤ m' → Q (.ref r) H'
theorem Drawn.ok {K : PySem.W.Frag} {D R : Addr} {row : List Int} {k m k' m' : Int} {H H' : Hp} (d : Drawn K D R row k m H H' k' m') {l : Int} (o : DeckOk H D R k row m l) (l' : Int) (h : l' ≤ m') (h0 : -400 ≤ l') : DeckOk H' D R k' row m' l' :=
  ⟨d.deck, d.k0, by have := d.sum; have := o.sum; omega, h, h0⟩
theorem Drawn.trans {K : PySem.W.Frag} {D R : Addr} {row : List Int} {k m k1 m1 k2 m2 : Int} {H H1 H2 : Hp} (a : Drawn K D R row k m H H1 k1 m1) (b : Drawn K D R row k1 m1 H1 H2 k2 m2) : Drawn K D R row k m H H2 k2 m2 :=
  ⟨b.deck, by have := a.sum; have := b.sum; omega, b.k0, a.but.trans b.but⟩
theorem Drawn.same {K : PySem.W.Frag} {D R : Addr} {row : List Int} {k m k1 m1 : Int} {H H1 H2 : Hp} (a : Drawn K D R row k m H H1 k1 m1) (s : Same H1 H2) : Drawn K D R row k m H H2 k1 m1 :=
  ⟨a.deck.same s, a.sum, a.k0, a.but.trans (But.same s)⟩
theorem DeckOk.drawn {K : PySem.W.Frag} {D R : Addr} {row : List Int} {k m l : Int} {H : Hp} (o : DeckOk H D R k row m l) : Drawn K D R row k m H H k m := ⟨o.deck, rfl, o.k0, But.refl D H⟩
theorem Drawn.keep {K : PySem.W.Frag} {D R : Addr} {row : List Int} {k m k1 m1 : Int} {H H1 : Hp} (a : Drawn K D R row k m H H1 k1 m1) (d : Deck H D R k row m) : Keep H H1 := a.but.keep d.d
/-- an object that H does not know may change -/
theorem Drawn.mut {K : PySem.W.Frag} {D R : Addr} {row : List Int} {k m k1 m1 : Int} {H H1 : Hp} {p : Addr} {o : HO} (a : Drawn K D R row k m H H1 k1 m1) (h : H p = none) (d : Deck H D R k row m) : Drawn K D R row k m H (upd H1 p o) k1 m1 := by
  have hD : D ≠ p := ne_of_none d.d h
  have hR : R ≠ p := ne_of_none d.r h
  refine ⟨⟨by rw [upd_ne hD]; exact a.deck.d, by rw [upd_ne hR]; exact a.deck.r, a.deck.len, a.deck.lo⟩, a.sum, a.k0, fun b u hb n => ?_⟩
  rw [upd_ne (ne_of_none hb h)]
  exact a.but b u hb n
theorem fn_never {P : Program} {w : World} {K : PySem.W.Frag} {mg : Str → Option Value} {base : Heap} {k : Nat} {f : Addr} {fd : FuncData} {ps : List Str} {sp : Sp} (no : ∀ vs H Q E, ¬ sp vs H Q E) : FnOk P w K mg base CX0 k f fd ps sp :=
  ⟨fun vs H Q E h => absurd h (no vs H Q E), fun A outer s H args us vs Q E _ _ _ _ h => absurd h (no vs H Q E)⟩
section
variable {P : Program} {w : World} {K : PySem.W.Frag} {mg : Str → Option Value} {base : Heap}
theorem ok_law_es (T : Tx K mg) {N : Nat} (G_law_e : FnOk P w K mg base CX0 (3 * N) T.d_law_e.f T.d_law_e.fd ["_law_deck_here", "_law_depth"] (spE K N)) :
    FnOk P w K mg base CX0 (3 * N + 1) T.d_law_es.f T.d_law_es.fd ["_law_deck_here", "_law_many", "_law_depth"] (spEs K N) := by
  have nd := sc_law_es.nd
  refine T.d_law_es.fn.ok sc_law_es (fun vs H Q E h => ?_) (fun cdv A outer s H vs Q E hr h => ?_)
  · obtain ⟨D, R, k, row, m, n, c, _, _, _, rfl, _⟩ := h
    rfl
  · obtain ⟨D, R, k, row, m, n, c, hN, hn, hc, rfl, ho, q⟩ := h
    have h_law_e := hr
    refine ⟨_, (pss_one (ps_ret (pe_callTy call_tuple_of (by rfl) T.z_tuple (by decide +kernel) (pa_cons (pe_lc (own := [("_law_k", 3)]) (g := (gName 3)) (tt := tYes) rfl nd (pi_range1 (by rfl) T.z_range (pa_cons (pv 1) pa_nil)) (blkOk_by (N := N_law_es) (sc := defScope s_law_es) (by decide +kernel)) (fun _ _ _ _ _ => (pg_name (i := 3) nd rfl (Or.inl rfl))) (fun _ _ _ _ _ => pts_nil) (fun _ _ _ _ _ => (pe_call G_law_e h_law_e rfl T.d_law_e.m T.d_law_e.kp T.d_law_e.b .nil pass0 (pa_cons (pv 0) (pa_cons (pv 2) pa_nil))))) pa_nil)))), ?_⟩
    refine ⟨_, rfl, _, rfl, by omega, by omega, fun L nL => ?_⟩
    refine lc_range (lo := 0) (n := ((c : Nat) : Int).toNat) (fun i H2 => ∃ (ts : List Nd) (k' m' : Int), ts.length = i ∧ H2 L = some (.lst (ts.map Nd.v)) ∧ Drawn K D R row k m H H2 k' m' ∧ (∀ t, t ∈ ts → NdG K H2 t ∧ Dok K H2 (3 * n + 1) t.v) ∧ (sizeL ts : Int) = m - m' ∧ min m (-(8 * n)) - i ≤ m') ?_ ?_ ?_
    · exact ⟨[], k, m, rfl, upd_same, ho.drawn.mut nL ho.deck, fun t ht => by simp at ht, by simp [sizeL], by omega⟩
    · rintro i H2 hi ⟨ts, k', m', hl, hL, hd, ht, hs, hm⟩
      have hlow := ho.low
      have ho2 := hd.ok ho (-400 + 20 * n) (by omega) (by omega)
      refine ⟨rfl, _, rfl, _, rfl, D, R, k', row, m', n, hN, hn, rfl, ho2, fun t k2 m2 H3 d3 ht3 hd3 hs3 hm3 => ?_⟩
      have hLD : L ≠ D := fun e => by rw [e, ho.deck.d] at nL; cases nL
      have hL3 := d3.but L _ hL hLD
      have kp := d3.keep ho2.deck
      refine ⟨ts.map Nd.v, hL3, szl (by rw [List.length_map]; omega), ts ++ [t], k2, m2, by rw [List.length_append, hl]; rfl, by rw [upd_same, List.map_append]; rfl, (hd.trans d3).mut nL ho.deck, fun u hu => ?_, ?_, by omega⟩
      · have kp2 : Keep H3 (upd H3 L (.lst (ts.map Nd.v ++ [t.v]))) := (But.set (D := L) _).keep hL3
        rcases List.mem_append.mp hu with e | e
        · exact ⟨kp2.ndg (kp.ndg (ht u e).1), kp2.dok (kp.dok (ht u e).2)⟩
        · rw [List.mem_singleton] at e
          subst e
          exact ⟨kp2.ndg ht3, kp2.dok hd3⟩
      · rw [sizeL_append]
        simp only [sizeL]
        omega
    · rintro H2 ⟨ts, k', m', hl, hL, hd, ht, hs, hm⟩
      refine ⟨L, _, rfl, .inl ⟨SqL.of hL, fun r nr => ?_⟩⟩
      have s3 := same_new nr (HO.tup (ts.map Nd.v))
      have kp := Keep.same s3
      exact q r ts k' m' _ (hd.same s3) (SqT.of upd_same) (by omega) (fun t h => ⟨kp.ndg (ht t h).1, kp.dok (ht t h).2⟩) hs (by omega)
theorem ok_law_body (T : Tx K mg) {N : Nat} (G_law_statement : FnOk P w K mg base CX0 (3 * N + 1) T.d_law_statement.f T.d_law_statement.fd ["_law_deck_here", "_law_depth"] (spS K N)) :
    FnOk P w K mg base CX0 (3 * N + 2) T.d_law_body.f T.d_law_body.fd ["_law_deck_here", "_law_many", "_law_depth"] (spB K N) := by
  have nd := sc_law_body.nd
  refine T.d_law_body.fn.ok sc_law_body (fun vs H Q E h => ?_) (fun cdv A outer s H vs Q E hr h => ?_)
  · obtain ⟨D, R, k, row, m, n, c, _, _, _, rfl, _⟩ := h
    rfl
  · obtain ⟨D, R, k, row, m, n, c, hN, hn, hc, rfl, ho, q⟩ := h
    have h_law_statement := hr
    refine ⟨_, (pss_one (ps_ret (pe_callTy call_tuple_of (by rfl) T.z_tuple (by decide +kernel) (pa_cons (pe_lc (own := [("_law_k", 3)]) (g := (gName 3)) (tt := tYes) rfl nd (pi_range1 (by rfl) T.z_range (pa_cons (pv 1) pa_nil)) (blkOk_by (N := N_law_body) (sc := defScope s_law_body) (by decide +kernel)) (fun _ _ _ _ _ => (pg_name (i := 3) nd rfl (Or.inl rfl))) (fun _ _ _ _ _ => pts_nil) (fun _ _ _ _ _ => (pe_call G_law_statement h_law_statement rfl T.d_law_statement.m T.d_law_statement.kp T.d_law_statement.b .nil pass0 (pa_cons (pv 0) (pa_cons (pv 2) pa_nil))))) pa_nil)))), ?_⟩
    refine ⟨_, rfl, _, rfl, by omega, by omega, fun L nL => ?_⟩
    refine lc_range (lo := 0) (n := ((c : Nat) : Int).toNat) (fun i H2 => ∃ (ts : List Nd) (k' m' : Int), ts.length = i ∧ H2 L = some (.lst (ts.map Nd.v)) ∧ Drawn K D R row k m H H2 k' m' ∧ (∀ t, t ∈ ts → NdG K H2 t ∧ Dok K H2 (3 * n + 2) t.v) ∧ (sizeL ts : Int) = m - m' ∧ min m (-(8 * n)) - 2 * i ≤ m') ?_ ?_ ?_
    · exact ⟨[], k, m, rfl, upd_same, ho.drawn.mut nL ho.deck, fun t ht => by simp at ht, by simp [sizeL], by omega⟩
    · rintro i H2 hi ⟨ts, k', m', hl, hL, hd, ht, hs, hm⟩
      have hlow := ho.low
      have ho2 := hd.ok ho (-399 + 20 * n) (by omega) (by omega)
      refine ⟨rfl, _, rfl, _, rfl, D, R, k', row, m', n, hN, hn, rfl, ho2, fun t k2 m2 H3 d3 ht3 hd3 hs3 hm3 => ?_⟩
      have hLD : L ≠ D := fun e => by rw [e, ho.deck.d] at nL; cases nL
      have hL3 := d3.but L _ hL hLD
      have kp := d3.keep ho2.deck
      refine ⟨ts.map Nd.v, hL3, szl (by rw [List.length_map]; omega), ts ++ [t], k2, m2, by rw [List.length_append, hl]; rfl, by rw [upd_same, List.map_append]; rfl, (hd.trans d3).mut nL ho.deck, fun u hu => ?_, ?_, by omega⟩
      · have kp2 : Keep H3 (upd H3 L (.lst (ts.map Nd.v ++ [t.v]))) := (But.set (D := L) _).keep hL3
        rcases List.mem_append.mp hu with e | e
        · exact ⟨kp2.ndg (kp.ndg (ht u e).1), kp2.dok (kp.dok (ht u e).2)⟩
        · rw [List.mem_singleton] at e
          subst e
          exact ⟨kp2.ndg ht3, kp2.dok hd3⟩
      · rw [sizeL_append]
        simp only [sizeL]
        omega
    · rintro H2 ⟨ts, k', m', hl, hL, hd, ht, hs, hm⟩
      refine ⟨L, _, rfl, .inl ⟨SqL.of hL, fun r nr => ?_⟩⟩
      have s3 := same_new nr (HO.tup (ts.map Nd.v))
      have kp := Keep.same s3
      exact q r ts k' m' _ (hd.same s3) (SqT.of upd_same) (by omega) (fun t h => ⟨kp.ndg (ht t h).1, kp.dok (ht t h).2⟩) hs (by omega)
end
end My

set_option Elab.async false
set_option linter.all false
set_option maxRecDepth 100000
set_option maxHeartbeats 4000000
namespace My
open PySem L2
theorem mkNode0 {K : PySem.W.Frag} {H : Hp} {a : Addr} {w : Str} {its : List V} {ps : List Str} {ks : List Nd} (n : Nat) (h1 : SqT K H a (.str w :: its)) (hf : Form K H w its ps (ks.map Nd.v)) (hx : ∀ x, x ∈ its → Dok K H n x) (hw : PySem.PyData.canLay0 (.str w) = true) (hn : n + 1 ≤ 60)
    (hk : ∀ k, k ∈ ks → NdAt K H k) : NdAt K H (.mk (.ref a) w its ps ks) ∧ Dok K H (n + 1) (.ref a) := by
  have hd : Dok K H (n + 1) (.ref a) := Dok.tup h1 fun x hx' => by
    rcases List.mem_cons.mp hx' with e | e
    · subst e
      exact Dok.str hw
    · exact hx x e
  exact ⟨.mk a w its ps ks h1 hf ⟨hd.mono hn, fun x h => (hx x h).mono (by omega)⟩ hk, hd⟩
theorem mkNode {K : PySem.W.Frag} {H : Hp} {a : Addr} {w : Str} {its : List V} {ps : List Str} {ks : List Nd} (n : Nat) (h1 : SqT K H a (.str w :: its)) (hf : Form K H w its ps (ks.map Nd.v)) (hx : ∀ x, x ∈ its → Dok K H n x) (hw : PySem.PyData.canLay0 (.str w) = true) (hn : n + 1 ≤ 60)
    (hk : ∀ k, k ∈ ks → NdG K H k) (hz : (∀ x, nameOf w its = some x → x ≠ "zz" ∧ PySem.PyData.canLay0 (.str x) = true)) : NdG K H (.mk (.ref a) w its ps ks) ∧ Dok K H (n + 1) (.ref a) := by
  have hd : Dok K H (n + 1) (.ref a) := Dok.tup h1 fun x hx' => by
    rcases List.mem_cons.mp hx' with e | e
    · subst e
      exact Dok.str hw
    · exact hx x e
  exact ⟨⟨.mk a w its ps ks h1 hf ⟨hd.mono hn, fun x h => (hx x h).mono (by omega)⟩ fun k h => (hk k h).1, .mk _ w its ps ks hz fun k h => (hk k h).2⟩, hd⟩
theorem natMod (x : Int) (p : Nat) (hp : 0 < p) : ∃ c : Nat, x % (p : Int) = (c : Int) ∧ c < p := by
  have h0 := Int.emod_nonneg x (show (p : Int) ≠ 0 by omega)
  have h1 := Int.emod_lt_of_pos x (show (0 : Int) < p by omega)
  exact ⟨(x % (p : Int)).toNat, by omega, by omega⟩
theorem dec1 (n : Nat) : ((n + 1 : Nat) : Int) - 1 = (n : Int) := by omega
theorem vs2 (D : Addr) (n : Nat) : [V.ref D, V.int (((n + 1 : Nat) : Int) - 1)] = [V.ref D, V.int (n : Int)] := by rw [dec1]
theorem vs3 (D : Addr) (n : Nat) {x : Int} {c : Nat} (h : x = (c : Int)) : [V.ref D, V.int x, V.int (((n + 1 : Nat) : Int) - 1)] = [V.ref D, V.int (c : Int), V.int (n : Int)] := by rw [dec1, h]
theorem leafW_ok : ∀ w, w ∈ leafW → PySem.PyData.canLay0 (.str w) = true := by unfold leafW; decide +kernel
theorem leafW_nn (w : Str) (h : w ∈ leafW) (its : List V) : (∀ x, nameOf w its = some x → x ≠ "zz" ∧ PySem.PyData.canLay0 (.str x) = true) := by
  have z : ∀ x, x ∈ leafW → ¬ x = "set" ∧ ¬ x = "try" := by unfold leafW; decide +kernel
  rw [nameOf_not (z w h).1 (z w h).2]
  simp
theorem oneW_nn (w : Str) (h : w ∈ oneW) (its : List V) : (∀ x, nameOf w its = some x → x ≠ "zz" ∧ PySem.PyData.canLay0 (.str x) = true) := by
  have z : ∀ x, x ∈ oneW → ¬ x = "set" ∧ ¬ x = "try" := by unfold oneW; decide +kernel
  rw [nameOf_not (z w h).1 (z w h).2]
  simp
theorem nn (w : Str) (its : List V) (h1 : ¬ w = "set") (h2 : ¬ w = "try") : (∀ x, nameOf w its = some x → x ≠ "zz" ∧ PySem.PyData.canLay0 (.str x) = true) := by rw [nameOf_not h1 h2]; simp
theorem step_draw {K : PySem.W.Frag} {D R : Addr} {row : List Int} {k m l : Int} {H H1 : Hp} (ho : DeckOk H D R k row m l) (d1 : Deck H1 D R (k + 1) row m) (b1 : But D H H1) :
    Drawn K D R row k m H (upd H1 D (.lst ([V.int (k + 1), V.ref R, V.int m].set 2 (V.int (m - 1))))) (k + 1) (m - 1) :=
  ⟨d1.but (But.set _) upd_same, by omega, by have := ho.k0; omega, b1.trans (But.set _)⟩
section
variable {P : Program} {w : World} {K : PySem.W.Frag} {mg : Str → Option Value} {base : Heap}
theorem ok_law_e (T : Tx K mg) {N : Nat} (G_law_e : FnOk P w K mg base CX0 (3 * N) T.d_law_e.f T.d_law_e.fd ["_law_deck_here", "_law_depth"] (spE K N))
    (G_law_es : FnOk P w K mg base CX0 (3 * N + 1) T.d_law_es.f T.d_law_es.fd ["_law_deck_here", "_law_many", "_law_depth"] (spEs K N))
    (G_law_body : FnOk P w K mg base CX0 (3 * N + 2) T.d_law_body.f T.d_law_body.fd ["_law_deck_here", "_law_many", "_law_depth"] (spB K N)) :
    FnOk P w K mg base CX0 (3 * (N + 1)) T.d_law_e.f T.d_law_e.fd ["_law_deck_here", "_law_depth"] (spE K (N + 1)) := by
  have nd := sc_law_e.nd
  have G_law_next := ok_law_next (P := P) (w := w) (base := base) T
  have G_law_word := ok_law_word (P := P) (w := w) (base := base) T
  have G_law_leaf := ok_law_leaf (P := P) (w := w) (base := base) T
  refine T.d_law_e.fn.ok (k := 3 * N + 2) sc_law_e (fun vs H Q E h => ?_) (fun cdv A outer s H vs Q E hr h => ?_)
  · obtain ⟨D, R, k, row, m, n, _, _, rfl, _⟩ := h
    rfl
  · obtain ⟨D, R, k, row, m, n, hN, hn, rfl, ho, q⟩ := h
    have h_law_next : Room 1 _ := hr.mono (by omega)
    have h_law_word : Room 1 _ := hr.mono (by omega)
    have h_law_leaf : Room 2 _ := hr.mono (by omega)
    have h_law_e : Room (3 * N) _ := hr.mono (by omega)
    have h_law_es : Room (3 * N + 1) _ := hr.mono (by omega)
    have h_law_body : Room (3 * N + 2) _ := hr
    refine ⟨_, (pss_cons (ps_set (i := 2) nd rfl (Or.inl rfl) (pe_call G_law_next h_law_next rfl T.d_law_next.m T.d_law_next.kp T.d_law_next.b .nil pass0 (pa_cons (pv 0) pa_nil)))
      (pss_cons (ps_asg (pe_op op_sub (pe_ix ix_list (pv 0) pe_int (fun _ _ => rfl)) pe_int) (pg_sub (pv 0) pe_int set_list))
      (pss_cons (ps_set (i := 3) nd rfl (Or.inl rfl) (pe_op op_mod (pv 2) pe_int))
      (pss_cons (ps_set (i := 4) nd rfl (Or.inr rfl) (pe_op op_fdiv (pv 2) pe_int))
      (pss_cons (ps_if (PW.pt (pw_or (pt_cmpR op_lt (pv 1) pe_int (nomark _)) (pw_or (pt_cmpR op_lt (pe_ix ix_list (pv 0) pe_int (fun _ _ => rfl)) pe_int (nomark _)) (pw_or1 (pt_cmpR op_lt (pv 3) pe_int (nomark _))))))
      (pss_one (ps_ret (pe_call G_law_leaf h_law_leaf rfl T.d_law_leaf.m T.d_law_leaf.kp T.d_law_leaf.b .nil pass0 (pa_cons (pv 4) pa_nil))))
      pss_nil)
      (pss_cons (ps_if (pt_cmpR op_lt (pv 3) pe_int (nomark _))
      (pss_cons (ps_set (i := 5) nd rfl (Or.inl rfl) (pe_ix ix_list (pe_lst (pa_cons pe_str (pa_cons pe_str (pa_cons pe_str (pa_cons pe_str (pa_cons pe_str (pa_cons pe_str (pa_cons (pe_call G_law_word h_law_word rfl T.d_law_word.m T.d_law_word.kp T.d_law_word.b .nil pass0 (pa_cons (pe_op op_fdiv (pv 4) pe_int) pa_nil)) pa_nil)))))))) (pe_op op_mod (pv 4) pe_int) (fun _ _ => rfl)))
      (pss_cons (ps_set (i := 6) nd rfl (Or.inl rfl) (pe_call G_law_e h_law_e rfl T.d_law_e.m T.d_law_e.kp T.d_law_e.b .nil pass0 (pa_cons (pv 0) (pa_cons (pe_op op_sub (pv 1) pe_int) pa_nil))))
      (pss_one (ps_ret (pe_tup (pa_cons pe_str (pa_cons (pv 6) (pa_cons (pv 5) (pa_cons (pe_call G_law_es h_law_es rfl T.d_law_es.m T.d_law_es.kp T.d_law_es.b .nil pass0 (pa_cons (pv 0) (pa_cons (pe_op op_mod (pe_op op_fdiv (pv 4) pe_int) pe_int) (pa_cons (pe_op op_sub (pv 1) pe_int) pa_nil)))) pa_nil)))))))))
      pss_nil)
      (pss_cons (ps_if (pt_cmpR op_eq (pv 3) pe_int (nomark _))
      (pss_one (ps_ret (pe_tup (pa_cons pe_str (pa_cons (pe_call G_law_word h_law_word rfl T.d_law_word.m T.d_law_word.kp T.d_law_word.b .nil pass0 (pa_cons (pv 4) pa_nil)) (pa_cons (pe_call G_law_es h_law_es rfl T.d_law_es.m T.d_law_es.kp T.d_law_es.b .nil pass0 (pa_cons (pv 0) (pa_cons (pe_op op_mod (pe_op op_fdiv (pv 4) pe_int) pe_int) (pa_cons (pe_op op_sub (pv 1) pe_int) pa_nil)))) pa_nil))))))
      pss_nil)
      (pss_cons (ps_if (pt_cmpR op_eq (pv 3) pe_int (nomark _))
      (pss_one (ps_ret (pe_tup (pa_cons pe_str (pa_cons (pe_call G_law_es h_law_es rfl T.d_law_es.m T.d_law_es.kp T.d_law_es.b .nil pass0 (pa_cons (pv 0) (pa_cons (pe_op op_mod (pv 4) pe_int) (pa_cons (pe_op op_sub (pv 1) pe_int) pa_nil)))) pa_nil)))))
      pss_nil)
      (pss_cons (ps_set (i := 7) nd rfl (Or.inl rfl) (pe_callTy call_tuple_of (by rfl) T.z_tuple (by decide +kernel) (pa_cons (pe_lc (own := [("_law_k", 8)]) (g := (gName 8)) (tt := tYes) rfl nd (pi_range1 (by rfl) T.z_range (pa_cons (pe_op op_mod (pe_op op_fdiv (pv 4) pe_int) pe_int) pa_nil)) (blkOk_by (N := N_law_e) (sc := defScope s_law_e) (by decide +kernel)) (fun _ _ _ _ _ => (pg_name (i := 8) nd rfl (Or.inl rfl))) (fun _ _ _ _ _ => pts_nil) (fun _ _ _ _ _ => (pe_call G_law_word h_law_word rfl T.d_law_word.m T.d_law_word.kp T.d_law_word.b .nil pass0 (pa_cons (pe_op op_add (pv 4) (pe_op op_mul (pv 8) (pe_op op_add pe_int (pe_op op_mod (pe_op op_fdiv (pv 4) pe_int) pe_int)))) pa_nil)))) pa_nil)))
      (pss_one (ps_ret (pe_tup (pa_cons pe_str (pa_cons (pv 7) (pa_cons (pe_call G_law_body h_law_body rfl T.d_law_body.m T.d_law_body.kp T.d_law_body.b .nil pass0 (pa_cons (pv 0) (pa_cons (pe_op op_mod (pe_op op_fdiv (pv 4) pe_int) pe_int) (pa_cons (pe_op op_sub (pv 1) pe_int) pa_nil)))) pa_nil))))))))))))))), ?_⟩
    have k0 := ho.k0
    have low := ho.low
    have low0 := ho.low0
    have ksum := ho.sum
    refine ⟨_, rfl, D, R, k, row, m, rfl, ho.deck, k0, by omega, fun z H1 hz d1 b1 => ?_⟩
    refine ⟨_, rfl, D, _, _, _, rfl, rfl, SqL.of d1.d, at2, _, _, rfl, rfl, _, rfl, D, _, _, 2, rfl, rfl, d1.d, rfl, ?_⟩
    have dr := step_draw (K := K) ho d1 b1
    generalize upd H1 D (.lst ([V.int (k + 1), V.ref R, V.int m].set 2 (V.int (m - 1)))) = H2 at dr ⊢
    refine ⟨_, rfl, _, _, rfl, rfl, (by show (0 : Int) < 13; decide), ?_⟩
    refine ⟨_, rfl, _, _, rfl, rfl, ⟨by decide, by decide⟩, ?_⟩
    refine ⟨_, rfl, _, _, rfl, rfl, _, rfl, iteB (fun c1 => ?_) (fun c1 => ⟨_, rfl, D, _, _, _, rfl, rfl, SqL.of dr.deck.d, at2, _, _, rfl, rfl, _, rfl, iteB (fun c2 => ?_) (fun c2 => ⟨_, rfl, _, _, rfl, rfl, _, rfl, iteB (fun c3 => ?_) (fun c3 => ?_)⟩)⟩)⟩
    iterate 3
      · refine ⟨_, rfl, _, rfl, fun a w its H3 s3 h3 hw hx => ?_⟩
        obtain ⟨g1, g2⟩ := mkNode (ks := []) 0 h3 (.leaf w hw its) hx (leafW_ok w hw) (by decide) (fun k hk => by simp at hk) (leafW_nn w hw its)
        exact q (.mk (.ref a) w its [] []) (k + 1) (m - 1) H3 (dr.same s3) g1 (g2.mono (by omega)) (by simp only [size, sizeL]; omega) (by omega)
    have c1' := of_decide_eq_false c1
    have c2' := of_decide_eq_false c2
    obtain ⟨n, rfl⟩ : ∃ n', n = n' + 1 := ⟨n - 1, by omega⟩
    have hN' : N = n + 1 := by omega
    refine ⟨_, rfl, _, _, rfl, rfl, _, rfl, iteB (fun c4 => ?_) (fun c4 => ?_)⟩
    · -- send
      refine ⟨_, rfl, _, _, rfl, rfl, ⟨by decide, by decide⟩, _, rfl, fun x H3 hx hzz s3 => ⟨(by show 7 ≤ sizeLine; decide), fun p np => ?_⟩⟩
      obtain ⟨v, hv, hp⟩ := pick (xs := [V.str "+", V.str "-", V.str "*", V.str "/", V.str "<", V.str "=", V.str x]) (p := isS) (d := z / 13) (n := 7) (by simp only [List.all_cons, List.all_nil, isS, hx]; decide +kernel) rfl (by decide)
      obtain ⟨x', rfl, hx'⟩ := isS_shape hp
      refine ⟨_, rfl, _, _, rfl, rfl, (by show (0 : Int) < 7; decide), p, _, _, _, rfl, rfl, SqL.of upd_same, hv, ?_⟩
      have dr3 := (dr.same s3).same (same_new np (HO.lst [V.str "+", V.str "-", V.str "*", V.str "/", V.str "<", V.str "=", V.str x]))
      generalize upd H3 p (.lst [V.str "+", V.str "-", V.str "*", V.str "/", V.str "<", V.str "=", V.str x]) = H4 at dr3 ⊢
      have ho3 := dr3.ok ho (-400 + 20 * n) (by omega) (by omega)
      refine ⟨_, rfl, _, rfl, _, _, rfl, rfl, D, R, _, row, _, n, hN', by omega, vs2 D n, ho3, fun t k5 m5 H5 d5 t5 g5 s5 l5 => ?_⟩
      have dr5 := dr3.trans d5
      have ho5 := dr5.ok ho (-396 + 20 * n) (by omega) (by omega)
      obtain ⟨c, ec, hc⟩ := natMod (z / 13 / 70) 3 (by decide)
      refine ⟨_, rfl, _, rfl, _, rfl, _, rfl, _, _, rfl, rfl, ⟨by decide, by decide⟩, _, _, rfl, rfl, (by show (0 : Int) < 3; decide), _, rfl, _, _, rfl, rfl, D, R, _, row, _, n, c, hN', by omega, by omega, vs3 D n ec, ho5, fun r ts k6 m6 H6 d6 h6 l6 t6 s6 e6 => ?_⟩
      refine ⟨(by show 4 ≤ sizeLine; decide), fun a na => ?_⟩
      have s7 := same_new na (HO.tup [V.str "send", t.v, V.str x', V.ref r])
      have kp7 := Keep.same s7
      have kp6 := d6.keep ho5.deck
      obtain ⟨g1, g2⟩ := mkNode (K := K) (H := upd H6 a (.tup [V.str "send", t.v, V.str x', V.ref r])) (a := a) (w := "send") (its := [t.v, V.str x', V.ref r]) (ks := t :: ts) (3 * n + 2) (SqT.of upd_same) (.send t.v x' r (ts.map Nd.v) (kp7.sqt h6)) (fun y hy => by
        simp only [List.mem_cons, List.not_mem_nil, or_false] at hy
        rcases hy with e | e | e
        · subst e; exact (kp7.dok (kp6.dok g5)).mono (by omega)
        · subst e; exact Dok.str hx'
        · subst e
          exact Dok.tup (kp7.sqt h6) fun u hu => by
            obtain ⟨t', ht', rfl⟩ := List.mem_map.mp hu
            exact kp7.dok (t6 t' ht').2) (by decide +kernel) (by omega) (fun k hk => by
        rcases List.mem_cons.mp hk with e | e
        · subst e; exact kp7.ndg (kp6.ndg t5)
        · exact kp7.ndg (t6 k e).1) (nn _ _ (by decide +kernel) (by decide +kernel))
      exact q _ k6 m6 _ ((dr5.trans d6).same s7) g1 (g2.mono (by omega)) (by simp only [size, sizeL]; omega) (by omega)
    refine ⟨_, rfl, rfl, _, rfl, iteB (fun c5 => ?_) (fun c5 => ?_)⟩
    · -- up
      refine ⟨_, rfl, _, rfl, fun x H3 hx hzz s3 => ?_⟩
      have dr3 := dr.same s3
      have ho3 := dr3.ok ho (-396 + 20 * n) (by omega) (by omega)
      obtain ⟨c, ec, hc⟩ := natMod (z / 13 / 10) 3 (by decide)
      refine ⟨_, rfl, _, rfl, _, _, rfl, rfl, ⟨by decide, by decide⟩, _, _, rfl, rfl, (by show (0 : Int) < 3; decide), _, rfl, _, _, rfl, rfl, D, R, _, row, _, n, c, hN', by omega, by omega, vs3 D n ec, ho3, fun r ts k6 m6 H6 d6 h6 l6 t6 s6 e6 => ?_⟩
      refine ⟨(by show 3 ≤ sizeLine; decide), fun a na => ?_⟩
      have s7 := same_new na (HO.tup [V.str "up", V.str x, V.ref r])
      have kp7 := Keep.same s7
      obtain ⟨g1, g2⟩ := mkNode (K := K) (H := upd H6 a (.tup [V.str "up", V.str x, V.ref r])) (a := a) (w := "up") (its := [V.str x, V.ref r]) (ks := ts) (3 * n + 2) (SqT.of upd_same) (.up x r (ts.map Nd.v) (kp7.sqt h6)) (fun y hy => by
        simp only [List.mem_cons, List.not_mem_nil, or_false] at hy
        rcases hy with e | e
        · subst e; exact Dok.str hx
        · subst e
          exact Dok.tup (kp7.sqt h6) fun u hu => by
            obtain ⟨t', ht', rfl⟩ := List.mem_map.mp hu
            exact kp7.dok (t6 t' ht').2) (by decide +kernel) (by omega) (fun k hk => kp7.ndg (t6 k hk).1) (nn _ _ (by decide +kernel) (by decide +kernel))
      exact q _ k6 m6 _ ((dr3.trans d6).same s7) g1 (g2.mono (by omega)) (by simp only [size]; omega) (by omega)
    refine ⟨_, rfl, rfl, _, rfl, iteB (fun c6 => ?_) (fun c6 => ?_)⟩
    · -- list
      have ho3 := dr.ok ho (-396 + 20 * n) (by omega) (by omega)
      obtain ⟨c, ec, hc⟩ := natMod (z / 13) 4 (by decide)
      refine ⟨_, rfl, _, rfl, _, _, rfl, rfl, (by show (0 : Int) < 4; decide), _, rfl, _, _, rfl, rfl, D, R, _, row, _, n, c, hN', by omega, by omega, vs3 D n ec, ho3, fun r ts k6 m6 H6 d6 h6 l6 t6 s6 e6 => ?_⟩
      refine ⟨(by show 2 ≤ sizeLine; decide), fun a na => ?_⟩
      have s7 := same_new na (HO.tup [V.str "list", V.ref r])
      have kp7 := Keep.same s7
      obtain ⟨g1, g2⟩ := mkNode (K := K) (H := upd H6 a (.tup [V.str "list", V.ref r])) (a := a) (w := "list") (its := [V.ref r]) (ks := ts) (3 * n + 2) (SqT.of upd_same) (.list r (ts.map Nd.v) (kp7.sqt h6)) (fun y hy => by
        rw [List.mem_singleton] at hy
        subst hy
        exact Dok.tup (kp7.sqt h6) fun u hu => by
          obtain ⟨t', ht', rfl⟩ := List.mem_map.mp hu
          exact kp7.dok (t6 t' ht').2) (by decide +kernel) (by omega) (fun k hk => kp7.ndg (t6 k hk).1) (nn _ _ (by decide +kernel) (by decide +kernel))
      exact q _ k6 m6 _ ((dr.trans d6).same s7) g1 (g2.mono (by omega)) (by simp only [size]; omega) (by omega)
    -- block
    obtain ⟨c0, ec0, hc0⟩ := natMod (z / 13 / 30) 3 (by decide)
    refine ⟨_, rfl, _, _, rfl, rfl, ⟨by decide, by decide⟩, _, _, rfl, rfl, (by show (0 : Int) < 3; decide), (c0 : Int), congrArg (fun y => [V.int y]) ec0, by omega, by omega, fun L nL => ?_⟩
    refine lc_range (lo := 0) (n := ((c0 : Nat) : Int).toNat) (fun i H3 => ∃ (ps : List Str), ps.length = i ∧ H3 L = some (.lst (ps.map V.str)) ∧ Same H2 H3 ∧ ∀ x, x ∈ ps → PySem.PyData.canLay0 (.str x) = true) ⟨[], rfl, upd_same, same_new nL _, fun x hx => by simp at hx⟩ ?_ ?_
    · rintro i H3 hi ⟨ps, lp, hL, s3, hps⟩
      refine ⟨rfl, _, rfl, _, rfl, _, rfl, _, _, rfl, rfl, ⟨by decide, by decide⟩, _, _, rfl, rfl, (by show (0 : Int) < 3; decide), _, _, rfl, rfl, _, _, rfl, rfl, .inl ⟨by omega, by omega⟩, _, _, rfl, rfl, _, rfl, fun x H4 hx hzz s4 => ?_⟩
      refine ⟨ps.map V.str, s4 _ _ hL, szl (by rw [List.length_map]; omega), ps ++ [x], by rw [List.length_append, lp]; rfl, by rw [upd_same, List.map_append]; rfl, same_mut (s3.trans s4) nL, fun y hy => ?_⟩
      rcases List.mem_append.mp hy with e | e
      · exact hps y e
      · rw [List.mem_singleton] at e
        subst e
        exact hx
    rintro H3 ⟨ps, lp, hL, s3, hps⟩
    refine ⟨L, _, rfl, .inl ⟨SqL.of hL, fun rp nrp => ?_⟩⟩
    have dr4 := (dr.same s3).same (same_new nrp (HO.tup (ps.map V.str)))
    have hrp : SqT K (upd H3 rp (HO.tup (ps.map V.str))) rp (ps.map V.str) := SqT.of upd_same
    generalize upd H3 rp (HO.tup (ps.map V.str)) = H4 at dr4 hrp ⊢
    have ho4 := dr4.ok ho (-391 + 20 * n) (by omega) (by omega)
    obtain ⟨c, ec, hc⟩ := natMod (z / 13 / 90) 3 (by decide)
    refine ⟨_, rfl, _, rfl, _, rfl, _, _, rfl, rfl, ⟨by decide, by decide⟩, _, _, rfl, rfl, (by show (0 : Int) < 3; decide), _, rfl, _, _, rfl, rfl, D, R, _, row, _, n, c, hN', by omega, by omega, vs3 D n ec, ho4, fun r ts k6 m6 H6 d6 h6 l6 t6 s6 e6 => ?_⟩
    refine ⟨(by show 3 ≤ sizeLine; decide), fun a na => ?_⟩
    have s7 := same_new na (HO.tup [V.str "block", V.ref rp, V.ref r])
    have kp7 := Keep.same s7
    have kp6 := d6.keep ho4.deck
    obtain ⟨g1, g2⟩ := mkNode (K := K) (H := upd H6 a (.tup [V.str "block", V.ref rp, V.ref r])) (a := a) (w := "block") (its := [V.ref rp, V.ref r]) (ks := ts) (3 * n + 3) (SqT.of upd_same) (.block rp r ps (ts.map Nd.v) (by omega) (kp7.sqt (kp6.sqt hrp)) (kp7.sqt h6)) (fun y hy => by
      simp only [List.mem_cons, List.not_mem_nil, or_false] at hy
      rcases hy with e | e
      · subst e
        exact (Dok.tup (n := 0) (kp7.sqt (kp6.sqt hrp)) fun u hu => by
          obtain ⟨t', ht', rfl⟩ := List.mem_map.mp hu
          exact Dok.str (hps t' ht')).mono (by omega)
      · subst e
        exact Dok.tup (kp7.sqt h6) fun u hu => by
          obtain ⟨t', ht', rfl⟩ := List.mem_map.mp hu
          exact kp7.dok (t6 t' ht').2) (by decide +kernel) (by omega) (fun k hk => kp7.ndg (t6 k hk).1) (nn _ _ (by decide +kernel) (by decide +kernel))
    exact q _ k6 m6 _ ((dr4.trans d6).same s7) g1 (g2.mono (by omega)) (by simp only [size]; omega) (by omega)
end
end My

set_option Elab.async false
set_option linter.all false
set_option maxRecDepth 100000
set_option maxHeartbeats 4000000
namespace My
open PySem L2
theorem Dok.args {K : PySem.W.Frag} {H : Hp} {n : Nat} {r : Addr} {ts : List Nd} (h : SqT K H r (ts.map Nd.v)) (ht : ∀ t, t ∈ ts → Dok K H n t.v) : Dok K H (n + 1) (.ref r) := Dok.tup h fun u hu => by
  obtain ⟨t', ht', rfl⟩ := List.mem_map.mp hu
  exact ht t' ht'
theorem oneW_ok : ∀ w, w ∈ oneW → PySem.PyData.canLay0 (.str w) = true := by unfold oneW; decide +kernel
theorem vsE (D : Addr) (n : Nat) : [V.ref D, V.int (n : Int)] = [V.ref D, V.int (n : Int)] := rfl
section
variable {P : Program} {w : World} {K : PySem.W.Frag} {mg : Str → Option Value} {base : Heap}
theorem ok_law_statement (T : Tx K mg) {N : Nat} (G_e1 : FnOk P w K mg base CX0 (3 * N) T.d_law_e.f T.d_law_e.fd ["_law_deck_here", "_law_depth"] (spE K N))
    (G_e2 : FnOk P w K mg base CX0 (3 * (N + 1)) T.d_law_e.f T.d_law_e.fd ["_law_deck_here", "_law_depth"] (spE K (N + 1)))
    (G_law_body : FnOk P w K mg base CX0 (3 * N + 2) T.d_law_body.f T.d_law_body.fd ["_law_deck_here", "_law_many", "_law_depth"] (spB K N)) :
    FnOk P w K mg base CX0 (3 * (N + 1) + 1) T.d_law_statement.f T.d_law_statement.fd ["_law_deck_here", "_law_depth"] (spS K (N + 1)) := by
  have nd := sc_law_statement.nd
  have G_law_next := ok_law_next (P := P) (w := w) (base := base) T
  have G_law_word := ok_law_word (P := P) (w := w) (base := base) T
  refine T.d_law_statement.fn.ok (k := 3 * (N + 1)) sc_law_statement (fun vs H Q E h => ?_) (fun cdv A outer s H vs Q E hr h => ?_)
  · obtain ⟨D, R, k, row, m, n, _, _, rfl, _⟩ := h
    rfl
  · obtain ⟨D, R, k, row, m, n, hN, hn, rfl, ho, q⟩ := h
    have h_law_next : Room 1 _ := hr.mono (by omega)
    have h_law_word : Room 1 _ := hr.mono (by omega)
    have h_e1 : Room (3 * N) _ := hr.mono (by omega)
    have h_e2 : Room (3 * (N + 1)) _ := hr
    have h_law_body : Room (3 * N + 2) _ := hr.mono (by omega)
    refine ⟨_, (pss_cons (ps_set (i := 2) nd rfl (Or.inl rfl) (pe_call G_law_next h_law_next rfl T.d_law_next.m T.d_law_next.kp T.d_law_next.b .nil pass0 (pa_cons (pv 0) pa_nil)))
      (pss_cons (ps_asg (pe_op op_sub (pe_ix ix_list (pv 0) pe_int (fun _ _ => rfl)) pe_int) (pg_sub (pv 0) pe_int set_list))
      (pss_cons (ps_set (i := 3) nd rfl (Or.inl rfl) (pe_op op_mod (pv 2) pe_int))
      (pss_cons (ps_set (i := 4) nd rfl (Or.inl rfl) (pe_op op_fdiv (pv 2) pe_int))
      (pss_cons (ps_if (pt_cmpR op_lt (pv 3) pe_int (nomark _))
      (pss_one (ps_ret (pe_tup (pa_cons pe_str (pa_cons (pe_call G_law_word h_law_word rfl T.d_law_word.m T.d_law_word.kp T.d_law_word.b .nil pass0 (pa_cons (pv 4) pa_nil)) (pa_cons (pe_call G_e2 h_e2 rfl T.d_law_e.m T.d_law_e.kp T.d_law_e.b .nil pass0 (pa_cons (pv 0) (pa_cons (pv 1) pa_nil))) pa_nil))))))
      pss_nil)
      (pss_cons (ps_if (pt_cmpR op_eq (pv 3) pe_int (nomark _))
      (pss_one (ps_ret (pe_tup (pa_cons pe_str (pa_cons (pe_call G_law_word h_law_word rfl T.d_law_word.m T.d_law_word.kp T.d_law_word.b .nil pass0 (pa_cons (pv 4) pa_nil)) (pa_cons (pe_call G_e2 h_e2 rfl T.d_law_e.m T.d_law_e.kp T.d_law_e.b .nil pass0 (pa_cons (pv 0) (pa_cons (pv 1) pa_nil))) pa_nil))))))
      pss_nil)
      (pss_cons (ps_if (PW.pt (pw_or (pt_cmpR op_lt (pv 3) pe_int (nomark _)) (pw_or (pt_cmpR op_lt (pv 1) pe_int (nomark _)) (pw_or1 (pt_cmpR op_lt (pe_ix ix_list (pv 0) pe_int (fun _ _ => rfl)) pe_int (nomark _))))))
      (pss_one (ps_ret (pe_tup (pa_cons (pe_ix ix_list (pe_lst (pa_cons pe_str (pa_cons pe_str (pa_cons pe_str (pa_cons pe_str pa_nil))))) (pe_op op_mod (pv 4) pe_int) (fun _ _ => rfl)) (pa_cons (pe_call G_e2 h_e2 rfl T.d_law_e.m T.d_law_e.kp T.d_law_e.b .nil pass0 (pa_cons (pv 0) (pa_cons (pv 1) pa_nil))) pa_nil)))))
      pss_nil)
      (pss_cons (ps_if (pt_cmpR op_eq (pv 3) pe_int (nomark _))
      (pss_cons (ps_set (i := 5) nd rfl (Or.inl rfl) (pe_call G_e1 h_e1 rfl T.d_law_e.m T.d_law_e.kp T.d_law_e.b .nil pass0 (pa_cons (pv 0) (pa_cons (pe_op op_sub (pv 1) pe_int) pa_nil))))
      (pss_cons (ps_set (i := 6) nd rfl (Or.inl rfl) (pe_call G_law_body h_law_body rfl T.d_law_body.m T.d_law_body.kp T.d_law_body.b .nil pass0 (pa_cons (pv 0) (pa_cons (pe_op op_mod (pv 4) pe_int) (pa_cons (pe_op op_sub (pv 1) pe_int) pa_nil)))))
      (pss_one (ps_ret (pe_tup (pa_cons pe_str (pa_cons (pv 5) (pa_cons (pv 6) (pa_cons (pe_call G_law_body h_law_body rfl T.d_law_body.m T.d_law_body.kp T.d_law_body.b .nil pass0 (pa_cons (pv 0) (pa_cons (pe_op op_mod (pe_op op_fdiv (pv 4) pe_int) pe_int) (pa_cons (pe_op op_sub (pv 1) pe_int) pa_nil)))) pa_nil)))))))))
      pss_nil)
      (pss_cons (ps_if (pt_cmpR op_eq (pv 3) pe_int (nomark _))
      (pss_one (ps_ret (pe_tup (pa_cons pe_str (pa_cons (pe_call G_e1 h_e1 rfl T.d_law_e.m T.d_law_e.kp T.d_law_e.b .nil pass0 (pa_cons (pv 0) (pa_cons (pe_op op_sub (pv 1) pe_int) pa_nil))) (pa_cons (pe_call G_law_body h_law_body rfl T.d_law_body.m T.d_law_body.kp T.d_law_body.b .nil pass0 (pa_cons (pv 0) (pa_cons (pe_op op_mod (pv 4) pe_int) (pa_cons (pe_op op_sub (pv 1) pe_int) pa_nil)))) pa_nil))))))
      pss_nil)
      (pss_cons (ps_set (i := 6) nd rfl (Or.inl rfl) (pe_call G_law_body h_law_body rfl T.d_law_body.m T.d_law_body.kp T.d_law_body.b .nil pass0 (pa_cons (pv 0) (pa_cons (pe_op op_mod (pv 4) pe_int) (pa_cons (pe_op op_sub (pv 1) pe_int) pa_nil)))))
      (pss_one (ps_ret (pe_tup (pa_cons pe_str (pa_cons (pv 6) (pa_cons (pe_call G_law_word h_law_word rfl T.d_law_word.m T.d_law_word.kp T.d_law_word.b .nil pass0 (pa_cons (pe_op op_fdiv (pv 4) pe_int) pa_nil)) (pa_cons (pe_call G_law_body h_law_body rfl T.d_law_body.m T.d_law_body.kp T.d_law_body.b .nil pass0 (pa_cons (pv 0) (pa_cons (pe_op op_mod (pe_op op_fdiv (pv 4) pe_int) pe_int) (pa_cons (pe_op op_sub (pv 1) pe_int) pa_nil)))) pa_nil))))))))))))))))), ?_⟩
    have k0 := ho.k0
    have low := ho.low
    have low0 := ho.low0
    have ksum := ho.sum
    have hNn : N = n := by omega
    refine ⟨_, rfl, D, R, k, row, m, rfl, ho.deck, k0, by omega, fun z H1 hz d1 b1 => ?_⟩
    refine ⟨_, rfl, D, _, _, _, rfl, rfl, SqL.of d1.d, at2, _, _, rfl, rfl, _, rfl, D, _, _, 2, rfl, rfl, d1.d, rfl, ?_⟩
    have dr := step_draw (K := K) ho d1 b1
    generalize upd H1 D (.lst ([V.int (k + 1), V.ref R, V.int m].set 2 (V.int (m - 1)))) = H2 at dr ⊢
    refine ⟨_, rfl, _, _, rfl, rfl, (by show (0 : Int) < 10; decide), ?_⟩
    refine ⟨_, rfl, _, _, rfl, rfl, ⟨by decide, by decide⟩, ?_⟩
    refine ⟨_, rfl, _, _, rfl, rfl, _, rfl, iteB (fun c1 => ?_) (fun c1 => ?_)⟩
    · -- set
      refine ⟨_, rfl, _, rfl, fun x H3 hx hzz s3 => ?_⟩
      have dr3 := dr.same s3
      have ho3 := dr3.ok ho (-400 + 20 * n) (by omega) (by omega)
      refine ⟨_, rfl, _, rfl, D, R, _, row, _, n, by omega, by omega, vsE D n, ho3, fun t k5 m5 H5 d5 t5 g5 s5 l5 => ?_⟩
      refine ⟨(by show 3 ≤ sizeLine; decide), fun a na => ?_⟩
      have s7 := same_new na (HO.tup [V.str "set", V.str x, t.v])
      have kp7 := Keep.same s7
      obtain ⟨g1, g2⟩ := mkNode (K := K) (H := upd H5 a (.tup [V.str "set", V.str x, t.v])) (a := a) (w := "set") (its := [V.str x, t.v]) (ks := [t]) (3 * n + 1) (SqT.of upd_same) (.set x t.v) (fun y hy => by
        simp only [List.mem_cons, List.not_mem_nil, or_false] at hy
        rcases hy with e | e
        · subst e; exact Dok.str hx
        · subst e; exact kp7.dok g5) (by decide +kernel) (by omega) (fun k hk => by
        rw [List.mem_singleton] at hk; subst hk; exact kp7.ndg t5) (by rw [nameOf_set]; intro y z; have z := Option.some.inj z; subst z; exact ⟨hzz, hx⟩)
      exact q _ k5 m5 _ ((dr3.trans d5).same s7) g1 (g2.mono (by omega)) (by simp only [size, sizeL]; omega) (by omega)
    refine ⟨_, rfl, rfl, _, rfl, iteB (fun c2 => ?_) (fun c2 => ?_)⟩
    · -- setfield
      refine ⟨_, rfl, _, rfl, fun x H3 hx hzz s3 => ?_⟩
      have dr3 := dr.same s3
      have ho3 := dr3.ok ho (-400 + 20 * n) (by omega) (by omega)
      refine ⟨_, rfl, _, rfl, D, R, _, row, _, n, by omega, by omega, vsE D n, ho3, fun t k5 m5 H5 d5 t5 g5 s5 l5 => ?_⟩
      refine ⟨(by show 3 ≤ sizeLine; decide), fun a na => ?_⟩
      have s7 := same_new na (HO.tup [V.str "setfield", V.str x, t.v])
      have kp7 := Keep.same s7
      obtain ⟨g1, g2⟩ := mkNode (K := K) (H := upd H5 a (.tup [V.str "setfield", V.str x, t.v])) (a := a) (w := "setfield") (its := [V.str x, t.v]) (ks := [t]) (3 * n + 1) (SqT.of upd_same) (.setfield x t.v) (fun y hy => by
        simp only [List.mem_cons, List.not_mem_nil, or_false] at hy
        rcases hy with e | e
        · subst e; exact Dok.str hx
        · subst e; exact kp7.dok g5) (by decide +kernel) (by omega) (fun k hk => by
        rw [List.mem_singleton] at hk; subst hk; exact kp7.ndg t5) (nn _ _ (by decide +kernel) (by decide +kernel))
      exact q _ k5 m5 _ ((dr3.trans d5).same s7) g1 (g2.mono (by omega)) (by simp only [size, sizeL]; omega) (by omega)
    refine ⟨_, rfl, _, _, rfl, rfl, _, rfl, iteB (fun c3 => ?_) (fun c3 => ⟨_, rfl, _, _, rfl, rfl, _, rfl, iteB (fun c4 => ?_) (fun c4 => ⟨_, rfl, D, _, _, _, rfl, rfl, SqL.of dr.deck.d, at2, _, _, rfl, rfl, _, rfl, iteB (fun c5 => ?_) (fun c5 => ?_)⟩)⟩)⟩
    iterate 3
      · refine ⟨(by show 4 ≤ sizeLine; decide), fun p np => ?_⟩
        obtain ⟨v, hv, hp⟩ := pick (xs := [V.str "do", V.str "say", V.str "return", V.str "raise"]) (p := fun v => decide (∃ w, w ∈ oneW ∧ v = V.str w)) (d := z / 10) (n := 4) (by unfold oneW; decide +kernel) rfl (by decide)
        obtain ⟨x, hx, rfl⟩ := of_decide_eq_true hp
        refine ⟨_, rfl, _, _, rfl, rfl, (by show (0 : Int) < 4; decide), p, _, _, _, rfl, rfl, SqL.of upd_same, hv, ?_⟩
        have dr3 := dr.same (same_new np (HO.lst [V.str "do", V.str "say", V.str "return", V.str "raise"]))
        generalize upd H2 p (HO.lst [V.str "do", V.str "say", V.str "return", V.str "raise"]) = H3 at dr3 ⊢
        have ho3 := dr3.ok ho (-400 + 20 * n) (by omega) (by omega)
        refine ⟨_, rfl, _, rfl, D, R, _, row, _, n, by omega, by omega, vsE D n, ho3, fun t k5 m5 H5 d5 t5 g5 s5 l5 => ?_⟩
        refine ⟨(by show 2 ≤ sizeLine; decide), fun a na => ?_⟩
        have s7 := same_new na (HO.tup [V.str x, t.v])
        have kp7 := Keep.same s7
        obtain ⟨g1, g2⟩ := mkNode (K := K) (H := upd H5 a (.tup [V.str x, t.v])) (a := a) (w := x) (its := [t.v]) (ks := [t]) (3 * n + 1) (SqT.of upd_same) (.one x hx t.v) (fun y hy => by
          rw [List.mem_singleton] at hy; subst hy; exact kp7.dok g5) (oneW_ok x hx) (by omega) (fun k hk => by
          rw [List.mem_singleton] at hk; subst hk; exact kp7.ndg t5) (oneW_nn x hx _)
        exact q _ k5 m5 _ ((dr3.trans d5).same s7) g1 (g2.mono (by omega)) (by simp only [size, sizeL]; omega) (by omega)
    have c4' := of_decide_eq_false c4
    have c5' := of_decide_eq_false c5
    obtain ⟨n, rfl⟩ : ∃ n', n = n' + 1 := ⟨n - 1, by omega⟩
    refine ⟨_, rfl, rfl, _, rfl, iteB (fun c6 => ?_) (fun c6 => ?_)⟩
    · -- if
      have ho3 := dr.ok ho (-400 + 20 * n) (by omega) (by omega)
      refine ⟨_, rfl, _, rfl, _, _, rfl, rfl, D, R, _, row, _, n, by omega, by omega, vs2 D n, ho3, fun t k5 m5 H5 d5 t5 g5 s5 l5 => ?_⟩
      have dr5 := dr.trans d5
      have ho5 := dr5.ok ho (-391 + 20 * n) (by omega) (by omega)
      obtain ⟨c, ec, hc⟩ := natMod (z / 10) 3 (by decide)
      refine ⟨_, rfl, _, rfl, _, _, rfl, rfl, (by show (0 : Int) < 3; decide), _, rfl, _, _, rfl, rfl, D, R, _, row, _, n, c, by omega, by omega, by omega, vs3 D n ec, ho5, fun r ts k6 m6 H6 d6 h6 l6 t6 s6 e6 => ?_⟩
      have dr6 := dr5.trans d6
      have ho6 := dr6.ok ho (-391 + 20 * n) (by omega) (by omega)
      obtain ⟨c', ec', hc'⟩ := natMod (z / 10 / 3) 3 (by decide)
      refine ⟨_, rfl, _, rfl, _, rfl, _, rfl, _, _, rfl, rfl, ⟨by decide, by decide⟩, _, _, rfl, rfl, (by show (0 : Int) < 3; decide), _, rfl, _, _, rfl, rfl, D, R, _, row, _, n, c', by omega, by omega, by omega, vs3 D n ec', ho6, fun r' ts' k8 m8 H8 d8 h8 l8 t8 s8 e8 => ?_⟩
      refine ⟨(by show 4 ≤ sizeLine; decide), fun a na => ?_⟩
      have s9 := same_new na (HO.tup [V.str "if", t.v, V.ref r, V.ref r'])
      have kp9 := Keep.same s9
      have kp8 := d8.keep ho6.deck
      have kp6 := d6.keep ho5.deck
      have kpr := kp8.trans kp9
      have kpt := kp6.trans kpr
      obtain ⟨g1, g2⟩ := mkNode (K := K) (H := upd H8 a (.tup [V.str "if", t.v, V.ref r, V.ref r'])) (a := a) (w := "if") (its := [t.v, V.ref r, V.ref r']) (ks := (t :: ts) ++ ts') (3 * n + 3) (SqT.of upd_same)
        (by rw [List.map_append, List.map_cons]; exact .cond t.v r r' (ts.map Nd.v) (ts'.map Nd.v) (kpr.sqt h6) (kp9.sqt h8)) (fun y hy => by
        simp only [List.mem_cons, List.not_mem_nil, or_false] at hy
        rcases hy with e | e | e
        · subst e; exact (kpt.dok g5).mono (by omega)
        · subst e; exact Dok.args (kpr.sqt h6) fun u hu => kpr.dok (t6 u hu).2
        · subst e; exact Dok.args (kp9.sqt h8) fun u hu => kp9.dok (t8 u hu).2) (by decide +kernel) (by omega) (fun k hk => by
        rcases List.mem_append.mp hk with e | e
        · rcases List.mem_cons.mp e with e | e
          · subst e; exact kpt.ndg t5
          · exact kpr.ndg (t6 k e).1
        · exact kp9.ndg (t8 k e).1) (nn _ _ (by decide +kernel) (by decide +kernel))
      exact q _ k8 m8 _ ((dr6.trans d8).same s9) g1 (g2.mono (by omega)) (by simp only [size, sizeL_append, sizeL]; omega) (by omega)
    refine ⟨_, rfl, rfl, _, rfl, iteB (fun c7 => ?_) (fun c7 => ?_)⟩
    · -- while
      have ho3 := dr.ok ho (-400 + 20 * n) (by omega) (by omega)
      refine ⟨_, rfl, _, rfl, _, _, rfl, rfl, D, R, _, row, _, n, by omega, by omega, vs2 D n, ho3, fun t k5 m5 H5 d5 t5 g5 s5 l5 => ?_⟩
      have dr5 := dr.trans d5
      have ho5 := dr5.ok ho (-391 + 20 * n) (by omega) (by omega)
      obtain ⟨c, ec, hc⟩ := natMod (z / 10) 3 (by decide)
      refine ⟨_, rfl, _, rfl, _, _, rfl, rfl, (by show (0 : Int) < 3; decide), _, rfl, _, _, rfl, rfl, D, R, _, row, _, n, c, by omega, by omega, by omega, vs3 D n ec, ho5, fun r ts k6 m6 H6 d6 h6 l6 t6 s6 e6 => ?_⟩
      refine ⟨(by show 3 ≤ sizeLine; decide), fun a na => ?_⟩
      have s9 := same_new na (HO.tup [V.str "while", t.v, V.ref r])
      have kpr := Keep.same s9
      have kp6 := d6.keep ho5.deck
      have kpt := kp6.trans kpr
      obtain ⟨g1, g2⟩ := mkNode (K := K) (H := upd H6 a (.tup [V.str "while", t.v, V.ref r])) (a := a) (w := "while") (its := [t.v, V.ref r]) (ks := t :: ts) (3 * n + 3) (SqT.of upd_same)
        (.loop t.v r (ts.map Nd.v) (kpr.sqt h6)) (fun y hy => by
        simp only [List.mem_cons, List.not_mem_nil, or_false] at hy
        rcases hy with e | e
        · subst e; exact (kpt.dok g5).mono (by omega)
        · subst e; exact Dok.args (kpr.sqt h6) fun u hu => kpr.dok (t6 u hu).2) (by decide +kernel) (by omega) (fun k hk => by
        rcases List.mem_cons.mp hk with e | e
        · subst e; exact kpt.ndg t5
        · exact kpr.ndg (t6 k e).1) (nn _ _ (by decide +kernel) (by decide +kernel))
      exact q _ k6 m6 _ ((dr5.trans d6).same s9) g1 (g2.mono (by omega)) (by simp only [size, sizeL]; omega) (by omega)
    -- try
    have ho5 := dr.ok ho (-391 + 20 * n) (by omega) (by omega)
    obtain ⟨c, ec, hc⟩ := natMod (z / 10) 3 (by decide)
    refine ⟨_, rfl, _, rfl, _, _, rfl, rfl, (by show (0 : Int) < 3; decide), _, rfl, _, _, rfl, rfl, D, R, _, row, _, n, c, by omega, by omega, by omega, vs3 D n ec, ho5, fun r ts k6 m6 H6 d6 h6 l6 t6 s6 e6 => ?_⟩
    refine ⟨_, rfl, _, rfl, _, _, rfl, rfl, ⟨by decide, by decide⟩, _, rfl, fun x H7 hx hzz s7 => ?_⟩
    have dr7 := (dr.trans d6).same s7
    have kp7 := Keep.same s7
    have ho7 := dr7.ok ho (-391 + 20 * n) (by omega) (by omega)
    obtain ⟨c', ec', hc'⟩ := natMod (z / 10 / 30) 3 (by decide)
    refine ⟨_, rfl, _, rfl, _, _, rfl, rfl, ⟨by decide, by decide⟩, _, _, rfl, rfl, (by show (0 : Int) < 3; decide), _, rfl, _, _, rfl, rfl, D, R, _, row, _, n, c', by omega, by omega, by omega, vs3 D n ec', ho7, fun r' ts' k8 m8 H8 d8 h8 l8 t8 s8 e8 => ?_⟩
    refine ⟨(by show 4 ≤ sizeLine; decide), fun a na => ?_⟩
    have s9 := same_new na (HO.tup [V.str "try", V.ref r, V.str x, V.ref r'])
    have kp9 := Keep.same s9
    have kp8 := d8.keep ho7.deck
    have kpr := kp7.trans (kp8.trans kp9)
    obtain ⟨g1, g2⟩ := mkNode (K := K) (H := upd H8 a (.tup [V.str "try", V.ref r, V.str x, V.ref r'])) (a := a) (w := "try") (its := [V.ref r, V.str x, V.ref r']) (ks := ts ++ ts') (3 * n + 3) (SqT.of upd_same)
      (by rw [List.map_append]; exact .tri x r r' (ts.map Nd.v) (ts'.map Nd.v) (kpr.sqt h6) (kp9.sqt h8)) (fun y hy => by
      simp only [List.mem_cons, List.not_mem_nil, or_false] at hy
      rcases hy with e | e | e
      · subst e; exact Dok.args (kpr.sqt h6) fun u hu => kpr.dok (t6 u hu).2
      · subst e; exact Dok.str hx
      · subst e; exact Dok.args (kp9.sqt h8) fun u hu => kp9.dok (t8 u hu).2) (by decide +kernel) (by omega) (fun k hk => by
      rcases List.mem_append.mp hk with e | e
      · exact kpr.ndg (t6 k e).1
      · exact kp9.ndg (t8 k e).1) (by rw [nameOf_try]; intro y z; have z := Option.some.inj z; subst z; exact ⟨hzz, hx⟩)
    exact q _ k8 m8 _ ((dr7.trans d8).same s9) g1 (g2.mono (by omega)) (by simp only [size, sizeL_append]; omega) (by omega)
/-! all four, by their depth -/
theorem ok_draws (T : Tx K mg) : ∀ N : Nat, FnOk P w K mg base CX0 (3 * N) T.d_law_e.f T.d_law_e.fd ["_law_deck_here", "_law_depth"] (spE K N) ∧
    FnOk P w K mg base CX0 (3 * N + 1) T.d_law_es.f T.d_law_es.fd ["_law_deck_here", "_law_many", "_law_depth"] (spEs K N) ∧
    FnOk P w K mg base CX0 (3 * N + 1) T.d_law_statement.f T.d_law_statement.fd ["_law_deck_here", "_law_depth"] (spS K N) ∧
    FnOk P w K mg base CX0 (3 * N + 2) T.d_law_body.f T.d_law_body.fd ["_law_deck_here", "_law_many", "_law_depth"] (spB K N)
  | 0 => ⟨fn_never fun vs H Q E h => by obtain ⟨_, _, _, _, _, n, h, _⟩ := h; omega, fn_never fun vs H Q E h => by obtain ⟨_, _, _, _, _, n, _, h, _⟩ := h; omega,
      fn_never fun vs H Q E h => by obtain ⟨_, _, _, _, _, n, h, _⟩ := h; omega, fn_never fun vs H Q E h => by obtain ⟨_, _, _, _, _, n, _, h, _⟩ := h; omega⟩
  | N + 1 => by
    obtain ⟨h1, h2, h3, h4⟩ := ok_draws T N
    have e1 := ok_law_e T h1 h2 h4
    have e2 := ok_law_statement T h1 e1 h4
    exact ⟨e1, ok_law_es T e1, e2, ok_law_body T e2⟩
end
end My

set_option Elab.async false
set_option linter.all false
set_option maxRecDepth 100000
set_option maxHeartbeats 4000000
namespace My
open PySem L2
/-- a method's tree stands at a: its parameters at pa, its statements at ba -/
structure MethAt (K : PySem.W.Frag) (H : Hp) (a : Addr) (msg : Str) (pa ba : Addr) (ps : List Str) (ts : List Nd) : Prop where
  tup : SqT K H a [.str "method", .str msg, .ref pa, .ref ba]
  par : SqT K H pa (ps.map V.str)
  body : SqT K H ba (ts.map Nd.v)
  nds : ∀ t, t ∈ ts → NdAt K H t
  dpar : Dok K H 1 (.ref pa)
  dbody : Dok K H 61 (.ref ba)
  few : sizeL ts ≤ 200
  plen : ps.length ≤ 10
theorem MethAt.keep {K : PySem.W.Frag} {H H' : Hp} {a : Addr} {msg : Str} {pa ba : Addr} {ps : List Str} {ts : List Nd} (h : MethAt K H a msg pa ba ps ts) (k : Keep H H') : MethAt K H' a msg pa ba ps ts :=
  ⟨k.sqt h.tup, k.sqt h.par, k.sqt h.body, fun t ht => k.nd (h.nds t ht), k.dok h.dpar, k.dok h.dbody, h.few, h.plen⟩
def spMethod (K : PySem.W.Frag) : Sp := fun vs H Q _ => ∃ (D R : Addr) (k : Int) (row : List Int) (n : Nat), n ≤ 12 ∧ vs = [.ref D, .int n] ∧ Deck H D R k row 70 ∧ 0 ≤ k ∧ k ≤ 20 ∧
  ∀ (a : Addr) (msg : Str) (pa ba : Addr) (ps : List Str) (ts : List Nd) (H' : Hp), But D H H' → MethAt K H' a msg pa ba ps ts → (∀ t, t ∈ ts → Good "zz" t) → (∀ x, x ∈ ps → PySem.PyData.canLay0 (.str x) = true ∧ x ≠ "zz") → sizeL ts ≤ 180 → Q (.ref a) H'
section
variable {P : Program} {w : World} {K : PySem.W.Frag} {mg : Str → Option Value} {base : Heap}
theorem ok_law_method (T : Tx K mg) : FnOk P w K mg base CX0 50 T.d_law_method.f T.d_law_method.fd ["_law_deck_here", "_law_depth"] (spMethod K) := by
  have nd := sc_law_method.nd
  have G_law_next := ok_law_next (P := P) (w := w) (base := base) T
  have G_law_word := ok_law_word (P := P) (w := w) (base := base) T
  refine T.d_law_method.fn.ok (k := 49) sc_law_method (fun vs H Q E h => ?_) (fun cdv A outer s H vs Q E hr h => ?_)
  · obtain ⟨D, R, k, row, n, _, rfl, _⟩ := h
    rfl
  · obtain ⟨D, R, k, row, n, hn, rfl, hd, k0, k1, q⟩ := h
    have G_law_body := (ok_draws (P := P) (w := w) (base := base) T (n + 1)).2.2.2
    have h_law_next : Room 1 _ := hr.mono (by omega)
    have h_law_word : Room 1 _ := hr.mono (by omega)
    have h_law_body : Room (3 * (n + 1) + 2) _ := hr.mono (by omega)
    refine ⟨_, (pss_cons (ps_set (i := 2) nd rfl (Or.inr rfl) (pe_call G_law_next h_law_next rfl T.d_law_next.m T.d_law_next.kp T.d_law_next.b .nil pass0 (pa_cons (pv 0) pa_nil)))
      (pss_cons (ps_set (i := 3) nd rfl (Or.inl rfl) (pe_callTy call_tuple_of (by rfl) T.z_tuple (by decide +kernel) (pa_cons (pe_lc (own := [("_law_k", 4)]) (g := (gName 4)) (tt := tYes) rfl nd (pi_range1 (by rfl) T.z_range (pa_cons (pe_op op_mod (pe_op op_fdiv (pv 2) pe_int) pe_int) pa_nil)) (blkOk_by (N := N_law_method) (sc := defScope s_law_method) (by decide +kernel)) (fun _ _ _ _ _ => (pg_name (i := 4) nd rfl (Or.inl rfl))) (fun _ _ _ _ _ => pts_nil) (fun _ _ _ _ _ => (pe_call G_law_word h_law_word rfl T.d_law_word.m T.d_law_word.kp T.d_law_word.b .nil pass0 (pa_cons (pe_op op_add (pe_op op_fdiv (pv 2) pe_int) (pe_op op_mul pe_int (pv 4))) pa_nil)))) pa_nil)))
      (pss_one (ps_ret (pe_tup (pa_cons pe_str (pa_cons (pe_call G_law_word h_law_word rfl T.d_law_word.m T.d_law_word.kp T.d_law_word.b .nil pass0 (pa_cons (pv 2) pa_nil)) (pa_cons (pv 3) (pa_cons (pe_call G_law_body h_law_body rfl T.d_law_body.m T.d_law_body.kp T.d_law_body.b .nil pass0 (pa_cons (pv 0) (pa_cons (pe_op op_mod (pe_op op_fdiv (pv 2) pe_int) pe_int) (pa_cons (pv 1) pa_nil)))) pa_nil))))))))), ?_⟩
    refine ⟨_, rfl, D, R, k, row, 70, rfl, hd, k0, by omega, fun z H2 hz d2 b2 => ?_⟩
    obtain ⟨c0, ec0, hc0⟩ := natMod (z / 100) 4 (by decide)
    refine ⟨_, rfl, _, _, rfl, rfl, ⟨by decide, by decide⟩, _, _, rfl, rfl, (by show (0 : Int) < 4; decide), (c0 : Int), congrArg (fun y => [V.int y]) ec0, by omega, by omega, fun L nL => ?_⟩
    refine lc_range (lo := 0) (n := ((c0 : Nat) : Int).toNat) (fun i H3 => ∃ (ps : List Str), ps.length = i ∧ H3 L = some (.lst (ps.map V.str)) ∧ Same H2 H3 ∧ ∀ x, x ∈ ps → PySem.PyData.canLay0 (.str x) = true ∧ x ≠ "zz") ⟨[], rfl, upd_same, same_new nL _, fun x hx => by simp at hx⟩ ?_ ?_
    · rintro i H3 hi ⟨ps, lp, hL, s3, hps⟩
      refine ⟨rfl, _, rfl, _, _, rfl, rfl, ⟨by decide, by decide⟩, _, rfl, _, _, rfl, rfl, .inl ⟨by decide, by decide⟩, _, _, rfl, rfl, _, rfl, fun x H4 hx hzz s4 => ?_⟩
      refine ⟨ps.map V.str, s4 _ _ hL, szl (by rw [List.length_map]; omega), ps ++ [x], by rw [List.length_append, lp]; rfl, by rw [upd_same, List.map_append]; rfl, same_mut (s3.trans s4) nL, fun y hy => ?_⟩
      rcases List.mem_append.mp hy with e | e
      · exact hps y e
      · rw [List.mem_singleton] at e
        subst e
        exact ⟨hx, hzz⟩
    rintro H3 ⟨ps, lp, hL, s3, hps⟩
    refine ⟨L, _, rfl, .inl ⟨SqL.of hL, fun rp nrp => ?_⟩⟩
    have s4 := s3.trans (same_new nrp (HO.tup (ps.map V.str)))
    have hrp : SqT K (upd H3 rp (HO.tup (ps.map V.str))) rp (ps.map V.str) := SqT.of upd_same
    generalize upd H3 rp (HO.tup (ps.map V.str)) = H4 at s4 hrp ⊢
    refine ⟨_, rfl, _, rfl, fun x H5 hx hzz s5 => ?_⟩
    have d5 := (d2.same s4).same s5
    have ho5 : DeckOk H5 D R (k + 1) row 70 (-391 + 20 * n) := ⟨d5, by omega, by omega, by omega, by omega⟩
    obtain ⟨c, ec, hc⟩ := natMod (z / 400) 5 (by decide)
    refine ⟨_, rfl, _, rfl, _, rfl, _, _, rfl, rfl, ⟨by decide, by decide⟩, _, _, rfl, rfl, (by show (0 : Int) < 5; decide), _, rfl, D, R, _, row, _, n, c, rfl, by omega, by omega, (by show [V.ref D, V.int (z / 400 % (5 : Nat)), V.int (n : Int)] = _; rw [ec]), ho5, fun r ts k6 m6 H6 d6 h6 l6 t6 s6 e6 => ?_⟩
    refine ⟨(by show 4 ≤ sizeLine; decide), fun a na => ?_⟩
    have s7 := same_new na (HO.tup [V.str "method", V.str x, V.ref rp, V.ref r])
    have kp7 := Keep.same s7
    have kp6 := d6.keep ho5.deck
    have hrp7 := kp7.sqt (kp6.sqt ((Keep.same s5).sqt hrp))
    refine q a x rp r ps ts _ (((b2.trans (But.same (s4.trans s5))).trans d6.but).trans (But.same s7)) ⟨SqT.of upd_same, hrp7, kp7.sqt h6, fun t ht => kp7.nd (t6 t ht).1.1, Dok.tup hrp7 fun u hu => ?_, (Dok.args (kp7.sqt h6) fun u hu => kp7.dok (t6 u hu).2).mono (by omega), by omega, by omega⟩ (fun t ht => (t6 t ht).1.2) (fun x hx => hps x hx) (by omega)
    obtain ⟨t', ht', rfl⟩ := List.mem_map.mp hu
    exact Dok.str (hps t' ht').1
end
end My

set_option Elab.async false
set_option linter.all false
set_option maxRecDepth 100000
set_option maxHeartbeats 4000000
namespace My
open PySem L2
/-! ### a Shape as it grows -/
/-- all that stood but at S stands -/
def ButS (S : List Addr) (H H' : Hp) : Prop := ∀ b o, H b = some o → b ∉ S → H' b = some o
theorem ButS.refl (S : List Addr) (H : Hp) : ButS S H H := fun _ _ h _ => h
theorem ButS.trans {S : List Addr} {H H1 H2 : Hp} (a : ButS S H H1) (b : ButS S H1 H2) : ButS S H H2 := fun c o h n => b c o (a c o h n) n
theorem ButS.same {S : List Addr} {H H' : Hp} (s : Same H H') : ButS S H H' := fun b o h _ => s b o h
theorem ButS.set {S : List Addr} {H : Hp} {p : Addr} (o : HO) (h : p ∈ S) : ButS S H (upd H p o) := fun b u e n => by
  rw [upd_ne (fun z => n (by rw [z]; exact h))]
  exact e
/-- an object that H does not know may change -/
theorem ButS.mut {S : List Addr} {H H1 : Hp} {p : Addr} {o : HO} (a : ButS S H H1) (h : H p = none) : ButS S H (upd H1 p o) := fun b u e n => by
  rw [upd_ne (ne_of_none e h)]
  exact a b u e n
theorem ButS.keep {S : List Addr} {H H' : Hp} (b : ButS S H H') (h : ∀ s, s ∈ S → ∃ xs, H s = some (.lst xs)) : Keep H H' :=
  ⟨fun a ys e => b a _ e (fun hm => by obtain ⟨xs, z⟩ := h a hm; rw [e] at z; cases z), fun a o u e => b a _ e (fun hm => by obtain ⟨xs, z⟩ := h a hm; rw [e] at z; cases z)⟩
def noMeth (fs : List (Str × V)) : Prop := fs.lookup ("add" : Str) = none ∧ fs.lookup ("is_parameter" : Str) = none ∧ fs.lookup ("all_names" : Str) = none ∧ fs.lookup ("parameters" : Str) = none ∧ fs.lookup ("body" : Str) = none
structure ShO (C : Addr) (H : Hp) (p dx : Addr) (fs : List (Str × V)) (tree : V) (n a c d : Addr) : Prop where
  ob : H p = some (.ins C dx fs)
  tree : fs.lookup ("tree" : Str) = some tree
  nodes : fs.lookup ("nodes" : Str) = some (.ref n)
  above : fs.lookup ("above" : Str) = some (.ref a)
  children : fs.lookup ("children" : Str) = some (.ref c)
  code : fs.lookup ("code" : Str) = some (.ref d)
  no : noMeth fs
structure ShB (H : Hp) (n a c d : Addr) (ch : List Addr) (rs : List Rec) : Prop where
  hn : H n = some (.lst (rs.map Rec.v))
  ha : H a = some (.lst (rs.map fun r => V.int r.above))
  hc : H c = some (.lst (ch.map V.ref))
  hd : H d = some (.lst (rs.map fun r => V.int r.code))
  len : ch.length = rs.length
  kid : ∀ (i : Nat) (x : Addr) (r : Rec), ch[i]? = some x → rs[i]? = some r → H x = some (.lst (r.kids.map V.int))
  ap : [n, a, c, d].Nodup
  out : ∀ x, x ∈ ch → x ∉ [n, a, c, d]
  nd : ch.Nodup
theorem ShB.lists {H : Hp} {n a c d : Addr} {ch : List Addr} {rs : List Rec} (h : ShB H n a c d ch rs) : ∀ s, s ∈ [n, a, c, d] → ∃ xs, H s = some (.lst xs) := fun s hs => by
  simp only [List.mem_cons, List.not_mem_nil, or_false] at hs
  rcases hs with rfl | rfl | rfl | rfl
  · exact ⟨_, h.hn⟩
  · exact ⟨_, h.ha⟩
  · exact ⟨_, h.hc⟩
  · exact ⟨_, h.hd⟩
theorem ShB.same {H H' : Hp} {n a c d : Addr} {ch : List Addr} {rs : List Rec} (h : ShB H n a c d ch rs) (s : Same H H') : ShB H' n a c d ch rs :=
  ⟨s _ _ h.hn, s _ _ h.ha, s _ _ h.hc, s _ _ h.hd, h.len, fun i x r e1 e2 => s _ _ (h.kid i x r e1 e2), h.ap, h.out, h.nd⟩
/-- a record more, without kids -/
theorem ShB.more {H : Hp} {n a c d : Addr} {ch : List Addr} {rs : List Rec} (h : ShB H n a c d ch rs) (r : Rec) (hk : r.kids = []) {x : Addr} (nx : H x = none) :
    ∀ H' : Hp, H' n = some (.lst ((rs ++ [r]).map Rec.v)) → H' a = some (.lst ((rs ++ [r]).map fun r => V.int r.above)) → H' c = some (.lst ((ch ++ [x]).map V.ref)) → H' d = some (.lst ((rs ++ [r]).map fun r => V.int r.code)) →
      H' x = some (.lst []) → ButS [n, a, c, d] H H' → ShB H' n a c d (ch ++ [x]) (rs ++ [r]) := fun H' e1 e2 e3 e4 e5 b => by
  have hxn : x ∉ [n, a, c, d] := fun hm => by
    obtain ⟨xs, z⟩ := h.lists x hm
    rw [nx] at z
    cases z
  have hxc : x ∉ ch := fun hm => by
    obtain ⟨i, hi⟩ := List.mem_iff_getElem?.mp hm
    obtain ⟨hlt, _⟩ := List.getElem?_eq_some_iff.mp hi
    have hlt' : i < rs.length := by rw [← h.len]; exact hlt
    have z := h.kid i x rs[i] hi (List.getElem?_eq_getElem hlt')
    rw [nx] at z
    cases z
  refine ⟨e1, e2, e3, e4, by rw [List.length_append, List.length_append, h.len]; rfl, fun i y r' g1 g2 => ?_, h.ap, fun y hy => ?_, ?_⟩
  · by_cases hi : i < ch.length
    · rw [List.getElem?_append_left hi] at g1
      rw [List.getElem?_append_left (by rw [← h.len]; exact hi)] at g2
      refine b _ _ (h.kid i y r' g1 g2) (h.out y (List.mem_of_getElem? g1))
    · have hi' : i = ch.length := by
        obtain ⟨hlt, _⟩ := List.getElem?_eq_some_iff.mp g1
        rw [List.length_append, List.length_singleton] at hlt
        omega
      subst hi'
      rw [List.getElem?_append_right (Nat.le_refl _), Nat.sub_self] at g1
      rw [h.len, List.getElem?_append_right (Nat.le_refl _), Nat.sub_self] at g2
      have q1 : x = y := Option.some.inj g1
      have q2 : r = r' := Option.some.inj g2
      subst q1 q2
      rw [hk]
      exact e5
  · rcases List.mem_append.mp hy with e | e
    · exact h.out y e
    · rw [List.mem_singleton] at e
      subst e
      exact hxn
  · refine List.nodup_append.mpr ⟨h.nd, by simp, fun y hy z hz e => ?_⟩
    rw [List.mem_singleton] at hz
    subst e hz
    exact hxc hy
/-- a kid more of the record with number j -/
theorem ShB.kidMore {H : Hp} {n a c d : Addr} {ch : List Addr} {rs : List Rec} (h : ShB H n a c d ch rs) {j : Nat} {x : Addr} {r : Rec} (e1 : ch[j]? = some x) (e2 : rs[j]? = some r) (z : Int) :
    ShB (upd H x (.lst (r.kids.map V.int ++ [V.int z]))) n a c d ch (rs.set j { r with kids := r.kids ++ [z] }) := by
  have hx := h.out x (List.mem_of_getElem? e1)
  have ne : ∀ y, y ∈ [n, a, c, d] → y ≠ x := fun y hy e => hx (by rw [← e]; exact hy)
  obtain ⟨hj, ej⟩ := List.getElem?_eq_some_iff.mp e2
  have m1 : (rs.set j { r with kids := r.kids ++ [z] }).map Rec.v = rs.map Rec.v := by
    rw [List.map_set]
    apply List.ext_getElem? 
    intro i
    by_cases hi : j = i
    · subst hi
      rw [List.getElem?_set_self (by simpa using hj), List.getElem?_map, e2]; rfl
    · rw [List.getElem?_set_ne hi]
  have m2 : (rs.set j { r with kids := r.kids ++ [z] }).map (fun r => V.int r.above) = rs.map fun r => V.int r.above := by
    rw [List.map_set]
    apply List.ext_getElem? 
    intro i
    by_cases hi : j = i
    · subst hi
      rw [List.getElem?_set_self (by simpa using hj), List.getElem?_map, e2]; rfl
    · rw [List.getElem?_set_ne hi]
  have m3 : (rs.set j { r with kids := r.kids ++ [z] }).map (fun r => V.int r.code) = rs.map fun r => V.int r.code := by
    rw [List.map_set]
    apply List.ext_getElem? 
    intro i
    by_cases hi : j = i
    · subst hi
      rw [List.getElem?_set_self (by simpa using hj), List.getElem?_map, e2]; rfl
    · rw [List.getElem?_set_ne hi]
  refine ⟨by rw [upd_ne (ne n (by simp)), m1]; exact h.hn, by rw [upd_ne (ne a (by simp)), m2]; exact h.ha, by rw [upd_ne (ne c (by simp))]; exact h.hc, by rw [upd_ne (ne d (by simp)), m3]; exact h.hd, by rw [List.length_set]; exact h.len, fun i y r' g1 g2 => ?_, h.ap, h.out, h.nd⟩
  by_cases hi : j = i
  · subst hi
    have q1 : y = x := Option.some.inj (g1.symm.trans e1)
    subst q1
    rw [List.getElem?_set_self hj] at g2
    have q2 := Option.some.inj g2
    subst q2
    rw [upd_same, List.map_append]; rfl
  · rw [List.getElem?_set_ne hi] at g2
    have hyx : y ≠ x := fun e => hi (nd_ix h.nd (by rw [← e] at e1; exact e1) g1)
    rw [upd_ne hyx]
    exact h.kid i y r' g1 g2
end My

set_option Elab.async false
set_option linter.all false
set_option maxRecDepth 100000
set_option maxHeartbeats 4000000
namespace My
open PySem L2
def spAdd (K : PySem.W.Frag) (C : Addr) (N : Nat) : Sp := fun vs H Q _ => ∃ (p dx : Addr) (fs : List (Str × V)) (tree : V) (n a c d : Addr) (ch : List Addr) (rs : List Rec) (t : Nd) (above code : Int) (hid : List (List Str)), vs = [.ref p, t.v, .int above, .int code] ∧
  ShO C H p dx fs tree n a c d ∧ ShB H n a c d ch rs ∧ NdAt K H t ∧ size t ≤ N ∧ rs.length + size t ≤ 1000 ∧
  ∀ (H' : Hp) (ch2 : List Addr), ShB H' n a c d (ch ++ ch2) (rs ++ recs rs.length above code hid t) → (∀ x, x ∈ ch2 → H x = none) → ButS [n, a, c, d] H H' → Q (.int rs.length) H'
theorem ShO.ne {C : Addr} {H : Hp} {p dx : Addr} {fs : List (Str × V)} {tree : V} {n a c d : Addr} {ch : List Addr} {rs : List Rec} (o : ShO C H p dx fs tree n a c d) (b : ShB H n a c d ch rs) : p ∉ [n, a, c, d] := fun hm => by
  obtain ⟨xs, z⟩ := b.lists p hm
  rw [o.ob] at z
  cases z
theorem ShO.but {C : Addr} {H H' : Hp} {p dx : Addr} {fs : List (Str × V)} {tree : V} {n a c d : Addr} {ch : List Addr} {rs : List Rec} (o : ShO C H p dx fs tree n a c d) (b : ShB H n a c d ch rs) (k : ButS [n, a, c, d] H H') : ShO C H' p dx fs tree n a c d :=
  ⟨k _ _ o.ob (o.ne b), o.tree, o.nodes, o.above, o.children, o.code, o.no⟩
section
variable {P : Program} {w : World} {K : PySem.W.Frag} {mg : Str → Option Value} {base : Heap}
theorem ok_add (T : Tx K mg) {N : Nat} (G_Shape_add : FnOk P w K mg base CX0 (N + 1) T.d_Shape_add.f T.d_Shape_add.fd ["self", "node", "above", "code"] (spAdd K T.Shape.C N)) :
    FnOk P w K mg base CX0 (N + 2) T.d_Shape_add.f T.d_Shape_add.fd ["self", "node", "above", "code"] (spAdd K T.Shape.C (N + 1)) := by
  have nd := sc_Shape_add.nd
  have G_parts_of := ok_parts_of (P := P) (w := w) (base := base) T
  refine T.d_Shape_add.fn.ok (k := N + 1) sc_Shape_add (fun vs H Q E h => ?_) (fun cdv A outer s H vs Q E hr h => ?_)
  · obtain ⟨p, dx, fs, tree, n, a, c, d, ch, rs, t, above, code, hid, rfl, _⟩ := h
    rfl
  · obtain ⟨p, dx, fs, tree, n, a, c, d, ch, rs, t, above, code, hid, rfl, ho, hb, ht, hN, hl, q⟩ := h
    have h_parts_of : Room 1 _ := hr.mono (by omega)
    have h_Shape_add : Room (N + 1) _ := hr
    obtain ⟨na, nc, nD, ac, ad, cd⟩ : n ≠ a ∧ n ≠ c ∧ n ≠ d ∧ a ≠ c ∧ a ≠ d ∧ c ≠ d := by
      have z := hb.ap
      simp only [List.nodup_cons, List.mem_cons, List.not_mem_nil, or_false, not_or] at z
      exact ⟨z.1.1, z.1.2.1, z.1.2.2, z.2.1.1, z.2.1.2, z.2.2.1⟩
    have hsz := size_pos t
    refine ⟨_, (pss_cons (ps_set (i := 4) nd rfl (Or.inl rfl) (pe_callB call_len_seq (by rfl) T.z_len PySem.boot_len (pa_cons (pe_fld (pv 0) rfl) pa_nil)))
      (pss_cons (ps_expr (pe_bm PySem.F.plainAttrs_list PySem.F.slot_list_append PySem.F.type_list_append mt_append (pe_fld (pv 0) rfl) (pa_cons (pv 1) pa_nil)))
      (pss_cons (ps_expr (pe_bm PySem.F.plainAttrs_list PySem.F.slot_list_append PySem.F.type_list_append mt_append (pe_fld (pv 0) rfl) (pa_cons (pv 2) pa_nil)))
      (pss_cons (ps_expr (pe_bm PySem.F.plainAttrs_list PySem.F.slot_list_append PySem.F.type_list_append mt_append (pe_fld (pv 0) rfl) (pa_cons (pe_lst pa_nil) pa_nil)))
      (pss_cons (ps_expr (pe_bm PySem.F.plainAttrs_list PySem.F.slot_list_append PySem.F.type_list_append mt_append (pe_fld (pv 0) rfl) (pa_cons (pv 3) pa_nil)))
      (pss_cons (ps_set (i := 5) nd rfl (Or.inl rfl) (pv 3))
      (pss_cons (ps_if (pt_cmpR op_eq (pe_ix ix_tup (pv 1) pe_int (fun _ _ => rfl)) pe_str (nomark _))
      (pss_one (ps_set (i := 5) nd rfl (Or.inl rfl) (pv 4)))
      pss_nil)
      (pss_cons (ps_for PassesOwn.never rfl (pi_tup (pe_call G_parts_of h_parts_of rfl T.d_parts_of.m T.d_parts_of.kp T.d_parts_of.b .nil pass0 (pa_cons (pv 1) pa_nil))) (pg_name (i := 6) nd rfl (Or.inl rfl))
      (pss_one (ps_expr (pe_bm PySem.F.plainAttrs_list PySem.F.slot_list_append PySem.F.type_list_append mt_append (pe_ix ix_list (pe_fld (pv 0) rfl) (pv 4) (fun _ _ => rfl)) (pa_cons (pe_meth (pv 0) T.Shape.cl T.d_Shape_add.me G_Shape_add h_Shape_add T.d_Shape_add.b .nil pass0 (pa_cons (pv 6) (pa_cons (pv 4) (pa_cons (pv 5) pa_nil)))) pa_nil)))))
      (pss_one (ps_ret (pv 4))))))))))), ?_⟩
    -- at = len(self.nodes)
    refine ⟨_, rfl, p, _, dx, _, _, rfl, ho.ob, T.Shape.cl, T.Shape.n_nodes, ho.nodes, n, _, rfl, .inl (SqL.of hb.hn), ?_⟩
    -- self.nodes.append(node)
    refine ⟨_, rfl, p, _, dx, _, _, rfl, ho.ob, T.Shape.cl, T.Shape.n_nodes, ho.nodes, .inl ⟨rfl, _, SqL.of hb.hn⟩, _, rfl, n, _, _, rfl, rfl, hb.hn, szl (by rw [List.length_map]; omega), ?_⟩
    have np' : p ∉ [n, a, c, d] := ho.ne hb
    obtain ⟨pn, pa, pc, pd⟩ : p ≠ n ∧ p ≠ a ∧ p ≠ c ∧ p ≠ d := by
      simpa only [List.mem_cons, List.not_mem_nil, or_false, not_or] using np'
    have b1 : ButS [n, a, c, d] H (upd H n (.lst (rs.map Rec.v ++ [t.v]))) := ButS.set _ (by simp)
    have n1 : upd H n (.lst (rs.map Rec.v ++ [t.v])) n = some (.lst (rs.map Rec.v ++ [t.v])) := upd_same
    have a1 : upd H n (.lst (rs.map Rec.v ++ [t.v])) a = some (.lst (rs.map fun r => V.int r.above)) := by rw [upd_ne na.symm]; exact hb.ha
    have c1 : upd H n (.lst (rs.map Rec.v ++ [t.v])) c = some (.lst (ch.map V.ref)) := by rw [upd_ne nc.symm]; exact hb.hc
    have d1 : upd H n (.lst (rs.map Rec.v ++ [t.v])) d = some (.lst (rs.map fun r => V.int r.code)) := by rw [upd_ne nD.symm]; exact hb.hd
    generalize upd H n (.lst (rs.map Rec.v ++ [t.v])) = H1 at b1 n1 a1 c1 d1 ⊢
    -- self.above.append(above)
    refine ⟨_, rfl, p, _, dx, _, _, rfl, b1 _ _ ho.ob np', T.Shape.cl, T.Shape.n_above, ho.above, .inl ⟨rfl, _, SqL.of a1⟩, _, rfl, a, _, _, rfl, rfl, a1, szl (by rw [List.length_map]; omega), ?_⟩
    have b2 : ButS [n, a, c, d] H (upd H1 a (.lst ((rs.map fun r => V.int r.above) ++ [V.int above]))) := b1.trans (ButS.set _ (by simp))
    have n2 : upd H1 a (.lst ((rs.map fun r => V.int r.above) ++ [V.int above])) n = some (.lst (rs.map Rec.v ++ [t.v])) := by rw [upd_ne na]; exact n1
    have a2 : upd H1 a (.lst ((rs.map fun r => V.int r.above) ++ [V.int above])) a = some (.lst ((rs.map fun r => V.int r.above) ++ [V.int above])) := upd_same
    have c2 : upd H1 a (.lst ((rs.map fun r => V.int r.above) ++ [V.int above])) c = some (.lst (ch.map V.ref)) := by rw [upd_ne ac.symm]; exact c1
    have d2 : upd H1 a (.lst ((rs.map fun r => V.int r.above) ++ [V.int above])) d = some (.lst (rs.map fun r => V.int r.code)) := by rw [upd_ne ad.symm]; exact d1
    generalize upd H1 a (.lst ((rs.map fun r => V.int r.above) ++ [V.int above])) = H2 at b2 n2 a2 c2 d2 ⊢
    -- self.children.append([])
    refine ⟨_, rfl, p, _, dx, _, _, rfl, b2 _ _ ho.ob np', T.Shape.cl, T.Shape.n_children, ho.children, .inl ⟨rfl, _, SqL.of c2⟩, (by show 0 ≤ sizeLine; decide), fun x nx => ?_⟩
    have xc : c ≠ x := ne_of_none c2 nx
    have xn : n ≠ x := ne_of_none n2 nx
    have xa : a ≠ x := ne_of_none a2 nx
    have xd : d ≠ x := ne_of_none d2 nx
    have hx0 : H x = none := by
      cases e : H x with
      | none => rfl
      | some o =>
        have z := b2 _ _ e (by simp only [List.mem_cons, List.not_mem_nil, or_false, not_or]; exact ⟨xn.symm, xa.symm, xc.symm, xd.symm⟩)
        rw [nx] at z
        cases z
    refine ⟨c, _, _, rfl, rfl, (by rw [upd_ne xc]; exact c2), szl (by rw [List.length_map, hb.len]; omega), ?_⟩
    have b3 : ButS [n, a, c, d] H (upd (upd H2 x (.lst [])) c (.lst (ch.map V.ref ++ [V.ref x]))) := (b2.trans (ButS.same (same_new nx _))).trans (ButS.set _ (by simp))
    have n3 : upd (upd H2 x (.lst [])) c (.lst (ch.map V.ref ++ [V.ref x])) n = some (.lst (rs.map Rec.v ++ [t.v])) := by rw [upd_ne nc, upd_ne xn]; exact n2
    have a3 : upd (upd H2 x (.lst [])) c (.lst (ch.map V.ref ++ [V.ref x])) a = some (.lst ((rs.map fun r => V.int r.above) ++ [V.int above])) := by rw [upd_ne ac, upd_ne xa]; exact a2
    have c3 : upd (upd H2 x (.lst [])) c (.lst (ch.map V.ref ++ [V.ref x])) c = some (.lst (ch.map V.ref ++ [V.ref x])) := upd_same
    have d3 : upd (upd H2 x (.lst [])) c (.lst (ch.map V.ref ++ [V.ref x])) d = some (.lst (rs.map fun r => V.int r.code)) := by rw [upd_ne cd.symm, upd_ne xd]; exact d2
    have x3 : upd (upd H2 x (.lst [])) c (.lst (ch.map V.ref ++ [V.ref x])) x = some (.lst []) := by rw [upd_ne xc.symm, upd_same]
    generalize upd (upd H2 x (.lst [])) c (.lst (ch.map V.ref ++ [V.ref x])) = H3 at b3 n3 a3 c3 d3 x3 ⊢
    -- self.code.append(code)
    refine ⟨_, rfl, p, _, dx, _, _, rfl, b3 _ _ ho.ob np', T.Shape.cl, T.Shape.n_code, ho.code, .inl ⟨rfl, _, SqL.of d3⟩, _, rfl, d, _, _, rfl, rfl, d3, szl (by rw [List.length_map]; omega), ?_⟩
    cases ht with
    | mk b w its pps ks hS hF hD hk =>
    have b4 : ButS [n, a, c, d] H (upd H3 d (.lst ((rs.map fun r => V.int r.code) ++ [V.int code]))) := b3.trans (ButS.set _ (by simp))
    have hb4 : ShB (upd H3 d (.lst ((rs.map fun r => V.int r.code) ++ [V.int code]))) n a c d (ch ++ [x]) (rs ++ [⟨.ref b, w, its, pps, above, code, hid, []⟩]) := hb.more ⟨.ref b, w, its, pps, above, code, hid, []⟩ rfl hx0 _
      (by rw [upd_ne nD, n3, List.map_append]; rfl) (by rw [upd_ne ad, a3, List.map_append]; rfl) (by rw [upd_ne cd, c3, List.map_append]; rfl) (by rw [upd_same, List.map_append]; rfl) (by rw [upd_ne xd.symm]; exact x3) b4
    generalize upd H3 d (.lst ((rs.map fun r => V.int r.code) ++ [V.int code])) = H4 at b4 hb4 ⊢
    have kp4 := b4.keep hb.lists
    have ho4 := ho.but hb b4
    have hsize : size (.mk (.ref b) w its pps ks) = 1 + sizeL ks := by simp only [size]
    have hkl := len_le_sizeL ks
    have hlm : (rs.map Rec.v).length = rs.length := List.length_map _
    -- inner = code; if node[0] == 'block': inner = at
    refine ⟨_, rfl, ?_⟩
    refine ⟨_, rfl, b, _, _, _, rfl, rfl, kp4.sqt hS, at0, rfl, _, rfl, ?_⟩
    have main : ∀ (atv inner : Int) (ih : List (List Str)), atv = (rs.length : Int) → inner = (if w = "block" then (rs.length : Int) else code) → ih = (if w = "block" then pps :: hid else hid) →
        tSeq (tFor (iTup K (tCall (spParts K) [] E0 (tCons (tVar 1) tNil))) (gName 6) (tDrop (tBM K "list" rAppend (tOp (rIxL K) (tFld K (tVar 0) "children") (tVar 4)) (tCons (tMeth T.Shape.C "add" (spAdd K T.Shape.C N) [] E0 (tVar 0) (tCons (tVar 6) (tCons (tVar 4) (tCons (tVar 5) tNil)))) tNil)))) (tRet (tVar 4)) { nx := fun _ H' => Q .non H', rt := Q } [some (.ref p), some (.ref b), some (.int above), some (.int code), some (.int atv), some (.int inner), none] H4 := by
      rintro atv inner ih rfl hin hih
      refine ⟨_, rfl, b, w, its, pps, ks.map Nd.v, rfl, kp4.sqt hS, kp4.form hF, by rw [List.length_map]; omega, fun r H5 s5 h5 => ⟨r, rfl, ⟨_, h5⟩, ?_⟩⟩
      refine for_tup (K := K) (a := r) (xs := ks.map Nd.v) (fun i σ H' => ∃ (v6 : Option V) (ch2 : List Addr), σ = [some (.ref p), some (.ref b), some (.int above), some (.int code), some (.int rs.length), some (.int inner), v6] ∧
        ShB H' n a c d ((ch ++ [x]) ++ ch2) (rs ++ (⟨.ref b, w, its, pps, above, code, hid, kidNums (rs.length + 1) (ks.take i)⟩ :: recsL (rs.length + 1) rs.length inner ih (ks.take i))) ∧ (∀ y, y ∈ ch2 → H y = none) ∧ ButS [n, a, c, d] H H' ∧ SqT K H' r (ks.map Nd.v)) ?_ ?_ ?_ ?_
      · exact ⟨none, [], rfl, by rw [List.append_nil]; exact hb4.same s5, fun y hy => by simp at hy, b4.trans (ButS.same s5), h5⟩
      · rintro i σ H' _ ⟨_, _, _, _, _, _, h⟩
        exact h
      · rintro i y σ H' hi ⟨v6, ch2, rfl, hb', hnew, b', hr'⟩
        obtain ⟨k, hki, rfl⟩ : ∃ k, ks[i]? = some k ∧ y = k.v := by
          rw [List.getElem?_map] at hi
          cases e : ks[i]? with
          | none => rw [e] at hi; cases hi
          | some k => rw [e] at hi; exact ⟨k, rfl, (Option.some.inj hi).symm⟩
        have hkm : k ∈ ks := List.mem_of_getElem? hki
        have htk : ks.take (i + 1) = ks.take i ++ [k] := by rw [List.take_add_one, hki]; rfl
        have hsum : sizeL (ks.take i) + size k ≤ sizeL ks := by
          have e1 : sizeL (ks.take (i + 1)) + sizeL (ks.drop (i + 1)) = sizeL ks := by rw [← sizeL_append, List.take_append_drop]
          rw [htk, sizeL_append] at e1
          simp only [sizeL] at e1
          omega
        have ho' := ho.but hb b'
        have kp' := b'.keep hb.lists
        have hlen' : (rs ++ (⟨.ref b, w, its, pps, above, code, hid, kidNums (rs.length + 1) (ks.take i)⟩ :: recsL (rs.length + 1) rs.length inner ih (ks.take i))).length = rs.length + 1 + sizeL (ks.take i) := by
          rw [List.length_append, List.length_cons, recsL_len]
          omega
        have gx : ∀ ch3 : List Addr, ((ch ++ [x]) ++ ch3)[rs.length]? = some x := fun ch3 => by
          rw [List.append_assoc, ← hb.len, List.getElem?_append_right (Nat.le_refl _), Nat.sub_self]
          rfl
        have gr : ∀ (r0 : Rec) (l : List Rec), (rs ++ (r0 :: l))[rs.length]? = some r0 := fun r0 l => by
          rw [List.getElem?_append_right (Nat.le_refl _), Nat.sub_self]
          rfl
        have hx' := hb'.kid rs.length x _ (gx ch2) (gr _ _)
        refine ⟨_, rfl, p, _, dx, _, _, rfl, ho'.ob, T.Shape.cl, T.Shape.n_children, ho'.children, _, rfl, c, _, _, V.ref x, rfl, rfl, SqL.of hb'.hc, at_of (j := rs.length) rfl (by rw [List.getElem?_map, gx]; rfl), .inl ⟨rfl, _, SqL.of hx'⟩, ?_⟩
        refine ⟨_, rfl, p, dx, _, rfl, ho'.ob, ho'.no.1, _, rfl, _, rfl, _, rfl, p, dx, fs, tree, n, a, c, d, _, _, k, _, inner, ih, rfl, ho', hb', kp'.nd (hk k hkm), by omega, by rw [hlen']; omega, fun H6 ch3 hb6 new6 b6 => ?_⟩
        rw [hlen'] at hb6 ⊢
        have e6 : ((ch ++ [x]) ++ ch2) ++ ch3 = (ch ++ [x]) ++ (ch2 ++ ch3) := List.append_assoc _ _ _
        rw [e6] at hb6
        have hx6 := hb6.kid rs.length x ⟨.ref b, w, its, pps, above, code, hid, kidNums (rs.length + 1) (ks.take i)⟩ (gx _) (by rw [List.append_assoc]; exact gr _ _)
        refine ⟨x, _, _, rfl, rfl, hx6, szl (by rw [List.length_map, kidNums_len, List.length_take]; omega), ?_⟩
        have hb7 := hb6.kidMore (gx _) (r := ⟨.ref b, w, its, pps, above, code, hid, kidNums (rs.length + 1) (ks.take i)⟩) (by rw [List.append_assoc]; exact gr _ _) ((rs.length + 1 + sizeL (ks.take i) : Nat) : Int)
        refine ⟨_, ch2 ++ ch3, rfl, ?_, fun y hy => ?_, (b'.trans b6).mut hx0, ?_⟩
        · rw [htk, kidNums_append, recsL_append]
          have e7 : (rs ++ (⟨.ref b, w, its, pps, above, code, hid, kidNums (rs.length + 1) (ks.take i)⟩ :: recsL (rs.length + 1) rs.length inner ih (ks.take i)) ++ recs (rs.length + 1 + sizeL (ks.take i)) rs.length inner ih k).set rs.length ⟨.ref b, w, its, pps, above, code, hid, kidNums (rs.length + 1) (ks.take i) ++ [((rs.length + 1 + sizeL (ks.take i) : Nat) : Int)]⟩ =
              rs ++ (⟨.ref b, w, its, pps, above, code, hid, kidNums (rs.length + 1) (ks.take i) ++ kidNums (rs.length + 1 + sizeL (ks.take i)) [k]⟩ :: (recsL (rs.length + 1) rs.length inner ih (ks.take i) ++ recsL (rs.length + 1 + sizeL (ks.take i)) rs.length inner ih [k])) := by
            rw [List.append_assoc, List.set_append_right _ _ (Nat.le_refl _), Nat.sub_self]
            simp only [List.cons_append, List.set_cons_zero, kidNums, recsL, List.append_nil]
          rw [← e7]
          exact hb7
        · rcases List.mem_append.mp hy with e | e
          · exact hnew y e
          · cases e0 : H y with
            | none => rfl
            | some o =>
              have hyout : y ∉ [n, a, c, d] := hb6.out y (by simp [e])
              have z := b' _ _ e0 hyout
              rw [new6 y e] at z
              cases z
        · have kx : Keep H6 (upd H6 x (.lst ((kidNums (rs.length + 1) (ks.take i)).map V.int ++ [V.int ((rs.length + 1 + sizeL (ks.take i) : Nat) : Int)]))) := (But.set (D := x) _).keep hx6
          exact kx.sqt ((b6.keep hb'.lists).sqt hr')
      · rintro σ H' ⟨v6, ch2, rfl, hb', hnew, b', hr'⟩
        refine ⟨_, rfl, q H' ([x] ++ ch2) ?_ (fun y hy => ?_) b'⟩
        · rw [List.length_map, List.take_length] at hb'
          rw [← List.append_assoc]
          simp only [recs]
          rw [← hin, ← hih]
          exact hb'
        · rcases List.mem_append.mp hy with e | e
          · rw [List.mem_singleton] at e
            subst e
            exact hx0
          · exact hnew y e
    have hlmI : (((rs.map Rec.v).length : Nat) : Int) = (rs.length : Int) := by rw [hlm]
    refine iteB (fun e => ?_) (fun e => ?_)
    · have ew : w = "block" := by
        have := of_decide_eq_true e
        exact V.str.inj this
      exact ⟨_, rfl, main _ _ _ hlmI (by rw [if_pos ew]; exact hlmI) (by rw [if_pos ew])⟩
    · have ew : ¬ w = "block" := fun z => by
        have := of_decide_eq_false e
        exact this (by rw [z])
      exact main _ _ _ hlmI (by rw [if_neg ew]) (by rw [if_neg ew])
theorem ok_adds (T : Tx K mg) : ∀ N : Nat, FnOk P w K mg base CX0 (N + 1) T.d_Shape_add.f T.d_Shape_add.fd ["self", "node", "above", "code"] (spAdd K T.Shape.C N)
  | 0 => fn_never fun vs H Q E h => by
    obtain ⟨_, _, _, _, _, _, _, _, _, _, t, _, _, _, _, _, _, _, h, _⟩ := h
    have := size_pos t
    omega
  | N + 1 => ok_add T (ok_adds T N)
end
end My

set_option Elab.async false
set_option linter.all false
set_option maxRecDepth 100000
set_option maxHeartbeats 4000000
namespace My
open PySem L2
/-- a record's node as it stands -/
structure RecAt (K : PySem.W.Frag) (H : Hp) (r : Rec) : Prop where
  at_ : ∃ (a : Addr) (ks : List V), r.v = .ref a ∧ SqT K H a (.str r.w :: r.its) ∧ Form K H r.w r.its r.ps ks ∧ (Dok K H 60 (.ref a) ∧ ∀ x, x ∈ r.its → Dok K H 60 x)
theorem RecAt.keep {K : PySem.W.Frag} {H H' : Hp} {r : Rec} (h : RecAt K H r) (k : Keep H H') : RecAt K H' r := by
  obtain ⟨a, ks, h1, h2, h3, h4⟩ := h.at_
  exact ⟨a, ks, h1, k.sqt h2, k.form h3, k.dok h4.1, fun x hx => k.dok (h4.2 x hx)⟩
theorem nd_recs {K : PySem.W.Frag} {H : Hp} {t : Nd} (h : NdAt K H t) : ∀ (n : Nat) (a c : Int) (hd : List (List Str)) (r : Rec), r ∈ recs n a c hd t → RecAt K H r := by
  induction h with
  | mk b w its ps ks h1 h2 h3 h4 ih =>
    intro n a c hd r hr
    simp only [recs] at hr
    rcases List.mem_cons.mp hr with e | e
    · subst e
      exact ⟨b, _, rfl, h1, h2, h3⟩
    · have sub : ∀ (l : List Nd), (∀ k, k ∈ l → k ∈ ks) → ∀ (n : Nat) (a c : Int) (hd : List (List Str)), r ∈ recsL n a c hd l → RecAt K H r := by
        intro l
        induction l with
        | nil => intro _ n a c hd h; simp only [recsL] at h; simp at h
        | cons k l ih2 =>
          intro hm n a c hd h
          simp only [recsL] at h
          rcases List.mem_append.mp h with e | e
          · exact ih k (hm k (by simp)) _ _ _ _ r e
          · exact ih2 (fun k' hk' => hm k' (by simp [hk'])) _ _ _ _ e
      exact sub ks (fun _ h => h) _ _ _ _ e
theorem nds_recs {K : PySem.W.Frag} {H : Hp} : ∀ {ts : List Nd}, (∀ t, t ∈ ts → NdAt K H t) → ∀ (n : Nat) (a c : Int) (hd : List (List Str)) (r : Rec), r ∈ recsL n a c hd ts → RecAt K H r
  | [], _, n, a, c, hd, r, h => by simp only [recsL] at h; simp at h
  | t :: ts, ht, n, a, c, hd, r, h => by
    simp only [recsL] at h
    rcases List.mem_append.mp h with e | e
    · exact nd_recs (ht t (by simp)) _ _ _ _ r e
    · exact nds_recs (fun t' h' => ht t' (by simp [h'])) _ _ _ _ r e
/-- the code of a node is the one given, or a block ahead of it; what hides likewise -/
def Chain (b : Nat) (c : Int) (h : List (List Str)) (rs : List Rec) : Prop := ∀ (j : Nat) (r : Rec), rs[j]? = some r → (r.code = c ∧ r.hid = h) ∨ ∃ (i : Nat) (r' : Rec), r.code = ((b + i : Nat) : Int) ∧ i < j ∧ rs[i]? = some r' ∧ r'.w = "block" ∧ r.hid = r'.ps :: r'.hid
theorem Chain.append {b : Nat} {c : Int} {h : List (List Str)} {xs ys : List Rec} (hx : Chain b c h xs) (hy : Chain (b + xs.length) c h ys) : Chain b c h (xs ++ ys) := fun j r hj => by
  by_cases h : j < xs.length
  · rw [List.getElem?_append_left h] at hj
    rcases hx j r hj with e | ⟨i, r', e1, e2, e3, e4⟩
    · exact .inl e
    · exact .inr ⟨i, r', e1, e2, by rw [List.getElem?_append_left (by omega)]; exact e3, e4⟩
  · rw [List.getElem?_append_right (by omega)] at hj
    rcases hy _ r hj with e | ⟨i, r', e1, e2, e3, e4⟩
    · exact .inl e
    · refine .inr ⟨xs.length + i, r', by rw [e1]; congr 1; omega, by omega, ?_, e4⟩
      rw [List.getElem?_append_right (by omega), show xs.length + i - xs.length = i by omega]
      exact e3
mutual
theorem chain_recs : ∀ (t : Nd) (n : Nat) (a c : Int) (h : List (List Str)), Chain n c h (recs n a c h t)
  | .mk v w its ps ks, n, a, c, h => by
    have ih := chain_recsL ks (n + 1) n (if w = "block" then (n : Int) else c) (if w = "block" then ps :: h else h)
    intro j r hj
    simp only [recs] at hj
    cases j with
    | zero =>
      have e := Option.some.inj hj
      subst e
      exact .inl ⟨rfl, rfl⟩
    | succ j =>
      rw [List.getElem?_cons_succ] at hj
      rcases ih j r hj with ⟨e, e'⟩ | ⟨i, r', e1, e2, e3, e4⟩
      · by_cases hw : w = "block"
        · rw [if_pos hw] at e e'
          refine .inr ⟨0, ⟨v, w, its, ps, a, c, h, kidNums (n + 1) ks⟩, by rw [e]; rfl, by omega, ?_, hw, e'⟩
          simp only [recs]
          rfl
        · rw [if_neg hw] at e e'
          exact .inl ⟨e, e'⟩
      · refine .inr ⟨i + 1, r', by rw [e1]; congr 1; omega, by omega, ?_, e4⟩
        simp only [recs]
        rw [List.getElem?_cons_succ]
        exact e3
theorem chain_recsL : ∀ (ts : List Nd) (n : Nat) (a c : Int) (h : List (List Str)), Chain n c h (recsL n a c h ts)
  | [], n, a, c, h => by
    intro j r hj
    simp only [recsL] at hj
    simp at hj
  | t :: ts, n, a, c, h => by
    simp only [recsL]
    refine Chain.append (chain_recs t n a c h) ?_
    rw [recs_len]
    exact chain_recsL ts (n + size t) a c h
end
/-- a code of rs: -1 or a block; what it and those around hide -/
def CodeOk (rs : List Rec) (c : Int) (h : List (List Str)) : Prop := (c = -1 ∧ h = []) ∨ ∃ (i : Nat) (r : Rec), c = (i : Int) ∧ rs[i]? = some r ∧ r.w = "block" ∧ h = r.ps :: r.hid
theorem Chain.code {rs : List Rec} (h : Chain 0 (-1) [] rs) {j : Nat} {r : Rec} (hj : rs[j]? = some r) : CodeOk rs r.code r.hid ∧ r.code < (j : Int) := by
  rcases h j r hj with ⟨e, e'⟩ | ⟨i, r', e1, e2, e3, e4, e5⟩
  · exact ⟨.inl ⟨e, e'⟩, by omega⟩
  · rw [Nat.zero_add] at e1
    exact ⟨.inr ⟨i, r', e1, e3, e4, e5⟩, by omega⟩
theorem block_its {K : PySem.W.Frag} {H : Hp} {w : Str} {its : List V} {ps : List Str} {ks : List V} (f : Form K H w its ps ks) (hw : w = "block") : ∃ (p a : Addr), its = [.ref p, .ref a] ∧ SqT K H p (ps.map V.str) ∧ SqT K H a ks := by
  cases f with
  | block p a ps xs _ h1 h2 => exact ⟨p, a, rfl, h1, h2⟩
  | one w h e => exact absurd hw (by revert h; unfold oneW; subst hw; decide +kernel)
  | leaf w h its => exact absurd hw (by revert h; unfold leafW; subst hw; decide +kernel)
  | _ => exact absurd hw (by decide +kernel)
theorem set_its {K : PySem.W.Frag} {H : Hp} {w : Str} {its : List V} {ps : List Str} {ks : List V} (f : Form K H w its ps ks) (hw : w = "set") : ∃ (x : Str) (e : V), its = [.str x, e] := by
  cases f with
  | set x e => exact ⟨x, e, rfl⟩
  | one w h e => exact absurd hw (by revert h; unfold oneW; subst hw; decide +kernel)
  | leaf w h its => exact absurd hw (by revert h; unfold leafW; subst hw; decide +kernel)
  | _ => exact absurd hw (by decide +kernel)
theorem try_its {K : PySem.W.Frag} {H : Hp} {w : Str} {its : List V} {ps : List Str} {ks : List V} (f : Form K H w its ps ks) (hw : w = "try") : ∃ (x : Str) (a b : Addr), its = [.ref a, .str x, .ref b] := by
  cases f with
  | tri x a b xs ys h1 h2 => exact ⟨x, a, b, rfl⟩
  | one w h e => exact absurd hw (by revert h; unfold oneW; subst hw; decide +kernel)
  | leaf w h its => exact absurd hw (by revert h; unfold leafW; subst hw; decide +kernel)
  | _ => exact absurd hw (by decide +kernel)
theorem flat_strs (ps : List Str) : (ps.map V.str).all flatV = true := by
  rw [List.all_eq_true]
  intro x hx
  obtain ⟨y, _, rfl⟩ := List.mem_map.mp hx
  rfl
/-- whether a word is among some -/
def among (x : Str) (ps : List Str) : Bool := inV (.str x) (ps.map V.str)
/-- whether a word is a parameter of a block around -/
def hidden (x : Str) (h : List (List Str)) : Bool := h.any fun ps => among x ps
/-- what is read of a Shape that stands -/
structure ShR (K : PySem.W.Frag) (C : Addr) (H : Hp) (p dx : Addr) (fs : List (Str × V)) (tree : V) (n a c d : Addr) (ch : List Addr) (rs : List Rec) : Prop where
  o : ShO C H p dx fs tree n a c d
  b : ShB H n a c d ch rs
  r : ∀ r, r ∈ rs → RecAt K H r
  c : Chain 0 (-1) [] rs
def spIsPar (K : PySem.W.Frag) (C : Addr) : Sp := fun vs H Q _ => ∃ (p dx : Addr) (fs : List (Str × V)) (tree : V) (n a c d : Addr) (ch : List Addr) (rs : List Rec) (x : Str) (code : Int) (hd : List (List Str)), vs = [.ref p, .str x, .int code] ∧
  ShR K C H p dx fs tree n a c d ch rs ∧ CodeOk rs code hd ∧ Q (.bl (hidden x hd)) H
section
variable {P : Program} {w : World} {K : PySem.W.Frag} {mg : Str → Option Value} {base : Heap}
theorem ok_is_parameter (T : Tx K mg) : FnOk P w K mg base CX0 1 T.d_Shape_is_parameter.f T.d_Shape_is_parameter.fd ["self", "word", "code"] (spIsPar K T.Shape.C) := by
  have nd := sc_Shape_is_parameter.nd
  refine T.d_Shape_is_parameter.fn.ok sc_Shape_is_parameter (fun vs H Q E h => ?_) (fun cdv A outer s H vs Q E hr h => ?_)
  · obtain ⟨p, dx, fs, tree, n, a, c, d, ch, rs, x, code, hd, rfl, _⟩ := h
    rfl
  · obtain ⟨p, dx, fs, tree, n, a, c, d, ch, rs, x, code, hd, rfl, hR, hc, q⟩ := h
    refine ⟨_, (pss_cons (ps_while PassesOwn.never (pt_cmpR op_ge (pv 2) pe_int (nomark _))
      (pss_cons (ps_if (pt_cmpR op_in_seq (pv 1) (pe_ix ix_tup (pe_ix ix_list (pe_fld (pv 0) rfl) (pv 2) (fun _ _ => rfl)) pe_int (fun _ _ => rfl)) rfl)
      (pss_one (ps_ret pe_bl))
      pss_nil)
      (pss_one (ps_set (i := 2) nd rfl (Or.inl rfl) (pe_ix ix_list (pe_fld (pv 0) rfl) (pv 2) (fun _ _ => rfl))))))
      (pss_one (ps_ret pe_bl))), ?_⟩
    refine ⟨fun m σ H' => ∃ (cd : Int) (hh : List (List Str)), m = (cd + 1).toNat ∧ σ = [some (.ref p), some (.str x), some (.int cd)] ∧ H' = H ∧ CodeOk rs cd hh ∧ hidden x hh = hidden x hd, ⟨_, code, hd, rfl, rfl, rfl, hc, rfl⟩, ?_⟩
    rintro m σ H' ⟨cd, hh, rfl, rfl, rfl, hcd, he⟩
    refine ⟨_, rfl, _, _, rfl, rfl, _, rfl, iteB (fun e => ?_) (fun e => ?_)⟩
    · have e' := of_decide_eq_true e
      rcases hcd with ⟨z, _⟩ | ⟨i, r, z, hi, hw, rfl⟩
      · omega
      · subst z
        obtain ⟨⟨b, ks, hv, hS, hF, hD⟩⟩ := hR.r r (List.mem_of_getElem? hi)
        obtain ⟨pp, pa, hits, hps, _⟩ := block_its hF hw
        rw [hits] at hS
        have hat : atI (rs.map Rec.v) (i : Int) = some (.ref b) := at_of (j := i) rfl (by rw [List.getElem?_map, hi, ← hv]; rfl)
        obtain ⟨hc1, hc2⟩ := hR.c.code hi
        refine ⟨fun σ' H'' => ∃ (cd' : Int) (hh : List (List Str)), cd' < (i : Int) ∧ σ' = [some (.ref p), some (.str x), some (.int cd')] ∧ H'' = H' ∧ CodeOk rs cd' hh ∧ hidden x hh = hidden x hd, fun σ' H'' hh => ?_, ?_⟩
        · obtain ⟨cd', hh', l, rfl, rfl, hok, he'⟩ := hh
          exact ⟨(cd' + 1).toNat, by omega, cd', hh', rfl, rfl, rfl, hok, he'⟩
        refine ⟨_, rfl, _, rfl, p, _, dx, _, _, rfl, hR.o.ob, T.Shape.cl, T.Shape.n_nodes, hR.o.nodes, _, rfl, n, _, _, _, rfl, rfl, SqL.of hR.b.hn, hat, b, _, _, _, rfl, rfl, hS, at1, pp, _, rfl, .inr hps, rfl, flat_strs r.ps, _, rfl, iteB (fun e2 => ?_) (fun e2 => ?_)⟩
        · have e3 : among x r.ps = true := e2
          have e4 : hidden x hd = true := by
            rw [← he]
            show (among x r.ps || hidden x r.hid) = true
            rw [e3]
            rfl
          rw [e4] at q
          exact q
        · have e3 : among x r.ps = false := e2
          have e4 : hidden x r.hid = hidden x hd := by
            rw [← he]
            show hidden x r.hid = (among x r.ps || hidden x r.hid)
            rw [e3]
            rfl
          refine ⟨_, rfl, p, _, dx, _, _, rfl, hR.o.ob, T.Shape.cl, T.Shape.n_code, hR.o.code, _, rfl, d, _, _, V.int r.code, rfl, rfl, SqL.of hR.b.hd, at_of (j := i) rfl (by rw [List.getElem?_map, hi]; rfl), ?_⟩
          exact ⟨r.code, r.hid, hc2, rfl, rfl, hc1, e4⟩
    · have e' := of_decide_eq_false e
      rcases hcd with ⟨z, rfl⟩ | ⟨i, r, z, _⟩
      · have e4 : hidden x hd = false := by rw [← he]; rfl
        rw [e4] at q
        exact q
      · omega
end
end My

set_option Elab.async false
set_option linter.all false
set_option maxRecDepth 100000
set_option maxHeartbeats 4000000
namespace My
open PySem L2
theorem ShR.same {K : PySem.W.Frag} {C : Addr} {H H' : Hp} {p dx : Addr} {fs : List (Str × V)} {tree : V} {n a c d : Addr} {ch : List Addr} {rs : List Rec} (h : ShR K C H p dx fs tree n a c d ch rs) (s : Same H H') : ShR K C H' p dx fs tree n a c d ch rs :=
  ⟨⟨s _ _ h.o.ob, h.o.tree, h.o.nodes, h.o.above, h.o.children, h.o.code, h.o.no⟩, h.b.same s, fun r hr => (h.r r hr).keep (Keep.same s), h.c⟩
/-- one node more -/
def nameStep (acc : List Str) (w : Str) (its : List V) (h : List (List Str)) : List Str := match nameOf w its with
  | none => acc
  | some x => if (!among x acc && !hidden x h) = true then acc ++ [x] else acc
def namesOf (acc : List Str) (rs : List Rec) : List Str := rs.foldl (fun acc r => nameStep acc r.w r.its r.hid) acc
theorem nameStep_len (acc : List Str) (w : Str) (its : List V) (h : List (List Str)) : (nameStep acc w its h).length ≤ acc.length + 1 := by
  unfold nameStep
  split
  · omega
  · split
    · rw [List.length_append, List.length_singleton]; omega
    · omega
def spNames (K : PySem.W.Frag) (C : Addr) : Sp := fun vs H Q _ => ∃ (p dx : Addr) (fs : List (Str × V)) (ta pa ba : Addr) (msg : Str) (n a c d : Addr) (ch : List Addr) (rs : List Rec) (ps : List Str), vs = [.ref p] ∧
  ShR K C H p dx fs (.ref ta) n a c d ch rs ∧ SqT K H ta [.str "method", .str msg, .ref pa, .ref ba] ∧ SqT K H pa (ps.map V.str) ∧ ps.length ≤ 10 ∧ rs.length ≤ 1000 ∧
  ∀ (L : Addr) (H' : Hp), Same H H' → H L = none → H' L = some (.lst ((namesOf ps rs).map V.str)) → Q (.ref L) H'
section
variable {P : Program} {w : World} {K : PySem.W.Frag} {mg : Str → Option Value} {base : Heap}
theorem ok_all_names (T : Tx K mg) : FnOk P w K mg base CX0 2 T.d_Shape_all_names.f T.d_Shape_all_names.fd ["self"] (spNames K T.Shape.C) := by
  have nd := sc_Shape_all_names.nd
  have G_Shape_is_parameter := ok_is_parameter (P := P) (w := w) (base := base) T
  refine T.d_Shape_all_names.fn.ok sc_Shape_all_names (fun vs H Q E h => ?_) (fun cdv A outer s H vs Q E hr h => ?_)
  · obtain ⟨p, dx, fs, ta, pa, ba, msg, n, a, c, d, ch, rs, ps, rfl, _⟩ := h
    rfl
  · obtain ⟨p, dx, fs, ta, pa, ba, msg, n, a, c, d, ch, rs, ps, rfl, hR, hT, hP, hpl, hrl, q⟩ := h
    have h_Shape_is_parameter := hr
    refine ⟨_, (pss_cons (ps_set (i := 1) nd rfl (Or.inl rfl) (pe_callTy call_list_of (by rfl) T.z_list (by decide +kernel) (pa_cons (pe_ix ix_tup (pe_fld (pv 0) rfl) (pe_glob (v := .int 2) rfl T.c_PARAMETERS ⟨_, rfl⟩) (fun _ _ => rfl)) pa_nil)))
      (pss_cons (ps_for PassesOwn.never rfl (pi_enum (by rfl) T.z_enumerate (pa_cons (pe_fld (pv 0) rfl) pa_nil)) (pg_tup rfl (pgs_cons (pg_name (i := 2) nd rfl (Or.inl rfl)) (pgs_cons (pg_name (i := 3) nd rfl (Or.inl rfl)) pgs_nil)))
      (pss_cons (ps_set (i := 4) nd rfl (Or.inl rfl) pe_non)
      (pss_cons (ps_if (pt_cmpR op_eq (pe_ix ix_tup (pv 3) pe_int (fun _ _ => rfl)) pe_str (nomark _))
      (pss_one (ps_set (i := 4) nd rfl (Or.inl rfl) (pe_ix ix_tup (pv 3) pe_int (fun _ _ => rfl))))
      (pss_one (ps_if (pt_cmpR op_eq (pe_ix ix_tup (pv 3) pe_int (fun _ _ => rfl)) pe_str (nomark _))
      (pss_one (ps_set (i := 4) nd rfl (Or.inl rfl) (pe_ix ix_tup (pv 3) pe_int (fun _ _ => rfl))))
      pss_nil)))
      (pss_one (ps_if (PW.pt (pw_and (pt_cmpR op_notN (pv 4) pe_non (nomark _)) (pw_and (pt_cmpR op_notIn_seq (pv 4) (pv 1) rfl) (pw_and1 (pt_not (pt_val (pe_meth (pv 0) T.Shape.cl T.d_Shape_is_parameter.me G_Shape_is_parameter h_Shape_is_parameter T.d_Shape_is_parameter.b .nil pass0 (pa_cons (pv 4) (pa_cons (pe_ix ix_list (pe_fld (pv 0) rfl) (pv 2) (fun _ _ => rfl)) pa_nil)))))))))
      (pss_one (ps_expr (pe_bm PySem.F.plainAttrs_list PySem.F.slot_list_append PySem.F.type_list_append mt_append (pv 1) (pa_cons (pv 4) pa_nil))))
      pss_nil)))))
      (pss_one (ps_ret (pv 1))))), ?_⟩
    refine ⟨_, rfl, p, _, dx, _, _, rfl, hR.o.ob, T.Shape.cl, T.Shape.n_tree, hR.o.tree, ta, _, _, _, rfl, rfl, hT, at2, pa, _, rfl, .inr hP, fun L nL => ?_⟩
    have s1 := same_new nL (HO.lst (ps.map V.str))
    have l1 : upd H L (.lst (ps.map V.str)) L = some (.lst (ps.map V.str)) := upd_same
    generalize upd H L (.lst (ps.map V.str)) = H1 at s1 l1 ⊢
    have hR1 := hR.same s1
    refine ⟨_, rfl, p, _, dx, _, _, rfl, hR1.o.ob, T.Shape.cl, T.Shape.n_nodes, hR1.o.nodes, n, _, rfl, SqL.of hR1.b.hn, ?_⟩
    refine for_it (walk_enum (K := K) (a := n) (xs := rs.map Rec.v)) (fun i σ H' => ∃ (v2 v3 v4 : Option V), σ = [some (.ref p), some (.ref L), v2, v3, v4] ∧ Same H H' ∧ H' L = some (.lst ((namesOf ps (rs.take i)).map V.str)) ∧ (namesOf ps (rs.take i)).length ≤ 10 + i) ⟨none, none, none, rfl, s1, l1, by show ps.length ≤ 10 + 0; omega⟩ ?_ ?_ ?_
    · rintro i σ H' _ ⟨v2, v3, v4, rfl, s2, _⟩
      exact SqL.of (hR.same s2).b.hn
    · rintro i y σ H2 H3 hi ⟨v2, v3, v4, rfl, s2, l2, hnl⟩ ⟨U, y1, y2, rfl, nU, rfl, e1, e2⟩
      obtain ⟨names, hnames⟩ : ∃ names, names = namesOf ps (rs.take i) := ⟨_, rfl⟩
      rw [← hnames] at l2 hnl
      rw [List.length_map] at hi
      have e1' := Option.some.inj e1
      subst e1'
      obtain ⟨r, hri, rfl⟩ : ∃ r, rs[i]? = some r ∧ r.v = y2 := by
        replace e2 : (rs.map Rec.v)[i]? = some y2 := e2
        rw [List.getElem?_map] at e2
        cases e : rs[i]? with
        | none => rw [e] at e2; cases e2
        | some r => rw [e] at e2; exact ⟨r, rfl, Option.some.inj e2⟩
      have s3 := s2.trans (same_new nU (HO.tup [V.int (i : Nat), r.v]))
      have l3 : upd H2 U (.tup [V.int (i : Nat), r.v]) L = some (.lst (names.map V.str)) := by rw [upd_ne (ne_of_none l2 nU)]; exact l2
      have u3 : SqT K (upd H2 U (.tup [V.int (i : Nat), r.v])) U [V.int (i : Nat), r.v] := SqT.of upd_same
      generalize upd H2 U (.tup [V.int (i : Nat), r.v]) = H3 at s3 l3 u3 ⊢
      have hR3 := hR.same s3
      obtain ⟨⟨b, ks, hv, hS, hF, hD⟩⟩ := hR3.r r (List.mem_of_getElem? hri)
      rw [hv] at u3
      have htk : namesOf ps (rs.take (i + 1)) = nameStep names r.w r.its r.hid := by
        have z : rs.take (i + 1) = rs.take i ++ [r] := by rw [List.take_add_one, hri]; rfl
        rw [z, hnames]
        unfold namesOf
        rw [List.foldl_append]
        rfl
      have hlen := nameStep_len names r.w r.its r.hid
      rw [htk]
      have step : ∀ (D : Ends) (v : V), (∀ (v2 v3 v4 : Option V) (H' : Hp), Same H H' → H' L = some (.lst ((nameStep names r.w r.its r.hid).map V.str)) → D.nx [some (.ref p), some (.ref L), v2, v3, v4] H') → (v = .non ∧ nameOf r.w r.its = none ∨ ∃ x, v = .str x ∧ nameOf r.w r.its = some x) →
          tIfS (tAnd (tTest (tOp (fun x y H Q => y = V.non ∧ Q (V.bl !decide (x = V.non)) H) (tVar 4) (tC .non))) (tAnd (tTest (tOp (rIn K true) (tVar 4) (tVar 1))) (tNot (tB (tMeth T.Shape.C "is_parameter" (spIsPar K T.Shape.C) [] E0 (tVar 0) (tCons (tVar 4) (tCons (tOp (rIxL K) (tFld K (tVar 0) "code") (tVar 2)) tNil))))))) (tDrop (tBM K "list" rAppend (tVar 1) (tCons (tVar 4) tNil))) tNext
            D [some (.ref p), some (.ref L), some (.int (i : Nat)), some (.ref b), some v] H3 := by
        intro D v hD hv'
        rcases hv' with ⟨rfl, en⟩ | ⟨x, rfl, en⟩
        · have es : nameStep names r.w r.its r.hid = names := by unfold nameStep; rw [en]
          rw [es] at hD
          refine ⟨_, rfl, rfl, _, rfl, iteN rfl (iteN rfl ?_)⟩
          exact hD _ _ _ _ s3 l3
        · have es : nameStep names r.w r.its r.hid = if (!among x names && !hidden x r.hid) = true then names ++ [x] else names := by unfold nameStep; rw [en]
          rw [es] at hD
          refine ⟨_, rfl, rfl, _, rfl, iteY rfl ?_⟩
          refine ⟨_, rfl, _, rfl, L, _, rfl, .inl (SqL.of l3), rfl, flat_strs names, _, rfl, iteB (fun e => ?_) (fun e => iteN rfl ?_)⟩
          · have e' : (!among x names) = true := e
            obtain ⟨hc1, hc2⟩ := hR3.c.code hri
            refine ⟨_, rfl, p, dx, _, rfl, hR3.o.ob, hR3.o.no.2.1, _, rfl, _, rfl, p, _, dx, _, _, rfl, hR3.o.ob, T.Shape.cl, T.Shape.n_code, hR3.o.code, _, rfl, d, _, _, V.int r.code, rfl, rfl, SqL.of hR3.b.hd, at_of (j := i) rfl (by rw [List.getElem?_map, hri]; rfl), p, dx, fs, _, n, a, c, d, ch, rs, x, r.code, r.hid, rfl, hR3, hc1, _, rfl, ?_⟩
            refine iteB (fun e2 => ?_) (fun e2 => ?_)
            · refine ⟨_, rfl, .inl ⟨rfl, _, SqL.of l3⟩, _, rfl, L, _, _, rfl, rfl, l3, szl (by rw [List.length_map]; omega), ?_⟩
              rw [if_pos (by rw [e', e2]; rfl)] at hD
              exact hD _ _ _ _ (same_mut s3 nL) (by rw [upd_same, List.map_append]; rfl)
            · rw [if_neg (by rw [e', e2]; decide)] at hD
              exact hD _ _ _ _ s3 l3
          · have e' : (!among x names) = false := e
            rw [if_neg (by rw [e', Bool.false_and]; decide)] at hD
            exact hD _ _ _ _ s3 l3
      have fin : ∀ (v2 v3 v4 : Option V) (H' : Hp), Same H H' → H' L = some (.lst ((nameStep names r.w r.its r.hid).map V.str)) → ∃ (w2 w3 w4 : Option V), [some (V.ref p), some (.ref L), v2, v3, v4] = [some (.ref p), some (.ref L), w2, w3, w4] ∧ Same H H' ∧ H' L = some (.lst ((nameStep names r.w r.its r.hid).map V.str)) ∧ (nameStep names r.w r.its r.hid).length ≤ 10 + (i + 1) :=
        fun v2 v3 v4 H' h1 h2 => ⟨v2, v3, v4, rfl, h1, h2, by omega⟩
      refine ⟨U, _, rfl, u3, rfl, _, _, rfl, _, _, rfl, rfl, ?_⟩
      refine ⟨_, rfl, b, _, _, _, rfl, rfl, hS, at0, rfl, _, rfl, iteB (fun e => ?_) (fun e => ?_)⟩
      · have ew : r.w = "set" := V.str.inj (of_decide_eq_true e)
        obtain ⟨x, e', hits⟩ := set_its hF ew
        rw [hits] at hS
        exact ⟨_, rfl, b, _, _, _, rfl, rfl, hS, at1, step _ _ fin (.inr ⟨x, rfl, by rw [ew, hits]; exact nameOf_set x e'⟩)⟩
      · have ew : ¬ r.w = "set" := fun z => (of_decide_eq_false e) (by rw [z])
        refine ⟨_, rfl, b, _, _, _, rfl, rfl, hS, at0, rfl, _, rfl, iteB (fun e => ?_) (fun e => ?_)⟩
        · have ew2 : r.w = "try" := V.str.inj (of_decide_eq_true e)
          obtain ⟨x, a', b', hits⟩ := try_its hF ew2
          rw [hits] at hS
          exact ⟨_, rfl, b, _, _, _, rfl, rfl, hS, at2, step _ _ fin (.inr ⟨x, rfl, by rw [ew2, hits]; exact nameOf_try x a' b'⟩)⟩
        · have ew2 : ¬ r.w = "try" := fun z => (of_decide_eq_false e) (by rw [z])
          exact step _ _ fin (.inl ⟨rfl, nameOf_not ew ew2⟩)
    · rintro σ H2 ⟨v2, v3, v4, rfl, s2, l2, hnl⟩
      rw [List.length_map, List.take_length] at l2
      exact ⟨_, rfl, q L H2 s2 nL l2⟩
end
end My

set_option Elab.async false
set_option linter.all false
set_option maxRecDepth 100000
set_option maxHeartbeats 4000000
namespace My
open PySem L2
/-- the numbers of the blocks, from k on -/
def blks (k : Nat) : List Rec → List Int
  | [] => []
  | r :: rs => if r.w = "block" then (k : Int) :: blks (k + 1) rs else blks (k + 1) rs
theorem blks_snoc : ∀ (rs : List Rec) (k : Nat) (r : Rec), blks k (rs ++ [r]) = blks k rs ++ (if r.w = "block" then [((k + rs.length : Nat) : Int)] else [])
  | [], k, r => by
    simp only [List.nil_append, blks, List.length_nil, Nat.add_zero]
  | x :: rs, k, r => by
    simp only [List.cons_append, blks, List.length_cons]
    rw [blks_snoc rs (k + 1) r]
    have e : k + 1 + rs.length = k + (rs.length + 1) := by omega
    rw [e]
    split <;> simp
theorem blks_le : ∀ (rs : List Rec) (k : Nat), (blks k rs).length ≤ rs.length
  | [], k => Nat.le_refl _
  | r :: rs, k => by
    have := blks_le rs (k + 1)
    simp only [blks, List.length_cons]
    split
    · simp only [List.length_cons]; omega
    · omega
theorem blks_mem : ∀ (rs : List Rec) (k : Nat) (z : Int), z ∈ blks k rs → ∃ (i : Nat) (r : Rec), z = ((k + i : Nat) : Int) ∧ rs[i]? = some r ∧ r.w = "block"
  | [], k, z, h => by simp [blks] at h
  | r :: rs, k, z, h => by
    simp only [blks] at h
    split at h
    · rename_i hw
      rcases List.mem_cons.mp h with e | e
      · exact ⟨0, r, e, rfl, hw⟩
      · obtain ⟨i, r', e1, e2, e3⟩ := blks_mem rs (k + 1) z e
        exact ⟨i + 1, r', by rw [e1]; congr 1; omega, e2, e3⟩
    · obtain ⟨i, r', e1, e2, e3⟩ := blks_mem rs (k + 1) z h
      exact ⟨i + 1, r', by rw [e1]; congr 1; omega, e2, e3⟩
def shF (t : V) (n a c d : Addr) : List (Str × V) := [("tree", t), ("nodes", .ref n), ("above", .ref a), ("children", .ref c), ("code", .ref d)]
def shF1 (t : V) (n a c d e : Addr) : List (Str × V) := [("tree", t), ("nodes", .ref n), ("above", .ref a), ("children", .ref c), ("code", .ref d), ("codes", .ref e)]
def shF2 (t : V) (n a c d e f : Addr) : List (Str × V) := [("tree", t), ("nodes", .ref n), ("above", .ref a), ("children", .ref c), ("code", .ref d), ("codes", .ref e), ("names", .ref f)]
theorem put1 (t n : V) : putF "nodes" n [("tree", t)] = ([("tree", t), ("nodes", n)] : List (Str × V)) := by rfl
theorem put2 (t n a : V) : putF "above" a [("tree", t), ("nodes", n)] = ([("tree", t), ("nodes", n), ("above", a)] : List (Str × V)) := by rfl
theorem put3 (t n a c : V) : putF "children" c [("tree", t), ("nodes", n), ("above", a)] = ([("tree", t), ("nodes", n), ("above", a), ("children", c)] : List (Str × V)) := by rfl
theorem put4 (t : V) (n a c d : Addr) : putF "code" (.ref d) [("tree", t), ("nodes", .ref n), ("above", .ref a), ("children", .ref c)] = shF t n a c d := by rfl
theorem put5 (t : V) (n a c d e : Addr) : putF "codes" (.ref e) (shF t n a c d) = shF1 t n a c d e := by rfl
theorem put6 (t : V) (n a c d e f : Addr) : putF "names" (.ref f) (shF1 t n a c d e) = shF2 t n a c d e f := by rfl
theorem no0 (t : V) (n a c d : Addr) : noMeth (shF t n a c d) := ⟨rfl, rfl, rfl, rfl, rfl⟩
theorem no1 (t : V) (n a c d e : Addr) : noMeth (shF1 t n a c d e) := ⟨rfl, rfl, rfl, rfl, rfl⟩
theorem no2 (t : V) (n a c d e f : Addr) : noMeth (shF2 t n a c d e f) := ⟨rfl, rfl, rfl, rfl, rfl⟩
/-- a Shape that is made: all that it holds -/
structure ShAt (K : PySem.W.Frag) (C : Addr) (H : Hp) (p dx : Addr) (ta : Addr) (n a c d e f : Addr) (ch : List Addr) (rs : List Rec) (ps : List Str) : Prop where
  R : ShR K C H p dx (shF2 (.ref ta) n a c d e f) (.ref ta) n a c d ch rs
  codes : H e = some (.lst (V.int (-1) :: (blks 0 rs).map V.int))
  names : H f = some (.lst ((namesOf ps rs).map V.str))
def spInit (K : PySem.W.Frag) (C : Addr) : Sp := fun vs H Q _ => ∃ (p dx ta pa ba : Addr) (msg : Str) (ps : List Str) (ts : List Nd), vs = [.ref p, .ref ta] ∧ H p = some (.ins C dx []) ∧ MethAt K H ta msg pa ba ps ts ∧
  ∀ (n a c d e f : Addr) (ch : List Addr) (H' : Hp), ShAt K C H' p dx ta n a c d e f ch (recsL 0 (-1) (-1) [] ts) ps → (∀ b o, H b = some o → b ≠ p → H' b = some o) → Q .non H'
section
variable {P : Program} {w : World} {K : PySem.W.Frag} {mg : Str → Option Value} {base : Heap}
theorem ok_init (T : Tx K mg) : FnOk P w K mg base CX0 203 T.d_Shape_init__.f T.d_Shape_init__.fd ["self", "method"] (spInit K T.Shape.C) := by
  have nd := sc_Shape_init__.nd
  have G_Shape_add := ok_adds (P := P) (w := w) (base := base) T 200
  have G_Shape_all_names := ok_all_names (P := P) (w := w) (base := base) T
  refine T.d_Shape_init__.fn.ok (k := 202) sc_Shape_init__ (fun vs H Q E h => ?_) (fun cdv A outer s H vs Q E hr h => ?_)
  · obtain ⟨p, dx, ta, pa, ba, msg, ps, ts, rfl, _⟩ := h
    rfl
  · obtain ⟨p, dx, ta, pa, ba, msg, ps, ts, rfl, hp, hM, q⟩ := h
    have h_Shape_add : Room 201 _ := hr.mono (by decide)
    have h_Shape_all_names : Room 2 _ := hr.mono (by decide)
    refine ⟨_, (pss_cons (ps_fld (pv 0) (pv 1) rfl)
      (pss_cons (ps_fld (pv 0) (pe_lst pa_nil) rfl)
      (pss_cons (ps_fld (pv 0) (pe_lst pa_nil) rfl)
      (pss_cons (ps_fld (pv 0) (pe_lst pa_nil) rfl)
      (pss_cons (ps_fld (pv 0) (pe_lst pa_nil) rfl)
      (pss_cons (ps_for PassesOwn.never rfl (pi_tup (pe_ix ix_tup (pv 1) (pe_glob (v := .int 3) rfl T.c_BODY ⟨_, rfl⟩) (fun _ _ => rfl))) (pg_name (i := 2) nd rfl (Or.inl rfl))
      (pss_one (ps_expr (pe_meth (pv 0) T.Shape.cl T.d_Shape_add.me G_Shape_add h_Shape_add T.d_Shape_add.b .nil pass0 (pa_cons (pv 2) (pa_cons (pe_un un_neg pe_int) (pa_cons (pe_un un_neg pe_int) pa_nil)))))))
      (pss_cons (ps_fld (pv 0) (pe_op op_cat (pe_lst (pa_cons (pe_un un_neg pe_int) pa_nil)) (pe_lc (own := [("at", 3), ("node", 4)]) (g := (gTup K 2 (gCons (gName 3) (gCons (gName 4) gNil)))) (tt := tTest (tOp rEq (tOp (rIxT K) (tVar 4) (tC (.int 0))) (tC (.str "block")))) rfl nd (pi_enum (by rfl) T.z_enumerate (pa_cons (pe_fld (pv 0) rfl) pa_nil)) (blkOk_by (N := N_Shape_init__) (sc := defScope s_Shape_init__) (by decide +kernel)) (fun _ _ _ _ _ => (pg_tup rfl (pgs_cons (pg_name (i := 3) nd rfl (Or.inl rfl)) (pgs_cons (pg_name (i := 4) nd rfl (Or.inl rfl)) pgs_nil)))) (fun _ _ _ _ _ => (pts_one (pt_cmpR op_eq (pe_ix ix_tup (pv 4) pe_int (fun _ _ => rfl)) pe_str (nomark _)))) (fun _ _ _ _ _ => (pv 3)))) rfl)
      (pss_one (ps_fld (pv 0) (pe_meth0 (pv 0) T.Shape.cl T.d_Shape_all_names.me G_Shape_all_names h_Shape_all_names T.d_Shape_all_names.b .nil pass0) rfl))))))))), ?_⟩
    refine ⟨_, rfl, _, rfl, p, T.Shape.C, dx, [], rfl, hp, T.Shape.cl, T.Shape.n_tree, (by show 0 < 1000; decide), ?_⟩
    have fresh : ∀ {H1 : Hp} {y : Addr}, But p H H1 → H1 p ≠ none → H1 y = none → H y = none := by
      intro H1 y b h1 h2
      cases e : H y with
      | none => rfl
      | some o =>
        by_cases hy : y = p
        · subst hy
          exact absurd h2 h1
        · rw [b _ _ e hy] at h2
          cases h2
    have b0 : But p H (upd H p (.ins T.Shape.C dx (putF "tree" (V.ref ta) []))) := But.set _
    have p0 : upd H p (.ins T.Shape.C dx (putF "tree" (V.ref ta) [])) p = some (.ins T.Shape.C dx [("tree", V.ref ta)]) := upd_same
    generalize upd H p (.ins T.Shape.C dx (putF "tree" (V.ref ta) [])) = H0 at b0 p0 ⊢
    -- self.nodes = []
    refine ⟨(by show 0 ≤ sizeLine; decide), fun n nn => ⟨_, rfl, p, T.Shape.C, dx, _, rfl, (by rw [upd_ne (ne_of_none p0 nn)]; exact p0), T.Shape.cl, T.Shape.n_nodes, (by show 1 < 1000; decide), ?_⟩⟩
    have hn0 := fresh b0 (by rw [p0]; simp) nn
    have pn : n ≠ p := fun e => by rw [e, p0] at nn; cases nn
    have b1 : But p H (upd (upd H0 n (.lst [])) p (.ins T.Shape.C dx (putF "nodes" (V.ref n) [("tree", V.ref ta)]))) := (b0.trans (But.same (same_new nn _))).trans (But.set _)
    have p1 : upd (upd H0 n (.lst [])) p (.ins T.Shape.C dx (putF "nodes" (V.ref n) [("tree", V.ref ta)])) p = some (.ins T.Shape.C dx [("tree", V.ref ta), ("nodes", V.ref n)]) := upd_same
    have n1 : upd (upd H0 n (.lst [])) p (.ins T.Shape.C dx (putF "nodes" (V.ref n) [("tree", V.ref ta)])) n = some (.lst []) := by rw [upd_ne pn, upd_same]
    generalize upd (upd H0 n (.lst [])) p (.ins T.Shape.C dx (putF "nodes" (V.ref n) [("tree", V.ref ta)])) = H1 at b1 p1 n1 ⊢
    -- self.above = []
    refine ⟨(by show 0 ≤ sizeLine; decide), fun a na => ⟨_, rfl, p, T.Shape.C, dx, _, rfl, (by rw [upd_ne (ne_of_none p1 na)]; exact p1), T.Shape.cl, T.Shape.n_above, (by show 2 < 1000; decide), ?_⟩⟩
    have ha0 := fresh b1 (by rw [p1]; simp) na
    have pa' : a ≠ p := fun e => by rw [e, p1] at na; cases na
    have an : n ≠ a := ne_of_none n1 na
    have b2 : But p H (upd (upd H1 a (.lst [])) p (.ins T.Shape.C dx (putF "above" (V.ref a) [("tree", V.ref ta), ("nodes", V.ref n)]))) := (b1.trans (But.same (same_new na _))).trans (But.set _)
    have p2 : upd (upd H1 a (.lst [])) p (.ins T.Shape.C dx (putF "above" (V.ref a) [("tree", V.ref ta), ("nodes", V.ref n)])) p = some (.ins T.Shape.C dx [("tree", V.ref ta), ("nodes", V.ref n), ("above", V.ref a)]) := upd_same
    have n2 : upd (upd H1 a (.lst [])) p (.ins T.Shape.C dx (putF "above" (V.ref a) [("tree", V.ref ta), ("nodes", V.ref n)])) n = some (.lst []) := by rw [upd_ne pn, upd_ne an]; exact n1
    have a2 : upd (upd H1 a (.lst [])) p (.ins T.Shape.C dx (putF "above" (V.ref a) [("tree", V.ref ta), ("nodes", V.ref n)])) a = some (.lst []) := by rw [upd_ne pa', upd_same]
    generalize upd (upd H1 a (.lst [])) p (.ins T.Shape.C dx (putF "above" (V.ref a) [("tree", V.ref ta), ("nodes", V.ref n)])) = H2 at b2 p2 n2 a2 ⊢
    -- self.children = []
    refine ⟨(by show 0 ≤ sizeLine; decide), fun c nc => ⟨_, rfl, p, T.Shape.C, dx, _, rfl, (by rw [upd_ne (ne_of_none p2 nc)]; exact p2), T.Shape.cl, T.Shape.n_children, (by show 3 < 1000; decide), ?_⟩⟩
    have hc0 := fresh b2 (by rw [p2]; simp) nc
    have pc : c ≠ p := fun e => by rw [e, p2] at nc; cases nc
    have cn : n ≠ c := ne_of_none n2 nc
    have ca : a ≠ c := ne_of_none a2 nc
    have b3 : But p H (upd (upd H2 c (.lst [])) p (.ins T.Shape.C dx (putF "children" (V.ref c) [("tree", V.ref ta), ("nodes", V.ref n), ("above", V.ref a)]))) := (b2.trans (But.same (same_new nc _))).trans (But.set _)
    have p3 : upd (upd H2 c (.lst [])) p (.ins T.Shape.C dx (putF "children" (V.ref c) [("tree", V.ref ta), ("nodes", V.ref n), ("above", V.ref a)])) p = some (.ins T.Shape.C dx [("tree", V.ref ta), ("nodes", V.ref n), ("above", V.ref a), ("children", V.ref c)]) := upd_same
    have n3 : upd (upd H2 c (.lst [])) p (.ins T.Shape.C dx (putF "children" (V.ref c) [("tree", V.ref ta), ("nodes", V.ref n), ("above", V.ref a)])) n = some (.lst []) := by rw [upd_ne pn, upd_ne cn]; exact n2
    have a3 : upd (upd H2 c (.lst [])) p (.ins T.Shape.C dx (putF "children" (V.ref c) [("tree", V.ref ta), ("nodes", V.ref n), ("above", V.ref a)])) a = some (.lst []) := by rw [upd_ne pa', upd_ne ca]; exact a2
    have c3 : upd (upd H2 c (.lst [])) p (.ins T.Shape.C dx (putF "children" (V.ref c) [("tree", V.ref ta), ("nodes", V.ref n), ("above", V.ref a)])) c = some (.lst []) := by rw [upd_ne pc, upd_same]
    generalize upd (upd H2 c (.lst [])) p (.ins T.Shape.C dx (putF "children" (V.ref c) [("tree", V.ref ta), ("nodes", V.ref n), ("above", V.ref a)])) = H3 at b3 p3 n3 a3 c3 ⊢
    -- self.code = []
    refine ⟨(by show 0 ≤ sizeLine; decide), fun d nD => ⟨_, rfl, p, T.Shape.C, dx, _, rfl, (by rw [upd_ne (ne_of_none p3 nD)]; exact p3), T.Shape.cl, T.Shape.n_code, (by show 4 < 1000; decide), ?_⟩⟩
    have hd0 := fresh b3 (by rw [p3]; simp) nD
    have pd : d ≠ p := fun e => by rw [e, p3] at nD; cases nD
    have dn : n ≠ d := ne_of_none n3 nD
    have da : a ≠ d := ne_of_none a3 nD
    have dc : c ≠ d := ne_of_none c3 nD
    have b4 : But p H (upd (upd H3 d (.lst [])) p (.ins T.Shape.C dx (putF "code" (V.ref d) [("tree", V.ref ta), ("nodes", V.ref n), ("above", V.ref a), ("children", V.ref c)]))) := (b3.trans (But.same (same_new nD _))).trans (But.set _)
    have o4 : ShO T.Shape.C (upd (upd H3 d (.lst [])) p (.ins T.Shape.C dx (putF "code" (V.ref d) [("tree", V.ref ta), ("nodes", V.ref n), ("above", V.ref a), ("children", V.ref c)]))) p dx (shF (.ref ta) n a c d) (.ref ta) n a c d := ⟨upd_same, rfl, rfl, rfl, rfl, rfl, no0 _ _ _ _ _⟩
    have s4 : ShB (upd (upd H3 d (.lst [])) p (.ins T.Shape.C dx (putF "code" (V.ref d) [("tree", V.ref ta), ("nodes", V.ref n), ("above", V.ref a), ("children", V.ref c)]))) n a c d [] [] :=
      ⟨by rw [upd_ne pn, upd_ne dn]; exact n3, by rw [upd_ne pa', upd_ne da]; exact a3, by rw [upd_ne pc, upd_ne dc]; exact c3, by rw [upd_ne pd, upd_same]; rfl, rfl, fun i x r h => by simp at h, by simp [an, cn, dn, ca, da, dc], fun x h => by simp at h, by simp⟩
    generalize upd (upd H3 d (.lst [])) p (.ins T.Shape.C dx (putF "code" (V.ref d) [("tree", V.ref ta), ("nodes", V.ref n), ("above", V.ref a), ("children", V.ref c)])) = H4 at b4 o4 s4 ⊢
    have butp : ∀ {Ha Hb : Hp}, But p H Ha → ButS [n, a, c, d] Ha Hb → But p H Hb := by
      intro Ha Hb h1 h2 b o e ne
      refine h2 b o (h1 b o e ne) fun hm => ?_
      simp only [List.mem_cons, List.not_mem_nil, or_false] at hm
      rcases hm with rfl | rfl | rfl | rfl
      · rw [hn0] at e; cases e
      · rw [ha0] at e; cases e
      · rw [hc0] at e; cases e
      · rw [hd0] at e; cases e
    have keepp : ∀ {Ha : Hp}, But p H Ha → Keep H Ha := fun h1 => ⟨fun b ys e => h1 b _ e (ne_of e hp (by intro z; cases z)), fun b o u e => h1 b _ e (ne_of e hp (by intro z; cases z))⟩
    -- for statement in method[BODY]: self.add(statement, -1, -1)
    refine ⟨_, rfl, ta, _, _, _, rfl, rfl, (keepp b4).sqt hM.tup, at3, ba, rfl, ⟨_, (keepp b4).sqt hM.body⟩, ?_⟩
    refine for_tup (K := K) (a := ba) (xs := ts.map Nd.v) (fun i σ H' => ∃ (v2 : Option V) (ch : List Addr), σ = [some (.ref p), some (.ref ta), v2, none, none] ∧ ShO T.Shape.C H' p dx (shF (.ref ta) n a c d) (.ref ta) n a c d ∧ ShB H' n a c d ch (recsL 0 (-1) (-1) [] (ts.take i)) ∧ But p H H') ?_ ?_ ?_ ?_
    · exact ⟨none, [], rfl, o4, s4, b4⟩
    · rintro i σ H' _ ⟨_, _, _, _, _, b'⟩
      exact (keepp b').sqt hM.body
    · rintro i y σ H' hi ⟨v2, ch, rfl, o', s', b'⟩
      obtain ⟨k, hki, rfl⟩ : ∃ k, ts[i]? = some k ∧ y = k.v := by
        rw [List.getElem?_map] at hi
        cases e : ts[i]? with
        | none => rw [e] at hi; cases hi
        | some k => rw [e] at hi; exact ⟨k, rfl, (Option.some.inj hi).symm⟩
      have hkm : k ∈ ts := List.mem_of_getElem? hki
      have htk : ts.take (i + 1) = ts.take i ++ [k] := by rw [List.take_add_one, hki]; rfl
      have hsum : sizeL (ts.take i) + size k ≤ sizeL ts := by
        have e1 : sizeL (ts.take (i + 1)) + sizeL (ts.drop (i + 1)) = sizeL ts := by rw [← sizeL_append, List.take_append_drop]
        rw [htk, sizeL_append] at e1
        simp only [sizeL] at e1
        omega
      have few := hM.few
      refine ⟨_, rfl, p, dx, _, rfl, o'.ob, o'.no.1, _, rfl, _, rfl, _, rfl, p, dx, _, _, n, a, c, d, ch, _, k, -1, -1, [], rfl, o', s', (keepp b').nd (hM.nds k hkm), by omega, by rw [recsL_len]; omega, fun H6 ch2 s6 new6 b6 => ?_⟩
      refine ⟨_, ch ++ ch2, rfl, o'.but s' b6, ?_, butp b' b6⟩
      rw [htk, recsL_append, Nat.zero_add]
      rw [recsL_len] at s6
      simp only [recsL, List.append_nil]
      exact s6
    · rintro σ H5 ⟨v2, ch, rfl, o5, s5, b5⟩
      rw [List.length_map, List.take_length] at s5
      have few := hM.few
      have hrl : (recsL 0 (-1) (-1) [] ts).length ≤ 200 := by rw [recsL_len]; exact few
      have rec5 : ∀ r, r ∈ recsL 0 (-1) (-1) [] ts → RecAt K H r := nds_recs hM.nds 0 (-1) (-1) []
      have chn := chain_recsL ts 0 (-1) (-1) []
      generalize recsL 0 (-1) (-1) [] ts = rs at q s5 hrl rec5 chn ⊢
      have R5 : ShR K T.Shape.C H5 p dx (shF (.ref ta) n a c d) (.ref ta) n a c d ch rs := ⟨o5, s5, fun r hr => (rec5 r hr).keep (keepp b5), chn⟩
      -- self.codes = [-1] + [..]
      refine ⟨_, rfl, (by show 1 ≤ sizeLine; decide), fun q1 nq1 => ?_⟩
      have sq1 := same_new nq1 (HO.lst [V.int (-1)])
      have hq1 : upd H5 q1 (.lst [V.int (-1)]) q1 = some (.lst [V.int (-1)]) := upd_same
      have R6 := R5.same sq1
      have b6 := b5.trans (But.same (D := p) sq1)
      generalize upd H5 q1 (.lst [V.int (-1)]) = H6 at sq1 hq1 R6 b6 ⊢
      refine ⟨_, rfl, p, _, dx, _, _, rfl, R6.o.ob, T.Shape.cl, T.Shape.n_nodes, R6.o.nodes, n, _, rfl, SqL.of R6.b.hn, fun L nL => ?_⟩
      refine lc_it (walk_enum (K := K) (a := n) (xs := rs.map Rec.v)) (fun i H' => Same H6 H' ∧ H' L = some (.lst ((blks 0 (rs.take i)).map V.int))) ⟨same_new nL _, upd_same⟩ ?_ ?_ ?_
      · rintro i H' _ ⟨s', _⟩
        exact SqL.of (R6.same s').b.hn
      · rintro i y H7 H8 hi ⟨s7, l7⟩ ⟨U, y1, y2, rfl, nU, rfl, e1, e2⟩
        rw [List.length_map] at hi
        have e1' := Option.some.inj e1
        subst e1'
        obtain ⟨r, hri, rfl⟩ : ∃ r, rs[i]? = some r ∧ r.v = y2 := by
          replace e2 : (rs.map Rec.v)[i]? = some y2 := e2
          rw [List.getElem?_map] at e2
          cases e : rs[i]? with
          | none => rw [e] at e2; cases e2
          | some r => rw [e] at e2; exact ⟨r, rfl, Option.some.inj e2⟩
        have s8 := s7.trans (same_new nU (HO.tup [V.int (i : Nat), r.v]))
        have l8 : upd H7 U (.tup [V.int (i : Nat), r.v]) L = some (.lst ((blks 0 (rs.take i)).map V.int)) := by rw [upd_ne (ne_of_none l7 nU)]; exact l7
        have u8 : SqT K (upd H7 U (.tup [V.int (i : Nat), r.v])) U [V.int (i : Nat), r.v] := SqT.of upd_same
        generalize upd H7 U (.tup [V.int (i : Nat), r.v]) = H8 at s8 l8 u8 ⊢
        have R8 := R6.same s8
        obtain ⟨⟨b, ks, hv, hS, hF, hD⟩⟩ := R8.r r (List.mem_of_getElem? hri)
        rw [hv] at u8
        have htk : rs.take (i + 1) = rs.take i ++ [r] := by rw [List.take_add_one, hri]; rfl
        have htl : (rs.take i).length = i := by rw [List.length_take]; omega
        refine ⟨U, _, rfl, u8, rfl, _, _, rfl, _, _, rfl, rfl, rfl, ?_⟩
        refine ⟨_, rfl, b, _, _, _, rfl, rfl, hS, at0, rfl, _, rfl, iteB (fun e => ?_) (fun e => ?_)⟩
        · have ew : r.w = "block" := V.str.inj (of_decide_eq_true e)
          refine ⟨_, rfl, _, l8, szl ?_, same_mut s8 nL, ?_⟩
          · have := blks_le (rs.take i) 0
            rw [List.length_map]
            omega
          · rw [upd_same, htk, blks_snoc, if_pos ew, List.map_append, htl, Nat.zero_add]
            rfl
        · have ew : ¬ r.w = "block" := fun z => (of_decide_eq_false e) (by rw [z])
          refine ⟨s8, ?_⟩
          rw [htk, blks_snoc, if_neg ew, List.append_nil]
          exact l8
      · rintro H7 ⟨s7, l7⟩
        rw [List.length_map, List.take_length] at l7
        have hbl := blks_le rs 0
        refine ⟨q1, L, _, _, rfl, rfl, s7 _ _ hq1, l7, sz (by simp only [List.length_cons, List.length_nil, List.length_map]; omega), fun e ne => ?_⟩
        have s8 := s7.trans (same_new ne (HO.lst ([V.int (-1)] ++ (blks 0 rs).map V.int)))
        have e8 : upd H7 e (.lst ([V.int (-1)] ++ (blks 0 rs).map V.int)) e = some (.lst ([V.int (-1)] ++ (blks 0 rs).map V.int)) := upd_same
        have R8 := R6.same s8
        have b8 := b6.trans (But.same (D := p) s8)
        generalize upd H7 e (.lst ([V.int (-1)] ++ (blks 0 rs).map V.int)) = H8 at s8 e8 R8 b8 ⊢
        refine ⟨_, rfl, p, T.Shape.C, dx, _, rfl, R8.o.ob, T.Shape.cl, T.Shape.n_codes, (by show 5 < 1000; decide), ?_⟩
        have pout : ∀ {y : Addr} {xs : List V} {Hx : Hp}, Hx p = some (.ins T.Shape.C dx (shF (.ref ta) n a c d)) → Hx y = some (.lst xs) → y ≠ p := fun h1 h2 => ne_of h2 h1 (by intro z; cases z)
        have setp : ∀ {Hx : Hp} {fs1 fs2 : List (Str × V)}, ShR K T.Shape.C Hx p dx fs1 (.ref ta) n a c d ch rs → But p H Hx → ShO T.Shape.C (upd Hx p (.ins T.Shape.C dx fs2)) p dx fs2 (.ref ta) n a c d → ShR K T.Shape.C (upd Hx p (.ins T.Shape.C dx fs2)) p dx fs2 (.ref ta) n a c d ch rs := by
          intro Hx fs1 fs2 hx hbx ho
          have ne : ∀ {y : Addr} {xs : List V}, Hx y = some (.lst xs) → y ≠ p := fun h2 => ne_of h2 hx.o.ob (by intro z; cases z)
          refine ⟨ho, ⟨by rw [upd_ne (ne hx.b.hn)]; exact hx.b.hn, by rw [upd_ne (ne hx.b.ha)]; exact hx.b.ha, by rw [upd_ne (ne hx.b.hc)]; exact hx.b.hc, by rw [upd_ne (ne hx.b.hd)]; exact hx.b.hd, hx.b.len, fun i x r g1 g2 => ?_, hx.b.ap, hx.b.out, hx.b.nd⟩, fun r hr => ?_, hx.c⟩
          · rw [upd_ne (ne (hx.b.kid i x r g1 g2))]
            exact hx.b.kid i x r g1 g2
          · exact (rec5 r hr).keep (keepp (hbx.trans (But.set _)))
        have R9 : ShR K T.Shape.C (upd H8 p (.ins T.Shape.C dx (putF "codes" (V.ref e) (shF (.ref ta) n a c d)))) p dx (shF1 (.ref ta) n a c d e) (.ref ta) n a c d ch rs := setp R8 b8 ⟨upd_same, rfl, rfl, rfl, rfl, rfl, no1 _ _ _ _ _ _⟩
        have b9 : But p H (upd H8 p (.ins T.Shape.C dx (putF "codes" (V.ref e) (shF (.ref ta) n a c d)))) := b8.trans (But.set _)
        have e9 : upd H8 p (.ins T.Shape.C dx (putF "codes" (V.ref e) (shF (.ref ta) n a c d))) e = some (.lst ([V.int (-1)] ++ (blks 0 rs).map V.int)) := by rw [upd_ne (pout R8.o.ob e8)]; exact e8
        generalize upd H8 p (.ins T.Shape.C dx (putF "codes" (V.ref e) (shF (.ref ta) n a c d))) = H9 at R9 b9 e9 ⊢
        -- self.names = self.all_names()
        refine ⟨_, rfl, p, dx, _, rfl, R9.o.ob, R9.o.no.2.2.1, p, dx, _, ta, pa, ba, msg, n, a, c, d, ch, rs, ps, rfl, R9, (keepp b9).sqt hM.tup, (keepp b9).sqt hM.par, hM.plen, by omega, fun f H10 s10 nf f10 => ?_⟩
        have R10 := R9.same s10
        refine ⟨_, rfl, p, T.Shape.C, dx, _, rfl, R10.o.ob, T.Shape.cl, T.Shape.n_names, (by show 6 < 1000; decide), ?_⟩
        have b10 := b9.trans (But.same (D := p) s10)
        refine q n a c d e f ch _ ⟨setp R10 b10 ⟨upd_same, rfl, rfl, rfl, rfl, rfl, no2 _ _ _ _ _ _ _⟩, ?_, ?_⟩ (b10.trans (But.set _))
        · rw [upd_ne (ne_of (s10 _ _ e9) R10.o.ob (by intro z; cases z))]
          exact s10 _ _ e9
        · rw [upd_ne (ne_of f10 R10.o.ob (by intro z; cases z))]
          exact f10
end
end My

set_option Elab.async false
set_option linter.all false
set_option maxRecDepth 100000
set_option maxHeartbeats 4000000
namespace My
open PySem L2 PyProof.Rows
/-! ### a walk of a list or a tuple -/
def iSeq (K : PySem.W.Frag) (tl : TE) : TI := fun σ H R => tl σ H fun x H1 => ∃ a, x = .ref a ∧ (((∃ xs, SqL K H1 a xs) ∧ R (Itl K a) H1) ∨ ((∃ xs, SqT K H1 a xs) ∧ R (Itt K a) H1))
theorem pi_seq {X : Cx} {tg ex : Expr} {te : TE} (pe : PE X ex te) : PI X tg ex (iSeq X.K te) where
  run := by
    intro pn st sg Hh Rr inv hw
    apply thn (pe.run pn st sg Hh _ inv hw)
    rintro val st1 ⟨vv, Hn, inv1, rel, adr, eadr, alt⟩
    subst eadr
    cases rel
    have fresh1 : ∀ b, b ∈ [st1.heap.objs.size] → FpOk X pn Hn b := by
      intro b hb
      rw [List.mem_singleton] at hb
      rw [hb]
      exact inv1.fpOk (Nat.le_refl _) (inv1.hok.fresh (Nat.le_refl _))
    have keep1 : ∀ ob : Obj, Inv X pn sg Hn { st1 with heap := st1.heap.push ob } := fun ob =>
      inv1.kept (t' := st1.toks) (fun _ _ e => Heap.get?_push_of_some _ e)
    rcases alt with ⟨⟨ys, hys⟩, go⟩ | ⟨⟨ys, hys⟩, go⟩
    · obtain ⟨vals, _, pl, _⟩ := inv1.list hys
      apply wpAny_pyIter_list pl.isList
      exact ⟨_, _, _, _, Hn, rfl, keep1 _, turn_list adr _, ⟨_, Heap.get?_push_size _ rfl, rfl, rfl⟩, fresh1, go⟩
    · obtain ⟨vals, _, pl, _⟩ := inv1.tuple hys
      apply wpAny_pyIter_tuple (show st1.heap.IsTuple adr vals.toArray from pl)
      exact ⟨_, _, _, _, Hn, rfl, keep1 _, turn_tuple adr _, ⟨_, Heap.get?_push_size _ rfl, rfl, rfl⟩, fresh1, go⟩
end My

set_option Elab.async false
set_option linter.all false
set_option maxRecDepth 100000
set_option maxHeartbeats 4000000
namespace My
open PySem L2
/-! ### names by the tree -/
mutual
def nmT (h : List (List Str)) (acc : List Str) : Nd → List Str
  | .mk _ w its ps ks => nmL (if w = "block" then ps :: h else h) (nameStep acc w its h) ks
def nmL (h : List (List Str)) (acc : List Str) : List Nd → List Str
  | [] => acc
  | k :: ks => nmL h (nmT h acc k) ks
end
mutual
theorem nmT_recs : ∀ (t : Nd) (n : Nat) (a c : Int) (h : List (List Str)) (acc : List Str), namesOf acc (recs n a c h t) = nmT h acc t
  | .mk v w its ps ks, n, a, c, h, acc => by
    simp only [recs, nmT]
    show namesOf (nameStep acc w its h) (recsL _ _ _ _ ks) = _
    exact nmL_recs ks _ _ _ _ _
theorem nmL_recs : ∀ (ts : List Nd) (n : Nat) (a c : Int) (h : List (List Str)) (acc : List Str), namesOf acc (recsL n a c h ts) = nmL h acc ts
  | [], n, a, c, h, acc => by simp only [recsL, nmL]; rfl
  | t :: ts, n, a, c, h, acc => by
    simp only [recsL, nmL]
    have e : namesOf acc (recs n a c h t ++ recsL (n + size t) a c h ts) = namesOf (namesOf acc (recs n a c h t)) (recsL (n + size t) a c h ts) := by
      unfold namesOf
      rw [List.foldl_append]
    rw [e, nmT_recs t, nmL_recs ts]
end
theorem nmL_append : ∀ (xs ys : List Nd) (h : List (List Str)) (acc : List Str), nmL h acc (xs ++ ys) = nmL h (nmL h acc xs) ys
  | [], ys, h, acc => by simp only [List.nil_append, nmL]
  | x :: xs, ys, h, acc => by
    simp only [List.cons_append, nmL]
    exact nmL_append xs ys h _
mutual
theorem nmT_len : ∀ (t : Nd) (h : List (List Str)) (acc : List Str), (nmT h acc t).length ≤ acc.length + size t
  | .mk v w its ps ks, h, acc => by
    have h1 := nmL_len ks (if w = "block" then ps :: h else h) (nameStep acc w its h)
    have h2 := nameStep_len acc w its h
    simp only [nmT, size]
    omega
theorem nmL_len : ∀ (ts : List Nd) (h : List (List Str)) (acc : List Str), (nmL h acc ts).length ≤ acc.length + sizeL ts
  | [], h, acc => by simp only [nmL, sizeL]; omega
  | t :: ts, h, acc => by
    have h1 := nmT_len t h acc
    have h2 := nmL_len ts h (nmT h acc t)
    simp only [nmL, sizeL]
    omega
end
/-- what hides, in a row -/
def flatH : List (List Str) → List Str
  | [] => []
  | ps :: h => flatH h ++ ps
theorem among_append (x : Str) (xs ys : List Str) : among x (xs ++ ys) = (among x xs || among x ys) := by
  unfold among inV
  rw [List.map_append, List.any_append]
theorem among_flat (x : Str) : ∀ h : List (List Str), among x (flatH h) = hidden x h
  | [] => rfl
  | ps :: h => by
    show among x (flatH h ++ ps) = (among x ps || hidden x h)
    rw [among_append, among_flat x h, Bool.or_comm]
theorem But.sqL {K : PySem.W.Frag} {D : Addr} {H H' : Hp} (b : But D H H') {a : Addr} (ne : a ≠ D) {xs : List V} (h : SqL K H a xs) : SqL K H' a xs := by
  rcases h with (h | ⟨o, h⟩) | h
  · exact .inl (.inl (b _ _ h ne))
  · exact .inl (.inr ⟨o, b _ _ h ne⟩)
  · exact .inr h
def spWithin (K : PySem.W.Frag) (N : Nat) : Sp := fun vs H Q _ => ∃ (src hA fA : Addr) (ts : List Nd) (hid : List (List Str)) (found : List Str), vs = [.ref src, .ref hA, .ref fA] ∧ ((SqL K H src (ts.map Nd.v) ∧ src ≠ fA) ∨ SqT K H src (ts.map Nd.v)) ∧ hA ≠ fA ∧
  H hA = some (.lst ((flatH hid).map V.str)) ∧ H fA = some (.lst (found.map V.str)) ∧ (∀ t, t ∈ ts → NdAt K H t) ∧ sizeL ts < N ∧ found.length + sizeL ts ≤ 1000 ∧ (flatH hid).length + 10 * sizeL ts ≤ 10000 ∧
  ∀ H', H' fA = some (.lst ((nmL hid found ts).map V.str)) → But fA H H' → Q .non H'
section
variable {P : Program} {w : World} {K : PySem.W.Frag} {mg : Str → Option Value} {base : Heap}
local macro_rules | `(tactic| walk_at "eqN") => `(tactic| refine ⟨_, rfl, rfl, _, rfl, iteN (by decide +kernel) ?_⟩)
local macro_rules | `(tactic| walk_at "eqY") => `(tactic| refine ⟨_, rfl, rfl, _, rfl, iteY (by decide +kernel) ?_⟩)
theorem ok_within1 (T : Tx K mg) {N : Nat} (G_law_within : FnOk P w K mg base CX0 N T.d_law_within.f T.d_law_within.fd ["_law_nodes", "_law_hidden", "_law_found"] (spWithin K N)) :
    FnOk P w K mg base CX0 (N + 1) T.d_law_within.f T.d_law_within.fd ["_law_nodes", "_law_hidden", "_law_found"] (spWithin K (N + 1)) := by
  have nd := sc_law_within.nd
  refine T.d_law_within.fn.ok (k := N) sc_law_within (fun vs H Q E h => ?_) (fun cdv A outer s H vs Q E hr h => ?_)
  · obtain ⟨src, hA, fA, ts, hid, found, rfl, _⟩ := h
    rfl
  · obtain ⟨src, hA, fA, ts, hid, found, rfl, hsrc, nhf, hh, hf, hts, hN, hl1, hl2, q⟩ := h
    have h_law_within := hr
    refine ⟨_, (pss_one (ps_for PassesOwn.never rfl (pi_seq (pv 0)) (pg_name (i := 3) nd rfl (Or.inl rfl))
      (pss_cons (ps_set (i := 4) nd rfl (Or.inl rfl) (pe_ix ix_tup (pv 3) pe_int (fun _ _ => rfl)))
      (pss_cons (ps_set (i := 5) nd rfl (Or.inl rfl) pe_non)
      (C8.pss_cut (ps_if (pt_cmpR op_eq (pv 4) pe_str (nomark _))
      (pss_one (ps_set (i := 5) nd rfl (Or.inl rfl) (pe_ix ix_tup (pv 3) pe_int (fun _ _ => rfl))))
      (pss_one (ps_if (pt_cmpR op_eq (pv 4) pe_str (nomark _))
      (pss_one (ps_set (i := 5) nd rfl (Or.inl rfl) (pe_ix ix_tup (pv 3) pe_int (fun _ _ => rfl))))
      pss_nil)))
      (C8.pss_cut (ps_if (PW.pt (pw_and (pt_cmpR op_notN (pv 5) pe_non (nomark _)) (pw_and (pt_cmpR op_notIn_seq (pv 5) (pv 1) rfl) (pw_and1 (pt_cmpR op_notIn_seq (pv 5) (pv 2) rfl)))))
      (pss_one (ps_expr (pe_bm PySem.F.plainAttrs_list PySem.F.slot_list_append PySem.F.type_list_append mt_append (pv 2) (pa_cons (pv 5) pa_nil))))
      pss_nil)
      (pss_one (ps_if (pt_cmpR op_in_seq (pv 4) (pe_lst (pa_cons pe_str (pa_cons pe_str pa_nil))) rfl)
      (pss_one (ps_expr (pe_call G_law_within h_law_within rfl T.d_law_within.m T.d_law_within.kp T.d_law_within.b .nil pass0 (pa_cons (pe_lst (pa_cons (pe_ix ix_tup (pv 3) pe_int (fun _ _ => rfl)) pa_nil)) (pa_cons (pv 1) (pa_cons (pv 2) pa_nil))))))
      (pss_one (ps_if (pt_cmpR op_in_seq (pv 4) (pe_lst (pa_cons pe_str (pa_cons pe_str (pa_cons pe_str (pa_cons pe_str pa_nil))))) rfl)
      (pss_one (ps_expr (pe_call G_law_within h_law_within rfl T.d_law_within.m T.d_law_within.kp T.d_law_within.b .nil pass0 (pa_cons (pe_lst (pa_cons (pe_ix ix_tup (pv 3) pe_int (fun _ _ => rfl)) pa_nil)) (pa_cons (pv 1) (pa_cons (pv 2) pa_nil))))))
      (pss_one (ps_if (pt_cmpR op_eq (pv 4) pe_str (nomark _))
      (pss_one (ps_expr (pe_call G_law_within h_law_within rfl T.d_law_within.m T.d_law_within.kp T.d_law_within.b .nil pass0 (pa_cons (pe_op op_cat (pe_op op_cat (pe_lst (pa_cons (pe_ix ix_tup (pv 3) pe_int (fun _ _ => rfl)) pa_nil)) (pe_callTy call_list_of (by rfl) T.z_list (by decide +kernel) (pa_cons (pe_ix ix_tup (pv 3) pe_int (fun _ _ => rfl)) pa_nil))) (pe_callTy call_list_of (by rfl) T.z_list (by decide +kernel) (pa_cons (pe_ix ix_tup (pv 3) pe_int (fun _ _ => rfl)) pa_nil))) (pa_cons (pv 1) (pa_cons (pv 2) pa_nil))))))
      (pss_one (ps_if (pt_cmpR op_eq (pv 4) pe_str (nomark _))
      (pss_one (ps_expr (pe_call G_law_within h_law_within rfl T.d_law_within.m T.d_law_within.kp T.d_law_within.b .nil pass0 (pa_cons (pe_op op_cat (pe_lst (pa_cons (pe_ix ix_tup (pv 3) pe_int (fun _ _ => rfl)) pa_nil)) (pe_callTy call_list_of (by rfl) T.z_list (by decide +kernel) (pa_cons (pe_ix ix_tup (pv 3) pe_int (fun _ _ => rfl)) pa_nil))) (pa_cons (pv 1) (pa_cons (pv 2) pa_nil))))))
      (pss_one (ps_if (pt_cmpR op_eq (pv 4) pe_str (nomark _))
      (pss_one (ps_expr (pe_call G_law_within h_law_within rfl T.d_law_within.m T.d_law_within.kp T.d_law_within.b .nil pass0 (pa_cons (pe_op op_cat (pe_callTy call_list_of (by rfl) T.z_list (by decide +kernel) (pa_cons (pe_ix ix_tup (pv 3) pe_int (fun _ _ => rfl)) pa_nil)) (pe_callTy call_list_of (by rfl) T.z_list (by decide +kernel) (pa_cons (pe_ix ix_tup (pv 3) pe_int (fun _ _ => rfl)) pa_nil))) (pa_cons (pv 1) (pa_cons (pv 2) pa_nil))))))
      (pss_one (ps_if (pt_cmpR op_eq (pv 4) pe_str (nomark _))
      (pss_one (ps_expr (pe_call G_law_within h_law_within rfl T.d_law_within.m T.d_law_within.kp T.d_law_within.b .nil pass0 (pa_cons (pe_op op_cat (pe_lst (pa_cons (pe_ix ix_tup (pv 3) pe_int (fun _ _ => rfl)) pa_nil)) (pe_callTy call_list_of (by rfl) T.z_list (by decide +kernel) (pa_cons (pe_ix ix_tup (pv 3) pe_int (fun _ _ => rfl)) pa_nil))) (pa_cons (pv 1) (pa_cons (pv 2) pa_nil))))))
      (pss_one (ps_if (pt_cmpR op_eq (pv 4) pe_str (nomark _))
      (pss_one (ps_expr (pe_call G_law_within h_law_within rfl T.d_law_within.m T.d_law_within.kp T.d_law_within.b .nil pass0 (pa_cons (pe_ix ix_tup (pv 3) pe_int (fun _ _ => rfl)) (pa_cons (pv 1) (pa_cons (pv 2) pa_nil))))))
      (pss_one (ps_if (pt_cmpR op_eq (pv 4) pe_str (nomark _))
      (pss_one (ps_expr (pe_call G_law_within h_law_within rfl T.d_law_within.m T.d_law_within.kp T.d_law_within.b .nil pass0 (pa_cons (pe_ix ix_tup (pv 3) pe_int (fun _ _ => rfl)) (pa_cons (pv 1) (pa_cons (pv 2) pa_nil))))))
      (pss_one (ps_if (pt_cmpR op_eq (pv 4) pe_str (nomark _))
      (pss_one (ps_expr (pe_call G_law_within h_law_within rfl T.d_law_within.m T.d_law_within.kp T.d_law_within.b .nil pass0 (pa_cons (pe_ix ix_tup (pv 3) pe_int (fun _ _ => rfl)) (pa_cons (pe_op op_cat (pv 1) (pe_callTy call_list_of (by rfl) T.z_list (by decide +kernel) (pa_cons (pe_ix ix_tup (pv 3) pe_int (fun _ _ => rfl)) pa_nil))) (pa_cons (pv 2) pa_nil))))))
      pss_nil)))))))))))))))))))))))), ?_⟩
    refine ⟨_, rfl, src, rfl, ?_⟩
    have fin : ∀ (σ : L2.St) (H' : Hp), (∃ (v3 v4 v5 : Option V), σ = [some (.ref src), some (.ref hA), some (.ref fA), v3, v4, v5] ∧ H' fA = some (.lst ((nmL hid found (ts.take (ts.map Nd.v).length)).map V.str)) ∧ But fA H H') → Q .non H' := by
      rintro σ H' ⟨v3, v4, v5, rfl, h1, h2⟩
      rw [List.length_map, List.take_length] at h1
      exact q H' h1 h2
    refine Or.elim hsrc
      (fun ⟨hS, nsf⟩ => .inl ⟨⟨_, hS⟩, for_list (K := K) (a := src) (xs := ts.map Nd.v) (fun i σ H' => ∃ (v3 v4 v5 : Option V), σ = [some (.ref src), some (.ref hA), some (.ref fA), v3, v4, v5] ∧ H' fA = some (.lst ((nmL hid found (ts.take i)).map V.str)) ∧ But fA H H') ⟨none, none, none, rfl, hf, But.refl _ _⟩ (fun i σ H' _ ⟨_, _, _, _, _, b⟩ => b.sqL nsf hS) ?_ fin⟩)
      (fun hS => .inr ⟨⟨_, hS⟩, for_tup (K := K) (a := src) (xs := ts.map Nd.v) (fun i σ H' => ∃ (v3 v4 v5 : Option V), σ = [some (.ref src), some (.ref hA), some (.ref fA), v3, v4, v5] ∧ H' fA = some (.lst ((nmL hid found (ts.take i)).map V.str)) ∧ But fA H H') ⟨none, none, none, rfl, hf, But.refl _ _⟩ (fun i σ H' _ ⟨_, _, _, _, _, b⟩ => (b.keep hf).sqt hS) ?_ fin⟩)
    all_goals
      rintro i y σ H1 hi ⟨v3, v4, v5, rfl, f1, b1⟩
      obtain ⟨k, hki, rfl⟩ : ∃ k, ts[i]? = some k ∧ y = k.v := by
        rw [List.getElem?_map] at hi
        cases e : ts[i]? with
        | none => rw [e] at hi; cases hi
        | some k => rw [e] at hi; exact ⟨k, rfl, (Option.some.inj hi).symm⟩
      have hkm : k ∈ ts := List.mem_of_getElem? hki
      have htk : ts.take (i + 1) = ts.take i ++ [k] := by rw [List.take_add_one, hki]; rfl
      have hsum : sizeL (ts.take i) + size k ≤ sizeL ts := by
        have e1 : sizeL (ts.take (i + 1)) + sizeL (ts.drop (i + 1)) = sizeL ts := by rw [← sizeL_append, List.take_append_drop]
        rw [htk, sizeL_append] at e1
        simp only [sizeL] at e1
        omega
      have kp1 := b1.keep hf
      have hk1 := kp1.nd (hts k hkm)
      have hacc := nmL_len (ts.take i) hid found
      have hgoal : nmL hid found (ts.take (i + 1)) = nmT hid (nmL hid found (ts.take i)) k := by
        rw [htk, nmL_append]
        simp only [nmL]
      rw [hgoal]
      generalize nmL hid found (ts.take i) = acc at f1 hacc ⊢
      have h1 := b1 _ _ hh nhf
      cases hk1 with
      | mk b w its pps ks hS1 hF1 hD1 hks1 =>
      have hk0 := hts _ hkm
      have ⟨hS0, hF0, hks0⟩ : SqT K H b (.str w :: its) ∧ Form K H w its pps (ks.map Nd.v) ∧ ∀ k, k ∈ ks → NdAt K H k := by
        cases hk0 with
        | mk _ _ _ _ _ g1 g2 g3 g4 => exact ⟨g1, g2, g4⟩
      simp only [nmT]
      have hsize : size (.mk (.ref b) w its pps ks) = 1 + sizeL ks := by simp only [size]
      have hstep := nameStep_len acc w its hid
      -- word = node[0]; name = None
      refine ⟨_, rfl, b, _, _, _, rfl, rfl, hS1, at0, ?_⟩
      refine ⟨fun σ' H' => H' = H1 ∧ ∃ v, σ' = [some (.ref src), some (.ref hA), some (.ref fA), some (.ref b), some (.str w), some v] ∧ (v = .non ∧ nameOf w its = none ∨ ∃ x, v = .str x ∧ nameOf w its = some x), ?_, ?_⟩
      · refine ⟨_, rfl, rfl, _, rfl, iteB (fun e => ?_) (fun e => ?_)⟩
        · have ew : w = "set" := V.str.inj (of_decide_eq_true e)
          obtain ⟨x, e', hits⟩ := set_its hF1 ew
          rw [hits] at hS1
          exact ⟨_, rfl, b, _, _, _, rfl, rfl, hS1, at1, rfl, _, rfl, .inr ⟨x, rfl, by rw [ew, hits]; exact nameOf_set x e'⟩⟩
        · have ew : ¬ w = "set" := fun z => (of_decide_eq_false e) (by rw [z])
          refine ⟨_, rfl, rfl, _, rfl, iteB (fun e => ?_) (fun e => ?_)⟩
          · have ew2 : w = "try" := V.str.inj (of_decide_eq_true e)
            obtain ⟨x, a', b', hits⟩ := try_its hF1 ew2
            rw [hits] at hS1
            exact ⟨_, rfl, b, _, _, _, rfl, rfl, hS1, at2, rfl, _, rfl, .inr ⟨x, rfl, by rw [ew2, hits]; exact nameOf_try x a' b'⟩⟩
          · have ew2 : ¬ w = "try" := fun z => (of_decide_eq_false e) (by rw [z])
            exact ⟨rfl, _, rfl, .inl ⟨rfl, nameOf_not ew ew2⟩⟩
      rintro σ' H' ⟨rfl, v, rfl, hv⟩
      refine ⟨fun σ' H2 => (∃ v, σ' = [some (.ref src), some (.ref hA), some (.ref fA), some (.ref b), some (.str w), some v]) ∧ But fA H H2 ∧ H2 fA = some (.lst ((nameStep acc w its hid).map V.str)), ?_, ?_⟩
      · rcases hv with ⟨rfl, en⟩ | ⟨x, rfl, en⟩
        · have es : nameStep acc w its hid = acc := by unfold nameStep; rw [en]
          rw [es]
          exact ⟨_, rfl, rfl, _, rfl, iteN rfl (iteN rfl ⟨⟨_, rfl⟩, b1, f1⟩)⟩
        · have es : nameStep acc w its hid = if (!among x acc && !hidden x hid) = true then acc ++ [x] else acc := by unfold nameStep; rw [en]
          rw [es]
          refine ⟨_, rfl, rfl, _, rfl, iteY rfl ?_⟩
          refine ⟨_, rfl, _, rfl, hA, _, rfl, .inl (SqL.of h1), rfl, flat_strs _, _, rfl, iteB (fun e => ?_) (fun e => iteN rfl ?_)⟩
          · have e' : (!hidden x hid) = true := by rw [← among_flat]; exact e
            refine ⟨_, rfl, _, rfl, fA, _, rfl, .inl (SqL.of f1), rfl, flat_strs _, _, rfl, iteB (fun e2 => ?_) (fun e2 => ?_)⟩
            · have e2' : (!among x acc) = true := e2
              rw [if_pos (by rw [e', e2']; rfl)]
              refine ⟨_, rfl, .inl ⟨rfl, _, SqL.of f1⟩, _, rfl, fA, _, _, rfl, rfl, f1, szl (by rw [List.length_map]; omega), ⟨_, rfl⟩, b1.trans (But.set _), by rw [upd_same, List.map_append]; rfl⟩
            · have e2' : (!among x acc) = false := e2
              rw [if_neg (by rw [e2', Bool.false_and]; decide)]
              exact ⟨⟨_, rfl⟩, b1, f1⟩
          · have e' : (!hidden x hid) = false := by rw [← among_flat]; exact e
            rw [if_neg (by rw [e', Bool.and_false]; decide)]
            exact ⟨⟨_, rfl⟩, b1, f1⟩
      rintro σ' H2 ⟨⟨v, rfl⟩, b2, f2⟩
      clear hv f1 b1 h1 kp1
      have kp2 := b2.keep hf
      have h2 := b2 _ _ hh nhf
      have hS2 := kp2.sqt hS0
      have hF2 := kp2.form hF0
      have hks2 : ∀ k, k ∈ ks → NdAt K H2 k := fun k hk => kp2.nd (hks0 k hk)
      have hnf : ∀ {p : Addr} {H3 : Hp}, Same H2 H3 → H3 p = none → p ≠ fA := fun s3 n3 e => by
        rw [e, s3 _ _ f2] at n3
        cases n3
      have again : ∀ (src' hA' : Addr) (h' : List (List Str)) (H3 : Hp), Same H2 H3 → ((SqL K H3 src' (ks.map Nd.v) ∧ src' ≠ fA) ∨ SqT K H3 src' (ks.map Nd.v)) → hA' ≠ fA → H3 hA' = some (.lst ((flatH h').map V.str)) → h' = (if w = "block" then pps :: hid else hid) → (flatH h').length ≤ (flatH hid).length + 10 →
          ∀ (Q' : VK), (∀ (vv : V) (H4 : Hp), H4 fA = some (.lst ((nmL (if w = "block" then pps :: hid else hid) (nameStep acc w its hid) ks).map V.str)) → But fA H H4 → Q' vv H4) → spWithin K N [.ref src', .ref hA', .ref fA] H3 Q' E0 := by
        intro src' hA' h' H3 s3 hsrc' n2 hh' eh hlen' Q' hQ
        refine ⟨src', hA', fA, ks, h', _, rfl, hsrc', n2, hh', s3 _ _ f2, fun t ht => (Keep.same s3).nd (hks2 t ht), by omega, by omega, by omega, fun H4 f4 b4 => ?_⟩
        subst eh
        exact hQ _ _ f4 ((b2.trans (But.same s3)).trans b4)
      have fin2 : ∀ (vv : V) (H4 : Hp), H4 fA = some (.lst ((nmL (if w = "block" then pps :: hid else hid) (nameStep acc w its hid) ks).map V.str)) → But fA H H4 → ∃ (v3 v4 v5 : Option V), [some (V.ref src), some (.ref hA), some (.ref fA), some (.ref b), some (.str w), some v] = [some (.ref src), some (.ref hA), some (.ref fA), v3, v4, v5] ∧ H4 fA = some (.lst ((nmL (if w = "block" then pps :: hid else hid) (nameStep acc w its hid) ks).map V.str)) ∧ But fA H H4 :=
        fun _ H4 h1 h2 => ⟨_, _, _, rfl, h1, h2⟩
      clear hS0 hF0 hks0
      refine ⟨_, rfl, (by show 2 ≤ sizeLine; decide), fun p1 n1 => ⟨p1, _, rfl, .inl (SqL.of upd_same), rfl, rfl, _, rfl, ?_⟩⟩
      have s3 := same_new n1 (HO.lst [V.str "set", V.str "setfield"])
      generalize upd H2 p1 (.lst [V.str "set", V.str "setfield"]) = H3 at s3 ⊢
      have kl : ∀ (e : V), e :: [] = ks.map Nd.v → ∀ {H4 : Hp} {p : Addr}, H4 p = some (.lst [e]) → SqL K H4 p (ks.map Nd.v) := fun e he H4 p h => by rw [← he]; exact SqL.of h
      refine iteB (fun c1 => ?_) (fun c1 => ?_)
      · have fe : ∃ (x : Str) (e : V), its = [.str x, e] ∧ [e] = ks.map Nd.v ∧ ¬ w = "block" := by
          generalize ks.map Nd.v = kvs at hF2 ⊢
          cases hF2 with
          | set x e => exact ⟨x, e, rfl, rfl, by decide +kernel⟩
          | setfield x e => exact ⟨x, e, rfl, rfl, by decide +kernel⟩
          | one w h e => exact absurd ((oneW_1 w h).symm.trans c1) (by decide)
          | leaf w h => exact absurd ((leafW_1 w h).symm.trans c1) (by decide)
          | _ => exact absurd c1 (by decide +kernel)
        obtain ⟨x, e, hits, hkv, hnb⟩ := fe
        rw [hits] at hS2
        refine ⟨_, rfl, b, _, _, _, rfl, rfl, s3.sqt hS2, at2, (by show 1 ≤ sizeLine; decide), fun p2 n2 => ⟨_, rfl, _, rfl, ?_⟩⟩
        have s4 := s3.trans (same_new n2 (HO.lst [e]))
        exact again p2 hA hid _ s4 (.inl ⟨kl e hkv upd_same, hnf s3 n2⟩) nhf (s4 _ _ h2) (by rw [if_neg hnb]) (by omega) _ fin2
      refine ⟨_, rfl, (by show 4 ≤ sizeLine; decide), fun p2 n2 => ⟨p2, _, rfl, .inl (SqL.of upd_same), rfl, rfl, _, rfl, ?_⟩⟩
      have s4 := s3.trans (same_new n2 (HO.lst [V.str "do", V.str "say", V.str "return", V.str "raise"]))
      generalize upd H3 p2 (.lst [V.str "do", V.str "say", V.str "return", V.str "raise"]) = H4 at s4 ⊢
      refine iteB (fun c2 => ?_) (fun c2 => ?_)
      · have fe : ∃ (e : V), its = [e] ∧ [e] = ks.map Nd.v ∧ ¬ w = "block" := by
          generalize ks.map Nd.v = kvs at hF2 ⊢
          cases hF2 with
          | one w h e => exact ⟨e, rfl, rfl, by revert h; unfold oneW; intro h z; subst z; revert h; decide +kernel⟩
          | leaf w h => exact absurd ((leafW_2 w h).symm.trans c2) (by decide)
          | _ => exact absurd c2 (by decide +kernel)
        obtain ⟨e, hits, hkv, hnb⟩ := fe
        rw [hits] at hS2
        refine ⟨_, rfl, b, _, _, _, rfl, rfl, s4.sqt hS2, at1, (by show 1 ≤ sizeLine; decide), fun p3 n3 => ⟨_, rfl, _, rfl, ?_⟩⟩
        have s5 := s4.trans (same_new n3 (HO.lst [e]))
        exact again p3 hA hid _ s5 (.inl ⟨kl e hkv upd_same, hnf s4 n3⟩) nhf (s5 _ _ h2) (by rw [if_neg hnb]) (by omega) _ fin2
      have hkl := len_le_sizeL ks
      have hkvl : (ks.map Nd.v).length = ks.length := List.length_map _
      generalize ekv : ks.map Nd.v = kvs at hF2 again hkvl
      cases hF2 with
      | set x e => exact absurd c1 (by decide +kernel)
      | setfield x e => exact absurd c1 (by decide +kernel)
      | one w h e => exact absurd ((oneW_2 w h).symm.trans c2) (by decide)
      | cond e aa bb xs ys g1 g2 =>
        walk_at "eqY"
        have hl : (e :: (xs ++ ys)).length = ks.length := hkvl
        simp only [List.length_cons, List.length_append] at hl
        refine ⟨_, rfl, b, _, _, _, rfl, rfl, s4.sqt hS2, at1, (by show 1 ≤ sizeLine; decide), fun p3 n3 => ?_⟩
        have s5 := s4.trans (same_new n3 (HO.lst [e]))
        refine ⟨_, rfl, b, _, _, _, rfl, rfl, s5.sqt hS2, at2, aa, xs, rfl, .inr (s5.sqt g1), fun p4 n4 => ?_⟩
        have s6 := s5.trans (same_new n4 (HO.lst xs))
        refine ⟨p3, p4, [e], xs, rfl, rfl, (same_new n4 _ _ _ upd_same), upd_same, sz (by simp only [List.length_cons, List.length_nil]; omega), fun p5 n5 => ?_⟩
        have s7 := s6.trans (same_new n5 (HO.lst ([e] ++ xs)))
        refine ⟨_, rfl, b, _, _, _, rfl, rfl, s7.sqt hS2, at3, bb, ys, rfl, .inr (s7.sqt g2), fun p6 n6 => ?_⟩
        have s8 := s7.trans (same_new n6 (HO.lst ys))
        refine ⟨p5, p6, [e] ++ xs, ys, rfl, rfl, (same_new n6 _ _ _ upd_same), upd_same, sz (by simp only [List.length_cons, List.length_nil, List.length_append]; omega), fun p7 n7 => ⟨_, rfl, _, rfl, ?_⟩⟩
        have s9 := s8.trans (same_new n7 (HO.lst ([e] ++ xs ++ ys)))
        exact again p7 hA hid _ s9 (.inl ⟨SqL.of upd_same, hnf s8 n7⟩) nhf (s9 _ _ h2) (by rw [if_neg (by decide +kernel)]) (by omega) _ fin2
      | loop e aa xs g1 =>
        walk_at "eqN"
        walk_at "eqY"
        have hl : (e :: xs).length = ks.length := hkvl
        simp only [List.length_cons] at hl
        refine ⟨_, rfl, b, _, _, _, rfl, rfl, s4.sqt hS2, at1, (by show 1 ≤ sizeLine; decide), fun p3 n3 => ?_⟩
        have s5 := s4.trans (same_new n3 (HO.lst [e]))
        refine ⟨_, rfl, b, _, _, _, rfl, rfl, s5.sqt hS2, at2, aa, xs, rfl, .inr (s5.sqt g1), fun p4 n4 => ?_⟩
        have s6 := s5.trans (same_new n4 (HO.lst xs))
        refine ⟨p3, p4, [e], xs, rfl, rfl, (same_new n4 _ _ _ upd_same), upd_same, sz (by simp only [List.length_cons, List.length_nil]; omega), fun p7 n7 => ⟨_, rfl, _, rfl, ?_⟩⟩
        have s9 := s6.trans (same_new n7 (HO.lst ([e] ++ xs)))
        exact again p7 hA hid _ s9 (.inl ⟨SqL.of upd_same, hnf s6 n7⟩) nhf (s9 _ _ h2) (by rw [if_neg (by decide +kernel)]) (by omega) _ fin2
      | tri x aa bb xs ys g1 g2 =>
        walk_at "eqN"
        walk_at "eqN"
        walk_at "eqY"
        have hl : (xs ++ ys).length = ks.length := hkvl
        simp only [List.length_append] at hl
        refine ⟨_, rfl, b, _, _, _, rfl, rfl, s4.sqt hS2, at1, aa, xs, rfl, .inr (s4.sqt g1), fun p3 n3 => ?_⟩
        have s5 := s4.trans (same_new n3 (HO.lst xs))
        refine ⟨_, rfl, b, _, _, _, rfl, rfl, s5.sqt hS2, at3, bb, ys, rfl, .inr (s5.sqt g2), fun p4 n4 => ?_⟩
        have s6 := s5.trans (same_new n4 (HO.lst ys))
        refine ⟨p3, p4, xs, ys, rfl, rfl, (same_new n4 _ _ _ upd_same), upd_same, sz (by omega), fun p7 n7 => ⟨_, rfl, _, rfl, ?_⟩⟩
        have s9 := s6.trans (same_new n7 (HO.lst (xs ++ ys)))
        exact again p7 hA hid _ s9 (.inl ⟨SqL.of upd_same, hnf s6 n7⟩) nhf (s9 _ _ h2) (by rw [if_neg (by decide +kernel)]) (by omega) _ fin2
      | send e m aa xs g1 =>
        walk_at "eqN"
        walk_at "eqN"
        walk_at "eqN"
        walk_at "eqY"
        have hl : (e :: xs).length = ks.length := hkvl
        simp only [List.length_cons] at hl
        refine ⟨_, rfl, b, _, _, _, rfl, rfl, s4.sqt hS2, at1, (by show 1 ≤ sizeLine; decide), fun p3 n3 => ?_⟩
        have s5 := s4.trans (same_new n3 (HO.lst [e]))
        refine ⟨_, rfl, b, _, _, _, rfl, rfl, s5.sqt hS2, at3, aa, xs, rfl, .inr (s5.sqt g1), fun p4 n4 => ?_⟩
        have s6 := s5.trans (same_new n4 (HO.lst xs))
        refine ⟨p3, p4, [e], xs, rfl, rfl, (same_new n4 _ _ _ upd_same), upd_same, sz (by simp only [List.length_cons, List.length_nil]; omega), fun p7 n7 => ⟨_, rfl, _, rfl, ?_⟩⟩
        have s9 := s6.trans (same_new n7 (HO.lst ([e] ++ xs)))
        exact again p7 hA hid _ s9 (.inl ⟨SqL.of upd_same, hnf s6 n7⟩) nhf (s9 _ _ h2) (by rw [if_neg (by decide +kernel)]) (by omega) _ fin2
      | up m aa _ g1 =>
        walk_at "eqN"
        walk_at "eqN"
        walk_at "eqN"
        walk_at "eqN"
        walk_at "eqY"
        refine ⟨_, rfl, b, _, _, _, rfl, rfl, s4.sqt hS2, at2, _, rfl, _, rfl, ?_⟩
        exact again aa hA hid _ s4 (.inr (s4.sqt g1)) nhf (s4 _ _ h2) (by rw [if_neg (by decide +kernel)]) (by omega) _ fin2
      | list aa _ g1 =>
        walk_at "eqN"
        walk_at "eqN"
        walk_at "eqN"
        walk_at "eqN"
        walk_at "eqN"
        walk_at "eqY"
        refine ⟨_, rfl, b, _, _, _, rfl, rfl, s4.sqt hS2, at1, _, rfl, _, rfl, ?_⟩
        exact again aa hA hid _ s4 (.inr (s4.sqt g1)) nhf (s4 _ _ h2) (by rw [if_neg (by decide +kernel)]) (by omega) _ fin2
      | block pp aa _ _ hpl g0 g1 =>
        walk_at "eqN"
        walk_at "eqN"
        walk_at "eqN"
        walk_at "eqN"
        walk_at "eqN"
        walk_at "eqN"
        walk_at "eqY"
        refine ⟨_, rfl, b, _, _, _, rfl, rfl, s4.sqt hS2, at2, _, rfl, _, rfl, b, _, _, _, rfl, rfl, s4.sqt hS2, at1, pp, _, rfl, .inr (s4.sqt g0), fun p3 n3 => ?_⟩
        have s5 := s4.trans (same_new n3 (HO.lst (pps.map V.str)))
        refine ⟨hA, p3, _, _, rfl, rfl, s5 _ _ h2, upd_same, sz (by rw [List.length_map, List.length_map]; omega), fun p4 n4 => ⟨_, rfl, ?_⟩⟩
        have s6 := s5.trans (same_new n4 (HO.lst ((flatH hid).map V.str ++ pps.map V.str)))
        refine again aa p4 (pps :: hid) _ s6 (.inr (s6.sqt g1)) (hnf s5 n4) ?_ (by rw [if_pos rfl]) ?_ _ fin2
        · rw [upd_same]
          simp only [flatH, List.map_append]
        · simp only [flatH, List.length_append]
          omega
      | leaf w h =>
        have z : ∀ x, x ∈ leafW → decide (V.str x = V.str "if") = false ∧ decide (V.str x = V.str "while") = false ∧ decide (V.str x = V.str "try") = false ∧ decide (V.str x = V.str "send") = false ∧ decide (V.str x = V.str "up") = false ∧ decide (V.str x = V.str "list") = false ∧ decide (V.str x = V.str "block") = false := by
          unfold leafW
          decide +kernel
        obtain ⟨z1, z2, z3, z4, z5, z6, z7⟩ := z w h
        refine ⟨_, rfl, rfl, _, rfl, iteN z1 ⟨_, rfl, rfl, _, rfl, iteN z2 ⟨_, rfl, rfl, _, rfl, iteN z3 ⟨_, rfl, rfl, _, rfl, iteN z4 ⟨_, rfl, rfl, _, rfl, iteN z5 ⟨_, rfl, rfl, _, rfl, iteN z6 ⟨_, rfl, rfl, _, rfl, iteN z7 ?_⟩⟩⟩⟩⟩⟩⟩
        have ek : ks = [] := by
          cases ks with
          | nil => rfl
          | cons a l => simp at ekv
        subst ek
        exact ⟨_, _, _, rfl, s4 _ _ f2, b2.trans (But.same s4)⟩
theorem ok_within (T : Tx K mg) : ∀ N : Nat, FnOk P w K mg base CX0 N T.d_law_within.f T.d_law_within.fd ["_law_nodes", "_law_hidden", "_law_found"] (spWithin K N)
  | 0 => fn_never fun vs H Q E h => by
    obtain ⟨_, _, _, ts, _, _, _, _, _, _, _, _, h, _⟩ := h
    omega
  | N + 1 => ok_within1 T (ok_within T N)
def spNamesOf (K : PySem.W.Frag) : Sp := fun vs H Q _ => ∃ (ta pa ba : Addr) (msg : Str) (ps : List Str) (ts : List Nd), vs = [.ref ta] ∧ MethAt K H ta msg pa ba ps ts ∧
  ∀ (r : Addr) (H' : Hp), Same H H' → H' r = some (.tup ((nmL [] ps ts).map V.str)) → Q (.ref r) H'
theorem ok_names_of (T : Tx K mg) : FnOk P w K mg base CX0 205 T.d_names_of.f T.d_names_of.fd ["method"] (spNamesOf K) := by
  have nd := sc_names_of.nd
  have G_Shape_init__ := ok_init (P := P) (w := w) (base := base) T
  refine T.d_names_of.fn.ok (k := 204) sc_names_of (fun vs H Q E h => ?_) (fun cdv A outer s H vs Q E hr h => ?_)
  · obtain ⟨ta, pa, ba, msg, ps, ts, rfl, _⟩ := h
    rfl
  · obtain ⟨ta, pa, ba, msg, ps, ts, rfl, hM, q⟩ := h
    have h_Shape_init__ : Room 204 _ := hr
    refine ⟨_, (pss_one (ps_ret (pe_callTy call_tuple_of (by rfl) T.z_tuple (by decide +kernel) (pa_cons (pe_fld (pe_make T.d_Shape_init__.mkk G_Shape_init__ h_Shape_init__ rfl T.Shape.m T.d_Shape_init__.b .nil pass0 (pa_cons (pv 0) pa_nil)) rfl) pa_nil)))), ?_⟩
    refine ⟨_, rfl, fun p dx np ndx ne => ?_⟩
    have s0 : Same H (upd (upd H dx (.own p)) p (.ins T.Shape.C dx [])) := (same_new ndx _).trans (same_new (by rw [upd_ne ne.symm]; exact np) _)
    refine ⟨p, dx, ta, pa, ba, msg, ps, ts, rfl, upd_same, hM.keep (Keep.same s0), fun n a c d e f ch H' hS b => ⟨rfl, ?_⟩⟩
    have s1 : Same H H' := Same.made np ndx b
    refine ⟨p, _, dx, _, _, rfl, hS.R.o.ob, T.Shape.cl, T.Shape.n_names, rfl, f, _, rfl, .inl ⟨SqL.of hS.names, fun r nr => q r _ (s1.trans (same_new nr _)) ?_⟩⟩
    rw [upd_same, nmL_recs]
end
end My

set_option Elab.async false
set_option linter.all false
set_option maxRecDepth 100000
set_option maxHeartbeats 8000000
namespace My
open PySem L2
abbrev zz : Str := "zz"
theorem eqV_str (a b : Str) : eqV (.str a) (.str b) = (a == b) := by
  unfold eqV
  rfl
theorem among_mem {x : Str} {ps : List Str} (h : x ∈ ps) : among x ps = true := by
  unfold among inV
  rw [List.any_eq_true]
  exact ⟨.str x, List.mem_map.mpr ⟨x, h, rfl⟩, by rw [eqV_str]; exact beq_self_eq_true x⟩
theorem among_iff {x : Str} {ps : List Str} : among x ps = true → x ∈ ps := by
  intro h
  unfold among inV at h
  rw [List.any_eq_true] at h
  obtain ⟨v, hv, e⟩ := h
  obtain ⟨y, hy, rfl⟩ := List.mem_map.mp hv
  rw [eqV_str] at e
  have := eq_of_beq e
  subst this
  exact hy
theorem among_not {x : Str} {ps : List Str} (h : x ∉ ps) : among x ps = false := by
  cases e : among x ps with
  | false => rfl
  | true => exact absurd (among_iff e) h
/-- with the word zz behind the parameters all goes the same -/
theorem zz_step {ps X : List Str} {w : Str} {its : List V} (h : List (List Str)) (hg : ∀ x, nameOf w its = some x → x ≠ "zz" ∧ PySem.PyData.canLay0 (.str x) = true) (hX : ∀ x, x ∈ X → x ∉ ps ∧ PySem.PyData.canLay0 (.str x) = true) :
    ∃ X', nameStep (ps ++ X) w its h = ps ++ X' ∧ nameStep (ps ++ zz :: X) w its h = ps ++ zz :: X' ∧ ∀ x, x ∈ X' → x ∉ ps ∧ PySem.PyData.canLay0 (.str x) = true := by
  unfold nameStep
  cases e : nameOf w its with
  | none => exact ⟨X, rfl, rfl, hX⟩
  | some x =>
    obtain ⟨g1, g2⟩ := hg x e
    have e1 : among x (ps ++ zz :: X) = among x (ps ++ X) := by
      rw [among_append, among_append]
      have : among x (zz :: X) = (among x [zz] || among x X) := among_append x [zz] X
      rw [this, among_not (x := x) (ps := [zz]) (by simpa using g1), Bool.false_or]
    show ∃ X', (if (!among x (ps ++ X) && !hidden x h) = true then ps ++ X ++ [x] else ps ++ X) = ps ++ X' ∧ (if (!among x (ps ++ zz :: X) && !hidden x h) = true then ps ++ zz :: X ++ [x] else ps ++ zz :: X) = ps ++ zz :: X' ∧ _
    rw [e1]
    by_cases c : (!among x (ps ++ X) && !hidden x h) = true
    · rw [if_pos c, if_pos c]
      refine ⟨X ++ [x], by rw [List.append_assoc], by rw [List.append_assoc]; rfl, fun y hy => ?_⟩
      rcases List.mem_append.mp hy with e | e
      · exact hX y e
      · rw [List.mem_singleton] at e
        subst e
        refine ⟨fun hm => ?_, g2⟩
        have c1 := (Bool.and_eq_true_iff.mp c).1
        rw [among_append, among_mem hm] at c1
        cases c1
    · rw [if_neg c, if_neg c]
      exact ⟨X, rfl, rfl, hX⟩
mutual
theorem zz_T {ps : List Str} : ∀ (t : Nd), Good "zz" t → ∀ (h : List (List Str)) (X : List Str), (∀ x, x ∈ X → x ∉ ps ∧ PySem.PyData.canLay0 (.str x) = true) →
    ∃ X', nmT h (ps ++ X) t = ps ++ X' ∧ nmT h (ps ++ zz :: X) t = ps ++ zz :: X' ∧ ∀ x, x ∈ X' → x ∉ ps ∧ PySem.PyData.canLay0 (.str x) = true
  | .mk v w its pps ks, hg, h, X, hX => by
    have ⟨g1, g2⟩ : (∀ x, nameOf w its = some x → x ≠ "zz" ∧ PySem.PyData.canLay0 (.str x) = true) ∧ ∀ k, k ∈ ks → Good "zz" k := by
      cases hg with
      | mk _ _ _ _ _ a b => exact ⟨a, b⟩
    obtain ⟨X1, e1, e2, hX1⟩ := zz_step h g1 hX
    simp only [nmT]
    rw [e1, e2]
    exact zz_L ks g2 _ X1 hX1
theorem zz_L {ps : List Str} : ∀ (ts : List Nd), (∀ t, t ∈ ts → Good "zz" t) → ∀ (h : List (List Str)) (X : List Str), (∀ x, x ∈ X → x ∉ ps ∧ PySem.PyData.canLay0 (.str x) = true) →
    ∃ X', nmL h (ps ++ X) ts = ps ++ X' ∧ nmL h (ps ++ zz :: X) ts = ps ++ zz :: X' ∧ ∀ x, x ∈ X' → x ∉ ps ∧ PySem.PyData.canLay0 (.str x) = true
  | [], hg, h, X, hX => ⟨X, by simp only [nmL], by simp only [nmL], hX⟩
  | t :: ts, hg, h, X, hX => by
    obtain ⟨X1, e1, e2, hX1⟩ := zz_T t (hg t (by simp)) h X hX
    simp only [nmL]
    rw [e1, e2]
    exact zz_L ts (fun t' h' => hg t' (by simp [h'])) h X1 hX1
end
theorem strs_dt {K : PySem.W.Frag} {H : Hp} {n : Nat} : ∀ {xs : List Str}, (∀ x, x ∈ xs → PySem.PyData.canLay0 (.str x) = true) → Paired (Dt K H n) (xs.map V.str) (xs.map PyData.str)
  | [], _ => .nil
  | x :: xs, h => .cons (Dt.flat (.str x (h x (by simp))) n) (strs_dt fun y hy => h y (by simp [hy]))
theorem same_data {K : PySem.W.Frag} {H : Hp} {n : Nat} {x y : V} {d : PyData} {Q : VK} (h1 : Dt K H n x d) (h2 : Dt K H n y d) (hn : n ≤ 64) (q : Q (.bl true) H) : rEqD K x y H Q := by
  refine ⟨d, d, h1.dp.1, h2.dp.1, h1.shaped hn, h1.shaped hn, ?_⟩
  rw [SeqAt.eqv_refl d h1.dp.2.1]
  exact q
theorem same_dataN {K : PySem.W.Frag} {H : Hp} {n : Nat} {x y : V} {d : PyData} {Q : VK} (h1 : Dt K H n x d) (h2 : Dt K H n y d) (hn : n ≤ 64) (q : Q (.bl false) H) : rNeD K x y H Q := by
  refine ⟨d, d, h1.dp.1, h2.dp.1, h1.shaped hn, h1.shaped hn, ?_⟩
  rw [SeqAt.eqv_refl d h1.dp.2.1]
  exact q
def spLaw (K : PySem.W.Frag) : Sp := fun vs H Q _ => ∃ (a : Addr) (ns : List Int), vs = [.ref a] ∧ SqL K H a (ns.map V.int) ∧ ns.length ≤ 63 ∧ ∀ H', Q (.bl true) H'
section
variable {P : Program} {w : World} {K : PySem.W.Frag} {mg : Str → Option Value} {base : Heap}
theorem ok_law (T : Tx K mg) : FnOk P w K mg base CX0 206 T.d_law.f T.d_law.fd ["_law_script"] (spLaw K) := by
  have nd := sc_law.nd
  have G_law_deck := ok_law_deck (P := P) (w := w) (base := base) T
  have G_law_next := ok_law_next (P := P) (w := w) (base := base) T
  have G_law_method := ok_law_method (P := P) (w := w) (base := base) T
  have G_law_within := ok_within (P := P) (w := w) (base := base) T 201
  have G_names_of := ok_names_of (P := P) (w := w) (base := base) T
  refine T.d_law.fn.ok (k := 205) sc_law (fun vs H Q E h => ?_) (fun cdv A outer s H vs Q E hr h => ?_)
  · obtain ⟨a, ns, rfl, _⟩ := h
    rfl
  · obtain ⟨a, ns, rfl, hS, hl, q⟩ := h
    have h_law_deck : Room 1 _ := hr.mono (by decide)
    have h_law_next : Room 1 _ := hr.mono (by decide)
    have h_law_method : Room 50 _ := hr.mono (by decide)
    have h_law_within : Room 201 _ := hr.mono (by decide)
    have h_names_of : Room 205 _ := hr
    refine ⟨_, (pss_cons (ps_set (i := 1) nd rfl (Or.inl rfl) (pe_call G_law_deck h_law_deck rfl T.d_law_deck.m T.d_law_deck.kp T.d_law_deck.b .nil pass0 (pa_cons (pv 0) pa_nil)))
      (pss_cons (ps_set (i := 2) nd rfl (Or.inr rfl) (pe_call G_law_method h_law_method rfl T.d_law_method.m T.d_law_method.kp T.d_law_method.b .nil pass0 (pa_cons (pv 1) (pa_cons (pe_op op_add pe_int (pe_op op_mod (pe_call G_law_next h_law_next rfl T.d_law_next.m T.d_law_next.kp T.d_law_next.b .nil pass0 (pa_cons (pv 1) pa_nil)) pe_int)) pa_nil))))
      (pss_cons (ps_set (i := 3) nd rfl (Or.inl rfl) (pe_callTy call_list_of (by rfl) T.z_list (by decide +kernel) (pa_cons (pe_ix ix_tup (pv 2) pe_int (fun _ _ => rfl)) pa_nil)))
      (pss_cons (ps_expr (pe_call G_law_within h_law_within rfl T.d_law_within.m T.d_law_within.kp T.d_law_within.b .nil pass0 (pa_cons (pe_ix ix_tup (pv 2) pe_int (fun _ _ => rfl)) (pa_cons (pe_lst pa_nil) (pa_cons (pv 3) pa_nil)))))
      (pss_cons (ps_set (i := 4) nd rfl (Or.inl rfl) (pe_call G_names_of h_names_of rfl T.d_names_of.m T.d_names_of.kp T.d_names_of.b .nil pass0 (pa_cons (pv 2) pa_nil)))
      (pss_cons (ps_if (PW.pt (pw_or (pt_not (pt_val (pe_callB call_isi (by rfl) T.z_isinstance (by decide +kernel) (pa_cons (pv 4) (pa_cons (pe_bltn (v := .ty "tuple") (by rfl) T.z_tuple (by decide +kernel) rfl) pa_nil))))) (pw_or1 (pt_cmpR (op_neD hr.units) (pv 4) (pe_callTy call_tuple_of (by rfl) T.z_tuple (by decide +kernel) (pa_cons (pv 3) pa_nil)) (nomark _)))))
      (pss_one (ps_ret pe_bl))
      pss_nil)
      (pss_cons (ps_set (i := 5) nd rfl (Or.inl rfl) (pe_tup (pa_cons pe_str (pa_cons pe_str (pa_cons (pe_ix ix_tup (pv 2) pe_int (fun _ _ => rfl)) (pa_cons (pe_op op_catA (pe_tup (pa_cons (pe_tup (pa_cons pe_str (pa_cons pe_str (pa_cons (pe_tup (pa_cons pe_str pa_nil)) pa_nil)))) pa_nil)) (pe_ix ix_tup (pv 2) pe_int (fun _ _ => rfl))) pa_nil))))))
      (pss_cons (ps_setLc (i := 6) (own := [("_law_word_here", 7)]) (g := (gName 7)) (tt := tTest (tOp (rIn K true) (tVar 7) (tOp (rIxT K) (tVar 2) (tC (.int 2))))) rfl nd rfl rfl (sw_true rfl rfl rfl (by decide +kernel)) (pi_list (pv 3)) (blkOk_by (N := N_law) (sc := defScope s_law) (by decide +kernel)) (fun _ _ _ _ _ => (pg_name (i := 7) nd rfl (Or.inl rfl))) (fun _ _ _ _ _ => (pts_one (pt_cmpR op_notIn_seq (pv 7) (pe_ix ix_tup (pv 2) pe_int (fun _ _ => rfl)) rfl))) (fun _ _ _ _ _ => (pv 7)))
      (pss_one (ps_ret (pe_and (pe_cmpR (op_eqD hr.units) (pe_call G_names_of h_names_of rfl T.d_names_of.m T.d_names_of.kp T.d_names_of.b .nil pass0 (pa_cons (pv 5) pa_nil)) (pe_op op_catA (pe_op op_catA (pe_ix ix_tup (pv 2) pe_int (fun _ _ => rfl)) (pe_tup (pa_cons pe_str pa_nil))) (pe_callTy call_tuple_of (by rfl) T.z_tuple (by decide +kernel) (pa_cons (pv 6) pa_nil))) (nomark _)) (pe_one (pe_cmpR (op_eqD hr.units) (pe_call G_names_of h_names_of rfl T.d_names_of.m T.d_names_of.kp T.d_names_of.b .nil pass0 (pa_cons (pe_tup (pa_cons pe_str (pa_cons pe_str (pa_cons (pe_tup pa_nil) (pa_cons (pe_tup pa_nil) pa_nil))))) pa_nil)) (pe_tup pa_nil) (nomark _)))))))))))))), ?_⟩
    refine ⟨_, rfl, a, ns, rfl, hS, hl, fun D R row H1 s1 nD nR dk => ?_⟩
    refine ⟨_, rfl, _, rfl, D, R, 0, row, 70, rfl, dk, by decide, by decide, fun z H2 hz d2 b2 => ?_⟩
    obtain ⟨n, en, hn⟩ := natMod z 12 (by decide)
    refine ⟨_, _, rfl, rfl, (by show (0 : Int) < 12; decide), _, _, rfl, rfl, D, R, _, row, n + 1, by omega, (by show [V.ref D, V.int (1 + z % ((12 : Nat) : Int))] = [V.ref D, V.int ((n + 1 : Nat) : Int)]; rw [en]; congr 3; omega), d2, by decide, by decide, fun ta msg pa ba ps ts H3 b3 hM hgood hps hfew => ?_⟩
    have hzz : zz ∉ ps := fun h => (hps _ h).2 rfl
    -- found = list(method[2])
    refine ⟨_, rfl, ta, _, _, _, rfl, rfl, hM.tup, at2, pa, _, rfl, .inr hM.par, fun L nL => ?_⟩
    have s4 := same_new nL (HO.lst (ps.map V.str))
    have l4 : upd H3 L (.lst (ps.map V.str)) L = some (.lst (ps.map V.str)) := upd_same
    have M4 := hM.keep (Keep.same s4)
    generalize upd H3 L (.lst (ps.map V.str)) = H4 at s4 l4 M4 ⊢
    -- within(method[3], [], found)
    refine ⟨_, rfl, ta, _, _, _, rfl, rfl, M4.tup, at3, (by show 0 ≤ sizeLine; decide), fun hA nA => ?_⟩
    have s5 := same_new nA (HO.lst [])
    have M5 := M4.keep (Keep.same s5)
    have hpl := hM.plen
    refine ⟨_, rfl, ba, hA, L, ts, [], ps, rfl, .inr M5.body, (ne_of_none l4 nA).symm, upd_same, s5 _ _ l4, M5.nds, by omega, by omega, by show 0 + 10 * sizeL ts ≤ 10000; omega, fun H6 f6 b6 => ?_⟩
    have M6 := M5.keep (b6.keep (s5 _ _ l4))
    obtain ⟨Y, eY, eZ, hY⟩ := zz_L (ps := ps) ts hgood [] [] (fun x hx => by simp at hx)
    rw [List.append_nil] at eY
    rw [eY] at f6
    have hcan : ∀ x, x ∈ ps ++ Y → PySem.PyData.canLay0 (.str x) = true := fun x hx => by
      rcases List.mem_append.mp hx with e | e
      · exact (hps x e).1
      · exact (hY x e).2
    -- told = names_of(method)
    refine ⟨_, rfl, ta, pa, ba, msg, ps, ts, rfl, M6, fun r1 H7 s7 h7 => ?_⟩
    rw [eY] at h7
    refine ⟨_, rfl, _, _, _, _, true, rfl, ClsV.ty _, TyX.base (.tup h7), rfl, true, rfl, iteN rfl ?_⟩
    refine ⟨_, rfl, _, rfl, L, _, rfl, .inl ⟨SqL.of (s7 _ _ f6), fun r2 nr2 => ?_⟩⟩
    have s8 := s7.trans (same_new nr2 (HO.tup ((ps ++ Y).map V.str)))
    have M8 := M6.keep (Keep.same s8)
    have f8 := s8 _ _ f6
    have d1 : Dt K (upd H7 r2 (.tup ((ps ++ Y).map V.str))) 1 (.ref r1) (.tuple ((ps ++ Y).map PyData.str)) := .inr ⟨r1, _, _, rfl, rfl, SqT.of (same_new nr2 _ _ _ h7), strs_dt hcan⟩
    have d2' : Dt K (upd H7 r2 (.tup ((ps ++ Y).map V.str))) 1 (.ref r2) (.tuple ((ps ++ Y).map PyData.str)) := .inr ⟨r2, _, _, rfl, rfl, SqT.of upd_same, strs_dt hcan⟩
    refine same_dataN d1 d2' (by decide) ⟨_, rfl, iteN rfl ?_⟩
    clear d1 d2'
    generalize upd H7 r2 (.tup ((ps ++ Y).map V.str)) = H8 at s8 M8 f8 ⊢
    -- plain = ('method', 'm', method[2], (('set', 'zz', ('none',)),) + method[3])
    refine ⟨_, rfl, ta, _, _, _, rfl, rfl, M8.tup, at2, (by show 1 ≤ sizeLine; decide), fun p0 n0 => ⟨(by show 3 ≤ sizeLine; decide), fun p1 n1 => ⟨(by show 1 ≤ sizeLine; decide), fun p2 n2 => ?_⟩⟩⟩
    have s9 := ((same_new n0 (HO.tup [V.str "none"])).trans (same_new n1 (HO.tup [V.str "set", V.str "zz", V.ref p0]))).trans (same_new n2 (HO.tup [V.ref p1]))
    have t9 : SqT K (upd (upd (upd H8 p0 (.tup [V.str "none"])) p1 (.tup [V.str "set", V.str "zz", V.ref p0])) p2 (.tup [V.ref p1])) p2 [V.ref p1] := SqT.of upd_same
    have t9' : SqT K (upd (upd (upd H8 p0 (.tup [V.str "none"])) p1 (.tup [V.str "set", V.str "zz", V.ref p0])) p2 (.tup [V.ref p1])) p1 [V.str "set", V.str "zz", V.ref p0] := SqT.of (same_new n2 _ _ _ upd_same)
    have t9'' : SqT K (upd (upd (upd H8 p0 (.tup [V.str "none"])) p1 (.tup [V.str "set", V.str "zz", V.ref p0])) p2 (.tup [V.ref p1])) p0 [V.str "none"] := SqT.of (same_new n2 _ _ _ (same_new n1 _ _ _ upd_same))
    have M9 := M8.keep (Keep.same s9)
    have f9 := s9 _ _ f8
    generalize upd (upd (upd H8 p0 (.tup [V.str "none"])) p1 (.tup [V.str "set", V.str "zz", V.ref p0])) p2 (.tup [V.ref p1]) = H9 at s9 t9 t9' t9'' M9 f9 ⊢
    have hlen : ts.length ≤ 180 := Nat.le_trans (len_le_sizeL ts) hfew
    refine ⟨_, rfl, ta, _, _, _, rfl, rfl, M9.tup, at3, catA t9 M9.body (by simp only [List.length_cons, List.length_nil, List.length_map]; omega) fun bb H10 s10 h10 => ⟨(by show 4 ≤ sizeLine; decide), fun pm npm => ?_⟩⟩
    have s11 := s10.trans (same_new npm (HO.tup [V.str "method", V.str "m", V.ref pa, V.ref bb]))
    have kp11 := Keep.same s11
    have t11 : SqT K (upd H10 pm (.tup [V.str "method", V.str "m", V.ref pa, V.ref bb])) pm [V.str "method", V.str "m", V.ref pa, V.ref bb] := SqT.of upd_same
    have h11 := (Keep.same (same_new npm (HO.tup [V.str "method", V.str "m", V.ref pa, V.ref bb]))).sqt h10
    have M11 := M9.keep kp11
    have f11 := s11 _ _ f9
    have N0 := mkNode0 (ks := []) 0 (kp11.sqt t9'') (.leaf "none" (by decide +kernel) []) (fun x hx => by simp at hx) (by decide +kernel) (by decide) (fun k hk => by simp at hk)
    have N1 := mkNode0 (w := "set") (its := [V.str "zz", V.ref p0]) (ks := [.mk (.ref p0) "none" [] [] []]) 1 (kp11.sqt t9') (.set "zz" (.ref p0)) (fun x hx => by
      simp only [List.mem_cons, List.not_mem_nil, or_false] at hx
      rcases hx with e | e
      · subst e; exact Dok.str (by decide +kernel)
      · subst e; exact N0.2) (by decide +kernel) (by decide) (fun k hk => by
      rw [List.mem_singleton] at hk
      subst hk
      exact N0.1)
    generalize upd H10 pm (.tup [V.str "method", V.str "m", V.ref pa, V.ref bb]) = H11 at s11 kp11 t11 h11 M11 f11 N0 N1 ⊢
    have Mp : MethAt K H11 pm "m" pa bb ps (.mk (.ref p1) "set" [V.str "zz", V.ref p0] [] [.mk (.ref p0) "none" [] [] []] :: ts) := by
      refine ⟨t11, M11.par, h11, fun t ht => ?_, M11.dpar, Dok.tup h11 fun x hx => ?_, by simp only [sizeL, size]; omega, M11.plen⟩
      · rcases List.mem_cons.mp ht with e | e
        · subst e; exact N1.1
        · exact M11.nds t e
      · rcases List.mem_append.mp hx with e | e
        · rw [List.mem_singleton] at e
          subst e
          exact N1.2.mono (by decide)
        · obtain ⟨t, ht, rfl⟩ := List.mem_map.mp e
          have := M11.nds t ht
          cases this with
          | mk _ _ _ _ _ _ _ g3 _ => exact g3.1
    have enm : nmL [] ps (.mk (.ref p1) "set" [V.str "zz", V.ref p0] [] [.mk (.ref p0) "none" [] [] []] :: ts) = ps ++ zz :: Y := by
      have e1 : nameStep ps "set" [V.str "zz", V.ref p0] [] = ps ++ [zz] := by
        unfold nameStep
        rw [nameOf_set]
        show (if (!among zz ps && !hidden zz []) = true then ps ++ [zz] else ps) = _
        rw [among_not hzz]
        rfl
      have e2 : nameStep (ps ++ [zz]) "none" [] [] = ps ++ [zz] := by
        unfold nameStep
        rw [nameOf_not (by decide +kernel) (by decide +kernel)]
      simp only [nmL, nmT]
      rw [if_neg (by decide +kernel), e1, e2]
      exact eZ
    -- rest = [..]
    refine ⟨_, rfl, L, rfl, ⟨_, SqL.of f11⟩, fun C nC => ?_⟩
    refine lc_list (K := K) (a := L) (xs := (ps ++ Y).map V.str) (fun i H' => Same H11 H' ∧ H' C = some (.lst ((((ps ++ Y).take i).filter fun x => !among x ps).map V.str))) ⟨same_new nC _, upd_same⟩ ?_ ?_ ?_
    · rintro i H' _ ⟨s', _⟩
      exact SqL.of (s' _ _ f11)
    · rintro i y H12 hi ⟨s12, c12⟩
      obtain ⟨x, hxi, rfl⟩ : ∃ x, (ps ++ Y)[i]? = some x ∧ y = .str x := by
        rw [List.getElem?_map] at hi
        cases e : (ps ++ Y)[i]? with
        | none => rw [e] at hi; cases hi
        | some k => rw [e] at hi; exact ⟨k, rfl, (Option.some.inj hi).symm⟩
      have htk : (ps ++ Y).take (i + 1) = (ps ++ Y).take i ++ [x] := by rw [List.take_add_one, hxi]; rfl
      have M12 := M11.keep (Keep.same s12)
      refine ⟨rfl, _, rfl, _, rfl, ta, _, _, _, rfl, rfl, M12.tup, at2, pa, _, rfl, .inr M12.par, rfl, flat_strs ps, _, rfl, iteB (fun e => ?_) (fun e => ?_)⟩
      · have e' : (!among x ps) = true := e
        have hfl : (((ps ++ Y).take i).filter fun x => !among x ps).length ≤ 100 + 1000 := by
          have q1 := List.length_filter_le (fun x => !among x ps) ((ps ++ Y).take i)
          have q2 := nmL_len ts [] ps
          rw [eY] at q2
          have q3 : ((ps ++ Y).take i).length ≤ (ps ++ Y).length := by rw [List.length_take]; omega
          omega
        refine ⟨_, rfl, _, c12, szl (by rw [List.length_map]; omega), same_mut s12 nC, ?_⟩
        rw [upd_same, htk, List.filter_append, List.map_append]
        simp only [List.filter_cons, e', if_true, List.filter_nil]
        rfl
      · have e' : (!among x ps) = false := e
        refine ⟨s12, ?_⟩
        rw [htk, List.filter_append]
        simp only [List.filter_cons, e', List.filter_nil, Bool.false_eq_true, if_false, List.append_nil]
        exact c12
    rintro H12 ⟨s12, c12⟩
    have efil : ((ps ++ Y).filter fun x => !among x ps) = Y := by
      rw [List.filter_append]
      have z1 : ps.filter (fun x => !among x ps) = [] := by
        rw [List.filter_eq_nil_iff]
        intro x hx
        rw [among_mem hx]
        decide
      have z2 : Y.filter (fun x => !among x ps) = Y := by
        rw [List.filter_eq_self]
        intro x hx
        rw [among_not (hY x hx).1]
        rfl
      rw [z1, z2, List.nil_append]
    rw [List.length_map, List.take_length, efil] at c12
    have M12 := M11.keep (Keep.same s12)
    have Mp12 := Mp.keep (Keep.same s12)
    -- names_of(plain) == method[2] + ('zz',) + tuple(rest)
    refine ⟨_, rfl, pm, pa, bb, "m", ps, _, rfl, Mp12, fun r3 H13 s13 h13 => ?_⟩
    rw [enm] at h13
    have M13 := M12.keep (Keep.same s13)
    have hYl : Y.length ≤ 1000 := by
      have q2 := nmL_len ts [] ps
      rw [eY, List.length_append] at q2
      omega
    refine ⟨_, rfl, ta, _, _, _, rfl, rfl, M13.tup, at2, (by show 1 ≤ sizeLine; decide), fun pz nz => ?_⟩
    have s14 := same_new nz (HO.tup [V.str "zz"])
    refine catA (Keep.same s14 |>.sqt M13.par) (SqT.of upd_same) (by rw [List.length_map]; simp only [List.length_cons, List.length_nil]; omega) fun r4 H15 s15 h15 => ?_
    have s145 := s14.trans s15
    refine ⟨_, rfl, C, _, rfl, .inl ⟨SqL.of (s145 _ _ (s13 _ _ c12)), fun r5 nr5 => ?_⟩⟩
    have s16 := same_new nr5 (HO.tup (Y.map V.str))
    refine catA ((Keep.same s16).sqt h15) (SqT.of upd_same) (by rw [List.length_append, List.length_map, List.length_map]; simp only [List.length_cons, List.length_nil]; omega) fun r6 H17 s17 h17 => ?_
    have s1317 := (s145.trans s16).trans s17
    have elist : (ps.map V.str ++ [V.str "zz"]) ++ Y.map V.str = (ps ++ zz :: Y).map V.str := by
      rw [List.map_append, List.append_assoc]
      rfl
    rw [elist] at h17
    have hcan2 : ∀ x, x ∈ ps ++ zz :: Y → PySem.PyData.canLay0 (.str x) = true := fun x hx => by
      rcases List.mem_append.mp hx with e | e
      · exact (hps x e).1
      · rcases List.mem_cons.mp e with e | e
        · subst e; decide +kernel
        · exact (hY x e).2
    have dd1 : Dt K H17 1 (.ref r3) (.tuple ((ps ++ zz :: Y).map PyData.str)) := .inr ⟨r3, _, _, rfl, rfl, SqT.of (s1317 _ _ h13), strs_dt hcan2⟩
    have dd2 : Dt K H17 1 (.ref r6) (.tuple ((ps ++ zz :: Y).map PyData.str)) := .inr ⟨r6, _, _, rfl, rfl, h17, strs_dt hcan2⟩
    refine same_data dd1 dd2 (by decide) ⟨true, rfl, iteT ?_⟩
    -- names_of(('method', 'm', (), ())) == ()
    refine ⟨(by show 0 ≤ sizeLine; decide), fun e1 n1' => ⟨(by show 0 ≤ sizeLine; decide), fun e2 n2' => ⟨(by show 4 ≤ sizeLine; decide), fun e3 n3' => ?_⟩⟩⟩
    have a1 : SqT K (upd (upd (upd H17 e1 (.tup [])) e2 (.tup [])) e3 (.tup [V.str "method", V.str "m", V.ref e1, V.ref e2])) e1 [] := SqT.of (same_new n3' _ _ _ (same_new n2' _ _ _ upd_same))
    have a2 : SqT K (upd (upd (upd H17 e1 (.tup [])) e2 (.tup [])) e3 (.tup [V.str "method", V.str "m", V.ref e1, V.ref e2])) e2 [] := SqT.of (same_new n3' _ _ _ upd_same)
    refine ⟨e3, e1, e2, "m", [], [], rfl, ⟨SqT.of upd_same, a1, a2, fun t ht => by simp at ht, Dok.tup a1 fun x hx => by simp at hx, Dok.tup a2 fun x hx => by simp at hx, by simp only [sizeL]; omega, by simp⟩, fun r7 H18 s18 h18 => ?_⟩
    refine ⟨(by show 0 ≤ sizeLine; decide), fun e4 n4' => ?_⟩
    have g1 : Dt K (upd H18 e4 (.tup [])) 1 (.ref r7) (.tuple []) := .inr ⟨r7, [], [], rfl, rfl, SqT.of (same_new n4' _ _ _ h18), .nil⟩
    have g2 : Dt K (upd H18 e4 (.tup [])) 1 (.ref e4) (.tuple []) := .inr ⟨e4, [], [], rfl, rfl, SqT.of upd_same, .nil⟩
    exact same_data g1 g2 (by decide) (q _)
end
end My

set_option Elab.async false
set_option linter.all false
set_option maxRecDepth 100000
set_option maxHeartbeats 8000000
namespace My
open PySem L2
theorem all_mk {l : PySem.W.OpenLaw} {w : World} {K : PySem.W.Frag} {h : Heap} {mg : Str → Option Value} {fa : Addr} (X : K.In h) (G : h.Ns mainGlobals mg) (hfa : mg "law" = some (.ref fa))
    {t_P : Tok}
    {t_B : Tok}
    {C_Shape : Addr}
    {f1 : Addr} {od1 an1 : Option Addr} {sl1 : Array (Option Value)} {oc1 kV1 dc1 pm1 cd1 ct1 : Value}
    {f2 : Addr} {od2 an2 : Option Addr} {sl2 : Array (Option Value)} {oc2 kV2 dc2 pm2 cd2 ct2 : Value}
    {f3 : Addr} {od3 an3 : Option Addr} {sl3 : Array (Option Value)} {oc3 kV3 dc3 pm3 cd3 ct3 : Value}
    {f4 : Addr} {od4 an4 : Option Addr} {sl4 : Array (Option Value)} {oc4 kV4 dc4 pm4 cd4 ct4 : Value}
    {f5 : Addr} {od5 an5 : Option Addr} {sl5 : Array (Option Value)} {oc5 kV5 dc5 pm5 cd5 ct5 : Value}
    {f6 : Addr} {od6 an6 : Option Addr} {sl6 : Array (Option Value)} {oc6 kV6 dc6 pm6 cd6 ct6 : Value}
    {f7 : Addr} {od7 an7 : Option Addr} {sl7 : Array (Option Value)} {oc7 kV7 dc7 pm7 cd7 ct7 : Value}
    {f8 : Addr} {od8 an8 : Option Addr} {sl8 : Array (Option Value)} {oc8 kV8 dc8 pm8 cd8 ct8 : Value}
    {f9 : Addr} {od9 an9 : Option Addr} {sl9 : Array (Option Value)} {oc9 kV9 dc9 pm9 cd9 ct9 : Value}
    {f10 : Addr} {od10 an10 : Option Addr} {sl10 : Array (Option Value)} {oc10 kV10 dc10 pm10 cd10 ct10 : Value}
    {f11 : Addr} {od11 an11 : Option Addr} {sl11 : Array (Option Value)} {oc11 kV11 dc11 pm11 cd11 ct11 : Value}
    {f12 : Addr} {od12 an12 : Option Addr} {sl12 : Array (Option Value)} {oc12 kV12 dc12 pm12 cd12 ct12 : Value}
    {f13 : Addr} {od13 an13 : Option Addr} {sl13 : Array (Option Value)} {oc13 kV13 dc13 pm13 cd13 ct13 : Value}
    {f14 : Addr} {od14 an14 : Option Addr} {sl14 : Array (Option Value)} {oc14 kV14 dc14 pm14 cd14 ct14 : Value}
    {f15 : Addr} {od15 an15 : Option Addr} {sl15 : Array (Option Value)} {oc15 kV15 dc15 pm15 cd15 ct15 : Value}
    {f16 : Addr} {od16 an16 : Option Addr} {sl16 : Array (Option Value)} {oc16 kV16 dc16 pm16 cd16 ct16 : Value}
    {f17 : Addr} {od17 an17 : Option Addr} {sl17 : Array (Option Value)} {oc17 kV17 dc17 pm17 cd17 ct17 : Value}
    {f18 : Addr} {od18 an18 : Option Addr} {sl18 : Array (Option Value)} {oc18 kV18 dc18 pm18 cd18 ct18 : Value}
    (z_len : PySem.W.nsIn K mainGlobals "len" = some none)
    (z_range : PySem.W.nsIn K mainGlobals "range" = some none)
    (z_tuple : PySem.W.nsIn K mainGlobals "tuple" = some none)
    (z_list : PySem.W.nsIn K mainGlobals "list" = some none)
    (z_isinstance : PySem.W.nsIn K mainGlobals "isinstance" = some none)
    (z_min : PySem.W.nsIn K mainGlobals "min" = some none)
    (z_enumerate : PySem.W.nsIn K mainGlobals "enumerate" = some none)
    (c_PARAMETERS : PySem.W.nsIn K mainGlobals "PARAMETERS" = some (some (.int 2 t_P)))
    (c_BODY : PySem.W.nsIn K mainGlobals "BODY" = some (some (.int 3 t_B)))
    (a_Shape : PySem.W.nsIn K mainGlobals "Shape" = some (some (.ref C_Shape)))
    (pg_Shape : PySem.W.plainGet K C_Shape Str.empty = true)
    (hd_Shape : PySem.W.hasDictIn K C_Shape = true)
    (po_Shape : PySem.W.plainOver K C_Shape = true)
    (sa_Shape : PySem.W.findIn K (.ref C_Shape) "__setattr__" = some (some (.builtin "object.__setattr__")))
    (mk_Shape : PySem.W.makesIn K C_Shape = true)
    (kc_Shape : PySem.W.keepIn K (.ref C_Shape) = true)
    (n_Shape_tree : PySem.W.findIn K (.ref C_Shape) "tree" = some none)
    (n_Shape_nodes : PySem.W.findIn K (.ref C_Shape) "nodes" = some none)
    (n_Shape_above : PySem.W.findIn K (.ref C_Shape) "above" = some none)
    (n_Shape_children : PySem.W.findIn K (.ref C_Shape) "children" = some none)
    (n_Shape_code : PySem.W.findIn K (.ref C_Shape) "code" = some none)
    (n_Shape_codes : PySem.W.findIn K (.ref C_Shape) "codes" = some none)
    (n_Shape_names : PySem.W.findIn K (.ref C_Shape) "names" = some none)
    (a1 : PySem.W.nsIn K mainGlobals "parts_of" = some (some (.ref f1)))
    (l1 : K.lookup f1 = some ⟨oc1, od1, .func (PySem.W.fnOf "parts_of" "parts_of" (defArgs s_parts_of) (defBody s_parts_of) (defScope s_parts_of) .none kV1 dc1 pm1 an1 cd1 ct1), sl1⟩)
    (c1 : PySem.W.codeIn K cd1 "parts_of" = true)
    (k1 : PySem.W.keepIn K (.ref f1) = true)
    (a2 : PySem.W.findIn K (.ref C_Shape) "__init__" = some (some (.ref f2)))
    (i2 : PySem.W.isFn K (.ref f2) = true)
    (l2 : K.lookup f2 = some ⟨oc2, od2, .func (PySem.W.fnOf "__init__" "Shape.__init__" (defArgs s_Shape_init__) (defBody s_Shape_init__) (defScope s_Shape_init__) .none kV2 dc2 pm2 an2 cd2 ct2), sl2⟩)
    (c2 : PySem.W.codeIn K cd2 "Shape.__init__" = true)
    (k2 : PySem.W.keepIn K (.ref f2) = true)
    (a3 : PySem.W.findIn K (.ref C_Shape) "add" = some (some (.ref f3)))
    (i3 : PySem.W.isFn K (.ref f3) = true)
    (l3 : K.lookup f3 = some ⟨oc3, od3, .func (PySem.W.fnOf "add" "Shape.add" (defArgs s_Shape_add) (defBody s_Shape_add) (defScope s_Shape_add) .none kV3 dc3 pm3 an3 cd3 ct3), sl3⟩)
    (c3 : PySem.W.codeIn K cd3 "Shape.add" = true)
    (k3 : PySem.W.keepIn K (.ref f3) = true)
    (a4 : PySem.W.findIn K (.ref C_Shape) "is_parameter" = some (some (.ref f4)))
    (i4 : PySem.W.isFn K (.ref f4) = true)
    (l4 : K.lookup f4 = some ⟨oc4, od4, .func (PySem.W.fnOf "is_parameter" "Shape.is_parameter" (defArgs s_Shape_is_parameter) (defBody s_Shape_is_parameter) (defScope s_Shape_is_parameter) .none kV4 dc4 pm4 an4 cd4 ct4), sl4⟩)
    (c4 : PySem.W.codeIn K cd4 "Shape.is_parameter" = true)
    (k4 : PySem.W.keepIn K (.ref f4) = true)
    (a5 : PySem.W.findIn K (.ref C_Shape) "all_names" = some (some (.ref f5)))
    (i5 : PySem.W.isFn K (.ref f5) = true)
    (l5 : K.lookup f5 = some ⟨oc5, od5, .func (PySem.W.fnOf "all_names" "Shape.all_names" (defArgs s_Shape_all_names) (defBody s_Shape_all_names) (defScope s_Shape_all_names) .none kV5 dc5 pm5 an5 cd5 ct5), sl5⟩)
    (c5 : PySem.W.codeIn K cd5 "Shape.all_names" = true)
    (k5 : PySem.W.keepIn K (.ref f5) = true)
    (a6 : PySem.W.nsIn K mainGlobals "names_of" = some (some (.ref f6)))
    (l6 : K.lookup f6 = some ⟨oc6, od6, .func (PySem.W.fnOf "names_of" "names_of" (defArgs s_names_of) (defBody s_names_of) (defScope s_names_of) .none kV6 dc6 pm6 an6 cd6 ct6), sl6⟩)
    (c6 : PySem.W.codeIn K cd6 "names_of" = true)
    (k6 : PySem.W.keepIn K (.ref f6) = true)
    (a7 : PySem.W.nsIn K mainGlobals "_law_deck" = some (some (.ref f7)))
    (l7 : K.lookup f7 = some ⟨oc7, od7, .func (PySem.W.fnOf "_law_deck" "_law_deck" (defArgs s_law_deck) (defBody s_law_deck) (defScope s_law_deck) .none kV7 dc7 pm7 an7 cd7 ct7), sl7⟩)
    (c7 : PySem.W.codeIn K cd7 "_law_deck" = true)
    (k7 : PySem.W.keepIn K (.ref f7) = true)
    (a8 : PySem.W.nsIn K mainGlobals "_law_next" = some (some (.ref f8)))
    (l8 : K.lookup f8 = some ⟨oc8, od8, .func (PySem.W.fnOf "_law_next" "_law_next" (defArgs s_law_next) (defBody s_law_next) (defScope s_law_next) .none kV8 dc8 pm8 an8 cd8 ct8), sl8⟩)
    (c8 : PySem.W.codeIn K cd8 "_law_next" = true)
    (k8 : PySem.W.keepIn K (.ref f8) = true)
    (a9 : PySem.W.nsIn K mainGlobals "_law_word" = some (some (.ref f9)))
    (l9 : K.lookup f9 = some ⟨oc9, od9, .func (PySem.W.fnOf "_law_word" "_law_word" (defArgs s_law_word) (defBody s_law_word) (defScope s_law_word) .none kV9 dc9 pm9 an9 cd9 ct9), sl9⟩)
    (c9 : PySem.W.codeIn K cd9 "_law_word" = true)
    (k9 : PySem.W.keepIn K (.ref f9) = true)
    (a10 : PySem.W.nsIn K mainGlobals "_law_name" = some (some (.ref f10)))
    (l10 : K.lookup f10 = some ⟨oc10, od10, .func (PySem.W.fnOf "_law_name" "_law_name" (defArgs s_law_name) (defBody s_law_name) (defScope s_law_name) .none kV10 dc10 pm10 an10 cd10 ct10), sl10⟩)
    (c10 : PySem.W.codeIn K cd10 "_law_name" = true)
    (k10 : PySem.W.keepIn K (.ref f10) = true)
    (a11 : PySem.W.nsIn K mainGlobals "_law_leaf" = some (some (.ref f11)))
    (l11 : K.lookup f11 = some ⟨oc11, od11, .func (PySem.W.fnOf "_law_leaf" "_law_leaf" (defArgs s_law_leaf) (defBody s_law_leaf) (defScope s_law_leaf) .none kV11 dc11 pm11 an11 cd11 ct11), sl11⟩)
    (c11 : PySem.W.codeIn K cd11 "_law_leaf" = true)
    (k11 : PySem.W.keepIn K (.ref f11) = true)
    (a12 : PySem.W.nsIn K mainGlobals "_law_es" = some (some (.ref f12)))
    (l12 : K.lookup f12 = some ⟨oc12, od12, .func (PySem.W.fnOf "_law_es" "_law_es" (defArgs s_law_es) (defBody s_law_es) (defScope s_law_es) .none kV12 dc12 pm12 an12 cd12 ct12), sl12⟩)
    (c12 : PySem.W.codeIn K cd12 "_law_es" = true)
    (k12 : PySem.W.keepIn K (.ref f12) = true)
    (a13 : PySem.W.nsIn K mainGlobals "_law_e" = some (some (.ref f13)))
    (l13 : K.lookup f13 = some ⟨oc13, od13, .func (PySem.W.fnOf "_law_e" "_law_e" (defArgs s_law_e) (defBody s_law_e) (defScope s_law_e) .none kV13 dc13 pm13 an13 cd13 ct13), sl13⟩)
    (c13 : PySem.W.codeIn K cd13 "_law_e" = true)
    (k13 : PySem.W.keepIn K (.ref f13) = true)
    (a14 : PySem.W.nsIn K mainGlobals "_law_body" = some (some (.ref f14)))
    (l14 : K.lookup f14 = some ⟨oc14, od14, .func (PySem.W.fnOf "_law_body" "_law_body" (defArgs s_law_body) (defBody s_law_body) (defScope s_law_body) .none kV14 dc14 pm14 an14 cd14 ct14), sl14⟩)
    (c14 : PySem.W.codeIn K cd14 "_law_body" = true)
    (k14 : PySem.W.keepIn K (.ref f14) = true)
    (a15 : PySem.W.nsIn K mainGlobals "_law_statement" = some (some (.ref f15)))
    (l15 : K.lookup f15 = some ⟨oc15, od15, .func (PySem.W.fnOf "_law_statement" "_law_statement" (defArgs s_law_statement) (defBody s_law_statement) (defScope s_law_statement) .none kV15 dc15 pm15 an15 cd15 ct15), sl15⟩)
    (c15 : PySem.W.codeIn K cd15 "_law_statement" = true)
    (k15 : PySem.W.keepIn K (.ref f15) = true)
    (a16 : PySem.W.nsIn K mainGlobals "_law_method" = some (some (.ref f16)))
    (l16 : K.lookup f16 = some ⟨oc16, od16, .func (PySem.W.fnOf "_law_method" "_law_method" (defArgs s_law_method) (defBody s_law_method) (defScope s_law_method) .none kV16 dc16 pm16 an16 cd16 ct16), sl16⟩)
    (c16 : PySem.W.codeIn K cd16 "_law_method" = true)
    (k16 : PySem.W.keepIn K (.ref f16) = true)
    (a17 : PySem.W.nsIn K mainGlobals "_law_within" = some (some (.ref f17)))
    (l17 : K.lookup f17 = some ⟨oc17, od17, .func (PySem.W.fnOf "_law_within" "_law_within" (defArgs s_law_within) (defBody s_law_within) (defScope s_law_within) .none kV17 dc17 pm17 an17 cd17 ct17), sl17⟩)
    (c17 : PySem.W.codeIn K cd17 "_law_within" = true)
    (k17 : PySem.W.keepIn K (.ref f17) = true)
    (a18 : PySem.W.nsIn K mainGlobals "law" = some (some (.ref f18)))
    (l18 : K.lookup f18 = some ⟨oc18, od18, .func (PySem.W.fnOf "law" "law" (defArgs s_law) (defBody s_law) (defScope s_law) .none kV18 dc18 pm18 an18 cd18 ct18), sl18⟩)
    (c18 : PySem.W.codeIn K cd18 "law" = true)
    (k18 : PySem.W.keepIn K (.ref f18) = true) :
    ∃ fd : FuncData, (∀ (s : Shared) (v : Value), BindsTo s fd ⟨[v], []⟩ [("_law_script", v)]) ∧ ∀ base : Heap, K.In base → base.Ns mainGlobals mg → FnOk l.prog w K mg base CX0 206 fa fd ["_law_script"] (spLaw K) := by
  have e := hfa.symm.trans (PySem.W.mg_of X G a18)
  cases e
  have T : ∃ T : Tx K mg, T.d_law.f = fa ∧ T.d_law.fd = PySem.W.fnOf "law" "law" (defArgs s_law) (defBody s_law) (defScope s_law) .none kV18 dc18 pm18 an18 cd18 ct18 := ⟨{
      z_len := PySem.W.mg_none_of X G z_len,
      z_range := PySem.W.mg_none_of X G z_range,
      z_tuple := PySem.W.mg_none_of X G z_tuple,
      z_list := PySem.W.mg_none_of X G z_list,
      z_isinstance := PySem.W.mg_none_of X G z_isinstance,
      z_min := PySem.W.mg_none_of X G z_min,
      z_enumerate := PySem.W.mg_none_of X G z_enumerate,
      t_P := t_P,
      c_PARAMETERS := PySem.W.mg_of X G c_PARAMETERS,
      t_B := t_B,
      c_BODY := PySem.W.mg_of X G c_BODY,
      Shape := ⟨C_Shape, ⟨pg_Shape, hd_Shape, po_Shape, sa_Shape⟩, PySem.W.mg_of X G a_Shape, n_Shape_tree, n_Shape_nodes, n_Shape_above, n_Shape_children, n_Shape_code, n_Shape_codes, n_Shape_names⟩,
      d_parts_of := ⟨f1, _, fun_mk (st := s_parts_of) l1 c1 k1, PySem.W.mg_of X G a1, (fun_mk (st := s_parts_of) l1 c1 k1).binds (ps := ["node"]) fun _ _ _ _ _ _ us hl => match us, hl with | [_], _ => rfl⟩,
      d_Shape_init__ := ⟨f2, _, fun_mk (st := s_Shape_init__) l2 c2 k2, ⟨mk_Shape, a2, i2, kc_Shape⟩, (fun_mk (st := s_Shape_init__) l2 c2 k2).binds (ps := ["self", "method"]) fun _ _ _ _ _ _ us hl => match us, hl with | [_, _], _ => rfl⟩,
      d_Shape_add := ⟨f3, _, fun_mk (st := s_Shape_add) l3 c3 k3, ⟨a3, i3, k3⟩, (fun_mk (st := s_Shape_add) l3 c3 k3).binds (ps := ["self", "node", "above", "code"]) fun _ _ _ _ _ _ us hl => match us, hl with | [_, _, _, _], _ => rfl⟩,
      d_Shape_is_parameter := ⟨f4, _, fun_mk (st := s_Shape_is_parameter) l4 c4 k4, ⟨a4, i4, k4⟩, (fun_mk (st := s_Shape_is_parameter) l4 c4 k4).binds (ps := ["self", "word", "code"]) fun _ _ _ _ _ _ us hl => match us, hl with | [_, _, _], _ => rfl⟩,
      d_Shape_all_names := ⟨f5, _, fun_mk (st := s_Shape_all_names) l5 c5 k5, ⟨a5, i5, k5⟩, (fun_mk (st := s_Shape_all_names) l5 c5 k5).binds (ps := ["self"]) fun _ _ _ _ _ _ us hl => match us, hl with | [_], _ => rfl⟩,
      d_names_of := ⟨f6, _, fun_mk (st := s_names_of) l6 c6 k6, PySem.W.mg_of X G a6, (fun_mk (st := s_names_of) l6 c6 k6).binds (ps := ["method"]) fun _ _ _ _ _ _ us hl => match us, hl with | [_], _ => rfl⟩,
      d_law_deck := ⟨f7, _, fun_mk (st := s_law_deck) l7 c7 k7, PySem.W.mg_of X G a7, (fun_mk (st := s_law_deck) l7 c7 k7).binds (ps := ["_law_script"]) fun _ _ _ _ _ _ us hl => match us, hl with | [_], _ => rfl⟩,
      d_law_next := ⟨f8, _, fun_mk (st := s_law_next) l8 c8 k8, PySem.W.mg_of X G a8, (fun_mk (st := s_law_next) l8 c8 k8).binds (ps := ["_law_deck_here"]) fun _ _ _ _ _ _ us hl => match us, hl with | [_], _ => rfl⟩,
      d_law_word := ⟨f9, _, fun_mk (st := s_law_word) l9 c9 k9, PySem.W.mg_of X G a9, (fun_mk (st := s_law_word) l9 c9 k9).binds (ps := ["_law_draw"]) fun _ _ _ _ _ _ us hl => match us, hl with | [_], _ => rfl⟩,
      d_law_name := ⟨f10, _, fun_mk (st := s_law_name) l10 c10 k10, PySem.W.mg_of X G a10, (fun_mk (st := s_law_name) l10 c10 k10).binds (ps := ["_law_draw"]) fun _ _ _ _ _ _ us hl => match us, hl with | [_], _ => rfl⟩,
      d_law_leaf := ⟨f11, _, fun_mk (st := s_law_leaf) l11 c11 k11, PySem.W.mg_of X G a11, (fun_mk (st := s_law_leaf) l11 c11 k11).binds (ps := ["_law_draw"]) fun _ _ _ _ _ _ us hl => match us, hl with | [_], _ => rfl⟩,
      d_law_es := ⟨f12, _, fun_mk (st := s_law_es) l12 c12 k12, PySem.W.mg_of X G a12, (fun_mk (st := s_law_es) l12 c12 k12).binds (ps := ["_law_deck_here", "_law_many", "_law_depth"]) fun _ _ _ _ _ _ us hl => match us, hl with | [_, _, _], _ => rfl⟩,
      d_law_e := ⟨f13, _, fun_mk (st := s_law_e) l13 c13 k13, PySem.W.mg_of X G a13, (fun_mk (st := s_law_e) l13 c13 k13).binds (ps := ["_law_deck_here", "_law_depth"]) fun _ _ _ _ _ _ us hl => match us, hl with | [_, _], _ => rfl⟩,
      d_law_body := ⟨f14, _, fun_mk (st := s_law_body) l14 c14 k14, PySem.W.mg_of X G a14, (fun_mk (st := s_law_body) l14 c14 k14).binds (ps := ["_law_deck_here", "_law_many", "_law_depth"]) fun _ _ _ _ _ _ us hl => match us, hl with | [_, _, _], _ => rfl⟩,
      d_law_statement := ⟨f15, _, fun_mk (st := s_law_statement) l15 c15 k15, PySem.W.mg_of X G a15, (fun_mk (st := s_law_statement) l15 c15 k15).binds (ps := ["_law_deck_here", "_law_depth"]) fun _ _ _ _ _ _ us hl => match us, hl with | [_, _], _ => rfl⟩,
      d_law_method := ⟨f16, _, fun_mk (st := s_law_method) l16 c16 k16, PySem.W.mg_of X G a16, (fun_mk (st := s_law_method) l16 c16 k16).binds (ps := ["_law_deck_here", "_law_depth"]) fun _ _ _ _ _ _ us hl => match us, hl with | [_, _], _ => rfl⟩,
      d_law_within := ⟨f17, _, fun_mk (st := s_law_within) l17 c17 k17, PySem.W.mg_of X G a17, (fun_mk (st := s_law_within) l17 c17 k17).binds (ps := ["_law_nodes", "_law_hidden", "_law_found"]) fun _ _ _ _ _ _ us hl => match us, hl with | [_, _, _], _ => rfl⟩,
      d_law := ⟨fa, _, fun_mk (st := s_law) l18 c18 k18, PySem.W.mg_of X G a18, (fun_mk (st := s_law) l18 c18 k18).binds (ps := ["_law_script"]) fun _ _ _ _ _ _ us hl => match us, hl with | [_], _ => rfl⟩
    }, rfl, rfl⟩
  obtain ⟨T, e1, e2⟩ := T
  refine ⟨PySem.W.fnOf "law" "law" (defArgs s_law) (defBody s_law) (defScope s_law) .none kV18 dc18 pm18 an18 cd18 ct18, fun s v => .of_eq rfl, fun base _ _ => ?_⟩
  have z := ok_law (P := l.prog) (w := w) (base := base) T
  rw [e1, e2] at z
  exact z
theorem walk {l : PySem.W.OpenLaw} {q : Program} {loose : List Str} {XP : (Str → Option Value) → Heap → Prop} {YP : World → Heap → Prop} {d : DefRec} {K : Params → PySem.W.Frag} (hn : l.most = some 63) (hdf : d.params.defaults = [])
    (hY : ∀ (w : World) (h : Heap), YP w h → (K w.params).In h)
    (F : ∀ (w : World) (mg : Str → Option Value) (fa : Addr) (h : Heap), (K w.params).In h → h.Ns mainGlobals mg → mg d.name = some (.ref fa) →
      ∃ fd : FuncData, (∀ (s : Shared) (u : Value), BindsTo s fd ⟨[u], []⟩ [("_law_script", u)]) ∧ ∀ base : Heap, (K w.params).In base → base.Ns mainGlobals mg → FnOk l.prog w (K w.params) mg base CX0 206 fa fd ["_law_script"] (spLaw (K w.params))) :
    PySem.W.WalkO q loose XP YP l.row.toRowW d [] (fun f vs => PySem.call f vs) :=
  L2.walk_of (n := 63) (k := 206) (x := "_law_script") (CX := fun _ => CX0) (sp := fun w => spLaw (K w.params)) hn (by decide) hdf ⟨rfl, by decide, by decide⟩ hY F (fun _ _ a ns hl _ hS => ⟨a, ns, rfl, hS, hl, fun _ => rfl⟩) fun _ _ _ _ _ z => z
end My
open PySem PySem.W PyProof.Rows
set_option maxRecDepth 100000 in
set_option maxHeartbeats 0 in
theorem PySem.Challenge.cw_sendstead_k07_names_holds : PySem.Challenge.rw_sendstead_k07_names.Holds := by
  w_on; o_law; k_head; (case hw => w_witness2)
  k_fill
  refine My.walk (l := PySem.Challenge.rw_sendstead_k07_names) rfl rfl (fun w h Y => PySem.W.kIn_of Y) ?F
  case F =>
    intro w mg fa h KX G hmg
    refine' My.all_mk KX G hmg ?z_len ?z_range ?z_tuple ?z_list ?z_isinstance ?z_min ?z_enumerate ?c_PARAMETERS ?c_BODY ?a_Shape ?pg_Shape ?hd_Shape ?po_Shape ?sa_Shape ?mk_Shape ?kc_Shape ?n_Shape_tree ?n_Shape_nodes ?n_Shape_above ?n_Shape_children ?n_Shape_code ?n_Shape_codes ?n_Shape_names ?a1 ?l1 ?c1 ?k1 ?a2 ?i2 ?l2 ?c2 ?k2 ?a3 ?i3 ?l3 ?c3 ?k3 ?a4 ?i4 ?l4 ?c4 ?k4 ?a5 ?i5 ?l5 ?c5 ?k5 ?a6 ?l6 ?c6 ?k6 ?a7 ?l7 ?c7 ?k7 ?a8 ?l8 ?c8 ?k8 ?a9 ?l9 ?c9 ?k9 ?a10 ?l10 ?c10 ?k10 ?a11 ?l11 ?c11 ?k11 ?a12 ?l12 ?c12 ?k12 ?a13 ?l13 ?c13 ?k13 ?a14 ?l14 ?c14 ?k14 ?a15 ?l15 ?c15 ?k15 ?a16 ?l16 ?c16 ?k16 ?a17 ?l17 ?c17 ?k17 ?a18 ?l18 ?c18 ?k18
    (case z_len => k_is)
    (case z_range => k_is)
    (case z_tuple => k_is)
    (case z_list => k_is)
    (case z_isinstance => k_is)
    (case z_min => k_is)
    (case z_enumerate => k_is)
    (case c_PARAMETERS => k_is)
    (case c_BODY => k_is)
    (case a_Shape => k_is)
    (case pg_Shape => k_is)
    (case hd_Shape => k_is)
    (case po_Shape => k_is)
    (case sa_Shape => k_is)
    (case mk_Shape => k_is)
    (case kc_Shape => k_is)
    (case n_Shape_tree => k_is)
    (case n_Shape_nodes => k_is)
    (case n_Shape_above => k_is)
    (case n_Shape_children => k_is)
    (case n_Shape_code => k_is)
    (case n_Shape_codes => k_is)
    (case n_Shape_names => k_is)
    (case a1 => k_is)
    (case l1 => k_is)
    (case c1 => k_is)
    (case k1 => k_is)
    (case a2 => k_is)
    (case i2 => k_is)
    (case l2 => k_is)
    (case c2 => k_is)
    (case k2 => k_is)
    (case a3 => k_is)
    (case i3 => k_is)
    (case l3 => k_is)
    (case c3 => k_is)
    (case k3 => k_is)
    (case a4 => k_is)
    (case i4 => k_is)
    (case l4 => k_is)
    (case c4 => k_is)
    (case k4 => k_is)
    (case a5 => k_is)
    (case i5 => k_is)
    (case l5 => k_is)
    (case c5 => k_is)
    (case k5 => k_is)
    (case a6 => k_is)
    (case l6 => k_is)
    (case c6 => k_is)
    (case k6 => k_is)
    (case a7 => k_is)
    (case l7 => k_is)
    (case c7 => k_is)
    (case k7 => k_is)
    (case a8 => k_is)
    (case l8 => k_is)
    (case c8 => k_is)
    (case k8 => k_is)
    (case a9 => k_is)
    (case l9 => k_is)
    (case c9 => k_is)
    (case k9 => k_is)
    (case a10 => k_is)
    (case l10 => k_is)
    (case c10 => k_is)
    (case k10 => k_is)
    (case a11 => k_is)
    (case l11 => k_is)
    (case c11 => k_is)
    (case k11 => k_is)
    (case a12 => k_is)
    (case l12 => k_is)
    (case c12 => k_is)
    (case k12 => k_is)
    (case a13 => k_is)
    (case l13 => k_is)
    (case c13 => k_is)
    (case k13 => k_is)
    (case a14 => k_is)
    (case l14 => k_is)
    (case c14 => k_is)
    (case k14 => k_is)
    (case a15 => k_is)
    (case l15 => k_is)
    (case c15 => k_is)
    (case k15 => k_is)
    (case a16 => k_is)
    (case l16 => k_is)
    (case c16 => k_is)
    (case k16 => k_is)
    (case a17 => k_is)
    (case l17 => k_is)
    (case c17 => k_is)
    (case k17 => k_is)
    (case a18 => k_is)
    (case l18 => k_is)
    (case c18 => k_is)
    (case k18 => k_is)

