import PyProof.Rows.All
import Wide.All
import OpenK.AllK
import Wide.FinOn
import HandS.ForMost
import HandS.TupAny
import HandS.IsInst
import HandS.Walk
import HandS.Codes
import HandS.Strs
import HandS.Defaults
import HandS.More
import HandS.Zip
import HandS.ForExc
import HandS.WordsExc
import HandS.Lambda
import HandS.Steps
import KE.GoesMore
import HandS.Text
import HandS.MapJoin
import HandS.Small
import PyProof.SeqIndex
import KE.SortKeyHeap
import HandS.SortKw
import KE.KSortKey
import PyProof.Rows.ReprR
import PyProof.CallFns
import HandS.EndTab
import HandS.SetFor
import PyProof.Rows.SetFrom
import KE.KDictPairs
import HandS.SlotsOwn
import HandS.ExcInit
import HandS.ExcField
import HandS.ExcOwn
import HandS.ExcIs
import HandS.CallSlots
import KE.DataMinMax
import HandS.Style
import KE.SortData
import HandS.SetBool
import PySem.Challenge.RW_sendstead_k29_sweep_papers
set_option Elab.async false
set_option linter.all false
set_option maxRecDepth 100000
set_option maxHeartbeats 4000000
/-! a small machine: values with tuples as values, a heap of numbered cells; and how the hand layer's values and heap stand for it -/
namespace Sm
open PySem L2
inductive MV where
  | non | bl (b : Bool) | int (i : Int) | str (x : Str) | tup (xs : List MV) | scr (xs : List MV) | tux (xs : List MV) | ref (n : Nat) | exn (c : Str) (ns : List Str) (vs : List MV) | fdc (ks : List Key) (xs : List MV)
inductive MO where
  | lst (xs : List MV) | ins (c : Str) (fs : List (Str × MV)) | dct (kvs : List (Key × MV)) | tab (q : Str)
abbrev MH := List MO
abbrev MS := List (Option MV)
inductive Res (α : Type) where
  | ok (a : α) (h : MH) | ex (e : MV) (h : MH) | bad
namespace Res
def bind {α β : Type} (r : Res α) (f : α → MH → Res β) : Res β := match r with | .ok a h => f a h | .ex e h => .ex e h | .bad => .bad
@[simp] theorem bind_ok {α β : Type} (a : α) (h : MH) (f : α → MH → Res β) : (Res.ok a h).bind f = f a h := rfl
@[simp] theorem bind_ex {α β : Type} (e : MV) (h : MH) (f : α → MH → Res β) : (Res.ex e h).bind f = Res.ex e h := rfl
@[simp] theorem bind_bad {α β : Type} (f : α → MH → Res β) : (Res.bad : Res α).bind f = Res.bad := rfl
end Res
def Good {α : Type} (r : Res α) (Q : α → MH → Prop) (E : MV → MH → Prop) : Prop := match r with | .ok a h => Q a h | .ex e h => E e h | .bad => False
theorem Good.bind {α β : Type} {r : Res α} {f : α → MH → Res β} {Q : β → MH → Prop} {E : MV → MH → Prop} : Good (r.bind f) Q E ↔ Good r (fun a h => Good (f a h) Q E) E := by
  cases r <;> exact Iff.rfl
theorem Good.mono {α : Type} {r : Res α} {Q Q' : α → MH → Prop} {E E' : MV → MH → Prop} (g : Good r Q E) (hq : ∀ a h, Q a h → Q' a h) (he : ∀ e h, E e h → E' e h) : Good r Q' E' := by
  cases r with
  | ok a h => exact hq a h g
  | ex e h => exact he e h g
  | bad => exact g
abbrev ME := MS → MH → Res MV
abbrev MA := MS → MH → Res (List MV)
/-! ### values -/
abbrev Mp := Nat → Option Addr
/-- a tuple that stands -/
def TpA (K : PySem.W.Frag) (H : Hp) (a : Addr) (xs : List V) : Prop := SqT K H a xs
/-- the script: a list that is never written -/
def SqF (K : PySem.W.Frag) (H : Hp) (a : Addr) (xs : List V) : Prop := (∃ o, H a = some (.frz o (.lst xs))) ∨
  ∃ (o : Obj) (its : Array Value) (n : Nat), K.lookup a = some o ∧ o.cls = .type "list" ∧ o.dict = none ∧ o.data = .seq its n ∧ its.size ≤ sizeLine ∧ Vals xs its.toList
/-- a tuple whose object is known: it has no dict -/
def FzA (H : Hp) (a : Addr) (z : HO × (Obj → Prop)) : Prop := ∃ o : Obj, H a = some (.frz o z.1) ∧ z.2 o
abbrev TxA (H : Hp) (a : Addr) (xs : List V) : Prop := FzA H a (.tup xs, fun o => o.cls = .type "tuple" ∧ o.dict = none)
/-- a dict that is never written -/
abbrev DcF (H : Hp) (a : Addr) (kvs : List (Key × V)) : Prop := FzA H a (.dK kvs, fun _ => True)
theorem TxA.tp {K : PySem.W.Frag} {H : Hp} {a : Addr} {xs : List V} (h : TxA H a xs) : TpA K H a xs := by
  obtain ⟨o, e, _⟩ := h
  exact .inl (.inr ⟨o, e⟩)
theorem SqF.sql {K : PySem.W.Frag} {H : Hp} {a : Addr} {xs : List V} (h : SqF K H a xs) : SqL K H a xs := h.elim (fun z => .inl (.inr z)) .inr
mutual
inductive RV (K : PySem.W.Frag) (mp : Mp) (H : Hp) : MV → V → Prop
  | non : RV K mp H .non .non
  | bl (b : Bool) : RV K mp H (.bl b) (.bl b)
  | int (i : Int) : RV K mp H (.int i) (.int i)
  | str (x : Str) : RV K mp H (.str x) (.str x)
  | ref {n : Nat} {a : Addr} (h : mp n = some a) : RV K mp H (.ref n) (.ref a)
  | tup {xs : List MV} {vs : List V} {a : Addr} (h : TpA K H a vs) (r : RVs K mp H xs vs) : RV K mp H (.tup xs) (.ref a)
  | scr {xs : List MV} {vs : List V} {a : Addr} (h : SqF K H a vs) (r : RVs K mp H xs vs) : RV K mp H (.scr xs) (.ref a)
  | tux {xs : List MV} {vs : List V} {a : Addr} (h : TxA H a vs) (r : RVs K mp H xs vs) : RV K mp H (.tux xs) (.ref a)
  | fdc {ks : List Key} {xs : List MV} {vs : List V} {a : Addr} (h : DcF H a (ks.zip vs)) (l : ks.length = vs.length) (r : RVs K mp H xs vs) : RV K mp H (.fdc ks xs) (.ref a)
inductive RVs (K : PySem.W.Frag) (mp : Mp) (H : Hp) : List MV → List V → Prop
  | nil : RVs K mp H [] []
  | cons {x : MV} {v : V} {xs : List MV} {vs : List V} (r : RV K mp H x v) (t : RVs K mp H xs vs) : RVs K mp H (x :: xs) (v :: vs)
end
/-- what may come: cells stay, tuples stay, what is no cell stays -/
structure Fut (K : PySem.W.Frag) (mp mp' : Mp) (H H' : Hp) : Prop where
  le : ∀ n a, mp n = some a → mp' n = some a
  tt : ∀ a xs, TpA K H a xs → TpA K H' a xs
  sf : ∀ a xs, SqF K H a xs → SqF K H' a xs
  fr : ∀ a o, H a = some o → (∀ n, mp n ≠ some a) → H' a = some o ∧ ∀ n, mp' n ≠ some a
  tx : ∀ a z, FzA H a z → FzA H' a z
section
variable {K : PySem.W.Frag} {mp mp' mp1 mp2 : Mp} {H H' H1 H2 : Hp}
theorem Fut.refl : Fut K mp mp H H := ⟨fun _ _ h => h, fun _ _ h => h, fun _ _ h => h, fun _ _ h n => ⟨h, n⟩, fun _ _ h => h⟩
theorem Fut.trans (a : Fut K mp mp1 H H1) (b : Fut K mp1 mp2 H1 H2) : Fut K mp mp2 H H2 :=
  ⟨fun n c h => b.le n c (a.le n c h), fun c xs h => b.tt c xs (a.tt c xs h), fun c xs h => b.sf c xs (a.sf c xs h), fun c o h n => by
    obtain ⟨h1, n1⟩ := a.fr c o h n
    exact b.fr c o h1 n1, fun c xs h => b.tx c xs (a.tx c xs h)⟩
mutual
theorem RV.fut (f : Fut K mp mp' H H') : ∀ {x : MV} {v : V}, RV K mp H x v → RV K mp' H' x v
  | _, _, .non => .non
  | _, _, .bl b => .bl b
  | _, _, .int i => .int i
  | _, _, .str x => .str x
  | _, _, .ref h => .ref (f.le _ _ h)
  | _, _, .tup h r => .tup (f.tt _ _ h) (RVs.fut f r)
  | _, _, .scr h r => .scr (f.sf _ _ h) (RVs.fut f r)
  | _, _, .tux h r => .tux (f.tx _ _ h) (RVs.fut f r)
  | _, _, .fdc h l r => .fdc (f.tx _ _ h) l (RVs.fut f r)
theorem RVs.fut (f : Fut K mp mp' H H') : ∀ {xs : List MV} {vs : List V}, RVs K mp H xs vs → RVs K mp' H' xs vs
  | _, _, .nil => .nil
  | _, _, .cons r t => .cons (RV.fut f r) (RVs.fut f t)
end
theorem RVs.length : ∀ {xs : List MV} {vs : List V}, RVs K mp H xs vs → xs.length = vs.length
  | _, _, .nil => rfl
  | _, _, .cons _ t => by simp [RVs.length t]
theorem RVs.get : ∀ {xs : List MV} {vs : List V} {i : Nat} {x : MV}, RVs K mp H xs vs → xs[i]? = some x → ∃ v, vs[i]? = some v ∧ RV K mp H x v
  | _, _, _, _, .nil, e => by simp at e
  | _, _, 0, _, .cons r _, e => by simp at e; subst e; exact ⟨_, rfl, r⟩
  | _, _, i + 1, x, .cons _ t, e => by
    obtain ⟨u, h1, h2⟩ := RVs.get (i := i) (x := x) t (by simpa using e)
    exact ⟨u, by simpa using h1, h2⟩
theorem RVs.getV : ∀ {xs : List MV} {vs : List V} {i : Nat} {v : V}, RVs K mp H xs vs → vs[i]? = some v → ∃ x, xs[i]? = some x ∧ RV K mp H x v
  | _, _, _, _, .nil, e => by simp at e
  | _, _, 0, _, .cons r _, e => by simp at e; subst e; exact ⟨_, rfl, r⟩
  | _, _, i + 1, x, .cons _ t, e => by
    obtain ⟨u, h1, h2⟩ := RVs.getV (i := i) (v := x) t (by simpa using e)
    exact ⟨u, by simpa using h1, h2⟩
theorem RVs.append : ∀ {xs ys : List MV} {vs ws : List V}, RVs K mp H xs vs → RVs K mp H ys ws → RVs K mp H (xs ++ ys) (vs ++ ws)
  | _, _, _, _, .nil, s => s
  | _, _, _, _, .cons r t, s => .cons r (RVs.append t s)
theorem RVs.take : ∀ {xs : List MV} {vs : List V} (n : Nat), RVs K mp H xs vs → RVs K mp H (xs.take n) (vs.take n)
  | _, _, 0, _ => by simp; exact .nil
  | _, _, _ + 1, .nil => .nil
  | _, _, n + 1, .cons r t => .cons r (RVs.take n t)
theorem RVs.drop : ∀ {xs : List MV} {vs : List V} (n : Nat), RVs K mp H xs vs → RVs K mp H (xs.drop n) (vs.drop n)
  | _, _, 0, r => by simpa using r
  | _, _, _ + 1, .nil => .nil
  | _, _, n + 1, .cons _ t => RVs.drop n t
theorem RVs.set {x : MV} {v : V} (r : RV K mp H x v) : ∀ {xs : List MV} {vs : List V} (i : Nat), RVs K mp H xs vs → RVs K mp H (xs.set i x) (vs.set i v)
  | _, _, _, .nil => .nil
  | _, _, 0, .cons _ t => .cons r t
  | _, _, i + 1, .cons q t => .cons q (RVs.set r i t)
theorem RVs.eraseIdx : ∀ {xs : List MV} {vs : List V} (i : Nat), RVs K mp H xs vs → RVs K mp H (xs.eraseIdx i) (vs.eraseIdx i)
  | _, _, _, .nil => .nil
  | _, _, 0, .cons _ t => t
  | _, _, i + 1, .cons q t => .cons q (RVs.eraseIdx i t)
theorem RVs.reverse {xs : List MV} {vs : List V} (r : RVs K mp H xs vs) : RVs K mp H xs.reverse vs.reverse := by
  induction xs generalizing vs with
  | nil => cases r; exact .nil
  | cons x xs ih => cases r with | cons r t => simp only [List.reverse_cons]; exact (ih t).append (.cons r .nil)
end
/-! ### cells -/
def RFs (K : PySem.W.Frag) (mp : Mp) (H : Hp) {κ : Type} (fs : List (κ × MV)) (vs : List (κ × V)) : Prop := fs.map (·.1) = vs.map (·.1) ∧ RVs K mp H (fs.map (·.2)) (vs.map (·.2))
/-- the table of code objects at a; all it tells is tracked and no cell -/
def TabM (mp : Mp) (H : Hp) (a : Addr) (q : Str) : Prop := ∃ ps : Array Value, H a = some (.tbl ps) ∧ TriplesOk ps.toList ∧ ∀ (pos : Pos) (cv : Value), codeAmong pos ps.toList = some cv → ∃ c, cv = .ref c ∧ H c = some (LamX.CodeO c q) ∧ ∀ n, mp n ≠ some c
theorem TabM.go {mp mp' : Mp} {H H' : Hp} {a : Addr} {q : Str} (t : TabM mp H a q) (e : H' a = H a) (f : ∀ c, H c = some (LamX.CodeO c q) → (∀ n, mp n ≠ some c) → H' c = some (LamX.CodeO c q) ∧ ∀ n, mp' n ≠ some c) : TabM mp' H' a q := by
  obtain ⟨ps, h1, h2, h3⟩ := t
  refine ⟨ps, e.trans h1, h2, fun pos cv z => ?_⟩
  obtain ⟨c, e1, e2, e3⟩ := h3 pos cv z
  obtain ⟨f1, f2⟩ := f c e2 e3
  exact ⟨c, e1, f1, f2⟩
def RO (K : PySem.W.Frag) (cl : Str → Option Addr) (mp : Mp) (H : Hp) : MO → Addr → Prop
  | .lst xs, a => ∃ vs, H a = some (.lst vs) ∧ RVs K mp H xs vs
  | .ins c fs, a => ∃ C dx vs, cl c = some C ∧ H a = some (.ins C dx vs) ∧ RFs K mp H fs vs
  | .dct kvs, a => ∃ vs, H a = some (.dK vs) ∧ RFs K mp H kvs vs
  | .tab q, a => cl q = some a ∧ TabM mp H a q
structure Rl (K : PySem.W.Frag) (cl : Str → Option Addr) (mp : Mp) (h : MH) (H : Hp) : Prop where
  dom : ∀ n a, mp n = some a → n < h.length
  has : ∀ n, n < h.length → ∃ a, mp n = some a
  inj : ∀ n k a, mp n = some a → mp k = some a → n = k
  obj : ∀ n o a, h[n]? = some o → mp n = some a → RO K cl mp H o a
section
variable {K : PySem.W.Frag} {cl : Str → Option Addr} {mp mp' : Mp} {h : MH} {H H' : Hp}
theorem RFs.fut {κ : Type} {fs : List (κ × MV)} {vs : List (κ × V)} (f : Fut K mp mp' H H') (r : RFs K mp H fs vs) : RFs K mp' H' fs vs := ⟨r.1, r.2.fut f⟩
theorem RO.fut {o : MO} {a : Addr} (f : Fut K mp mp' H H') (e : H' a = H a) (r : RO K cl mp H o a) : RO K cl mp' H' o a := by
  cases o with
  | lst xs => obtain ⟨vs, h1, h2⟩ := r; exact ⟨vs, e.trans h1, h2.fut f⟩
  | ins c fs => obtain ⟨C, dx, vs, h0, h1, h2⟩ := r; exact ⟨C, dx, vs, h0, e.trans h1, h2.fut f⟩
  | dct kvs => obtain ⟨vs, h1, h2⟩ := r; exact ⟨vs, e.trans h1, h2.fut f⟩
  | tab q => obtain ⟨h0, h1⟩ := r; exact ⟨h0, h1.go e fun c => f.fr c _⟩
theorem RO.noCode {o : MO} {a : Addr} (r : RO K cl mp H o a) : ∀ (c : Addr) (q : Str), H a ≠ Option.some (LamX.CodeO c q) := by
  have go : ∀ u, H a = Option.some u → (∀ f, u ≠ .ext f) → ∀ (c : Addr) (q : Str), H a ≠ Option.some (LamX.CodeO c q) := fun u e n c q z => by
    rw [e] at z
    exact n _ (Option.some.inj z)
  cases o with
  | lst xs => obtain ⟨vs, h1, _⟩ := r; exact go _ h1 (fun _ z => by cases z)
  | ins c fs => obtain ⟨C, dx, vs, _, h1, _⟩ := r; exact go _ h1 (fun _ z => by cases z)
  | dct kvs => obtain ⟨vs, h1, _⟩ := r; exact go _ h1 (fun _ z => by cases z)
  | tab q => obtain ⟨_, ps, h1, _⟩ := r; exact go _ h1 (fun _ z => by cases z)
theorem RO.some {o : MO} {a : Addr} (r : RO K cl mp H o a) : ∃ u, H a = some u ∧ (∀ xs, ¬ Rd H a (.tup xs)) ∧ ∀ o w, H a ≠ some (.frz o w) := by
  have go : ∀ u, H a = Option.some u → (∀ xs, u ≠ .tup xs) → (∀ o w, u ≠ .frz o w) → ∃ u, H a = Option.some u ∧ (∀ xs, ¬ Rd H a (.tup xs)) ∧ ∀ o w, H a ≠ Option.some (.frz o w) := fun u e n1 n2 => ⟨u, e, fun xs q => by
    rcases q with q | ⟨o, q⟩
    · rw [e] at q; exact n1 xs (Option.some.inj q)
    · rw [e] at q; exact n2 o _ (Option.some.inj q), fun o w q => by rw [e] at q; exact n2 o w (Option.some.inj q)⟩
  cases o with
  | lst xs => obtain ⟨vs, h1, _⟩ := r; exact go _ h1 (fun _ z => by cases z) (fun _ _ z => by cases z)
  | ins c fs => obtain ⟨C, dx, vs, _, h1, _⟩ := r; exact go _ h1 (fun _ z => by cases z) (fun _ _ z => by cases z)
  | dct kvs => obtain ⟨vs, h1, _⟩ := r; exact go _ h1 (fun _ z => by cases z) (fun _ _ z => by cases z)
  | tab q => obtain ⟨_, ps, h1, _⟩ := r; exact go _ h1 (fun _ z => by cases z) (fun _ _ z => by cases z)
theorem Rl.cell (r : Rl K cl mp h H) {n : Nat} {a : Addr} (e : mp n = some a) : ∃ o, h[n]? = some o ∧ RO K cl mp H o a := by
  have l := r.dom n a e
  exact ⟨h[n], by simp [l], r.obj n _ a (by simp [l]) e⟩
theorem Rl.at (r : Rl K cl mp h H) {n : Nat} {o : MO} (e : h[n]? = some o) : ∃ a, mp n = some a ∧ RO K cl mp H o a := by
  obtain ⟨l, _⟩ := List.getElem?_eq_some_iff.mp e
  obtain ⟨a, q⟩ := r.has n l
  exact ⟨a, q, r.obj n o a e q⟩
/-- a new thing that is no cell -/
theorem TpA.new {p : Addr} {o : HO} (hp : H p = none) : ∀ a xs, TpA K H a xs → TpA K (upd H p o) a xs := fun a xs t => by
  rcases t with t | t
  · refine .inl ?_
    rcases t with t | ⟨u, t⟩
    · exact .inl (by rw [upd_ne (ne_of_none t hp)]; exact t)
    · exact .inr ⟨u, by rw [upd_ne (ne_of_none t hp)]; exact t⟩
  · exact .inr t
theorem SqF.new {p : Addr} {o : HO} (hp : H p = none) : ∀ a xs, SqF K H a xs → SqF K (upd H p o) a xs := fun a xs t => by
  rcases t with ⟨u, t⟩ | t
  · exact .inl ⟨u, by rw [upd_ne (ne_of_none t hp)]; exact t⟩
  · exact .inr t
theorem FzA.new {p : Addr} {o : HO} (hp : H p = none) : ∀ a z, FzA H a z → FzA (upd H p o) a z := fun a xs ⟨u, t, c⟩ => ⟨u, by rw [upd_ne (ne_of_none t hp)]; exact t, c⟩
theorem Fut.new {p : Addr} {o : HO} (hp : H p = none) : Fut K mp mp H (upd H p o) :=
  ⟨fun _ _ h => h, TpA.new hp, SqF.new hp, fun a u h n => ⟨by rw [upd_ne (ne_of_none h hp)]; exact h, n⟩, FzA.new hp⟩
theorem Rl.new {p : Addr} {o : HO} (r : Rl K cl mp h H) (hp : H p = none) : Rl K cl mp h (upd H p o) :=
  ⟨r.dom, r.has, r.inj, fun n u a e q => by
    have ro := r.obj n u a e q
    obtain ⟨z, hz, _⟩ := ro.some
    exact ro.fut (Fut.new hp) (upd_ne (ne_of_none hz hp))⟩
/-- .. that becomes a cell -/
def Mp.put (mp : Mp) (n : Nat) (p : Addr) : Mp := fun k => if k = n then some p else mp k
theorem Mp.put_same {n : Nat} {p : Addr} : Mp.put mp n p n = some p := by simp [Mp.put]
theorem Mp.put_ne {n k : Nat} {p : Addr} (h : k ≠ n) : Mp.put mp n p k = mp k := by simp [Mp.put, h]
theorem Rl.none (r : Rl K cl mp h H) : mp h.length = none := by
  cases e : mp h.length with
  | none => rfl
  | some a => exact absurd (r.dom _ _ e) (Nat.lt_irrefl _)
/-- a thing at p that is no cell (new since H0) becomes a cell -/
theorem Fut.toCell {mp0 : Mp} {H0 : Hp} {p : Addr} (r : Rl K cl mp h H) (f : Fut K mp0 mp H0 H) (h0 : H0 p = none) : Fut K mp0 (Mp.put mp h.length p) H0 H :=
  ⟨fun n a e => by
    have e1 := f.le n a e
    have := r.dom n a e1
    rw [Mp.put_ne (by omega)]; exact e1, f.tt, f.sf, fun a o e n => by
    obtain ⟨e1, n1⟩ := f.fr a o e n
    refine ⟨e1, fun k => ?_⟩
    unfold Mp.put
    split
    · intro z
      have z := Option.some.inj z
      subst z
      rw [h0] at e; cases e
    · exact n1 k, f.tx⟩
theorem Rl.toCell {p : Addr} {u : MO} (r : Rl K cl mp h H) (np : ∀ n, mp n ≠ some p) (ro : RO K cl mp H u p) : Rl K cl (Mp.put mp h.length p) (h ++ [u]) H := by
  have le : ∀ n a, mp n = some a → Mp.put mp h.length p n = some a := fun n a e => by
    have := r.dom n a e
    rw [Mp.put_ne (by omega)]; exact e
  have mono : ∀ {mp' : Mp}, (∀ n a, mp n = some a → mp' n = some a) → (∀ c q, H c = some (LamX.CodeO c q) → (∀ n, mp n ≠ some c) → ∀ n, mp' n ≠ some c) → ∀ {o : MO} {a : Addr}, RO K cl mp H o a → RO K cl mp' H o a := fun {mp'} le lc {o a} ro => by
    -- only the map grows
    have rv : ∀ {xs : List MV} {vs : List V}, RVs K mp H xs vs → RVs K mp' H xs vs := by
      have both : (∀ {x : MV} {v : V}, RV K mp H x v → RV K mp' H x v) ∧ ∀ {xs : List MV} {vs : List V}, RVs K mp H xs vs → RVs K mp' H xs vs := by
        constructor
        · intro x v r
          exact RV.rec (motive_1 := fun x v _ => RV K mp' H x v) (motive_2 := fun xs vs _ => RVs K mp' H xs vs) .non (fun b => .bl b) (fun i => .int i) (fun x => .str x) (fun h => .ref (le _ _ h)) (fun h _ q => .tup h q) (fun h _ q => .scr h q) (fun h _ q => .tux h q) (fun h l _ q => .fdc h l q) .nil (fun _ _ a b => .cons a b) r
        · intro x v r
          exact RVs.rec (motive_1 := fun x v _ => RV K mp' H x v) (motive_2 := fun xs vs _ => RVs K mp' H xs vs) .non (fun b => .bl b) (fun i => .int i) (fun x => .str x) (fun h => .ref (le _ _ h)) (fun h _ q => .tup h q) (fun h _ q => .scr h q) (fun h _ q => .tux h q) (fun h l _ q => .fdc h l q) .nil (fun _ _ a b => .cons a b) r
      exact fun {xs vs} r => both.2 r
    cases o with
    | lst xs => obtain ⟨vs, h1, h2⟩ := ro; exact ⟨vs, h1, rv h2⟩
    | ins c fs => obtain ⟨C, dx, vs, h0, h1, h2⟩ := ro; exact ⟨C, dx, vs, h0, h1, h2.1, rv h2.2⟩
    | dct kvs => obtain ⟨vs, h1, h2⟩ := ro; exact ⟨vs, h1, h2.1, rv h2.2⟩
    | tab q => obtain ⟨h0, h1⟩ := ro; exact ⟨h0, h1.go rfl fun c e n => ⟨e, lc c q e n⟩⟩
  have lc : ∀ c q, H c = some (LamX.CodeO c q) → (∀ n, mp n ≠ some c) → ∀ n, Mp.put mp h.length p n ≠ some c := fun c q e n k z => by
    unfold Mp.put at z
    split at z
    · have z := Option.some.inj z
      subst z
      exact ro.noCode _ _ e
    · exact n k z
  refine ⟨fun n a e => ?_, fun n l => ?_, fun n k a e1 e2 => ?_, fun n o a e q => ?_⟩
  · by_cases hn : n = h.length
    · subst hn; simp
    · rw [Mp.put_ne hn] at e
      have := r.dom n a e
      simp; omega
  · by_cases hn : n = h.length
    · exact ⟨p, by rw [hn]; exact Mp.put_same⟩
    · obtain ⟨a, e⟩ := r.has n (by simp at l; omega)
      exact ⟨a, le n a e⟩
  · by_cases hn : n = h.length
    · by_cases hk : k = h.length
      · omega
      · rw [hn, Mp.put_same] at e1
        rw [Mp.put_ne hk] at e2
        have := Option.some.inj e1
        subst this
        exact absurd e2 (np k)
    · by_cases hk : k = h.length
      · rw [hk, Mp.put_same] at e2
        rw [Mp.put_ne hn] at e1
        have := Option.some.inj e2
        subst this
        exact absurd e1 (np n)
      · rw [Mp.put_ne hn] at e1
        rw [Mp.put_ne hk] at e2
        exact r.inj n k a e1 e2
  · by_cases hn : n = h.length
    · subst hn
      rw [Mp.put_same] at q
      have := Option.some.inj q
      subst this
      have : o = u := by simpa using e.symm
      subst this
      exact mono le lc ro
    · rw [Mp.put_ne hn] at q
      have l := r.dom n a q
      rw [List.getElem?_append_left l] at e
      exact mono le lc (r.obj n o a e q)
/-- a cell is written -/
theorem TpA.set {p : Addr} {o : HO} (hp : ∀ xs, ¬ Rd H p (.tup xs)) : ∀ a xs, TpA K H a xs → TpA K (upd H p o) a xs := fun a xs t => by
  rcases t with t | t
  · refine .inl ?_
    have ne : a ≠ p := fun z => by subst z; exact hp xs t
    rcases t with t | ⟨u, t⟩
    · exact .inl (by rw [upd_ne ne]; exact t)
    · exact .inr ⟨u, by rw [upd_ne ne]; exact t⟩
  · exact .inr t
theorem Fut.set {n : Nat} {p : Addr} {o : HO} (r : Rl K cl mp h H) (e : mp n = some p) : Fut K mp mp H (upd H p o) := by
  obtain ⟨u, _, ro⟩ := r.cell e
  obtain ⟨_, _, nt, nf⟩ := ro.some
  exact ⟨fun _ _ h => h, TpA.set nt, fun a xs t => (by
    rcases t with ⟨u, t⟩ | t
    · exact .inl ⟨u, by rw [upd_ne (fun z => nf u _ (by rw [← z]; exact t))]; exact t⟩
    · exact .inr t), fun a u h k => ⟨by rw [upd_ne (fun z => k n (by rw [z]; exact e))]; exact h, k⟩, fun a xs ⟨u, t, c⟩ => ⟨u, by rw [upd_ne (fun z => nf u _ (by rw [← z]; exact t))]; exact t, c⟩⟩
theorem Rl.set {n : Nat} {p : Addr} {o : HO} {u : MO} (r : Rl K cl mp h H) (e : mp n = some p) (ro : RO K cl mp (upd H p o) u p) : Rl K cl mp (h.set n u) (upd H p o) := by
  refine ⟨fun k a q => by simpa using r.dom k a q, fun k l => r.has k (by simpa using l), r.inj, fun k v a q1 q2 => ?_⟩
  by_cases hk : k = n
  · subst hk
    rw [e] at q2
    have := Option.some.inj q2
    subst this
    have l := r.dom k p e
    rw [List.getElem?_set_self l] at q1
    have := Option.some.inj q1
    subst this
    exact ro
  · rw [List.getElem?_set_ne (Ne.symm hk)] at q1
    have ne : a ≠ p := fun z => by subst z; exact hk (r.inj k n a q2 e)
    exact (r.obj k v a q1 q2).fut (Fut.set r e) (upd_ne ne)
end
/-! ### slots -/
structure RS (K : PySem.W.Frag) (mp : Mp) (H : Hp) (ρ : MS) (σ : St) : Prop where
  len : ρ.length = σ.length
  at_ : ∀ (i : Nat) x, ρ[i]? = some (some x) → ∃ v, σ[i]? = some (some v) ∧ RV K mp H x v
section
variable {K : PySem.W.Frag} {mp mp' : Mp} {H H' : Hp} {ρ : MS} {σ : St}
theorem RS.fut (f : Fut K mp mp' H H') (r : RS K mp H ρ σ) : RS K mp' H' ρ σ := ⟨r.len, fun i x e => by
  obtain ⟨v, h1, h2⟩ := r.at_ i x e
  exact ⟨v, h1, h2.fut f⟩⟩
theorem RS.set {i : Nat} {x : MV} {v : V} (r : RS K mp H ρ σ) (q : RV K mp H x v) : RS K mp H (ρ.set i (some x)) (σ.set i (some v)) := ⟨by simp [r.len], fun j y e => by
  by_cases hj : j = i
  · subst hj
    have l : j < ρ.length := by
      have := (List.getElem?_eq_some_iff.mp e).1
      simpa using this
    rw [List.getElem?_set_self l] at e
    have e := Option.some.inj (Option.some.inj e)
    subst e
    exact ⟨v, by rw [List.getElem?_set_self (by rw [← r.len]; exact l)], q⟩
  · rw [List.getElem?_set_ne (Ne.symm hj)] at e
    obtain ⟨w, h1, h2⟩ := r.at_ j y e
    exact ⟨w, by rw [List.getElem?_set_ne (Ne.symm hj)]; exact h1, h2⟩⟩
end
end Sm

set_option Elab.async false
set_option linter.all false
set_option maxRecDepth 100000
set_option maxHeartbeats 4000000
/-! the judgements: an expression, a test, arguments, as functions of the small machine -/
namespace Sm
open PySem L2
abbrev Wsh := Value → Option Addr → St → Hp → Prop
/-- an exception as it stands -/
def RX (K : PySem.W.Frag) (cl : Str → Option Addr) (mp : Mp) (H : Hp) (e : MV) (c : Value) (d : Option Addr) : Prop :=
  ∃ k ns vs C, e = .exn k ns vs ∧ cl k = some C ∧ c = .ref C ∧
    ((ns = [] ∧ vs = [] ∧ d = none) ∨ ∃ dd fs, d = some dd ∧ H dd = some (.xd fs) ∧ fs.map (·.1) = ns ∧ RVs K mp H vs (fs.map (·.2)))
section
variable (K : PySem.W.Frag) (cl : Str → Option Addr) (mp : Mp) (H : Hp)
def QV (Q : VK) : MV → MH → Prop := fun v h' => ∀ V H' mp', Fut K mp mp' H H' → Rl K cl mp' h' H' → RV K mp' H' v V → Q V H'
def QB (Q : Bool → Hp → Prop) : Bool → MH → Prop := fun v h' => ∀ H' mp', Fut K mp mp' H H' → Rl K cl mp' h' H' → Q v H'
def QA (Q : List V → Hp → Prop) : List MV → MH → Prop := fun v h' => ∀ V H' mp', Fut K mp mp' H H' → Rl K cl mp' h' H' → RVs K mp' H' v V → Q V H'
/-- a list just made, that nothing else knows -/
def QL (Q : VK) : List MV → MH → Prop := fun xs h' => ∀ p vs H' mp', Fut K mp mp' H H' → Rl K cl mp' h' H' → H p = none → (∀ n, mp' n ≠ some p) → H' p = some (.lst vs) → RVs K mp' H' xs vs → Q (.ref p) H'
def EW (W : Wsh) (σ : St) : MV → MH → Prop := fun e h' => ∀ c d H' mp', Fut K mp mp' H H' → Rl K cl mp' h' H' → RX K cl mp' H' e c d → W c d σ H'
end
section
variable {K : PySem.W.Frag} {cl : Str → Option Addr} {mp mp1 : Mp} {H H1 : Hp} {W : Wsh} {σ : St}
theorem QV.fut {Q : VK} (f : Fut K mp mp1 H H1) {v : MV} {h : MH} (q : QV K cl mp H Q v h) : QV K cl mp1 H1 Q v h := fun V H' mp' f' => q V H' mp' (f.trans f')
theorem QB.fut {Q : Bool → Hp → Prop} (f : Fut K mp mp1 H H1) {v : Bool} {h : MH} (q : QB K cl mp H Q v h) : QB K cl mp1 H1 Q v h := fun H' mp' f' => q H' mp' (f.trans f')
theorem QA.fut {Q : List V → Hp → Prop} (f : Fut K mp mp1 H H1) {v : List MV} {h : MH} (q : QA K cl mp H Q v h) : QA K cl mp1 H1 Q v h := fun V H' mp' f' => q V H' mp' (f.trans f')
theorem EW.fut (f : Fut K mp mp1 H H1) {e : MV} {h : MH} (q : EW K cl mp H W σ e h) : EW K cl mp1 H1 W σ e h := fun c d H' mp' f' => q c d H' mp' (f.trans f')
end
section
variable (K : PySem.W.Frag) (cl : Str → Option Addr) (W : Wsh)
def tM (m : ME) : TE := fun σ H Q => ∃ ρ h mp, Rl K cl mp h H ∧ RS K mp H ρ σ ∧ Good (m ρ h) (QV K cl mp H Q) (EW K cl mp H W σ)
def tMT (m : MS → MH → Res Bool) : TT := fun σ H Q => ∃ ρ h mp, Rl K cl mp h H ∧ RS K mp H ρ σ ∧ Good (m ρ h) (QB K cl mp H Q) (EW K cl mp H W σ)
def tMA (m : MA) : TA := fun σ H Q => ∃ ρ h mp, Rl K cl mp h H ∧ RS K mp H ρ σ ∧ Good (m ρ h) (QA K cl mp H Q) (EW K cl mp H W σ)
def tML (m : MA) : TE := fun σ H Q => ∃ ρ h mp, Rl K cl mp h H ∧ RS K mp H ρ σ ∧ Good (m ρ h) (QL K cl mp H Q) (EW K cl mp H W σ)
end
abbrev SE (X : Cx) (cl : Str → Option Addr) (W : Wsh) (e : Expr) (m : ME) : Prop := PE X e (tM X.K cl W m)
abbrev ST (X : Cx) (cl : Str → Option Addr) (W : Wsh) (e : Expr) (m : MS → MH → Res Bool) : Prop := PT X e (tMT X.K cl W m)
abbrev SW (X : Cx) (cl : Str → Option Addr) (W : Wsh) (e : Expr) (m : MS → MH → Res Bool) : Prop := PW X e (tMT X.K cl W m)
abbrev SA (X : Cx) (cl : Str → Option Addr) (W : Wsh) (es : List Expr) (m : MA) : Prop := PA X es (tMA X.K cl W m)
abbrev SL (X : Cx) (cl : Str → Option Addr) (W : Wsh) (e : Expr) (m : MA) : Prop := PE X e (tML X.K cl W m)
theorem peW {X : Cx} {e : Expr} {t t' : TE} (h : PE X e t) (w : ∀ σ H Q, t' σ H Q → t σ H Q) : PE X e t' := ⟨fun pins s σ H Q I q => h.run pins s σ H Q I (w σ H Q q)⟩
theorem ptW {X : Cx} {e : Expr} {t t' : TT} (h : PT X e t) (w : ∀ σ H Q, t' σ H Q → t σ H Q) : PT X e t' := ⟨fun pins s σ H Q I q => h.run pins s σ H Q I (w σ H Q q)⟩
theorem pwW {X : Cx} {e : Expr} {t t' : TT} (h : PW X e t) (w : ∀ σ H Q, t' σ H Q → t σ H Q) : PW X e t' := ⟨fun whole pins s σ H Q I q => h.run whole pins s σ H Q I (w σ H Q q)⟩
theorem paW {X : Cx} {e : List Expr} {t t' : TA} (h : PA X e t) (w : ∀ σ H Q, t' σ H Q → t σ H Q) : PA X e t' := ⟨fun pos pins s σ H Q I q => h.run pos pins s σ H Q I (w σ H Q q)⟩
/-! ### what comes first, then the rest -/
section
variable {K : PySem.W.Frag} {cl : Str → Option Addr} {W : Wsh} {mp : Mp} {h : MH} {H : Hp} {ρ : MS} {σ : St} {β : Type} {Q1 : β → MH → Prop} {E1 : MV → MH → Prop}
theorem tM_bind {m : ME} {f : MV → MH → Res β} {R : VK} (rl : Rl K cl mp h H) (rs : RS K mp H ρ σ) (g : Good ((m ρ h).bind f) Q1 E1) (hE : ∀ e h', E1 e h' → EW K cl mp H W σ e h')
    (k : ∀ x h1 V H1 mp1, Fut K mp mp1 H H1 → Rl K cl mp1 h1 H1 → RS K mp1 H1 ρ σ → RV K mp1 H1 x V → Good (f x h1) Q1 E1 → R V H1) : tM K cl W m σ H R :=
  ⟨ρ, h, mp, rl, rs, (Good.bind.mp g).mono (fun x h1 g1 V H1 mp1 f1 rl1 rv => k x h1 V H1 mp1 f1 rl1 (rs.fut f1) rv g1) hE⟩
theorem tMT_bind {m : MS → MH → Res Bool} {f : Bool → MH → Res β} {R : Bool → Hp → Prop} (rl : Rl K cl mp h H) (rs : RS K mp H ρ σ) (g : Good ((m ρ h).bind f) Q1 E1) (hE : ∀ e h', E1 e h' → EW K cl mp H W σ e h')
    (k : ∀ x h1 H1 mp1, Fut K mp mp1 H H1 → Rl K cl mp1 h1 H1 → RS K mp1 H1 ρ σ → Good (f x h1) Q1 E1 → R x H1) : tMT K cl W m σ H R :=
  ⟨ρ, h, mp, rl, rs, (Good.bind.mp g).mono (fun x h1 g1 H1 mp1 f1 rl1 => k x h1 H1 mp1 f1 rl1 (rs.fut f1) g1) hE⟩
theorem tMA_bind {m : MA} {f : List MV → MH → Res β} {R : List V → Hp → Prop} (rl : Rl K cl mp h H) (rs : RS K mp H ρ σ) (g : Good ((m ρ h).bind f) Q1 E1) (hE : ∀ e h', E1 e h' → EW K cl mp H W σ e h')
    (k : ∀ x h1 V H1 mp1, Fut K mp mp1 H H1 → Rl K cl mp1 h1 H1 → RS K mp1 H1 ρ σ → RVs K mp1 H1 x V → Good (f x h1) Q1 E1 → R V H1) : tMA K cl W m σ H R :=
  ⟨ρ, h, mp, rl, rs, (Good.bind.mp g).mono (fun x h1 g1 V H1 mp1 f1 rl1 rv => k x h1 V H1 mp1 f1 rl1 (rs.fut f1) rv g1) hE⟩
theorem tML_bind {m : MA} {f : List MV → MH → Res β} {R : VK} (rl : Rl K cl mp h H) (rs : RS K mp H ρ σ) (g : Good ((m ρ h).bind f) Q1 E1) (hE : ∀ e h', E1 e h' → EW K cl mp H W σ e h')
    (k : ∀ x h1 p vs H1 mp1, Fut K mp mp1 H H1 → Rl K cl mp1 h1 H1 → RS K mp1 H1 ρ σ → H p = none → (∀ n, mp1 n ≠ some p) → H1 p = some (.lst vs) → RVs K mp1 H1 x vs → Good (f x h1) Q1 E1 → R (.ref p) H1) : tML K cl W m σ H R :=
  ⟨ρ, h, mp, rl, rs, (Good.bind.mp g).mono (fun x h1 g1 p vs H1 mp1 f1 rl1 h0 np hp rv => k x h1 p vs H1 mp1 f1 rl1 (rs.fut f1) h0 np hp rv g1) hE⟩
end
/-! ### constants, names -/
@[simp] def eC (v : MV) : ME := fun _ h => .ok v h
@[simp] def eVar (i : Nat) : ME := fun ρ h => match ρ[i]? with | some (some v) => .ok v h | _ => .bad
section
variable {X : Cx} {cl : Str → Option Addr} {W : Wsh}
theorem se_const {e : Expr} {v : MV} {u : V} (h : PE X e (tC u)) (r : ∀ mp H, RV X.K mp H v u) : SE X cl W e (eC v) :=
  peW h fun σ H Q ⟨ρ, h, mp, rl, rs, g⟩ => g u H mp .refl rl (r mp H)
theorem se_int {i : Int} {j pos} : SE X cl W (.Constant (.int i) j pos) (eC (.int i)) := se_const pe_int fun _ _ => .int i
theorem se_bl {b : Bool} {j pos} : SE X cl W (.Constant (.bool b) j pos) (eC (.bl b)) := se_const pe_bl fun _ _ => .bl b
theorem se_non {j pos} : SE X cl W (.Constant .none j pos) (eC .non) := se_const pe_non fun _ _ => .non
theorem se_str {x : Str} {j pos} : SE X cl W (.Constant (.str x) j pos) (eC (.str x)) := se_const pe_str fun _ _ => .str x
theorem se_var {i : Nat} {e : Expr} (h : PE X e (tVar i)) : SE X cl W e (eVar i) := peW h fun σ H Q ⟨ρ, h, mp, rl, rs, g⟩ => by
  unfold eVar at g
  split at g
  · rename_i v e
    obtain ⟨u, h1, h2⟩ := rs.at_ i v e
    exact ⟨u, h1, g u H mp .refl rl h2⟩
  · exact g.elim
/-! ### operators -/
/-- an operation of two values stands for one of the small machine -/
def Op2 (X : Cx) (cl : Str → Option Addr) (r : R2) (mo : MV → MV → MH → Res MV) : Prop := ∀ x y V Y H h mp Q E, Rl X.K cl mp h H → RV X.K mp H x V → RV X.K mp H y Y → Good (mo x y h) (QV X.K cl mp H Q) E → (∀ e h', ¬ mo x y h = .ex e h') → r V Y H Q
@[simp] def eBin (mo : MV → MV → MH → Res MV) (ma mb : ME) : ME := fun ρ h => (ma ρ h).bind fun x h1 => (mb ρ h1).bind fun y h2 => mo x y h2
@[simp] def eUn (mo : MV → MH → Res MV) (ma : ME) : ME := fun ρ h => (ma ρ h).bind fun x h1 => mo x h1
/-- no exception comes of it -/
def NoEx2 (mo : MV → MV → MH → Res MV) : Prop := ∀ x y h e h', ¬ mo x y h = .ex e h'
variable {a b : Expr} {ma mb : ME} {mo : MV → MV → MH → Res MV} {r : R2} {pos : Pos}
theorem tOp_of (ok : Op2 X cl r mo) (ne : NoEx2 mo) : ∀ σ H Q, tM X.K cl W (eBin mo ma mb) σ H Q → tOp r (tM X.K cl W ma) (tM X.K cl W mb) σ H Q := fun σ H Q ⟨ρ, h, mp, rl, rs, g⟩ =>
  tM_bind rl rs g (fun _ _ z => z) fun x h1 V H1 mp1 f1 rl1 rs1 rv1 g1 =>
    tM_bind rl1 rs1 g1 (fun _ _ z => z.fut f1) fun y h2 Y H2 mp2 f2 rl2 rs2 rv2 g2 =>
      ok x y V Y H2 h2 mp2 Q _ rl2 (rv1.fut f2) rv2 (g2.mono (fun v h' q => q.fut (f1.trans f2)) fun _ _ z => z) (ne x y h2)
theorem se_bin {op : Operator} (ho : OpR X (binaryOp op) r) (ok : Op2 X cl r mo) (ne : NoEx2 mo) (ha : SE X cl W a ma) (hb : SE X cl W b mb) : SE X cl W (.BinOp a op b pos) (eBin mo ma mb) := peW (pe_op ho ha hb) (tOp_of ok ne)
theorem se_cmp {op : CmpOp} (ho : OpR X (compareOp op) r) (ok : Op2 X cl r mo) (ne : NoEx2 mo) (ha : SE X cl W a ma) (hb : SE X cl W b mb) (hm : behindInMarks op b = false) : SE X cl W (.Compare a [op] [b] pos) (eBin mo ma mb) := peW (pe_cmpR ho ha hb hm) (tOp_of ok ne)
/-- a value as a test: it is a truth -/
@[simp] def asB (v : MV) (h : MH) : Res Bool := match v with | .bl b => .ok b h | _ => .bad
@[simp] def tOfE (m : ME) : MS → MH → Res Bool := fun ρ h => (m ρ h).bind asB
theorem asB_ok {K : PySem.W.Frag} {mp mp1 : Mp} {H H1 : Hp} {x : MV} {V : V} {h : MH} {Q : Bool → Hp → Prop} {E : MV → MH → Prop} (f : Fut K mp mp1 H H1) (rl : Rl K cl mp1 h H1) (rv : RV K mp1 H1 x V) (g : Good (asB x h) (QB K cl mp H Q) E) : ∃ c, V = .bl c ∧ Q c H1 := by
  cases rv with
  | bl b => exact ⟨b, rfl, g H1 mp1 f rl⟩
  | _ => exact g.elim
theorem st_cmp {op : CmpOp} (ho : OpR X (compareOp op) r) (ok : Op2 X cl r mo) (ne : NoEx2 mo) (ha : SE X cl W a ma) (hb : SE X cl W b mb) (hm : behindInMarks op b = false) : ST X cl W (.Compare a [op] [b] pos) (tOfE (eBin mo ma mb)) :=
  ptW (pt_cmpR ho ha hb hm) fun σ H Q ⟨ρ, h, mp, rl, rs, g⟩ => tOp_of (mo := mo) ok ne σ H _ (tM_bind rl rs g (fun _ _ z => z) fun x h1 V H1 mp1 f1 rl1 rs1 rv1 g1 => asB_ok f1 rl1 rv1 g1)
theorem st_val {e : Expr} {m : ME} (he : SE X cl W e m) (hw : ∀ whole, isTrue e X.env whole = (do let v ← whole; standAt e.pos; holding [v] (truthy v)) := by intro _; rfl) : ST X cl W e (tOfE m) :=
  ptW (pt_val he hw) fun σ H Q ⟨ρ, h, mp, rl, rs, g⟩ => tM_bind rl rs g (fun _ _ z => z) fun x h1 V H1 mp1 f1 rl1 rs1 rv1 g1 => asB_ok f1 rl1 rv1 g1
/-! ### and, or, not -/
@[simp] def tAndM (m1 m2 : MS → MH → Res Bool) : MS → MH → Res Bool := fun ρ h => (m1 ρ h).bind fun c h1 => if c = true then m2 ρ h1 else .ok false h1
@[simp] def tOrM (m1 m2 : MS → MH → Res Bool) : MS → MH → Res Bool := fun ρ h => (m1 ρ h).bind fun c h1 => if c = true then .ok true h1 else m2 ρ h1
@[simp] def tNotM (m1 : MS → MH → Res Bool) : MS → MH → Res Bool := fun ρ h => (m1 ρ h).bind fun c h1 => .ok (!c) h1
variable {m1 m2 : MS → MH → Res Bool} {rest : List Expr}
theorem sw_and1 (ha : ST X cl W a m1) : SW X cl W (.BoolOp .And [a] pos) m1 := pw_and1 ha
theorem sw_or1 (ha : ST X cl W a m1) : SW X cl W (.BoolOp .Or [a] pos) m1 := pw_or1 ha
theorem sw_and (ha : ST X cl W a m1) (hb : SW X cl W (.BoolOp .And (b :: rest) pos) m2) : SW X cl W (.BoolOp .And (a :: b :: rest) pos) (tAndM m1 m2) :=
  pwW (pw_and ha hb) fun σ H Q ⟨ρ, h, mp, rl, rs, g⟩ => tMT_bind rl rs g (fun _ _ z => z) fun c h1 H1 mp1 f1 rl1 rs1 g1 => by
    cases c with
    | true => exact ⟨ρ, h1, mp1, rl1, rs1, Good.mono g1 (fun _ _ q => q.fut f1) fun _ _ q => q.fut f1⟩
    | false => exact g1 H1 mp1 f1 rl1
theorem sw_or (ha : ST X cl W a m1) (hb : SW X cl W (.BoolOp .Or (b :: rest) pos) m2) : SW X cl W (.BoolOp .Or (a :: b :: rest) pos) (tOrM m1 m2) :=
  pwW (pw_or ha hb) fun σ H Q ⟨ρ, h, mp, rl, rs, g⟩ => tMT_bind rl rs g (fun _ _ z => z) fun c h1 H1 mp1 f1 rl1 rs1 g1 => by
    cases c with
    | true => exact g1 H1 mp1 f1 rl1
    | false => exact ⟨ρ, h1, mp1, rl1, rs1, Good.mono g1 (fun _ _ q => q.fut f1) fun _ _ q => q.fut f1⟩
theorem st_not (ha : ST X cl W a m1) : ST X cl W (.UnaryOp .Not a pos) (tNotM m1) :=
  ptW (pt_not ha) fun σ H Q ⟨ρ, h, mp, rl, rs, g⟩ => tMT_bind rl rs g (fun _ _ z => z) fun c h1 H1 mp1 f1 rl1 rs1 g1 => g1 H1 mp1 f1 rl1
/-- as values: truths -/
@[simp] def eAnd (ma mb : ME) : ME := fun ρ h => (ma ρ h).bind fun x h1 => match x with | .bl true => mb ρ h1 | .bl false => .ok (.bl false) h1 | _ => .bad
@[simp] def eOr (ma mb : ME) : ME := fun ρ h => (ma ρ h).bind fun x h1 => match x with | .bl true => .ok (.bl true) h1 | .bl false => mb ρ h1 | _ => .bad
@[simp] def eNot (ma : ME) : ME := fun ρ h => (ma ρ h).bind fun x h1 => match x with | .bl b => .ok (.bl (!b)) h1 | _ => .bad
theorem se_one {op} {m : ME} (ha : SE X cl W a m) : SE X cl W (.BoolOp op [a] pos) m := pe_one ha
theorem se_and (ha : SE X cl W a ma) (hb : SE X cl W (.BoolOp .And (b :: rest) pos) mb) : SE X cl W (.BoolOp .And (a :: b :: rest) pos) (eAnd ma mb) :=
  peW (pe_and ha hb) fun σ H Q ⟨ρ, h, mp, rl, rs, g⟩ => tM_bind rl rs g (fun _ _ z => z) fun x h1 V H1 mp1 f1 rl1 rs1 rv1 g1 => by
    cases rv1 with
    | bl c =>
      cases c with
      | true => exact ⟨true, rfl, ⟨ρ, h1, mp1, rl1, rs1, Good.mono g1 (fun _ _ q => q.fut f1) fun _ _ q => q.fut f1⟩⟩
      | false => exact ⟨false, rfl, g1 _ H1 mp1 f1 rl1 (.bl false)⟩
    | _ => exact g1.elim
theorem se_or (ha : SE X cl W a ma) (hb : SE X cl W (.BoolOp .Or (b :: rest) pos) mb) : SE X cl W (.BoolOp .Or (a :: b :: rest) pos) (eOr ma mb) :=
  peW (pe_or ha hb) fun σ H Q ⟨ρ, h, mp, rl, rs, g⟩ => tM_bind rl rs g (fun _ _ z => z) fun x h1 V H1 mp1 f1 rl1 rs1 rv1 g1 => by
    cases rv1 with
    | bl c =>
      cases c with
      | true => exact ⟨true, rfl, g1 _ H1 mp1 f1 rl1 (.bl true)⟩
      | false => exact ⟨false, rfl, ⟨ρ, h1, mp1, rl1, rs1, Good.mono g1 (fun _ _ q => q.fut f1) fun _ _ q => q.fut f1⟩⟩
    | _ => exact g1.elim
theorem se_not (ha : SE X cl W a ma) : SE X cl W (.UnaryOp .Not a pos) (eNot ma) :=
  peW (pe_not ha) fun σ H Q ⟨ρ, h, mp, rl, rs, g⟩ => tM_bind rl rs g (fun _ _ z => z) fun x h1 V H1 mp1 f1 rl1 rs1 rv1 g1 => by
    cases rv1 with
    | bl c => exact ⟨c, rfl, g1 _ H1 mp1 f1 rl1 (.bl _)⟩
    | _ => exact g1.elim
@[simp] def eIf (mc : MS → MH → Res Bool) (ma mb : ME) : ME := fun ρ h => (mc ρ h).bind fun c h1 => if c = true then ma ρ h1 else mb ρ h1
theorem se_if {c : Expr} (hc : ST X cl W c m1) (ha : SE X cl W a ma) (hb : SE X cl W b mb) : SE X cl W (.IfExp c a b pos) (eIf m1 ma mb) :=
  peW (pe_ifExp hc ha hb) fun σ H Q ⟨ρ, h, mp, rl, rs, g⟩ => tMT_bind rl rs g (fun _ _ z => z) fun c h1 H1 mp1 f1 rl1 rs1 g1 => by
    cases c with
    | true => exact ⟨ρ, h1, mp1, rl1, rs1, Good.mono g1 (fun _ _ q => q.fut f1) fun _ _ q => q.fut f1⟩
    | false => exact ⟨ρ, h1, mp1, rl1, rs1, Good.mono g1 (fun _ _ q => q.fut f1) fun _ _ q => q.fut f1⟩
/-! ### arguments, displays -/
@[simp] def aNil : MA := fun _ h => .ok [] h
@[simp] def aCons (m : ME) (ms : MA) : MA := fun ρ h => (m ρ h).bind fun x h1 => (ms ρ h1).bind fun xs h2 => .ok (x :: xs) h2
variable {e : Expr} {es : List Expr} {m : ME} {ms : MA}
theorem sa_nil : SA X cl W [] aNil := paW pa_nil fun σ H Q ⟨ρ, h, mp, rl, rs, g⟩ => g [] H mp .refl rl .nil
theorem sa_cons (he : SE X cl W e m) (hr : SA X cl W es ms) (hs : starEach (e :: es) X.env = (false, eval e X.env) :: starEach es X.env := by rfl) : SA X cl W (e :: es) (aCons m ms) :=
  paW (pa_cons he hr hs) fun σ H Q ⟨ρ, h, mp, rl, rs, g⟩ => tM_bind rl rs g (fun _ _ z => z) fun x h1 V H1 mp1 f1 rl1 rs1 rv1 g1 =>
    tMA_bind rl1 rs1 g1 (fun _ _ z => z.fut f1) fun xs h2 Y H2 mp2 f2 rl2 rs2 rv2 g2 => g2 (V :: Y) H2 mp2 (f1.trans f2) rl2 (.cons (rv1.fut f2) rv2)
@[simp] def szOk (n : Nat) : Prop := n ≤ 1000000
theorem szOk.le {n : Nat} (h : szOk n) : n ≤ sizeLine := Nat.le_trans h (by decide)
instance {n : Nat} : Decidable (szOk n) := inferInstanceAs (Decidable (n ≤ 1000000))
@[simp] def eTup (ms : MA) : ME := fun ρ h => (ms ρ h).bind fun xs h1 => if szOk xs.length then .ok (.tup xs) h1 else .bad
theorem se_tup {x1} (hs : SA X cl W es ms) : SE X cl W (.Tuple es x1 pos) (eTup ms) :=
  peW (pe_tup hs) fun σ H Q ⟨ρ, h, mp, rl, rs, g⟩ => tMA_bind rl rs g (fun _ _ z => z) fun xs h1 V H1 mp1 f1 rl1 rs1 rv1 g1 => by
    split at g1
    · rename_i hz
      refine ⟨by rw [← rv1.length]; exact hz.le, fun p hp => ?_⟩
      exact g1 _ _ mp1 (f1.trans (Fut.new hp)) (rl1.new hp) (.tup (SqT.of upd_same) (rv1.fut (Fut.new hp)))
    · exact g1.elim
/-- a list just made -/
@[simp] def lDisp (ms : MA) : MA := fun ρ h => (ms ρ h).bind fun xs h1 => if szOk xs.length then .ok xs h1 else .bad
theorem newList {K : PySem.W.Frag} {mp mp1 : Mp} {H H1 : Hp} {h1 : MH} {xs : List MV} {vs : List V} {Q : VK} {p : Addr} (f1 : Fut K mp mp1 H H1) (rl1 : Rl K cl mp1 h1 H1) (rv : RVs K mp1 H1 xs vs) (hp : H1 p = none) (q : QL K cl mp H Q xs h1) : Q (.ref p) (upd H1 p (.lst vs)) := by
  have h0 : H p = none := by
    cases e : H p with
    | none => rfl
    | some o =>
      by_cases hn : ∃ n, mp n = some p
      · obtain ⟨n, hn⟩ := hn
        obtain ⟨u, _, ro⟩ := rl1.cell (f1.le n p hn)
        obtain ⟨z, hz, _⟩ := ro.some
        rw [hp] at hz; cases hz
      · have := (f1.fr p o e fun n hz => hn ⟨n, hz⟩).1
        rw [hp] at this; cases this
  refine q p vs _ mp1 (f1.trans (Fut.new hp)) (rl1.new hp) h0 (fun n hn => ?_) upd_same (rv.fut (Fut.new hp))
  obtain ⟨u, _, ro⟩ := rl1.cell hn
  obtain ⟨z, hz, _⟩ := ro.some
  rw [hp] at hz; cases hz
theorem sl_disp (hs : SA X cl W es ms) : SL X cl W (.List es pos) (lDisp ms) :=
  peW (pe_lst hs) fun σ H Q ⟨ρ, h, mp, rl, rs, g⟩ => tMA_bind rl rs g (fun _ _ z => z) fun xs h1 V H1 mp1 f1 rl1 rs1 rv1 g1 => by
    split at g1
    · rename_i hz
      exact ⟨by rw [← rv1.length]; exact hz.le, fun p hp => newList f1 rl1 rv1 hp g1⟩
    · exact g1.elim
/-- it becomes a cell -/
@[simp] def eNew (ms : MA) : ME := fun ρ h => (ms ρ h).bind fun xs h1 => .ok (.ref h1.length) (h1 ++ [.lst xs])
theorem se_new (hl : SL X cl W e ms) : SE X cl W e (eNew ms) :=
  peW hl fun σ H Q ⟨ρ, h, mp, rl, rs, g⟩ => tML_bind rl rs g (fun _ _ z => z) fun xs h1 p vs H1 mp1 f1 rl1 rs1 h0 np hp rv g1 =>
    g1 (.ref p) H1 (Mp.put mp1 h1.length p) (f1.toCell rl1 h0) (rl1.toCell np ⟨vs, hp, rv⟩) (.ref Mp.put_same)
end
end Sm

set_option Elab.async false
set_option linter.all false
set_option maxRecDepth 100000
set_option maxHeartbeats 4000000
/-! the operators -/
namespace Sm
open PySem L2
def never : MV → MH → Prop := fun _ _ => False
/-- an operation of the small machine, by values -/
def rM (K : PySem.W.Frag) (cl : Str → Option Addr) (mo : MV → MV → MH → Res MV) : R2 := fun V Y H Q => ∃ x y h mp, Rl K cl mp h H ∧ RV K mp H x V ∧ RV K mp H y Y ∧ Good (mo x y h) (QV K cl mp H Q) never
theorem rM_ok {X : Cx} {cl : Str → Option Addr} {mo : MV → MV → MH → Res MV} : Op2 X cl (rM X.K cl mo) mo := fun x y V Y H h mp Q E rl r1 r2 g ne => ⟨x, y, h, mp, rl, r1, r2, by
  cases e : mo x y h with
  | ok v h' => rw [e] at g; exact g
  | ex v h' => exact (ne v h' e).elim
  | bad => rw [e] at g; exact g⟩
/-- no exception -/
theorem noEx {α : Type} {r : Res α} (h : match r with | .ex _ _ => False | _ => True) : ∀ e h', ¬ r = .ex e h' := fun e h' z => by subst z; exact h
section
variable {X : Cx} {cl : Str → Option Addr} {W : Wsh}
/-! a new cell -/
theorem newCell {K : PySem.W.Frag} {mp : Mp} {h : MH} {H : Hp} {p : Addr} {xs : List MV} {vs : List V} (rl : Rl K cl mp h H) (hp : H p = none) (rv : RVs K mp H xs vs) :
    Fut K mp (Mp.put mp h.length p) H (upd H p (.lst vs)) ∧ Rl K cl (Mp.put mp h.length p) (h ++ [.lst xs]) (upd H p (.lst vs)) := by
  refine ⟨(Fut.new (o := .lst vs) hp).toCell (rl.new hp) hp, (rl.new hp).toCell (fun n e => ?_) ⟨vs, upd_same, rv.fut (Fut.new hp)⟩⟩
  obtain ⟨u, _, ro⟩ := rl.cell e
  obtain ⟨z, hz, _⟩ := ro.some
  rw [hp] at hz; cases hz
/-! ### arithmetic -/
def mAdd (x y : MV) (h : MH) : Res MV := match x, y with
  | .int i, .int j => .ok (.int (i + j)) h
  | .str a, .str b => if szOk (a.length + b.length) then .ok (.str (a ++ b)) h else .bad
  | .tup xs, .tup ys => if szOk (xs.length + ys.length) then .ok (.tup (xs ++ ys)) h else .bad
  | .ref n, .ref k => match h[n]?, h[k]? with
    | some (.lst xs), some (.lst ys) => if szOk (xs.length + ys.length) then .ok (.ref h.length) (h ++ [.lst (xs ++ ys)]) else .bad
    | _, _ => .bad
  | _, _ => .bad
theorem catT {K : PySem.W.Frag} {mp : Mp} {h : MH} {H : Hp} {a b : Addr} {xs ys : List MV} {vs ws : List V} {Q : VK} (rl : Rl K cl mp h H) (h1 : TpA K H a vs) (r1 : RVs K mp H xs vs) (h2 : TpA K H b ws) (r2 : RVs K mp H ys ws) (hz : szOk (xs.length + ys.length))
    (q : QV K cl mp H Q (.tup (xs ++ ys)) h) : rCatA K (.ref a) (.ref b) H Q := by
  refine ⟨a, b, vs, ws, rfl, rfl, h1, h2, by rw [← r1.length, ← r2.length]; exact hz.le, fun e => ?_, fun _ e => ?_, fun _ _ p hp => ?_⟩
  · subst e
    cases r1
    exact q _ H mp .refl rl (.tup h2 r2)
  · subst e
    cases r2
    rw [List.append_nil] at q
    exact q _ H mp .refl rl (.tup h1 r1)
  · exact q _ _ mp (Fut.new hp) (rl.new hp) (.tup (SqT.of upd_same) ((r1.append r2).fut (Fut.new hp)))
theorem op_addM : OpR X (binaryOp .Add) (rM X.K cl mAdd) := by
  intro pins s σ H V Y v u Q I rx ry ⟨x, y, h, mp, rl, r1, r2, g⟩
  cases r1 with
  | int i =>
    cases r2 with
    | int j => exact op_add pins s σ H _ _ v u Q I rx ry ⟨i, j, rfl, rfl, g _ H mp .refl rl (.int _)⟩
    | _ => exact g.elim
  | str a =>
    cases r2 with
    | str b =>
      unfold mAdd at g
      dsimp only at g
      split at g
      · rename_i hz
        exact op_add_str pins s σ H _ _ v u Q I rx ry ⟨a, b, rfl, rfl, hz.le, g _ H mp .refl rl (.str _)⟩
      · exact g.elim
    | _ => exact g.elim
  | tup h1 q1 =>
    cases r2 with
    | tup h2 q2 =>
      unfold mAdd at g
      dsimp only at g
      split at g
      · rename_i hz
        exact op_catA pins s σ H _ _ v u Q I rx ry (catT rl h1 q1 h2 q2 hz g)
      · exact g.elim
    | _ => exact g.elim
  | @ref n a e1 =>
    cases r2 with
    | @ref k b e2 =>
      unfold mAdd at g
      dsimp only at g
      split at g
      · rename_i xs ys c1 c2
        split at g
        · rename_i hz
          obtain ⟨vs, h1, q1⟩ := rl.obj n _ a c1 e1
          obtain ⟨ws, h2, q2⟩ := rl.obj k _ b c2 e2
          refine op_cat pins s σ H _ _ v u Q I rx ry ⟨a, b, vs, ws, rfl, rfl, h1, h2, by rw [← q1.length, ← q2.length]; exact hz.le, fun p hp => ?_⟩
          obtain ⟨f, rl'⟩ := newCell rl hp (q1.append q2)
          exact g _ _ _ f rl' (.ref Mp.put_same)
        · exact g.elim
      · exact g.elim
    | _ => exact g.elim
  | _ => exact g.elim
def mSub (x y : MV) (h : MH) : Res MV := match x, y with | .int i, .int j => .ok (.int (i - j)) h | _, _ => .bad
theorem op_subM : OpR X (binaryOp .Sub) (rM X.K cl mSub) := by
  intro pins s σ H V Y v u Q I rx ry ⟨x, y, h, mp, rl, r1, r2, g⟩
  cases r1 with
  | int i =>
    cases r2 with
    | int j => exact op_sub pins s σ H _ _ v u Q I rx ry ⟨i, j, rfl, rfl, g _ H mp .refl rl (.int _)⟩
    | _ => exact g.elim
  | _ => exact g.elim
/-- a great number's line -/
def lowI (i : Int) : Prop := i.natAbs < 18446744073709551616
instance {i : Int} : Decidable (lowI i) := inferInstanceAs (Decidable (_ < _))
theorem lowI.to {i : Int} (h : lowI i) : -(2 ^ 64) < i ∧ i < 2 ^ 64 := by unfold lowI at h; omega
instance {x : Str} {n : Int} : Decidable (MulOk x n) := inferInstanceAs (Decidable (_ ∧ _))
def mMul (x y : MV) (h : MH) : Res MV := match x, y with
  | .int i, .int j => if lowI i ∨ lowI j then .ok (.int (i * j)) h else .bad
  | .str a, .int n => if MulOk a n then .ok (.str (Txt.mul a n)) h else .bad
  | .ref p, .int n => match h[p]? with
    | some (.lst xs) => if 0 ≤ n ∧ n < 4611686018427387904 ∧ szOk (xs.length * n.toNat) then .ok (.ref h.length) (h ++ [.lst (List.replicate n.toNat xs).flatten]) else .bad
    | _ => .bad
  | _, _ => .bad
theorem RVs.rep {K : PySem.W.Frag} {mp : Mp} {H : Hp} {xs : List MV} {vs : List V} (r : RVs K mp H xs vs) : ∀ n : Nat, RVs K mp H (List.replicate n xs).flatten (List.replicate n vs).flatten
  | 0 => .nil
  | n + 1 => by
    rw [List.replicate_succ, List.replicate_succ, List.flatten_cons, List.flatten_cons]
    exact r.append (r.rep n)
theorem op_mulS : OpR X (binaryOp .Mult) (fun x y H Q => ∃ i n, x = .str i ∧ y = .int n ∧ MulOk i n ∧ Q (.str (Txt.mul i n)) H) := by
  intro pins s σ H x y v u Q I rx ry h
  obtain ⟨i, n, rfl, rfl, hm, q⟩ := h
  obtain ⟨t, rfl⟩ := rx
  obtain ⟨t', rfl⟩ := ry
  exact SB.mul hm fun t' tk => ⟨.str (Txt.mul i n), H, I.tok _, ⟨_, rfl⟩, q⟩
theorem op_mulM : OpR X (binaryOp .Mult) (rM X.K cl mMul) := by
  intro pins s σ H V Y v u Q I rx ry ⟨x, y, h, mp, rl, r1, r2, g⟩
  cases r1 with
  | int i =>
    cases r2 with
    | int j =>
      unfold mMul at g
      dsimp only at g
      split at g
      · rename_i hz
        exact op_mul pins s σ H _ _ v u Q I rx ry ⟨i, j, rfl, rfl, hz.elim (fun z => .inl z.to) (fun z => .inr z.to), g _ H mp .refl rl (.int _)⟩
      · exact g.elim
    | _ => exact g.elim
  | str a =>
    cases r2 with
    | int j =>
      unfold mMul at g
      dsimp only at g
      split at g
      · rename_i hz
        exact op_mulS pins s σ H _ _ v u Q I rx ry ⟨a, j, rfl, rfl, hz, g _ H mp .refl rl (.str _)⟩
      · exact g.elim
    | _ => exact g.elim
  | @ref n a e1 =>
    cases r2 with
    | int j =>
      unfold mMul at g
      dsimp only at g
      split at g
      · rename_i xs c1
        split at g
        · rename_i hz
          obtain ⟨vs, h1, q1⟩ := rl.obj n _ a c1 e1
          refine op_rep pins s σ H _ _ v u Q I rx ry ⟨a, j, vs, rfl, rfl, h1, by omega, by omega, by rw [← q1.length]; exact hz.2.2.le, fun p hp => ?_⟩
          obtain ⟨f, rl'⟩ := newCell rl hp (q1.rep j.toNat)
          exact g _ _ _ f rl' (.ref Mp.put_same)
        · exact g.elim
      · exact g.elim
    | _ => exact g.elim
  | _ => exact g.elim
def mMod (x y : MV) (h : MH) : Res MV := match x, y with | .int i, .int j => if 0 < j then .ok (.int (i % j)) h else .bad | _, _ => .bad
theorem op_modM : OpR X (binaryOp .Mod) (rM X.K cl mMod) := by
  intro pins s σ H V Y v u Q I rx ry ⟨x, y, h, mp, rl, r1, r2, g⟩
  cases r1 with
  | int i =>
    cases r2 with
    | int j =>
      unfold mMod at g
      dsimp only at g
      split at g
      · rename_i hz
        exact op_mod pins s σ H _ _ v u Q I rx ry ⟨i, j, rfl, rfl, hz, g _ H mp .refl rl (.int _)⟩
      · exact g.elim
    | _ => exact g.elim
  | _ => exact g.elim
def mDiv (x y : MV) (h : MH) : Res MV := match x, y with | .int i, .int j => if 0 < j ∧ j < 1073741824 then .ok (.int (i / j)) h else .bad | _, _ => .bad
theorem op_divM : OpR X (binaryOp .FloorDiv) (rM X.K cl mDiv) := by
  intro pins s σ H V Y v u Q I rx ry ⟨x, y, h, mp, rl, r1, r2, g⟩
  cases r1 with
  | int i =>
    cases r2 with
    | int j =>
      unfold mDiv at g
      dsimp only at g
      split at g
      · rename_i hz
        exact op_fdiv pins s σ H _ _ v u Q I rx ry ⟨i, j, rfl, rfl, hz, g _ H mp .refl rl (.int _)⟩
      · exact g.elim
    | _ => exact g.elim
  | _ => exact g.elim
def mPow (x y : MV) (h : MH) : Res MV := match x, y with | .int i, .int j => if 0 ≤ j ∧ j ≤ 1000 ∧ lowI i then .ok (.int (i ^ j.toNat)) h else .bad | _, _ => .bad
theorem op_powM : OpR X (binaryOp .Pow) (rM X.K cl mPow) := by
  intro pins s σ H V Y v u Q I rx ry ⟨x, y, h, mp, rl, r1, r2, g⟩
  cases r1 with
  | int i =>
    cases r2 with
    | int j =>
      unfold mPow at g
      dsimp only at g
      split at g
      · rename_i hz
        exact op_pow pins s σ H _ _ v u Q I rx ry ⟨i, j, rfl, rfl, ⟨hz.1, by omega, by have := hz.2.2; unfold lowI at this; omega⟩, g _ H mp .refl rl (.int _)⟩
      · exact g.elim
    | _ => exact g.elim
  | _ => exact g.elim
/-! ### comparisons -/
def mLt (x y : MV) (h : MH) : Res MV := match x, y with | .int i, .int j => .ok (.bl (decide (i < j))) h | .str i, .str j => .ok (.bl (decide (i.cps.toList < j.cps.toList))) h | _, _ => .bad
def mLe (x y : MV) (h : MH) : Res MV := match x, y with | .int i, .int j => .ok (.bl (decide (i ≤ j))) h | _, _ => .bad
def mGt (x y : MV) (h : MH) : Res MV := match x, y with | .int i, .int j => .ok (.bl (decide (j < i))) h | _, _ => .bad
def mGe (x y : MV) (h : MH) : Res MV := match x, y with | .int i, .int j => .ok (.bl (decide (j ≤ i))) h | _, _ => .bad
theorem op_ltM : OpR X (compareOp .Lt) (rM X.K cl mLt) := by
  intro pins s σ H V Y v u Q I rx ry ⟨x, y, h, mp, rl, r1, r2, g⟩
  cases r1 with
  | int i =>
    cases r2 with
    | int j => exact op_lt pins s σ H _ _ v u Q I rx ry ⟨i, j, rfl, rfl, g _ H mp .refl rl (.bl _)⟩
    | _ => exact g.elim
  | str i =>
    cases r2 with
    | str j => exact op_lt_str pins s σ H _ _ v u Q I rx ry ⟨i, j, rfl, rfl, g _ H mp .refl rl (.bl _)⟩
    | _ => exact g.elim
  | _ => exact g.elim
theorem op_leM : OpR X (compareOp .LtE) (rM X.K cl mLe) := by
  intro pins s σ H V Y v u Q I rx ry ⟨x, y, h, mp, rl, r1, r2, g⟩
  cases r1 with
  | int i =>
    cases r2 with
    | int j => exact op_le pins s σ H _ _ v u Q I rx ry ⟨i, j, rfl, rfl, g _ H mp .refl rl (.bl _)⟩
    | _ => exact g.elim
  | _ => exact g.elim
theorem op_gtM : OpR X (compareOp .Gt) (rM X.K cl mGt) := by
  intro pins s σ H V Y v u Q I rx ry ⟨x, y, h, mp, rl, r1, r2, g⟩
  cases r1 with
  | int i =>
    cases r2 with
    | int j => exact op_gt pins s σ H _ _ v u Q I rx ry ⟨i, j, rfl, rfl, g _ H mp .refl rl (.bl _)⟩
    | _ => exact g.elim
  | _ => exact g.elim
theorem op_geM : OpR X (compareOp .GtE) (rM X.K cl mGe) := by
  intro pins s σ H V Y v u Q I rx ry ⟨x, y, h, mp, rl, r1, r2, g⟩
  cases r1 with
  | int i =>
    cases r2 with
    | int j => exact op_ge pins s σ H _ _ v u Q I rx ry ⟨i, j, rfl, rfl, g _ H mp .refl rl (.bl _)⟩
    | _ => exact g.elim
  | _ => exact g.elim
/-- == of scalars -/
def scalM : MV → MV → Option Bool
  | .non, .non => some true | .non, .int _ => some false | .int _, .non => some false | .non, .bl _ => some false | .bl _, .non => some false | .non, .str _ => some false | .str _, .non => some false
  | .int i, .int j => some (decide (i = j)) | .bl i, .bl j => some (decide (i = j)) | .str i, .str j => some (decide (i = j))
  | .int _, .str _ => some false | .str _, .int _ => some false | .bl _, .str _ => some false | .str _, .bl _ => some false
  | _, _ => none
/-- as data -/
def pdv (h : MH) : Nat → MV → Option PyData
  | 0, _ => none
  | _ + 1, .non => some .none
  | _ + 1, .bl b => some (.bool b)
  | _ + 1, .int i => some (.int i)
  | _ + 1, .str x => some (.str x)
  | n + 1, .tup xs => (xs.mapM (pdv h n)).map PyData.tuple
  | n + 1, .ref k => match h[k]? with | some (.lst xs) => (xs.mapM (pdv h n)).map PyData.list | _ => none
  | _ + 1, .scr _ => none
  | n + 1, .tux xs => (xs.mapM (pdv h n)).map PyData.tuple
  | _ + 1, .fdc _ _ => none
  | _ + 1, .exn _ _ _ => none
def mEqB (x y : MV) (h : MH) : Option Bool := match scalM x y with
  | some b => some b
  | none => match pdv h 60 x, pdv h 60 y with
    | some d, some e => if SeqAt.shaped d && SeqAt.shaped e then some (PyData.eqv d e) else none
    | _, _ => none
def mEq (x y : MV) (h : MH) : Res MV := match mEqB x y h with | some b => .ok (.bl b) h | none => .bad
def mNe (x y : MV) (h : MH) : Res MV := match mEqB x y h with | some b => .ok (.bl (!b)) h | none => .bad
theorem pdv_dp {K : PySem.W.Frag} {mp : Mp} {h : MH} {H : Hp} (rl : Rl K cl mp h H) : ∀ (n : Nat) {x : MV} {V : L2.V} {d : PyData}, RV K mp H x V → pdv h n x = some d → Dp K H V d := by
  intro n
  induction n with
  | zero => intro x V d _ e; simp [pdv] at e
  | succ n ih =>
    have all : ∀ {xs : List MV} {vs : List V} {ds : List PyData}, RVs K mp H xs vs → xs.mapM (pdv h n) = some ds → DpAll K H vs ds := by
      intro xs
      induction xs with
      | nil => intro vs ds r e; cases r; simp at e; subst e; exact .nil
      | cons x xs ih2 =>
        intro vs ds r e
        cases r with
        | cons r t =>
          rw [List.mapM_cons] at e
          simp only [Option.bind_eq_bind, Option.pure_def, Option.bind_eq_some_iff] at e
          obtain ⟨d, e1, ds', e2, e3⟩ := e
          have := Option.some.inj e3
          subst this
          exact .cons (ih r e1) (ih2 t e2)
    intro x V d r e
    cases r with
    | non => simp only [pdv] at e; cases e; exact .non
    | bl b => simp only [pdv] at e; cases e; exact .bl b
    | int b => simp only [pdv] at e; cases e; exact .int b
    | str b => simp only [pdv] at e; cases e; exact .str b
    | tup h1 r1 =>
      simp only [pdv, Option.map_eq_some_iff] at e
      obtain ⟨ds, e1, e2⟩ := e
      subst e2
      exact .tup h1 (all r1 e1)
    | @ref k a e1 =>
      simp only [pdv] at e
      split at e
      · rename_i xs c
        simp only [Option.map_eq_some_iff] at e
        obtain ⟨ds, e2, e3⟩ := e
        subst e3
        obtain ⟨vs, h1, r1⟩ := rl.obj k _ a c e1
        exact .lst (SqL.of h1) (all r1 e2)
      · cases e
    | scr h1 r1 => simp only [pdv] at e; cases e
    | fdc h1 l r1 => simp only [pdv] at e; cases e
    | tux h1 r1 =>
      simp only [pdv, Option.map_eq_some_iff] at e
      obtain ⟨ds, e1, e2⟩ := e
      subst e2
      exact .tup h1.tp (all r1 e1)
theorem scal_ok {K : PySem.W.Frag} {mp : Mp} {H : Hp} {x y : MV} {V Y : L2.V} {b : Bool} (r1 : RV K mp H x V) (r2 : RV K mp H y Y) (e : scalM x y = some b) : scal V Y = true ∧ decide (V = Y) = b := by
  cases r1 <;> cases r2 <;> simp [scalM] at e <;> subst e <;> simp [scal]
theorem mEqB_ok {K : PySem.W.Frag} {mp : Mp} {h : MH} {H : Hp} {x y : MV} {V Y : L2.V} {b : Bool} (rl : Rl K cl mp h H) (r1 : RV K mp H x V) (r2 : RV K mp H y Y) (e : mEqB x y h = some b) :
    (scal V Y = true ∧ decide (V = Y) = b) ∨ ∃ d e, Dp K H V d ∧ Dp K H Y e ∧ SeqAt.shaped d = true ∧ SeqAt.shaped e = true ∧ PyData.eqv d e = b := by
  unfold mEqB at e
  split at e
  · rename_i b' es
    have := Option.some.inj e
    subst this
    exact .inl (scal_ok r1 r2 es)
  · split at e
    · rename_i d e' h1 h2
      split at e
      · rename_i hs
        rw [Bool.and_eq_true] at hs
        exact .inr ⟨d, e', pdv_dp rl _ r1 h1, pdv_dp rl _ r2 h2, hs.1, hs.2, Option.some.inj e⟩
      · cases e
    · cases e
theorem op_eqM (hu : X.A.units + 64 < cLine) : OpR X (compareOp .Eq) (rM X.K cl mEq) := by
  intro pins s σ H V Y v u Q I rx ry ⟨x, y, h, mp, rl, r1, r2, g⟩
  unfold mEq at g
  split at g
  · rename_i b e
    have q : Q (.bl b) H := g _ H mp .refl rl (.bl b)
    rcases mEqB_ok rl r1 r2 e with ⟨h1, h2⟩ | ⟨d, e', h1, h2, h3, h4, h5⟩
    · exact op_eq pins s σ H _ _ v u Q I rx ry ⟨h1, by rw [h2]; exact q⟩
    · exact op_eqD hu pins s σ H _ _ v u Q I rx ry ⟨d, e', h1, h2, h3, h4, by rw [h5]; exact q⟩
  · exact g.elim
theorem op_neM (hu : X.A.units + 64 < cLine) : OpR X (compareOp .NotEq) (rM X.K cl mNe) := by
  intro pins s σ H V Y v u Q I rx ry ⟨x, y, h, mp, rl, r1, r2, g⟩
  unfold mNe at g
  split at g
  · rename_i b e
    have q : Q (.bl (!b)) H := g _ H mp .refl rl (.bl _)
    rcases mEqB_ok rl r1 r2 e with ⟨h1, h2⟩ | ⟨d, e', h1, h2, h3, h4, h5⟩
    · exact op_ne pins s σ H _ _ v u Q I rx ry ⟨h1, by rw [h2]; exact q⟩
    · exact op_neD hu pins s σ H _ _ v u Q I rx ry ⟨d, e', h1, h2, h3, h4, by rw [h5]; exact q⟩
  · exact g.elim
/-- x is None -/
def noneM : MV → Bool | .non => true | _ => false
def mIs (x y : MV) (h : MH) : Res MV := match y with | .non => .ok (.bl (noneM x)) h | _ => .bad
def mIsNot (x y : MV) (h : MH) : Res MV := match y with | .non => .ok (.bl (!noneM x)) h | _ => .bad
theorem noneM_ok {K : PySem.W.Frag} {mp : Mp} {H : Hp} {x : MV} {V : L2.V} (r : RV K mp H x V) : decide (V = .non) = noneM x := by cases r <;> simp [noneM]
theorem op_isM : OpR X (compareOp .Is) (rM X.K cl mIs) := by
  intro pins s σ H V Y v u Q I rx ry ⟨x, y, h, mp, rl, r1, r2, g⟩
  cases r2 with
  | non => exact op_isN pins s σ H _ _ v u Q I rx ry ⟨rfl, by rw [noneM_ok r1]; exact g _ H mp .refl rl (.bl _)⟩
  | _ => exact g.elim
theorem op_isNotM : OpR X (compareOp .IsNot) (rM X.K cl mIsNot) := by
  intro pins s σ H V Y v u Q I rx ry ⟨x, y, h, mp, rl, r1, r2, g⟩
  cases r2 with
  | non => exact op_notN pins s σ H _ _ v u Q I rx ry ⟨rfl, by rw [noneM_ok r1]; exact g _ H mp .refl rl (.bl _)⟩
  | _ => exact g.elim
/-! ### in -/
def flatM : MV → Bool | .non => true | .bl _ => true | .int _ => true | .str _ => true | _ => false
def eqM : MV → MV → Bool
  | .non, .non => true
  | .bl a, .bl b => a == b
  | .bl a, .int b => (if a then 1 else 0) == b
  | .int a, .bl b => a == (if b then 1 else 0)
  | .int a, .int b => a == b
  | .str a, .str b => a == b
  | _, _ => false
theorem flat_ok {K : PySem.W.Frag} {mp : Mp} {H : Hp} {x : MV} {V : L2.V} (r : RV K mp H x V) : flatV V = flatM x := by cases r <;> rfl
theorem eqM_ok {K : PySem.W.Frag} {mp : Mp} {H : Hp} {x y : MV} {V Y : L2.V} (r : RV K mp H x V) (q : RV K mp H y Y) : eqV V Y = eqM x y := by cases r <;> cases q <;> rfl
theorem flats_ok {K : PySem.W.Frag} {mp : Mp} {H : Hp} : ∀ {xs : List MV} {vs : List V}, RVs K mp H xs vs → vs.all flatV = xs.all flatM
  | _, _, .nil => rfl
  | _, _, .cons r t => by rw [List.all_cons, List.all_cons, flat_ok r, flats_ok t]
theorem anyEq_ok {K : PySem.W.Frag} {mp : Mp} {H : Hp} {x : MV} {V : L2.V} (q : RV K mp H x V) : ∀ {xs : List MV} {vs : List L2.V}, RVs K mp H xs vs → inV V vs = xs.any fun y => eqM y x
  | _, _, .nil => rfl
  | _, _, .cons r t => by
    have := anyEq_ok q t
    unfold inV at this ⊢
    rw [List.any_cons, List.any_cons, eqM_ok r q, this]
def keyOf : MV → Option Key | .int i => some (.inl i) | .str x => some (.inr x) | _ => none
theorem keyOf_ok {K : PySem.W.Frag} {mp : Mp} {H : Hp} {x : MV} {V : L2.V} {k : Key} (r : RV K mp H x V) (e : keyOf x = some k) : V = kV k := by
  cases r <;> simp [keyOf] at e <;> subst e <;> rfl
def valM (kvs : List (Key × MV)) (k : Key) : Option MV := (kvs.find? fun kv => decide (kv.1 = k)).map (·.2)
theorem val_ok {K : PySem.W.Frag} {mp : Mp} {H : Hp} {k : Key} : ∀ {fs : List (Key × MV)} {vs : List (Key × V)}, RFs K mp H fs vs → (valM fs k = none ∧ valV vs k = none) ∨ ∃ x v, valM fs k = some x ∧ valV vs k = some v ∧ RV K mp H x v
  | [], vs, r => by
    have : vs = [] := by have := r.1; cases vs with | nil => rfl | cons _ _ => simp at this
    subst this
    exact .inl ⟨rfl, rfl⟩
  | (k1, x) :: fs, vs, r => by
    cases vs with
    | nil => have := r.1; simp at this
    | cons v vs =>
      obtain ⟨k2, v⟩ := v
      obtain ⟨e, t⟩ := r
      simp only [List.map_cons, List.cons.injEq] at e t
      obtain ⟨rfl, e⟩ := e
      cases t with
      | cons t1 t2 =>
        by_cases hk : k1 = k
        · exact .inr ⟨x, v, by simp [valM, hk], by simp [valV, hk], t1⟩
        · rcases val_ok (k := k) (fs := fs) (vs := vs) ⟨e, t2⟩ with ⟨a, b⟩ | ⟨y, w, a, b, c⟩
          · exact .inl ⟨by simp only [valM, List.find?_cons, hk, decide_false] at a ⊢; exact a, by simp only [valV, List.find?_cons, hk, decide_false] at b ⊢; exact b⟩
          · exact .inr ⟨y, w, by simp only [valM, List.find?_cons, hk, decide_false] at a ⊢; exact a, by simp only [valV, List.find?_cons, hk, decide_false] at b ⊢; exact b, c⟩
theorem fdc_rf {K : PySem.W.Frag} {mp : Mp} {H : Hp} {ks : List Key} {xs : List MV} {vs : List V} (l : ks.length = vs.length) (r : RVs K mp H xs vs) : RFs K mp H (ks.zip xs) (ks.zip vs) := by
  have l2 := r.length
  refine ⟨?_, ?_⟩
  · rw [List.map_fst_zip (by omega), List.map_fst_zip (by omega)]
  · rw [List.map_snd_zip (by omega), List.map_snd_zip (by omega)]; exact r
theorem DGet.f {H : Hp} {a : Addr} {kvs : List (Key × V)} {k : Key} (e : DcF H a kvs) : DGet H a (kV k) (valV kvs k) := by
  obtain ⟨o, e, _⟩ := e
  exact .inl ⟨kvs, k, .inr ⟨o, e⟩, rfl, rfl⟩
/-- x in y, as a truth -/
def mInB (x y : MV) (h : MH) : Option Bool := match y with
  | .fdc ks xs => match keyOf x with | some k => some (valM (ks.zip xs) k).isSome | none => none
  | .str z => match x with | .str w => some (!(Builtin.Str.occurrences z w 0 z.length 1).isEmpty) | _ => none
  | .tup ys => if flatM x && ys.all flatM then some (ys.any fun y => eqM y x) else none
  | .ref n => match h[n]? with
    | some (.lst ys) => if flatM x && ys.all flatM then some (ys.any fun y => eqM y x) else none
    | some (.dct kvs) => match keyOf x with | some k => some (valM kvs k).isSome | none => none
    | _ => none
  | _ => none
def mIn (x y : MV) (h : MH) : Res MV := match mInB x y h with | some b => .ok (.bl b) h | none => .bad
def mNotIn (x y : MV) (h : MH) : Res MV := match mInB x y h with | some b => .ok (.bl (!b)) h | none => .bad
theorem op_din (hu : X.A.units + 1 < cLine) : OpR X (compareOp .In) (fun y x H Q => ∃ a o, x = .ref a ∧ DGet H a y o ∧ Q (.bl o.isSome) H) := by
  intro pins s σ H y x iv u Q I ry rx ⟨a, o, ex, g, q⟩
  subst ex
  obtain rfl : u = Value.ref a := rx
  exact d_in hu I g ry fun s3 I3 => ⟨.bl o.isSome, H, I3, rfl, q⟩
theorem op_dnotin (hu : X.A.units + 1 < cLine) : OpR X (compareOp .NotIn) (fun y x H Q => ∃ a o, x = .ref a ∧ DGet H a y o ∧ Q (.bl (!o.isSome)) H) := by
  intro pins s σ H y x iv u Q I ry rx ⟨a, o, ex, g, q⟩
  subst ex
  obtain rfl : u = Value.ref a := rx
  exact d_notIn hu I g ry fun s3 I3 => ⟨.bl (!o.isSome), H, I3, rfl, q⟩
theorem mInB_ok {K : PySem.W.Frag} {mp : Mp} {h : MH} {H : Hp} {x y : MV} {V Y : L2.V} {b : Bool} (rl : Rl K cl mp h H) (r1 : RV K mp H x V) (r2 : RV K mp H y Y) (e : mInB x y h = some b) :
    (∃ i j, V = .str i ∧ Y = .str j ∧ (!(Builtin.Str.occurrences j i 0 j.length 1).isEmpty) = b) ∨ (∃ p xs, Y = .ref p ∧ (SqL K H p xs ∨ SqT K H p xs) ∧ flatV V = true ∧ xs.all flatV = true ∧ inV V xs = b) ∨ ∃ a o, Y = .ref a ∧ DGet H a V o ∧ o.isSome = b := by
  have seq : ∀ {p : Addr} {xs : List MV} {vs : List L2.V}, Y = .ref p → (SqL K H p vs ∨ SqT K H p vs) → RVs K mp H xs vs → (if flatM x && xs.all flatM then some (xs.any fun y => eqM y x) else none) = some b →
      ∃ p xs, Y = .ref p ∧ (SqL K H p xs ∨ SqT K H p xs) ∧ flatV V = true ∧ xs.all flatV = true ∧ inV V xs = b := fun {p xs vs} ey hs r e => by
    split at e
    · rename_i hf
      rw [Bool.and_eq_true] at hf
      exact ⟨p, vs, ey, hs, by rw [flat_ok r1]; exact hf.1, by rw [flats_ok r]; exact hf.2, by rw [anyEq_ok r1 r]; exact Option.some.inj e⟩
    · cases e
  cases r2 with
  | str z =>
    cases r1 with
    | str w => exact .inl ⟨w, z, rfl, rfl, Option.some.inj e⟩
    | _ => simp [mInB] at e
  | tup h2 q2 => exact .inr (.inl (seq rfl (.inr h2) q2 e))
  | @fdc ks xs vs a h2 l q2 =>
    unfold mInB at e
    dsimp only at e
    split at e
    · rename_i k hk
      have ek := keyOf_ok r1 hk
      subst ek
      refine .inr (.inr ⟨a, _, rfl, DGet.f h2, ?_⟩)
      rw [← Option.some.inj e]
      rcases val_ok (k := k) (fdc_rf l q2) with ⟨z1, z2⟩ | ⟨_, _, z1, z2, _⟩ <;> rw [z1, z2] <;> rfl
    · cases e
  | @ref n a e2 =>
    unfold mInB at e
    dsimp only at e
    split at e
    · rename_i ys c
      obtain ⟨vs, h1, q1⟩ := rl.obj n _ a c e2
      exact .inr (.inl (seq rfl (.inl (SqL.of h1)) q1 e))
    · rename_i kvs c
      split at e
      · rename_i k hk
        obtain ⟨vs, h1, q1⟩ := rl.obj n _ a c e2
        have ek := keyOf_ok r1 hk
        subst ek
        refine .inr (.inr ⟨a, _, rfl, DGet.k h1, ?_⟩)
        rw [← Option.some.inj e]
        rcases val_ok (k := k) q1 with ⟨z1, z2⟩ | ⟨_, _, z1, z2, _⟩ <;> rw [z1, z2] <;> rfl
      · cases e
    · cases e
  | _ => simp [mInB] at e
theorem op_inM (hu : X.A.units + 1 < cLine) : OpR X (compareOp .In) (rM X.K cl mIn) := by
  intro pins s σ H V Y v u Q I rx ry ⟨x, y, h, mp, rl, r1, r2, g⟩
  unfold mIn at g
  split at g
  · rename_i b e
    have q : Q (.bl b) H := g _ H mp .refl rl (.bl b)
    rcases mInB_ok rl r1 r2 e with ⟨i, j, h1, h2, h3⟩ | ⟨p, xs, h1, h2, h3, h4, h5⟩ | ⟨a, o, h1, h2, h3⟩
    · exact op_in_str pins s σ H _ _ v u Q I rx ry ⟨i, j, h1, h2, by rw [h3]; exact q⟩
    · exact op_in_seq pins s σ H _ _ v u Q I rx ry ⟨p, xs, h1, h2, h3, h4, by rw [h5]; exact q⟩
    · exact op_din hu pins s σ H _ _ v u Q I rx ry ⟨a, o, h1, h2, by rw [h3]; exact q⟩
  · exact g.elim
theorem op_notInM (hu : X.A.units + 1 < cLine) : OpR X (compareOp .NotIn) (rM X.K cl mNotIn) := by
  intro pins s σ H V Y v u Q I rx ry ⟨x, y, h, mp, rl, r1, r2, g⟩
  unfold mNotIn at g
  split at g
  · rename_i b e
    have q : Q (.bl (!b)) H := g _ H mp .refl rl (.bl _)
    rcases mInB_ok rl r1 r2 e with ⟨i, j, h1, h2, h3⟩ | ⟨p, xs, h1, h2, h3, h4, h5⟩ | ⟨a, o, h1, h2, h3⟩
    · exact op_notin_str pins s σ H _ _ v u Q I rx ry ⟨i, j, h1, h2, by rw [h3]; exact q⟩
    · exact op_notIn_seq pins s σ H _ _ v u Q I rx ry ⟨p, xs, h1, h2, h3, h4, by rw [h5]; exact q⟩
    · exact op_dnotin hu pins s σ H _ _ v u Q I rx ry ⟨a, o, h1, h2, by rw [h3]; exact q⟩
  · exact g.elim
end
end Sm

set_option Elab.async false
set_option linter.all false
set_option maxRecDepth 100000
set_option maxHeartbeats 4000000
/-! subscripts, slices, built-ins, methods, fields, calls -/
namespace Sm
open PySem PySem.Spec PyProof.Rows L2
section
variable {X : Cx} {cl : Str → Option Addr} {W : Wsh} {a b c e o : Expr} {es : List Expr} {ma mb mc m : ME} {ms : MA} {pos apos cpos p2 : Pos}
/-! ### subscripts -/
theorem atI_ok {K : PySem.W.Frag} {mp : Mp} {H : Hp} {xs : List MV} {vs : List L2.V} {i : Int} {x : MV} (r : RVs K mp H xs vs) (e : atI xs i = some x) : ∃ v, atI vs i = some v ∧ RV K mp H x v := by
  unfold atI at e ⊢
  rw [← r.length]
  cases h : ixN xs.length i with
  | none => rw [h] at e; cases e
  | some j =>
    rw [h] at e
    obtain ⟨v, h1, h2⟩ := r.get (i := j) (x := x) (by simpa using e)
    exact ⟨v, by simpa using h1, h2⟩
@[simp] def optR (o : Option MV) (h : MH) : Res MV := match o with | some v => .ok v h | none => .bad
def ixL (xs : List MV) (y : MV) (h : MH) : Res MV := match y with | .int i => optR (atI xs i) h | _ => .bad
def ixS (z : Str) (y : MV) (h : MH) : Res MV := match y with | .int i => if szOk z.length then optR ((atI z.cps.toList i).map fun c => .str ⟨#[c]⟩) h else .bad | _ => .bad
def ixD (kvs : List (Key × MV)) (y : MV) (h : MH) : Res MV := match keyOf y with | some k => optR (valM kvs k) h | none => .bad
def mIx (x y : MV) (h : MH) : Res MV := match x with
  | .tup xs => ixL xs y h
  | .str z => ixS z y h
  | .scr xs => ixL xs y h
  | .ref n => match h[n]? with
    | some (.lst xs) => ixL xs y h
    | some (.dct kvs) => ixD kvs y h
    | _ => .bad
  | .fdc ks xs => ixD (ks.zip xs) y h
  | _ => .bad
theorem ix_dict (hu : X.A.units + 1 < cLine) : IxR X (fun x y H Q => ∃ a v, x = .ref a ∧ DGet H a y (some v) ∧ Q v H) := by
  intro value slice pins s σ H x y v u Q I rx ry h hs
  obtain ⟨a, w, rfl, g, q⟩ := h
  obtain rfl : v = Value.ref a := rx
  have hT := dict_typeIs I g
  unfold subscriptTail
  refine wpAny_bind ?_
  rw [getitemInPython_of_ne hT.not_modules]
  refine wpAny_bind (wpAny_specialOf hT PySem.F.slot_dict_getitem.lookup ?_)
  have fin : wpAny (model X.prog X.w) X.A (subscripted slice false (.ref a) u) (fun r s₃ => wpAny (model X.prog X.w) X.A (letTemporaryGo value (.ref a) r >>= fun _ => pure r) (EP X pins σ Q) X.xe s₃) X.xe s := by
    rw [hs]
    exact wpAny_operating (thn (d_getItem hu I g ry fun w' s3 I3 rw' => (⟨w, H, I3, rw', q⟩ : EP X pins σ Q w' s3)) fun r s₃ h₃ => wpAny_bind (wpAny_letTemporaryGo (wpAny_pure h₃)))
  first
    | exact wpAny_pure (wpAny_bind fin)
    | exact wpAny_bind fin
theorem optR_ok {K : PySem.W.Frag} {mp : Mp} {h : MH} {H : Hp} {Q : VK} {o : Option MV} (g : Good (optR o h) (QV K cl mp H Q) never) : ∃ v, o = some v ∧ QV K cl mp H Q v h := by
  cases o with
  | none => exact False.elim g
  | some v => exact ⟨v, rfl, g⟩
theorem ixL_ok {K : PySem.W.Frag} {mp : Mp} {h : MH} {H : Hp} {Q : VK} {xs : List MV} {vs : List L2.V} {y : MV} {Y : L2.V} (rl : Rl K cl mp h H) (q1 : RVs K mp H xs vs) (r2 : RV K mp H y Y) (g : Good (ixL xs y h) (QV K cl mp H Q) never) : ∃ i v, Y = .int i ∧ atI vs i = some v ∧ Q v H := by
  cases r2 with
  | int i =>
    obtain ⟨w, ew, q⟩ := optR_ok g
    obtain ⟨z, e1, e2⟩ := atI_ok q1 ew
    exact ⟨i, z, rfl, e1, q _ H mp .refl rl e2⟩
  | _ => exact False.elim g
theorem ixM (hu : X.A.units + 1 < cLine) : IxR X (rM X.K cl mIx) := by
  intro value slice pins s σ H V Y v u Q I rx ry ⟨x, y, h, mp, rl, r1, r2, g⟩ hs
  cases r1 with
  | @fdc ks xs vs a h1 l q1 =>
    unfold mIx at g
    dsimp only at g
    unfold ixD at g
    split at g
    · rename_i k hk
      have ek := keyOf_ok r2 hk
      subst ek
      obtain ⟨w, ew, q⟩ := optR_ok g
      rcases val_ok (k := k) (fdc_rf l q1) with ⟨z1, z2⟩ | ⟨w', z, z1, z2, z3⟩
      · rw [z1] at ew; cases ew
      · rw [z1] at ew
        have := Option.some.inj ew
        subst this
        have dg := DGet.f (k := k) h1
        rw [z2] at dg
        exact ix_dict hu value slice pins s σ H _ _ v u Q I rx ry ⟨a, z, rfl, dg, q _ H mp .refl rl z3⟩ hs
    · exact False.elim g
  | tup h1 q1 =>
    obtain ⟨i, z, rfl, e1, q⟩ := ixL_ok rl q1 r2 g
    exact ix_tup value slice pins s σ H _ _ v u Q I rx ry ⟨_, _, i, z, rfl, rfl, h1, e1, q⟩ hs
  | scr h1 q1 =>
    obtain ⟨i, z, rfl, e1, q⟩ := ixL_ok rl q1 r2 g
    exact ix_list value slice pins s σ H _ _ v u Q I rx ry ⟨_, _, i, z, rfl, rfl, h1.sql, e1, q⟩ hs
  | str z =>
    cases r2 with
    | int i =>
      unfold mIx ixS at g
      dsimp only at g
      split at g
      · rename_i hz
        obtain ⟨w, ew, q⟩ := optR_ok g
        rw [Option.map_eq_some_iff] at ew
        obtain ⟨c, ec, rfl⟩ := ew
        exact ix_str value slice pins s σ H _ _ v u Q I rx ry ⟨z, i, c, rfl, rfl, hz.le, ec, q _ H mp .refl rl (.str _)⟩ hs
      · exact False.elim g
    | _ => exact False.elim g
  | @ref n a e1 =>
    unfold mIx at g
    dsimp only at g
    split at g
    · rename_i xs c
      obtain ⟨vs, h1, q1⟩ := rl.obj n _ a c e1
      obtain ⟨i, z, rfl, e1, q⟩ := ixL_ok rl q1 r2 g
      exact ix_list value slice pins s σ H _ _ v u Q I rx ry ⟨_, _, i, z, rfl, rfl, SqL.of h1, e1, q⟩ hs
    · rename_i kvs c
      obtain ⟨vs, h1, q1⟩ := rl.obj n _ a c e1
      unfold ixD at g
      split at g
      · rename_i k hk
        have ek := keyOf_ok r2 hk
        subst ek
        obtain ⟨w, ew, q⟩ := optR_ok g
        rcases val_ok (k := k) q1 with ⟨z1, z2⟩ | ⟨w', z, z1, z2, z3⟩
        · rw [z1] at ew; cases ew
        · rw [z1] at ew
          have := Option.some.inj ew
          subst this
          have dg := DGet.k (k := k) h1
          rw [z2] at dg
          exact ix_dict hu value slice pins s σ H _ _ v u Q I rx ry ⟨a, z, rfl, dg, q _ H mp .refl rl z3⟩ hs
      · exact False.elim g
    · exact False.elim g
  | _ => exact False.elim g
theorem se_ix (hu : X.A.units + 1 < cLine) (ne : NoEx2 mIx) (ha : SE X cl W a ma) (hb : SE X cl W b mb) (hs : PlainIx b) : SE X cl W (.Subscript a b pos) (eBin mIx ma mb) := peW (pe_ix (ixM hu) ha hb hs) (tOp_of rM_ok ne)
/-! ### slices -/
def cutM {α : Type} (xs : List α) (lo hi : Option Int) : List α := (xs.drop (HT.sIx xs.length 0 lo)).take (HT.sIx xs.length xs.length hi - HT.sIx xs.length 0 lo)
def mSl (x : MV) (lo hi : Option Int) (h : MH) : Res MV := match x with
  | .tup xs => .ok (.tup (cutM xs lo hi)) h
  | .str z => if szOk z.length then .ok (.str (cutS z lo hi)) h else .bad
  | .scr xs => .ok (.ref h.length) (h ++ [.lst (cutM xs lo hi)])
  | .ref n => match h[n]? with
    | some (.lst xs) => .ok (.ref h.length) (h ++ [.lst (cutM xs lo hi)])
    | _ => .bad
  | _ => .bad
def rMS (K : PySem.W.Frag) (cl : Str → Option Addr) (mo : MV → Option Int → Option Int → MH → Res MV) : L2.V → Option Int → Option Int → Hp → VK → Prop := fun V lo hi H Q => ∃ x h mp, Rl K cl mp h H ∧ RV K mp H x V ∧ Good (mo x lo hi h) (QV K cl mp H Q) never
theorem cut_ok {K : PySem.W.Frag} {mp : Mp} {H : Hp} {xs : List MV} {vs : List L2.V} {lo hi : Option Int} (r : RVs K mp H xs vs) : RVs K mp H (cutM xs lo hi) (cutV vs lo hi) := by
  unfold cutM cutV
  rw [r.length]
  exact (r.drop _).take _
theorem slM : SlR X (rMS X.K cl mSl) := by
  intro pins s σ H V v vl vu lo hi sl Q I rx hs pl pu ⟨x, h, mp, rl, r1, g⟩
  have lst : ∀ {n : Nat} {a : Addr} {xs : List MV} {vs : List L2.V}, V = .ref a → SqL X.K H a vs → RVs X.K mp H xs vs → QV X.K cl mp H Q (.ref h.length) (h ++ [.lst (cutM xs lo hi)]) →
      ∃ T id, typeLookup (.type T) "__getitem__" = pure (some (.builtin id)) ∧ s.TypeIs v T ∧ wpAny (model X.prog X.w) X.A (getItem v (.ref sl)) (EP X pins σ Q) X.xe s := fun {n a xs vs} ev hq q1 g => by
    subst ev
    refine sl_list pins s σ H _ v vl vu lo hi sl Q I rx hs pl pu ⟨a, vs, rfl, hq, fun p hp => ?_⟩
    obtain ⟨f, rl'⟩ := newCell rl hp (cut_ok (lo := lo) (hi := hi) q1)
    exact g _ _ _ f rl' (.ref Mp.put_same)
  cases r1 with
  | @tup xs vs a h1 q1 =>
    refine sl_tupA pins s σ H _ v vl vu lo hi sl Q I rx hs pl pu ⟨a, vs, rfl, h1, fun hw => ?_, fun _ p hp => ?_⟩
    · refine g _ H mp .refl rl (.tup h1 ?_)
      have : cutM xs lo hi = xs := by
        unfold cutM
        rw [q1.length, hw.1, hw.2]
        simp [← q1.length]
      rw [this]
      exact q1
    · exact g _ _ mp (Fut.new hp) (rl.new hp) (.tup (SqT.of upd_same) ((cut_ok q1).fut (Fut.new hp)))
  | str z =>
    unfold mSl at g
    dsimp only at g
    split at g
    · rename_i hz
      exact sl_str pins s σ H _ v vl vu lo hi sl Q I rx hs pl pu ⟨z, rfl, hz.le, g _ H mp .refl rl (.str _)⟩
    · exact False.elim g
  | scr h1 q1 => exact lst (n := 0) rfl h1.sql q1 g
  | @ref n a e1 =>
    unfold mSl at g
    dsimp only at g
    split at g
    · rename_i xs c
      obtain ⟨vs, h1, q1⟩ := rl.obj n _ a c e1
      exact lst (n := n) rfl (SqL.of h1) q1 g
    · exact False.elim g
  | _ => exact False.elim g
abbrev MP := MS → MH → Res (Option Int)
def tMP (K : PySem.W.Frag) (cl : Str → Option Addr) (W : Wsh) (m : MP) : TO := fun σ H Q => ∃ ρ h mp, Rl K cl mp h H ∧ RS K mp H ρ σ ∧ Good (m ρ h) (fun v h' => ∀ H' mp', Fut K mp mp' H H' → Rl K cl mp' h' H' → Q v H') (EW K cl mp H W σ)
abbrev SP1 (X : Cx) (cl : Str → Option Addr) (W : Wsh) (e : Option Expr) (m : MP) : Prop := PO X e (tMP X.K cl W m)
theorem poW {X : Cx} {e : Option Expr} {t t' : TO} (h : PO X e t) (w : ∀ σ H Q, t' σ H Q → t σ H Q) : PO X e t' := ⟨fun pins s σ H Q I q => h.run pins s σ H Q I (w σ H Q q)⟩
@[simp] def pNone : MP := fun _ h => .ok none h
@[simp] def pSome (m : ME) : MP := fun ρ h => (m ρ h).bind fun x h1 => match x with | .int i => .ok (some i) h1 | _ => .bad
theorem sp_none : SP1 X cl W none pNone := poW po_none fun σ H Q ⟨ρ, h, mp, rl, rs, g⟩ => g H mp .refl rl
theorem sp_some (he : SE X cl W e m) : SP1 X cl W (some e) (pSome m) := poW (po_some he) fun σ H Q ⟨ρ, h, mp, rl, rs, g⟩ =>
  tM_bind rl rs g (fun _ _ z => z) fun x h1 V H1 mp1 f1 rl1 rs1 rv1 g1 => by
    cases rv1 with
    | int i => exact ⟨i, rfl, g1 H1 mp1 f1 rl1⟩
    | _ => exact False.elim g1
theorem tMP_bind {K : PySem.W.Frag} {mp : Mp} {h : MH} {H : Hp} {ρ : MS} {σ : L2.St} {β : Type} {Q1 : β → MH → Prop} {E1 : MV → MH → Prop} {m : MP} {f : Option Int → MH → Res β} {R : Option Int → Hp → Prop} (rl : Rl K cl mp h H) (rs : RS K mp H ρ σ) (g : Good ((m ρ h).bind f) Q1 E1) (hE : ∀ e h', E1 e h' → EW K cl mp H W σ e h')
    (k : ∀ x h1 H1 mp1, Fut K mp mp1 H H1 → Rl K cl mp1 h1 H1 → RS K mp1 H1 ρ σ → Good (f x h1) Q1 E1 → R x H1) : tMP K cl W m σ H R :=
  ⟨ρ, h, mp, rl, rs, (Good.bind.mp g).mono (fun x h1 g1 H1 mp1 f1 rl1 => k x h1 H1 mp1 f1 rl1 (rs.fut f1) g1) hE⟩
@[simp] def eSl (m : ME) (ml mh : MP) : ME := fun ρ h => (m ρ h).bind fun x h1 => (ml ρ h1).bind fun l h2 => (mh ρ h2).bind fun u h3 => mSl x l u h3
theorem mSl_noEx (x : MV) (lo hi : Option Int) (h : MH) : ∀ e h', ¬ mSl x lo hi h = .ex e h' := by
  intro e h' z
  unfold mSl at z
  repeat' split at z
  all_goals cases z
theorem toNever {α : Type} {r : Res α} {Q : α → MH → Prop} {E : MV → MH → Prop} (g : Good r Q E) (ne : ∀ e h', ¬ r = .ex e h') : Good r Q never := by
  cases r with
  | ok v h' => exact g
  | ex v h' => exact (ne v h' rfl).elim
  | bad => exact g
theorem se_sl {lo hi : Option Expr} {ml mh : MP} (he : SE X cl W e m) (hl : SP1 X cl W lo ml) (hh : SP1 X cl W hi mh) : SE X cl W (.Subscript e (.Slice lo hi none p2) pos) (eSl m ml mh) :=
  peW (pe_slice slM he hl hh) fun σ H Q ⟨ρ, h, mp, rl, rs, g⟩ => tM_bind rl rs g (fun _ _ z => z) fun x h1 V H1 mp1 f1 rl1 rs1 rv1 g1 =>
    tMP_bind rl1 rs1 g1 (fun _ _ z => z.fut f1) fun l h2 H2 mp2 f2 rl2 rs2 g2 => tMP_bind rl2 rs2 g2 (fun _ _ z => z.fut (f1.trans f2)) fun u h3 H3 mp3 f3 rl3 rs3 g3 =>
      ⟨x, h3, mp3, rl3, rv1.fut (f2.trans f3), toNever (g3.mono (fun v h' q => q.fut (f1.trans (f2.trans f3))) fun _ _ z => z) (mSl_noEx _ _ _ _)⟩
/-! ### -x -/
@[simp] def mNeg (x : MV) (h : MH) : Res MV := match x with | .int i => .ok (.int (-i)) h | _ => .bad
theorem se_neg (ha : SE X cl W a ma) : SE X cl W (.UnaryOp .USub a pos) (eUn mNeg ma) := peW (pe_un un_neg ha) fun σ H Q ⟨ρ, h, mp, rl, rs, g⟩ =>
  tM_bind rl rs g (fun _ _ z => z) fun x h1 V H1 mp1 f1 rl1 rs1 rv1 g1 => by
    cases rv1 with
    | int i => exact ⟨i, rfl, g1 _ H1 mp1 f1 rl1 (.int _)⟩
    | _ => exact False.elim g1
/-! ### a op1 b op2 c -/
@[simp] def eChain (mo mo' : MV → MV → MH → Res MV) (ma mb mc : ME) : ME := fun ρ h => (ma ρ h).bind fun x h1 => (mb ρ h1).bind fun y h2 => (mo x y h2).bind fun z h3 => match z with
  | .bl true => (mc ρ h3).bind fun w h4 => mo' y w h4
  | .bl false => .ok (.bl false) h3
  | _ => .bad
theorem bind_noEx {α β : Type} {r : Res α} {f : α → MH → Res β} {Q : β → MH → Prop} {E : MV → MH → Prop} (g : Good (r.bind f) Q E) (ne : ∀ e h', ¬ r = .ex e h') : Good r (fun a h => Good (f a h) Q E) never := toNever (Good.bind.mp g) ne
theorem tChain_of {mo mo' : MV → MV → MH → Res MV} (ne : NoEx2 mo) (ne' : NoEx2 mo') : ∀ σ H Q, tM X.K cl W (eChain mo mo' ma mb mc) σ H Q → tChain (rM X.K cl mo) (rM X.K cl mo') (tM X.K cl W ma) (tM X.K cl W mb) (tM X.K cl W mc) σ H Q := fun σ H Q ⟨ρ, h, mp, rl, rs, g⟩ =>
  tM_bind rl rs g (fun _ _ z => z) fun x h1 V H1 mp1 f1 rl1 rs1 rv1 g1 => tM_bind rl1 rs1 g1 (fun _ _ z => z.fut f1) fun y h2 Y H2 mp2 f2 rl2 rs2 rv2 g2 =>
    ⟨x, y, h2, mp2, rl2, rv1.fut f2, rv2, (bind_noEx g2 (ne _ _ _)).mono (fun z h3 g3 Z H3 mp3 f3 rl3 rv3 => by
      cases rv3 with
      | bl k =>
        refine ⟨k, rfl, ?_⟩
        cases k with
        | true =>
          exact tM_bind rl3 (rs2.fut f3) g3 (fun _ _ z => z.fut (f1.trans (f2.trans f3))) fun w h4 Z H4 mp4 f4 rl4 rs4 rv4 g4 =>
            ⟨y, w, h4, mp4, rl4, rv2.fut (f3.trans f4), rv4, toNever (g4.mono (fun v h' q => q.fut (f1.trans (f2.trans (f3.trans f4)))) fun _ _ z => z) (ne' _ _ _)⟩
        | false => exact g3 _ H3 mp3 (f1.trans (f2.trans f3)) rl3 (.bl false)
      | _ => exact False.elim g3) fun _ _ z => z⟩
theorem se_chain {op op' : CmpOp} {mo mo' : MV → MV → MH → Res MV} (ho : OpR X (compareOp op) (rM X.K cl mo)) (ho' : OpR X (compareOp op') (rM X.K cl mo')) (ne : NoEx2 mo) (ne' : NoEx2 mo') (ha : SE X cl W a ma) (hb : SE X cl W b mb) (hc : SE X cl W c mc)
    (hm : lastMarks [op, op'] [b, c] = false := by with_unfolding_all rfl) : SE X cl W (.Compare a [op, op'] [b, c] pos) (eChain mo mo' ma mb mc) := peW (pe_chain ho ho' ha hb hc hm) (tChain_of ne ne')
theorem st_chain {op op' : CmpOp} {mo mo' : MV → MV → MH → Res MV} (ho : OpR X (compareOp op) (rM X.K cl mo)) (ho' : OpR X (compareOp op') (rM X.K cl mo')) (ne : NoEx2 mo) (ne' : NoEx2 mo') (ha : SE X cl W a ma) (hb : SE X cl W b mb) (hc : SE X cl W c mc)
    (hm : lastMarks [op, op'] [b, c] = false := by with_unfolding_all rfl) : ST X cl W (.Compare a [op, op'] [b, c] pos) (tOfE (eChain mo mo' ma mb mc)) :=
  ptW (pt_chain ho ho' ha hb hc hm) fun σ H Q ⟨ρ, h, mp, rl, rs, g⟩ => tChain_of ne ne' σ H _ (tM_bind rl rs g (fun _ _ z => z) fun x h1 V H1 mp1 f1 rl1 rs1 rv1 g1 => asB_ok f1 rl1 rv1 g1)
/-! ### built-ins -/
def rMC (K : PySem.W.Frag) (cl : Str → Option Addr) (mo : List MV → MH → Res MV) : List L2.V → Hp → VK → Prop := fun Vs H Q => ∃ xs h mp, Rl K cl mp h H ∧ RVs K mp H xs Vs ∧ Good (mo xs h) (QV K cl mp H Q) never
@[simp] def eCallB (mo : List MV → MH → Res MV) (ms : MA) : ME := fun ρ h => (ms ρ h).bind fun xs h1 => mo xs h1
def NoEx1 {α : Type} (mo : List MV → MH → Res α) : Prop := ∀ xs h e h', ¬ mo xs h = .ex e h'
theorem tCB_of {mo : List MV → MH → Res MV} (ne : NoEx1 mo) : ∀ σ H Q, tM X.K cl W (eCallB mo ms) σ H Q → tCB (rMC X.K cl mo) (tMA X.K cl W ms) σ H Q := fun σ H Q ⟨ρ, h, mp, rl, rs, g⟩ =>
  tMA_bind rl rs g (fun _ _ z => z) fun xs h1 V H1 mp1 f1 rl1 rs1 rv1 g1 => ⟨xs, h1, mp1, rl1, rv1, toNever (g1.mono (fun v h' q => q.fut f1) fun _ _ z => z) (ne _ _)⟩
theorem se_callB {x : Str} {id : String} {mo : List MV → MH → Res MV} {p : Pos} (ne : NoEx1 mo) (hc : CallR X (.builtin id) (rMC X.K cl mo)) (hg : Gl X x) (hm : X.mg x = none) (hv : bootBuiltins x = some (.builtin id)) (hs : SA X cl W (e :: es) ms)
    (hn : x ≠ "__name__" := by decide) (hdb : (x == ("__debug__" : Str)) = false := by decide) (he : starEach (e :: es) X.env = (false, eval e X.env) :: starEach es X.env := by rfl) (hpl : (backTo pos (starEach es X.env)).any (·.1) = false := by rfl) :
    SE X cl W (.Call (.Name x p) (e :: es) [] pos) (eCallB mo ms) := peW (pe_callB hc hg hm hv hs (hn := hn) (hdb := hdb) (he := he) (hpl := hpl)) (tCB_of ne)
theorem se_callTy {x : Str} {T : String} {mo : List MV → MH → Res MV} {p : Pos} (ne : NoEx1 mo) (hc : CallR X (.type T) (rMC X.K cl mo)) (hg : Gl X x) (hm : X.mg x = none) (hv : bootBuiltins x = some (.type T)) (hs : SA X cl W (e :: es) ms)
    (hn : x ≠ "__name__" := by decide) (hdb : (x == ("__debug__" : Str)) = false := by decide) (he : starEach (e :: es) X.env = (false, eval e X.env) :: starEach es X.env := by rfl) (hpl : (backTo pos (starEach es X.env)).any (·.1) = false := by rfl) :
    SE X cl W (.Call (.Name x p) (e :: es) [] pos) (eCallB mo ms) := peW (pe_callTy hc hg hm hv hs (hn := hn) (hdb := hdb) (he := he) (hpl := hpl)) (tCB_of ne)
/-- a list or a tuple as its items -/
def itemsOf (x : MV) (h : MH) : Option (List MV) := match x with
  | .tup xs => some xs
  | .scr xs => some xs
  | .ref n => match h[n]? with | some (.lst xs) => some xs | _ => none
  | _ => none
theorem items_ok {K : PySem.W.Frag} {mp : Mp} {h : MH} {H : Hp} {x : MV} {V : L2.V} {xs : List MV} (rl : Rl K cl mp h H) (r : RV K mp H x V) (e : itemsOf x h = some xs) :
    ∃ p vs, V = .ref p ∧ ((SqL K H p vs ∧ True) ∨ (SqT K H p vs ∧ x = .tup xs)) ∧ RVs K mp H xs vs := by
  cases r with
  | @tup ys vs a h1 q1 =>
    have := Option.some.inj e
    subst this
    exact ⟨a, vs, rfl, .inr ⟨h1, rfl⟩, q1⟩
  | @ref n a e1 =>
    unfold itemsOf at e
    dsimp only at e
    split at e
    · rename_i ys c
      have := Option.some.inj e
      subst this
      obtain ⟨vs, h1, q1⟩ := rl.obj n _ a c e1
      exact ⟨a, vs, rfl, .inl ⟨SqL.of h1, trivial⟩, q1⟩
    · cases e
  | @scr ys vs a h1 q1 =>
    have := Option.some.inj e
    subst this
    exact ⟨a, vs, rfl, .inl ⟨h1.sql, trivial⟩, q1⟩
  | _ => cases e
theorem rvs1 {K : PySem.W.Frag} {mp : Mp} {H : Hp} {x : MV} {Vs : List L2.V} (r : RVs K mp H [x] Vs) : ∃ V, Vs = [V] ∧ RV K mp H x V := by
  cases r with | cons r t => cases t; exact ⟨_, rfl, r⟩
theorem rvs2 {K : PySem.W.Frag} {mp : Mp} {H : Hp} {x y : MV} {Vs : List L2.V} (r : RVs K mp H [x, y] Vs) : ∃ V Y, Vs = [V, Y] ∧ RV K mp H x V ∧ RV K mp H y Y := by
  cases r with | cons r t => cases t with | cons r2 t => cases t; exact ⟨_, _, rfl, r, r2⟩
def mLen (xs : List MV) (h : MH) : Res MV := match xs with
  | [.fdc ks _] => .ok (.int ks.length) h
  | [.str z] => if szOk z.length then .ok (.int z.length) h else .bad
  | [.tup ys] => .ok (.int ys.length) h
  | [.scr ys] => .ok (.int ys.length) h
  | [.ref n] => match h[n]? with
    | some (.lst ys) => .ok (.int ys.length) h
    | some (.dct kvs) => .ok (.int kvs.length) h
    | _ => .bad
  | _ => .bad
theorem call_lenF : CallR X (.builtin "len") (fun xs H Q => ∃ a kvs, xs = [L2.V.ref a] ∧ DcF H a kvs ∧ Q (.int kvs.length) H) := by
  intro pins s σ H Vs us Q I r ⟨a, kvs, e, ⟨o, ha, _⟩, q⟩
  subst e
  rw [Vals.ref1 r]
  exact d_len I (.inr ⟨o, ha⟩) fun t s' I' => ⟨.int kvs.length, H, I', ⟨t, rfl⟩, q⟩
theorem lenM : CallR X (.builtin "len") (rMC X.K cl mLen) := by
  intro pins s σ H Vs us Q I r ⟨xs, h, mp, rl, rv, g⟩
  unfold mLen at g
  split at g
  · rename_i ks zs
    obtain ⟨V, rfl, rx⟩ := rvs1 rv
    cases rx with
    | @fdc _ _ vs a h1 l q1 =>
      refine call_lenF pins s σ H _ us Q I r ⟨_, _, rfl, h1, ?_⟩
      rw [List.length_zip, ← l, Nat.min_self]
      exact g _ H mp .refl rl (.int _)
  · rename_i z
    obtain ⟨V, rfl, rx⟩ := rvs1 rv
    cases rx
    split at g
    · rename_i hz
      exact call_len_str pins s σ H _ us Q I r ⟨z, rfl, hz.le, g _ H mp .refl rl (.int _)⟩
    · exact False.elim g
  · rename_i ys
    obtain ⟨V, rfl, rx⟩ := rvs1 rv
    cases rx with
    | tup h1 q1 =>
      refine call_len_seq pins s σ H _ us Q I r ⟨_, _, rfl, .inr h1, ?_⟩
      rw [← q1.length]
      exact g _ H mp .refl rl (.int _)
  · rename_i ys
    obtain ⟨V, rfl, rx⟩ := rvs1 rv
    cases rx with
    | scr h1 q1 =>
      refine call_len_seq pins s σ H _ us Q I r ⟨_, _, rfl, .inl h1.sql, ?_⟩
      rw [← q1.length]
      exact g _ H mp .refl rl (.int _)
  · rename_i n
    obtain ⟨V, rfl, rx⟩ := rvs1 rv
    cases rx with
    | @ref _ a e1 =>
      split at g
      · rename_i ys c
        obtain ⟨vs, h1, q1⟩ := rl.obj n _ a c e1
        refine call_len_seq pins s σ H _ us Q I r ⟨_, _, rfl, .inl (SqL.of h1), ?_⟩
        rw [← q1.length]
        exact g _ H mp .refl rl (.int _)
      · rename_i kvs c
        obtain ⟨vs, h1, q1⟩ := rl.obj n _ a c e1
        refine call_lenD pins s σ H _ us Q I r ⟨_, vs, rfl, h1, ?_⟩
        have : kvs.length = vs.length := by simpa using congrArg List.length q1.1
        rw [← this]
        exact g _ H mp .refl rl (.int _)
      · exact False.elim g
  · exact False.elim g
def mTuple (xs : List MV) (h : MH) : Res MV := match xs with | [x] => (match itemsOf x h with | some ys => .ok (.tup ys) h | none => .bad) | _ => .bad
theorem tupleM : CallR X (.type "tuple") (rMC X.K cl mTuple) := by
  intro pins s σ H Vs us Q I r ⟨xs, h, mp, rl, rv, g⟩
  unfold mTuple at g
  split at g
  · rename_i x
    obtain ⟨V, rfl, rx⟩ := rvs1 rv
    split at g
    · rename_i ys ey
      obtain ⟨p, vs, rfl, hs, q1⟩ := items_ok rl rx ey
      refine call_tuple_of pins s σ H _ us Q I r ⟨p, vs, rfl, ?_⟩
      rcases hs with ⟨hs, _⟩ | ⟨hs, _⟩
      · exact .inl ⟨hs, fun l hl => g _ _ mp (Fut.new hl) (rl.new hl) (.tup (SqT.of upd_same) (q1.fut (Fut.new hl)))⟩
      · exact .inr ⟨hs, g _ H mp .refl rl (.tup hs q1)⟩
    · exact False.elim g
  · exact False.elim g
@[simp] def mInt (xs : List MV) (h : MH) : Res MV := match xs with | [.int i] => .ok (.int i) h | [.bl b] => .ok (.int (if b then 1 else 0)) h | _ => .bad
theorem intM : CallR X (.type "int") (rMC X.K cl mInt) := by
  intro pins s σ H Vs us Q I r ⟨xs, h, mp, rl, rv, g⟩
  unfold mInt at g
  split at g
  · obtain ⟨V, rfl, rx⟩ := rvs1 rv
    cases rx
    exact call_int1 pins s σ H _ us Q I r (.inl ⟨_, rfl, g _ H mp .refl rl (.int _)⟩)
  · obtain ⟨V, rfl, rx⟩ := rvs1 rv
    cases rx
    exact call_int1 pins s σ H _ us Q I r (.inr ⟨_, rfl, g _ H mp .refl rl (.int _)⟩)
  · exact False.elim g
@[simp] def mBool (xs : List MV) (h : MH) : Res MV := match xs with | [.int i] => .ok (.bl (i != 0)) h | [.bl b] => .ok (.bl b) h | _ => .bad
theorem boolM : CallR X (.type "bool") (rMC X.K cl mBool) := by
  intro pins s σ H Vs us Q I r ⟨xs, h, mp, rl, rv, g⟩
  unfold mBool at g
  split at g
  · obtain ⟨V, rfl, rx⟩ := rvs1 rv
    cases rx
    exact call_bool1 pins s σ H _ us Q I r (.inl ⟨_, rfl, g _ H mp .refl rl (.bl _)⟩)
  · obtain ⟨V, rfl, rx⟩ := rvs1 rv
    cases rx
    exact call_bool1 pins s σ H _ us Q I r (.inr ⟨_, rfl, g _ H mp .refl rl (.bl _)⟩)
  · exact False.elim g
@[simp] def mAbs (xs : List MV) (h : MH) : Res MV := match xs with | [.int i] => .ok (.int (if i < 0 then -i else i)) h | _ => .bad
theorem absM : CallR X (.builtin "abs") (rMC X.K cl mAbs) := by
  intro pins s σ H Vs us Q I r ⟨xs, h, mp, rl, rv, g⟩
  unfold mAbs at g
  split at g
  · obtain ⟨V, rfl, rx⟩ := rvs1 rv
    cases rx
    exact call_abs pins s σ H _ us Q I r ⟨_, rfl, g _ H mp .refl rl (.int _)⟩
  · exact False.elim g
@[simp] def mMin (xs : List MV) (h : MH) : Res MV := match xs with | [.int i, .int j] => .ok (.int (if j < i then j else i)) h | _ => .bad
@[simp] def mMax (xs : List MV) (h : MH) : Res MV := match xs with | [.int i, .int j] => .ok (.int (if j > i then j else i)) h | _ => .bad
theorem minM (hc : X.calm = true) : CallR X (.builtin "min") (rMC X.K cl mMin) := by
  intro pins s σ H Vs us Q I r ⟨xs, h, mp, rl, rv, g⟩
  unfold mMin at g
  split at g
  · obtain ⟨V, Y, rfl, rx, ry⟩ := rvs2 rv
    cases rx
    cases ry
    exact call_min2 hc pins s σ H _ us Q I r ⟨_, _, rfl, g _ H mp .refl rl (.int _)⟩
  · exact False.elim g
theorem maxM (hc : X.calm = true) : CallR X (.builtin "max") (rMC X.K cl mMax) := by
  intro pins s σ H Vs us Q I r ⟨xs, h, mp, rl, rv, g⟩
  unfold mMax at g
  split at g
  · obtain ⟨V, Y, rfl, rx, ry⟩ := rvs2 rv
    cases rx
    cases ry
    exact call_max2 hc pins s σ H _ us Q I r ⟨_, _, rfl, g _ H mp .refl rl (.int _)⟩
  · exact False.elim g
def mStr (xs : List MV) (h : MH) : Res MV := match xs with
  | [.int i] => if i.natAbs.log2 < 1920 then .ok (.str (toString i)) h else .bad
  | [.bl b] => .ok (.str (if b then "True" else "False")) h
  | [.str a] => .ok (.str a) h
  | _ => .bad
theorem strM : CallR X (.type "str") (rMC X.K cl mStr) := by
  intro pins s σ H Vs us Q I r ⟨xs, h, mp, rl, rv, g⟩
  unfold mStr at g
  split at g
  · obtain ⟨V, rfl, rx⟩ := rvs1 rv
    cases rx
    split at g
    · rename_i hz
      exact call_str_int pins s σ H _ us Q I r ⟨_, rfl, hz, g _ H mp .refl rl (.str _)⟩
    · exact False.elim g
  · obtain ⟨V, rfl, rx⟩ := rvs1 rv
    cases rx
    obtain ⟨u, rfl, r1⟩ := vals1 r
    cases r1
    exact PySem.P.str_of_bool ⟨.str _, H, I.tok _, ⟨_, rfl⟩, g _ H mp .refl rl (.str _)⟩
  · obtain ⟨V, rfl, rx⟩ := rvs1 rv
    cases rx
    obtain ⟨u, rfl, t, rfl⟩ := vals1 r
    exact PySem.P.str_of_str ⟨.str _, H, I, ⟨_, rfl⟩, g _ H mp .refl rl (.str _)⟩
  · exact False.elim g
end
end Sm

set_option Elab.async false
set_option linter.all false
set_option maxRecDepth 100000
set_option maxHeartbeats 4000000
/-! lists just made as arguments, isinstance, methods, fields, calls of defs -/
namespace Sm
open PySem PySem.Spec PyProof.Rows L2
section
variable {X : Cx} {cl : Str → Option Addr} {W : Wsh} {a b c e o : Expr} {es : List Expr} {ma mb mc m : ME} {ms la lb : MA} {pos apos cpos p2 : Pos}
/-! ### f([..]) -/
/-- what is asked of a list of items -/
def ListR (X : Cx) (cl : Str → Option Addr) (r : List L2.V → Hp → VK → Prop) (mo : List MV → MH → Res MV) : Prop := ∀ p xs vs H h mp Q, Rl X.K cl mp h H → SqL X.K H p vs → RVs X.K mp H xs vs → Good (mo xs h) (QV X.K cl mp H Q) never → r [.ref p] H Q
theorem tCBL_of {r : List L2.V → Hp → VK → Prop} {mo : List MV → MH → Res MV} (ok : ListR X cl r mo) (ne : NoEx1 mo) : ∀ σ H Q, tM X.K cl W (eCallB mo la) σ H Q → tCB r (tCons (tML X.K cl W la) tNil) σ H Q := fun σ H Q ⟨ρ, h, mp, rl, rs, g⟩ =>
  tML_bind rl rs g (fun _ _ z => z) fun xs h1 p vs H1 mp1 f1 rl1 rs1 h0 np hp rv g1 => ok p xs vs H1 h1 mp1 Q rl1 (SqL.of hp) rv (toNever (g1.mono (fun v h' q => q.fut f1) fun _ _ z => z) (ne _ _))
theorem se_callBL {x : Str} {id : String} {mo : List MV → MH → Res MV} {r : List L2.V → Hp → VK → Prop} {p : Pos} (ok : ListR X cl r mo) (ne : NoEx1 mo) (hc : CallR X (.builtin id) r) (hg : Gl X x) (hm : X.mg x = none) (hv : bootBuiltins x = some (.builtin id)) (hs : SL X cl W e la)
    (hn : x ≠ "__name__" := by decide) (hdb : (x == ("__debug__" : Str)) = false := by decide) (he : starEach [e] X.env = [(false, eval e X.env)] := by rfl) :
    SE X cl W (.Call (.Name x p) [e] [] pos) (eCallB mo la) := peW (pe_callB hc hg hm hv (pa_cons hs pa_nil he) (hn := hn) (hdb := hdb) (he := he) (hpl := rfl)) (tCBL_of ok ne)
theorem se_callTyL {x : Str} {T : String} {mo : List MV → MH → Res MV} {r : List L2.V → Hp → VK → Prop} {p : Pos} (ok : ListR X cl r mo) (ne : NoEx1 mo) (hc : CallR X (.type T) r) (hg : Gl X x) (hm : X.mg x = none) (hv : bootBuiltins x = some (.type T)) (hs : SL X cl W e la)
    (hn : x ≠ "__name__" := by decide) (hdb : (x == ("__debug__" : Str)) = false := by decide) (he : starEach [e] X.env = [(false, eval e X.env)] := by rfl) :
    SE X cl W (.Call (.Name x p) [e] [] pos) (eCallB mo la) := peW (pe_callTy hc hg hm hv (pa_cons hs pa_nil he) (hn := hn) (hdb := hdb) (he := he) (hpl := rfl)) (tCBL_of ok ne)
@[simp] def lTuple (xs : List MV) (h : MH) : Res MV := .ok (.tup xs) h
theorem lTuple_ok : ListR X cl (fun xs H Q => ∃ p ys, xs = [.ref p] ∧ ((SqL X.K H p ys ∧ ∀ l, H l = none → Q (.ref l) (upd H l (.tup ys))) ∨ (SqT X.K H p ys ∧ Q (.ref p) H))) lTuple := fun p xs vs H h mp Q rl hs rv g =>
  ⟨p, vs, rfl, .inl ⟨hs, fun l hl => g _ _ mp (Fut.new hl) (rl.new hl) (.tup (SqT.of upd_same) (rv.fut (Fut.new hl)))⟩⟩
@[simp] def lLen (xs : List MV) (h : MH) : Res MV := .ok (.int xs.length) h
theorem lLen_ok : ListR X cl (fun xs H Q => ∃ p ys, xs = [.ref p] ∧ (SqL X.K H p ys ∨ SqT X.K H p ys) ∧ Q (.int ys.length) H) lLen := fun p xs vs H h mp Q rl hs rv g =>
  ⟨p, vs, rfl, .inl hs, by rw [← rv.length]; exact g _ H mp .refl rl (.int _)⟩
def bools : List MV → Option (List Bool)
  | [] => some []
  | .bl b :: xs => (bools xs).map (b :: ·)
  | _ => none
@[simp] theorem bools_map (bs : List Bool) : bools (bs.map MV.bl) = some bs := by
  induction bs with
  | nil => rfl
  | cons b bs ih => simp [bools, ih]
theorem bools_ok {K : PySem.W.Frag} {mp : Mp} {H : Hp} : ∀ {xs : List MV} {vs : List L2.V} {bs : List Bool}, RVs K mp H xs vs → bools xs = some bs → vs = bs.map L2.V.bl
  | [], _, _, .nil, e => by simp [bools] at e; subst e; rfl
  | x :: xs, _, bs, .cons r t, e => by
    cases r with
    | bl b =>
      simp only [bools, Option.map_eq_some_iff] at e
      obtain ⟨cs, e1, rfl⟩ := e
      rw [bools_ok t e1]
      rfl
    | _ => simp [bools] at e
@[simp] def lAll (xs : List MV) (h : MH) : Res MV := match bools xs with | some bs => .ok (.bl (bs.all id)) h | none => .bad
@[simp] def lAny (xs : List MV) (h : MH) : Res MV := match bools xs with | some bs => .ok (.bl (bs.any id)) h | none => .bad
theorem lAll_ok : ListR X cl (rAll X.K) lAll := fun p xs vs H h mp Q rl hs rv g => by
  unfold lAll at g
  split at g
  · rename_i bs e
    have := bools_ok rv e
    subst this
    exact ⟨p, bs, rfl, hs, g _ H mp .refl rl (.bl _)⟩
  · exact False.elim g
theorem lAny_ok : ListR X cl (rAny X.K) lAny := fun p xs vs H h mp Q rl hs rv g => by
  unfold lAny at g
  split at g
  · rename_i bs e
    have := bools_ok rv e
    subst this
    exact ⟨p, bs, rfl, hs, g _ H mp .refl rl (.bl _)⟩
  · exact False.elim g
theorem lTuple_noEx : NoEx1 lTuple := fun _ _ _ _ z => by cases z
theorem lLen_noEx : NoEx1 lLen := fun _ _ _ _ z => by cases z
theorem lAll_noEx : NoEx1 lAll := fun _ _ _ _ z => by unfold lAll at z; split at z <;> cases z
theorem lAny_noEx : NoEx1 lAny := fun _ _ _ _ z => by unfold lAny at z; split at z <;> cases z
/-! ### list(x), [..] + [..] -/
@[simp] def lOf (m : ME) : MA := fun ρ h => (m ρ h).bind fun x h1 => match itemsOf x h1 with | some xs => .ok xs h1 | none => .bad
theorem sl_of {x : Str} {p : Pos} (hg : Gl X "list") (hm : X.mg "list" = none) (he : SE X cl W e m)
    (hst : starEach [e] X.env = [(false, eval e X.env)] := by rfl) : SL X cl W (.Call (.Name "list" p) [e] [] pos) (lOf m) :=
  peW (pe_callTy call_list_of hg hm (by decide +kernel) (pa_cons he pa_nil hst) (hn := by decide) (hdb := by decide) (he := hst) (hpl := rfl)) fun σ H Q ⟨ρ, h, mp, rl, rs, g⟩ =>
    tM_bind rl rs g (fun _ _ z => z) fun x h1 V H1 mp1 f1 rl1 rs1 rv1 g1 => by
      split at g1
      · rename_i xs ex
        obtain ⟨p, vs, rfl, hs, q1⟩ := items_ok rl1 rv1 ex
        exact ⟨p, vs, rfl, hs.imp (fun z => z.1) (fun z => z.1), fun l hl => newList f1 rl1 q1 hl g1⟩
      · exact False.elim g1
@[simp] def lOfL (la : MA) : MA := la
theorem sl_ofL {p : Pos} (hg : Gl X "list") (hm : X.mg "list" = none) (he : SL X cl W e la)
    (hst : starEach [e] X.env = [(false, eval e X.env)] := by rfl) : SL X cl W (.Call (.Name "list" p) [e] [] pos) (lOfL la) :=
  peW (pe_callTy call_list_of hg hm (by decide +kernel) (pa_cons he pa_nil hst) (hn := by decide) (hdb := by decide) (he := hst) (hpl := rfl)) fun σ H Q ⟨ρ, h, mp, rl, rs, g⟩ =>
    ⟨ρ, h, mp, rl, rs, Good.mono g (fun xs h1 q p vs H1 mp1 f1 rl1 h0 np hp rv => ⟨p, vs, rfl, .inl (SqL.of hp), fun l hl => newList f1 rl1 rv hl q⟩) fun _ _ z => z⟩
@[simp] def lCat (la lb : MA) : MA := fun ρ h => (la ρ h).bind fun xs h1 => (lb ρ h1).bind fun ys h2 => if szOk (xs.length + ys.length) then .ok (xs ++ ys) h2 else .bad
theorem sl_cat (ha : SL X cl W a la) (hb : SL X cl W b lb) : SL X cl W (.BinOp a .Add b pos) (lCat la lb) :=
  peW (pe_op op_cat ha hb) fun σ H Q ⟨ρ, h, mp, rl, rs, g⟩ => tML_bind rl rs g (fun _ _ z => z) fun xs h1 p vs H1 mp1 f1 rl1 rs1 h0 np hp rv g1 =>
    tML_bind rl1 rs1 g1 (fun _ _ z => z.fut f1) fun ys h2 q ws H2 mp2 f2 rl2 rs2 h0' np' hp' rv' g2 => by
      split at g2
      · rename_i hz
        exact ⟨p, q, vs, ws, rfl, rfl, (f2.fr p _ hp np).1, hp', by rw [← rv.length, ← rv'.length]; exact hz.le, fun l hl => newList (f1.trans f2) rl2 ((rv.fut f2).append rv') hl g2⟩
      · exact False.elim g2
/-- the list at a cell -/
def lstAt (x : MV) (h : MH) : Option (List MV) := match x with | .ref n => (match h[n]? with | some (.lst xs) => some xs | _ => none) | _ => none
theorem lstAt_ok {K : PySem.W.Frag} {mp : Mp} {h : MH} {H : Hp} {x : MV} {V : L2.V} {xs : List MV} (rl : Rl K cl mp h H) (r : RV K mp H x V) (e : lstAt x h = some xs) : ∃ n p vs, x = .ref n ∧ mp n = some p ∧ h[n]? = some (.lst xs) ∧ V = .ref p ∧ H p = some (.lst vs) ∧ RVs K mp H xs vs := by
  cases r with
  | @ref n a e1 =>
    unfold lstAt at e
    dsimp only at e
    split at e
    · rename_i ys c
      have := Option.some.inj e
      subst this
      obtain ⟨vs, h1, q1⟩ := rl.obj n _ a c e1
      exact ⟨n, a, vs, rfl, e1, c, rfl, h1, q1⟩
    · cases e
  | _ => cases e
@[simp] def lCatE (ma : ME) (lb : MA) : MA := fun ρ h => (ma ρ h).bind fun x h1 => (lb ρ h1).bind fun ys h2 => match lstAt x h2 with | some xs => if szOk (xs.length + ys.length) then .ok (xs ++ ys) h2 else .bad | none => .bad
theorem sl_catE (ha : SE X cl W a ma) (hb : SL X cl W b lb) : SL X cl W (.BinOp a .Add b pos) (lCatE ma lb) :=
  peW (pe_op op_cat ha hb) fun σ H Q ⟨ρ, h, mp, rl, rs, g⟩ => tM_bind rl rs g (fun _ _ z => z) fun x h1 V H1 mp1 f1 rl1 rs1 rv g1 =>
    tML_bind rl1 rs1 g1 (fun _ _ z => z.fut f1) fun ys h2 q ws H2 mp2 f2 rl2 rs2 h0' np' hp' rv' g2 => by
      split at g2
      · rename_i xs ex
        obtain ⟨n, p, vs, rfl, e1, c, rfl, hp, q1⟩ := lstAt_ok rl2 (rv.fut f2) ex
        split at g2
        · rename_i hz
          exact ⟨p, q, vs, ws, rfl, rfl, hp, hp', by rw [← q1.length, ← rv'.length]; exact hz.le, fun l hl => newList (f1.trans f2) rl2 (q1.append rv') hl g2⟩
        · exact False.elim g2
      · exact False.elim g2
@[simp] def lCatL (la : MA) (mb : ME) : MA := fun ρ h => (la ρ h).bind fun xs h1 => (mb ρ h1).bind fun y h2 => match lstAt y h2 with | some ys => if szOk (xs.length + ys.length) then .ok (xs ++ ys) h2 else .bad | none => .bad
theorem sl_catL (ha : SL X cl W a la) (hb : SE X cl W b mb) : SL X cl W (.BinOp a .Add b pos) (lCatL la mb) :=
  peW (pe_op op_cat ha hb) fun σ H Q ⟨ρ, h, mp, rl, rs, g⟩ => tML_bind rl rs g (fun _ _ z => z) fun xs h1 p vs H1 mp1 f1 rl1 rs1 h0 np hp rv g1 =>
    tM_bind rl1 rs1 g1 (fun _ _ z => z.fut f1) fun y h2 V H2 mp2 f2 rl2 rs2 rv' g2 => by
      split at g2
      · rename_i ys ey
        obtain ⟨n, q, ws, rfl, e1, c, rfl, hq, q1⟩ := lstAt_ok rl2 rv' ey
        split at g2
        · rename_i hz
          exact ⟨p, q, vs, ws, rfl, rfl, (f2.fr p _ hp np).1, hq, by rw [← rv.length, ← q1.length]; exact hz.le, fun l hl => newList (f1.trans f2) rl2 ((rv.fut f2).append q1) hl g2⟩
        · exact False.elim g2
      · exact False.elim g2
/-- [..][i]: an item of a list just made -/
@[simp] def eIxL (la : MA) (mb : ME) : ME := fun ρ h => (la ρ h).bind fun xs h1 => (mb ρ h1).bind fun y h2 => ixL xs y h2
theorem ixL_noEx (xs : List MV) (y : MV) (h : MH) : ∀ e h', ¬ ixL xs y h = .ex e h' := by
  intro e h' z
  unfold ixL optR at z
  repeat' split at z
  all_goals cases z
theorem se_ixL (ha : SL X cl W a la) (hb : SE X cl W b mb) (hs : PlainIx b) : SE X cl W (.Subscript a b pos) (eIxL la mb) :=
  peW (pe_ix ix_list ha hb hs) fun σ H Q ⟨ρ, h, mp, rl, rs, g⟩ => tML_bind rl rs g (fun _ _ z => z) fun xs h1 p vs H1 mp1 f1 rl1 rs1 h0 np hp rv g1 =>
    tM_bind rl1 rs1 g1 (fun _ _ z => z.fut f1) fun y h2 V H2 mp2 f2 rl2 rs2 rv' g2 => by
      obtain ⟨i, z, rfl, e1, q⟩ := ixL_ok rl2 (rv.fut f2) rv' (toNever (g2.mono (fun v h' q => q.fut (f1.trans f2)) fun _ _ z => z) (ixL_noEx _ _ _))
      exact ⟨p, vs, i, z, rfl, rfl, SqL.of (f2.fr p _ hp np).1, e1, q⟩
/-! ### isinstance -/
def tyName (x : MV) (h : MH) : Option String := match x with
  | .non => some "NoneType" | .bl _ => some "bool" | .int _ => some "int" | .str _ => some "str" | .tup _ => some "tuple"
  | .scr _ => some "list"
  | .tux _ => some "tuple"
  | .fdc _ _ => none
  | .ref n => match h[n]? with | some (.lst _) => some "list" | some (.dct _) => some "dict" | _ => none
  | .exn _ _ _ => none
theorem tyName_ok {K : PySem.W.Frag} {mp : Mp} {h : MH} {H : Hp} {x : MV} {V : L2.V} {t : String} (rl : Rl K cl mp h H) (r : RV K mp H x V) (e : tyName x h = some t) : TyX K H V (.type t) := by
  cases r with
  | non => cases e; exact .base .non
  | bl b => cases e; exact .base (.bl b)
  | int b => cases e; exact .base (.int b)
  | str b => cases e; exact .base (.str b)
  | tup h1 q1 =>
    cases e
    rcases h1 with (h1 | ⟨o, h1⟩) | ⟨o, its, n, h1, h2, _⟩
    · exact .base (.tup h1)
    · exact .fTuple h1
    · exact .kTuple h1 h2
  | tux h1 q1 =>
    cases e
    obtain ⟨o, h1, _⟩ := h1
    exact .fTuple h1
  | fdc h1 l q1 => cases e
  | scr h1 q1 =>
    cases e
    rcases h1 with ⟨o, h1⟩ | ⟨o, its, n, h1, h2, _⟩
    · exact .base (.frz h1)
    · exact .kList h1 h2
  | @ref n a e1 =>
    unfold tyName at e
    dsimp only at e
    split at e
    · rename_i ys c
      cases e
      obtain ⟨vs, h1, q1⟩ := rl.obj n _ a c e1
      exact .base (.lst h1)
    · rename_i ys c
      cases e
      obtain ⟨vs, h1, q1⟩ := rl.obj n _ a c e1
      exact .base (.dK h1)
    · cases e
def isiB (t T : String) : Bool := t == T || (t == "bool" && T == "int")
def mIsi (T : String) (x : MV) (h : MH) : Res MV := match tyName x h with | some t => .ok (.bl (isiB t T)) h | none => .bad
theorem kit_all {T : String} (hT : T ∈ ["int", "bool", "str", "tuple", "list", "dict"]) {x : MV} {h : MH} {t : String} (e : tyName x h = some t) : kitB t T = some (isiB t T) := by
  have ht : t ∈ ["NoneType", "bool", "int", "str", "tuple", "list", "dict"] := by
    unfold tyName at e
    repeat' split at e
    all_goals cases e
    all_goals decide
  have all : ∀ T ∈ ["int", "bool", "str", "tuple", "list", "dict"], ∀ t ∈ ["NoneType", "bool", "int", "str", "tuple", "list", "dict"], kitB t T = some (isiB t T) := by decide +kernel
  exact all T hT t ht
theorem se_isi {T : String} {x : Str} {p pT : Pos} (hT : T ∈ ["int", "bool", "str", "tuple", "list", "dict"] := by decide) (hg : Gl X "isinstance") (hm : X.mg "isinstance" = none) (he : SE X cl W e m) (ht : PE X (.Name x pT) (tC (.ty T)))
    (hs : starEach [e, .Name x pT] X.env = (false, eval e X.env) :: starEach [.Name x pT] X.env := by rfl) (hs2 : starEach [.Name x pT] X.env = [(false, eval (.Name x pT) X.env)] := by rfl) (hpl : (backTo pos (starEach [.Name x pT] X.env)).any (·.1) = false := by rfl) :
    SE X cl W (.Call (.Name "isinstance" p) [e, .Name x pT] [] pos) (eUn (mIsi T) m) :=
  peW (pe_callB call_isi hg hm (by decide +kernel) (pa_cons he (pa_cons ht pa_nil hs2) hs) (hn := by decide) (hdb := by decide) (he := hs) (hpl := hpl)) fun σ H Q ⟨ρ, h, mp, rl, rs, g⟩ =>
    tM_bind rl rs g (fun _ _ z => z) fun x h1 V H1 mp1 f1 rl1 rs1 rv1 g1 => by
      unfold mIsi at g1
      split at g1
      · rename_i t et
        exact ⟨V, _, .type t, .type T, _, rfl, .ty T, tyName_ok rl1 rv1 et, kit_ty (kit_all hT et), g1 _ H1 mp1 f1 rl1 (.bl _)⟩
      · exact False.elim g1
/-! ### methods of built-in types -/
def rMM (K : PySem.W.Frag) (cl : Str → Option Addr) (mt : MV → List MV → MH → Res MV) : L2.V → List L2.V → Hp → VK → Prop := fun V Vs H Q => ∃ x xs h mp, Rl K cl mp h H ∧ RV K mp H x V ∧ RVs K mp H xs Vs ∧ Good (mt x xs h) (QV K cl mp H Q) never
/-- the receiver is of that type -/
def tyOk (T : String) (x : MV) (h : MH) : Bool := match x with
  | .str _ => T == "str"
  | .ref n => match h[n]? with | some (.lst _) => T == "list" | some (.dct _) => T == "dict" | _ => false
  | _ => false
theorem tyOk_ok {K : PySem.W.Frag} {mp : Mp} {h : MH} {H : Hp} {x : MV} {V : L2.V} {T : String} (rl : Rl K cl mp h H) (r : RV K mp H x V) (e : tyOk T x h = true) : tyV K T V H := by
  cases r with
  | str z => exact beq_iff_eq.mp e
  | @ref n a e1 =>
    unfold tyOk at e
    dsimp only at e
    split at e
    · rename_i ys c
      obtain ⟨vs, h1, q1⟩ := rl.obj n _ a c e1
      exact .inl ⟨beq_iff_eq.mp e, vs, SqL.of h1⟩
    · rename_i ys c
      obtain ⟨vs, h1, q1⟩ := rl.obj n _ a c e1
      exact .inr (.inr (.inl ⟨beq_iff_eq.mp e, .inl ⟨vs, h1⟩⟩))
    · cases e
  | _ => cases e
@[simp] def eBM (T : String) (mt : MV → List MV → MH → Res MV) (mo : ME) (ms : MA) : ME := fun ρ h => (mo ρ h).bind fun x h1 => if tyOk T x h1 = true then (ms ρ h1).bind fun xs h2 => mt x xs h2 else .bad
def NoExM (mt : MV → List MV → MH → Res MV) : Prop := ∀ x xs h e h', ¬ mt x xs h = .ex e h'
theorem se_bm {T id : String} {name : Str} {mt : MV → List MV → MH → Res MV} {mo : ME} (ne : NoExM mt) (pa : PlainAttrs T) (slot : Slot T name id) (hty : typeOf (.builtin id) = pure (.type "method_descriptor")) (hm : MtR X id (rMM X.K cl mt)) (ho : SE X cl W o mo) (ha : SA X cl W (e :: es) ms)
    (hbase : attributeBase o name X.env (eval o X.env) = eval o X.env := by rfl)
    (hfew : ((backTo cpos (starEach (e :: es) X.env)).all (fun x => !x.1) && (backToKw cpos (keywordEach [] X.env)).all (fun x => x.1.isSome)
      && decide ((e :: es).length + ([] : List Keyword).length + (if ([] : List Keyword).isEmpty then 0 else 1) < 30)) = true := by rfl)
    (hline : (apos.endLine == cpos.line) = true := by rfl) (hs : starEach (e :: es) X.env = (false, eval e X.env) :: starEach es X.env := by rfl) (hplain : (backTo cpos (starEach es X.env)).any (·.1) = false := by rfl) :
    SE X cl W (.Call (.Attribute o name apos) (e :: es) [] cpos) (eBM T mt mo ms) :=
  peW (pe_bm pa slot hty hm ho ha hbase hfew hline hs hplain) fun σ H Q ⟨ρ, h, mp, rl, rs, g⟩ =>
    tM_bind rl rs g (fun _ _ z => z) fun x h1 V H1 mp1 f1 rl1 rs1 rv1 g1 => by
      split at g1
      · rename_i ht
        exact ⟨tyOk_ok rl1 rv1 ht, tMA_bind rl1 rs1 g1 (fun _ _ z => z.fut f1) fun xs h2 Vs H2 mp2 f2 rl2 rs2 rv2 g2 =>
          ⟨x, xs, h2, mp2, rl2, rv1.fut f2, rv2, toNever (g2.mono (fun v h' q => q.fut (f1.trans f2)) fun _ _ z => z) (ne _ _ _)⟩⟩
      · exact False.elim g1
theorem se_bm0 {T id : String} {name : Str} {mt : MV → List MV → MH → Res MV} {mo : ME} (ne : NoExM mt) (pa : PlainAttrs T) (slot : Slot T name id) (hty : typeOf (.builtin id) = pure (.type "method_descriptor")) (hm : MtR X id (rMM X.K cl mt)) (ho : SE X cl W o mo)
    (hp : PE X (.Call (.Attribute o name apos) [] [] cpos) (tBM0 X.K T (rMM X.K cl mt) (tM X.K cl W mo))) :
    SE X cl W (.Call (.Attribute o name apos) [] [] cpos) (eBM T mt mo aNil) :=
  peW hp fun σ H Q ⟨ρ, h, mp, rl, rs, g⟩ =>
    tM_bind rl rs g (fun _ _ z => z) fun x h1 V H1 mp1 f1 rl1 rs1 rv1 g1 => by
      split at g1
      · rename_i ht
        exact ⟨tyOk_ok rl1 rv1 ht, x, [], h1, mp1, rl1, rv1, .nil, toNever (Good.mono g1 (fun v h' q => q.fut f1) fun _ _ z => z) (ne _ _ _)⟩
      · exact False.elim g1
@[simp] def mAppend (x : MV) (xs : List MV) (h : MH) : Res MV := match x, xs with
  | .ref n, [y] => match h[n]? with | some (.lst ys) => if ys.length < 1000000 then .ok .non (h.set n (.lst (ys ++ [y]))) else .bad | _ => .bad
  | _, _ => .bad
theorem mAppend_noEx : NoExM mAppend := by
  intro x xs h e h' z
  unfold mAppend at z
  repeat' split at z
  all_goals cases z
theorem szlt {n : Nat} (h : n < 1000000) : n < sizeLine := Nat.lt_of_lt_of_le h (by decide)
theorem appendM : MtR X "list.append" (rMM X.K cl mAppend) := by
  intro pins s σ H V Vs v us Q I rx rxs ⟨x, xs, h, mp, rl, r1, r2, g⟩
  unfold mAppend at g
  split at g
  · rename_i n y
    obtain ⟨Y, rfl, ry⟩ := rvs1 r2
    cases r1 with
    | @ref _ a e1 =>
      split at g
      · rename_i ys c
        split at g
        · rename_i hz
          obtain ⟨vs, h1, q1⟩ := rl.obj n _ a c e1
          refine mt_append pins s σ H _ _ v us Q I rx rxs ⟨a, vs, Y, rfl, rfl, h1, by rw [← q1.length]; exact szlt hz, ?_⟩
          have f := Fut.set (o := .lst (vs ++ [Y])) rl e1
          exact g _ _ mp f (rl.set e1 ⟨_, upd_same, ((q1.append (.cons ry .nil)).fut f)⟩) .non
        · exact False.elim g
      · exact False.elim g
  · exact False.elim g
def mPopAt (x : MV) (xs : List MV) (h : MH) : Res MV := match x, xs with
  | .ref n, [.int i] => match h[n]? with
    | some (.lst ys) => if 0 ≤ i ∧ i < 2 ^ 62 then (match ys[i.toNat]? with | some y => .ok y (h.set n (.lst (ys.eraseIdx i.toNat))) | none => .bad) else .bad
    | _ => .bad
  | _, _ => .bad
theorem mPopAt_noEx : NoExM mPopAt := by
  intro x xs h e h' z
  unfold mPopAt at z
  repeat' split at z
  all_goals cases z
theorem popAtM : MtR X "list.pop" (rMM X.K cl mPopAt) := by
  intro pins s σ H V Vs v us Q I rx rxs ⟨x, xs, h, mp, rl, r1, r2, g⟩
  unfold mPopAt at g
  split at g
  · rename_i n i
    obtain ⟨Y, rfl, ry⟩ := rvs1 r2
    cases ry
    cases r1 with
    | @ref _ a e1 =>
      split at g
      · rename_i ys c
        split at g
        · rename_i hz
          split at g
          · rename_i y ey
            obtain ⟨vs, h1, q1⟩ := rl.obj n _ a c e1
            obtain ⟨Y, e2, ry⟩ := q1.get ey
            have hl : i.toNat < vs.length := (List.getElem?_eq_some_iff.mp e2).1
            refine mt_popAt pins s σ H _ _ v us Q I rx rxs ⟨a, vs, i, i.toNat, Y, rfl, rfl, h1, by omega, by omega, ?_, e2, ?_⟩
            · exact seqIndex_of hz.1 (by omega)
            · have f := Fut.set (o := .lst (vs.eraseIdx i.toNat)) rl e1
              exact g _ _ mp f (rl.set e1 ⟨_, upd_same, ((q1.eraseIdx _).fut f)⟩) (ry.fut f)
          · exact False.elim g
        · exact False.elim g
      · exact False.elim g
  · exact False.elim g
def mInsert (x : MV) (xs : List MV) (h : MH) : Res MV := match x, xs with
  | .ref n, [.int i, y] => match h[n]? with
    | some (.lst ys) => if 0 ≤ i ∧ i < 2 ^ 62 ∧ ys.length < 1000000 then .ok .non (h.set n (.lst (ys.take i.toNat ++ [y] ++ ys.drop i.toNat))) else .bad
    | _ => .bad
  | _, _ => .bad
theorem mInsert_noEx : NoExM mInsert := by
  intro x xs h e h' z
  unfold mInsert at z
  repeat' split at z
  all_goals cases z
theorem insertM : MtR X "list.insert" (rMM X.K cl mInsert) := by
  intro pins s σ H V Vs v us Q I rx rxs ⟨x, xs, h, mp, rl, r1, r2, g⟩
  unfold mInsert at g
  split at g
  · rename_i n i y
    obtain ⟨Z, Y, rfl, rz, ry⟩ := rvs2 r2
    cases rz
    cases r1 with
    | @ref _ a e1 =>
      split at g
      · rename_i ys c
        split at g
        · rename_i hz
          obtain ⟨vs, h1, q1⟩ := rl.obj n _ a c e1
          refine mt_insert pins s σ H _ _ v us Q I rx rxs ⟨a, vs, i, Y, rfl, rfl, h1, by rw [← q1.length]; exact szlt hz.2.2, hz.1, by omega, ?_⟩
          have f := Fut.set (o := .lst (vs.take i.toNat ++ [Y] ++ vs.drop i.toNat)) rl e1
          exact g _ _ mp f (rl.set e1 ⟨_, upd_same, ((((q1.take _).append (.cons ry .nil)).append (q1.drop _)).fut f)⟩) .non
        · exact False.elim g
      · exact False.elim g
  · exact False.elim g
/-- the first place of a flat value -/
def mIndex (x : MV) (xs : List MV) (h : MH) : Res MV := match xs with
  | [y] => match lstAt x h with
    | some ys => if flatM y && ys.all flatM then (match ys.findIdx? (fun z => eqM z y) with | some j => .ok (.int (j : Nat)) h | none => .bad) else .bad
    | none => .bad
  | _ => .bad
theorem mIndex_noEx : NoExM mIndex := by
  intro x xs h e h' z
  unfold mIndex at z
  repeat' split at z
  all_goals cases z
theorem indexM : MtR X "list.index" (rMM X.K cl mIndex) := by
  intro pins s σ H V Vs v us Q I rx rxs ⟨x, xs, h, mp, rl, r1, r2, g⟩
  unfold mIndex at g
  split at g
  · rename_i y
    obtain ⟨Y, rfl, ry⟩ := rvs1 r2
    split at g
    · rename_i ys ey
      obtain ⟨n, p, vs, rfl, e1, c, rfl, hp, q1⟩ := lstAt_ok rl r1 ey
      split at g
      · rename_i hf
        rw [Bool.and_eq_true] at hf
        split at g
        · rename_i j ej
          rw [List.findIdx?_eq_some_iff_getElem] at ej
          obtain ⟨hj, h1, h2⟩ := ej
          obtain ⟨z, e3, r3⟩ := q1.get (i := j) (x := ys[j]) (by simp [hj])
          refine mt_index pins s σ H _ _ v us Q I rx rxs ⟨p, vs, Y, j, z, rfl, rfl, SqL.of hp, by rw [flat_ok ry]; exact hf.1, by rw [flats_ok q1]; exact hf.2, e3, by rw [eqM_ok r3 ry]; exact h1, fun k z' hk ez => ?_, g _ H mp .refl rl (.int _)⟩
          obtain ⟨w, e4, r4⟩ := q1.getV ez
          rw [eqM_ok r4 ry]
          obtain ⟨hk', e5⟩ := List.getElem?_eq_some_iff.mp e4
          have := h2 k hk
          rw [e5] at this
          simpa using this
        · exact False.elim g
      · exact False.elim g
    · exact False.elim g
  · exact False.elim g
end
end Sm

set_option Elab.async false
set_option linter.all false
set_option maxRecDepth 100000
set_option maxHeartbeats 4000000
/-! fields, calls of defs, statements -/
namespace Sm
open PySem PySem.Spec PyProof.Rows L2
/-! ### fields -/
section
variable {X : Cx} {cl : Str → Option Addr} {W : Wsh} {a b c e o : Expr} {es : List Expr} {ma mb mc m mo : ME} {ms la lb : MA} {pos apos cpos p2 pos' : Pos} {f : Str}
/-- classes whose instances have f as a field -/
def FldOk (K : PySem.W.Frag) (cl : Str → Option Addr) (cs : List Str) (f : Str) : Prop := ∀ c, c ∈ cs → ∀ C, cl c = some C → Cls K C ∧ NoAttr K C f
def lookF (fs : List (Str × MV)) (f : Str) : Option MV := fs.lookup f
theorem look_ok {K : PySem.W.Frag} {mp : Mp} {H : Hp} {f : Str} : ∀ {fs : List (Str × MV)} {vs : List (Str × L2.V)}, RFs K mp H fs vs → (fs.lookup f = none ∧ vs.lookup f = none) ∨ ∃ x v, fs.lookup f = some x ∧ vs.lookup f = some v ∧ RV K mp H x v
  | [], vs, r => by
    have : vs = [] := by have := r.1; cases vs with | nil => rfl | cons _ _ => simp at this
    subst this
    exact .inl ⟨rfl, rfl⟩
  | (k1, x) :: fs, vs, r => by
    cases vs with
    | nil => have := r.1; simp at this
    | cons v vs =>
      obtain ⟨k2, v⟩ := v
      obtain ⟨e, t⟩ := r
      simp only [List.map_cons, List.cons.injEq] at e t
      obtain ⟨rfl, e⟩ := e
      cases t with
      | cons t1 t2 =>
        by_cases hk : f == k1
        · exact .inr ⟨x, v, by simp [List.lookup, hk], by simp [List.lookup, hk], t1⟩
        · rw [Bool.not_eq_true] at hk
          rcases look_ok (f := f) (fs := fs) (vs := vs) ⟨e, t2⟩ with ⟨a, b⟩ | ⟨y, w, a, b, c⟩
          · exact .inl ⟨by simp only [List.lookup, hk]; exact a, by simp only [List.lookup, hk]; exact b⟩
          · exact .inr ⟨y, w, by simp only [List.lookup, hk]; exact a, by simp only [List.lookup, hk]; exact b, c⟩
def putM (f : Str) (v : MV) : List (Str × MV) → List (Str × MV)
  | [] => [(f, v)]
  | (g, x) :: r => if g = f then (g, v) :: r else (g, x) :: putM f v r
theorem put_ok {K : PySem.W.Frag} {mp : Mp} {H : Hp} {f : Str} {x : MV} {v : L2.V} (q : RV K mp H x v) : ∀ {fs : List (Str × MV)} {vs : List (Str × L2.V)}, RFs K mp H fs vs → RFs K mp H (putM f x fs) (putF f v vs)
  | [], vs, r => by
    have : vs = [] := by have := r.1; cases vs with | nil => rfl | cons _ _ => simp at this
    subst this
    exact ⟨rfl, .cons q .nil⟩
  | (k1, y) :: fs, vs, r => by
    cases vs with
    | nil => have := r.1; simp at this
    | cons w vs =>
      obtain ⟨k2, w⟩ := w
      obtain ⟨e, t⟩ := r
      simp only [List.map_cons, List.cons.injEq] at e t
      obtain ⟨rfl, e⟩ := e
      cases t with
      | cons t1 t2 =>
        unfold putM putF
        split
        · exact ⟨by simp [e], .cons q t2⟩
        · have ih := put_ok (f := f) q (fs := fs) (vs := vs) ⟨e, t2⟩
          exact ⟨by simp only [List.map_cons]; rw [ih.1], .cons t1 ih.2⟩
def mFld (cs : List Str) (f : Str) (x : MV) (h : MH) : Res MV := match x with
  | .ref n => match h[n]? with | some (.ins c fs) => if c ∈ cs then optR (fs.lookup f) h else .bad | _ => .bad
  | _ => .bad
theorem se_fld {cs : List Str} (hC : FldOk X.K cl cs f) (he : SE X cl W e m) (hb : attributeBase e f X.env (eval e X.env) = eval e X.env := by rfl) : SE X cl W (.Attribute e f pos) (eUn (mFld cs f) m) :=
  peW (pe_fld he hb) fun σ H Q ⟨ρ, h, mp, rl, rs, g⟩ => tM_bind rl rs g (fun _ _ z => z) fun x h1 V H1 mp1 f1 rl1 rs1 rv1 g1 => by
    unfold mFld at g1
    cases rv1 with
    | @ref n a e1 =>
      dsimp only at g1
      split at g1
      · rename_i c fs cc
        split at g1
        · rename_i hc
          obtain ⟨C, dx, vs, h0, h1', q1⟩ := rl1.obj n _ a cc e1
          obtain ⟨k1, k2⟩ := hC c hc C h0
          rcases look_ok (f := f) q1 with ⟨z1, z2⟩ | ⟨y, w, z1, z2, z3⟩
          · rw [z1] at g1; exact False.elim g1
          · rw [z1] at g1
            exact ⟨a, C, dx, vs, w, rfl, h1', k1, k2, z2, g1 _ H1 mp1 f1 rl1 z3⟩
        · exact False.elim g1
      · exact False.elim g1
    | _ => exact False.elim g1
/-! ### calls -/
/-- a def's promise: it does what the small machine's function does -/
def spM (K : PySem.W.Frag) (cl : Str → Option Addr) (mf : List MV → MH → Res MV) : Sp := fun vs H Q E => ∃ xs h mp, Rl K cl mp h H ∧ RVs K mp H xs vs ∧ Good (mf xs h) (QV K cl mp H Q) never
@[simp] def eCall (mf : List MV → MH → Res MV) (ms : MA) : ME := fun ρ h => (ms ρ h).bind fun xs h1 => mf xs h1
abbrev E0 : XK := fun _ _ _ => False
section
variable {k : Nat} {fa C : Addr} {fd : FuncData} {ps : List Str} {mf : List MV → MH → Res MV} {x : Str} {p : Pos} {dm : List MV} {dvs : List L2.V} {ds : List Value}
@[simp] def eCallD (mf : List MV → MH → Res MV) (dm : List MV) (ms : MA) : ME := fun ρ h => (ms ρ h).bind fun xs h1 => mf (xs ++ dm) h1
theorem tCall_of (ne : NoEx1 mf) (hdm : ∀ mp H, RVs X.K mp H dm dvs) : ∀ σ H Q, tM X.K cl W (eCallD mf dm ms) σ H Q → tCall (spM X.K cl mf) dvs E0 (tMA X.K cl W ms) σ H Q := fun σ H Q ⟨ρ, h, mp, rl, rs, g⟩ =>
  tMA_bind rl rs g (fun _ _ z => z) fun xs h1 V H1 mp1 f1 rl1 rs1 rv1 g1 => ⟨xs ++ dm, h1, mp1, rl1, rv1.append (hdm _ _), toNever (g1.mono (fun v h' q => q.fut f1) fun _ _ z => z) (ne _ _)⟩
theorem se_call (ne : NoEx1 mf) (F : FnOk X.prog X.w X.K X.mg X.base CX0 k fa fd ps (spM X.K cl mf)) (hr : Room k X.A) (hg : Gl X x) (hm : X.mg x = some (.ref fa)) (hk : PySem.W.keepIn X.K (.ref fa) = true) (hb : Binds X.K fd ps []) (ha : SA X cl W (e :: es) ms)
    (hdb : (x == ("__debug__" : Str)) = false := by decide) (he : starEach (e :: es) X.env = (false, eval e X.env) :: starEach es X.env := by rfl) (hpl : (backTo pos (starEach es X.env)).any (·.1) = false := by rfl) :
    SE X cl W (.Call (.Name x p) (e :: es) [] pos) (eCallD mf [] ms) := peW (pe_call F hr hg hm hk hb .nil pass0 ha hdb he hpl) (tCall_of ne fun _ _ => .nil)
theorem se_call0 (ne : NoEx1 mf) (F : FnOk X.prog X.w X.K X.mg X.base CX0 k fa fd ps (spM X.K cl mf)) (hr : Room k X.A) (hg : Gl X x) (hm : X.mg x = some (.ref fa)) (hk : PySem.W.keepIn X.K (.ref fa) = true) (hb : Binds X.K fd ps [])
    (hdb : (x == ("__debug__" : Str)) = false := by decide) :
    SE X cl W (.Call (.Name x p) [] [] pos) (eCallD mf [] aNil) := peW (pe_call0 F hr hg hm hk hb .nil pass0 hdb) fun σ H Q ⟨ρ, h, mp, rl, rs, g⟩ => ⟨[], h, mp, rl, .nil, toNever g (ne _ _)⟩
theorem se_callDf (ne : NoEx1 mf) (hdm : ∀ mp H, RVs X.K mp H dm dvs) (F : FnOk X.prog X.w X.K X.mg X.base CX0 k fa fd ps (spM X.K cl mf)) (hr : Room k X.A) (hg : Gl X x) (hm : X.mg x = some (.ref fa)) (hk : PySem.W.keepIn X.K (.ref fa) = true) (hb : Binds X.K fd ps ds) (hd : Vals dvs ds) (ha : SA X cl W (e :: es) ms)
    (hdb : (x == ("__debug__" : Str)) = false := by decide) (he : starEach (e :: es) X.env = (false, eval e X.env) :: starEach es X.env := by rfl) (hpl : (backTo pos (starEach es X.env)).any (·.1) = false := by rfl) :
    SE X cl W (.Call (.Name x p) (e :: es) [] pos) (eCallD mf dm ms) := peW (pe_call F hr hg hm hk hb hd pass0 ha hdb he hpl) (tCall_of ne hdm)
/-- o.m(..): an instance of the class c -/
@[simp] def eMeth (c m : Str) (mf : List MV → MH → Res MV) (dm : List MV) (mo : ME) (ms : MA) : ME := fun ρ h => (mo ρ h).bind fun x h1 => match x with
  | .ref n => match h1[n]? with
    | some (.ins c' fs) => if c' = c ∧ fs.lookup m = none then (ms ρ h1).bind fun xs h2 => mf (x :: (xs ++ dm)) h2 else .bad
    | _ => .bad
  | _ => .bad
variable {mn cn : Str}
theorem tMeth_of (ne : NoEx1 mf) (hdm : ∀ mp H, RVs X.K mp H dm dvs) (hC : cl cn = some C) : ∀ σ H Q, tM X.K cl W (eMeth cn mn mf dm mo ms) σ H Q → tMeth C mn (spM X.K cl mf) dvs E0 (tM X.K cl W mo) (tMA X.K cl W ms) σ H Q := fun σ H Q ⟨ρ, h, mp, rl, rs, g⟩ =>
  tM_bind rl rs g (fun _ _ z => z) fun x h1 V H1 mp1 f1 rl1 rs1 rv1 g1 => by
    cases rv1 with
    | @ref n a e1 =>
      dsimp only at g1
      split at g1
      · rename_i c' fs cc
        split at g1
        · rename_i hc
          obtain ⟨C', dx, vs, h0, h1', q1⟩ := rl1.obj n _ a cc e1
          rw [hc.1, hC] at h0
          have := Option.some.inj h0
          subst this
          refine ⟨a, dx, vs, rfl, h1', ?_, ?_⟩
          · rcases look_ok (f := mn) q1 with ⟨_, z2⟩ | ⟨y, w, z1, _, _⟩
            · exact z2
            · rw [hc.2] at z1; cases z1
          · exact tMA_bind rl1 rs1 g1 (fun _ _ z => z.fut f1) fun xs h2 Vs H2 mp2 f2 rl2 rs2 rv2 g2 =>
              ⟨_, h2, mp2, rl2, .cons (.ref (f2.le _ _ e1)) (rv2.append (hdm _ _)), toNever (g2.mono (fun v h' q => q.fut (f1.trans f2)) fun _ _ z => z) (ne _ _)⟩
        · exact False.elim g1
      · exact False.elim g1
    | _ => exact False.elim g1
theorem se_meth {pl : Sem Bool} (ne : NoEx1 mf) (hdm : ∀ mp H, RVs X.K mp H dm dvs) (hC : cl cn = some C) (ho : SE X cl W o mo) (c : Cls X.K C) (hm : Meth X.K C mn fa) (F : FnOk X.prog X.w X.K X.mg X.base CX0 k fa fd ps (spM X.K cl mf)) (hr : Room k X.A) (hb : Binds X.K fd ps ds) (hd : Vals dvs ds) (ha : SA X cl W (e :: es) ms)
    (hst : starEach (e :: es) X.env = (false, eval e X.env) :: starEach es X.env := by rfl) (hpl : (backTo pos (starEach es X.env)).any (·.1) = false := by rfl)
    (ht : eval (.Call (.Attribute o mn apos) (e :: es) [] pos) X.env = (do
      let ov ← eval o X.env
      standAt apos.atName
      let (f, first) ← holding [ov] (getMethod ov mn pl)
      callWith pos f first (backTo pos (starEach (e :: es) X.env)) (backToKw pos (keywordEach [] X.env))) := by rfl) :
    SE X cl W (.Call (.Attribute o mn apos) (e :: es) [] pos) (eMeth cn mn mf dm mo ms) := peW (pe_meth ho c hm F hr hb hd pass0 ha hst hpl ht) (tMeth_of ne hdm hC)
theorem se_meth0 {pl : Sem Bool} (ne : NoEx1 mf) (hdm : ∀ mp H, RVs X.K mp H dm dvs) (hC : cl cn = some C) (ho : SE X cl W o mo) (c : Cls X.K C) (hm : Meth X.K C mn fa) (F : FnOk X.prog X.w X.K X.mg X.base CX0 k fa fd ps (spM X.K cl mf)) (hr : Room k X.A) (hb : Binds X.K fd ps ds) (hd : Vals dvs ds)
    (ht : eval (.Call (.Attribute o mn apos) [] [] pos) X.env = (do
      let ov ← eval o X.env
      standAt apos.atName
      let (f, first) ← holding [ov] (getMethod ov mn pl)
      callWith pos f first (backTo pos (starEach [] X.env)) (backToKw pos (keywordEach [] X.env))) := by rfl) :
    SE X cl W (.Call (.Attribute o mn apos) [] [] pos) (eMeth cn mn mf dm mo aNil) := peW (pe_meth0 ho c hm F hr hb hd pass0 ht) fun σ H Q q => by
      obtain ⟨ρ, h, mp, rl, rs, g⟩ := tMeth_of (ms := aNil) ne hdm hC σ H Q q
      exact ⟨ρ, h, mp, rl, rs, g.mono (fun v h' q V H' mp' f1 rl1 rv => by
        obtain ⟨a, dx, fs, e1, e2, e3, ρ2, h2, mp2, rl2, rs2, g2⟩ := q V H' mp' f1 rl1 rv
        exact ⟨a, dx, fs, e1, e2, e3, g2 [] H' mp2 .refl rl2 .nil⟩) fun _ _ z => z⟩
/-- C(..) -/
@[simp] def eMake (c : Str) (mf : List MV → MH → Res MV) (dm : List MV) (ms : MA) : ME := fun ρ h => (ms ρ h).bind fun xs h1 => (mf (.ref h1.length :: (xs ++ dm)) (h1 ++ [.ins c []])).bind fun v h2 => match v with | .non => .ok (.ref h1.length) h2 | _ => .bad
theorem tMake_of (ne : NoEx1 mf) (hdm : ∀ mp H, RVs X.K mp H dm dvs) (hC : cl cn = some C) : ∀ σ H Q, tM X.K cl W (eMake cn mf dm ms) σ H Q → tMake C (spM X.K cl mf) dvs E0 (tMA X.K cl W ms) σ H Q := fun σ H Q ⟨ρ, h, mp, rl, rs, g⟩ =>
  tMA_bind rl rs g (fun _ _ z => z) fun xs h1 Vs H1 mp1 f1 rl1 rs1 rv1 g1 x dx hx hdx hne => by
    have f2 : Fut X.K mp1 mp1 H1 (upd H1 dx (.own x)) := Fut.new hdx
    have rl2 := rl1.new (o := .own x) hdx
    have hx2 : upd H1 dx (.own x) x = none := by rw [upd_ne (Ne.symm hne)]; exact hx
    have f3 : Fut X.K mp1 mp1 (upd H1 dx (.own x)) (upd (upd H1 dx (.own x)) x (.ins C dx [])) := Fut.new hx2
    have rl3 := rl2.new (o := .ins C dx []) hx2
    have f23 := f2.trans f3
    have f4 := f23.toCell (cl := cl) rl3 hx
    have rl4 : Rl X.K cl (Mp.put mp1 h1.length x) (h1 ++ [.ins cn []]) (upd (upd H1 dx (.own x)) x (.ins C dx [])) := rl3.toCell (fun n e => by
      obtain ⟨u, _, ro⟩ := rl1.cell e
      obtain ⟨z, hz, _⟩ := ro.some
      rw [hx] at hz; cases hz) ⟨C, dx, [], hC, upd_same, rfl, .nil⟩
    refine ⟨_, _, _, rl4, .cons (.ref Mp.put_same) ((rv1.fut f4).append (hdm _ _)), (bind_noEx g1 (ne _ _)).mono (fun v h2 g2 V H2 mp2 f5 rl5 rv5 => ?_) fun _ _ z => z⟩
    cases rv5 with
    | non => exact ⟨rfl, g2 _ H2 mp2 (f1.trans (f4.trans f5)) rl5 (.ref (f5.le _ _ Mp.put_same))⟩
    | _ => exact False.elim g2
theorem se_make (ne : NoEx1 mf) (hdm : ∀ mp H, RVs X.K mp H dm dvs) (hC : cl cn = some C) (M : Mk X.K C fa) (F : FnOk X.prog X.w X.K X.mg X.base CX0 k fa fd ps (spM X.K cl mf)) (hr : Room (k + 1) X.A) (hg : Gl X x) (hm : X.mg x = some (.ref C)) (hb : Binds X.K fd ps ds) (hd : Vals dvs ds) (ha : SA X cl W (e :: es) ms)
    (hdb : (x == ("__debug__" : Str)) = false := by decide) (he : starEach (e :: es) X.env = (false, eval e X.env) :: starEach es X.env := by rfl) (hpl : (backTo pos (starEach es X.env)).any (·.1) = false := by rfl) :
    SE X cl W (.Call (.Name x p) (e :: es) [] pos) (eMake cn mf dm ms) := peW (pe_make M F hr hg hm hb hd pass0 ha hdb he hpl) (tMake_of ne hdm hC)
theorem se_make0 (ne : NoEx1 mf) (hdm : ∀ mp H, RVs X.K mp H dm dvs) (hC : cl cn = some C) (M : Mk X.K C fa) (F : FnOk X.prog X.w X.K X.mg X.base CX0 k fa fd ps (spM X.K cl mf)) (hr : Room (k + 1) X.A) (hg : Gl X x) (hm : X.mg x = some (.ref C)) (hb : Binds X.K fd ps ds) (hd : Vals dvs ds)
    (hdb : (x == ("__debug__" : Str)) = false := by decide) :
    SE X cl W (.Call (.Name x p) [] [] pos) (eMake cn mf dm aNil) := peW (pe_make0 M F hr hg hm hb hd pass0 hdb) fun σ H Q q => by
      obtain ⟨ρ, h, mp, rl, rs, g⟩ := tMake_of (ms := aNil) ne hdm hC σ H Q q
      exact g [] H mp .refl rl .nil
end
end
/-! ### statements -/
inductive SRes where
  | nx (ρ : MS) (h : MH) | rt (v : MV) (h : MH) | bk (ρ : MS) (h : MH) | ct (ρ : MS) (h : MH) | ex (e : MV) (ρ : MS) (h : MH) | bad
abbrev MSt := MS → MH → SRes
structure SW4 where
  n : MS → MH → Prop
  r : MV → MH → Prop
  b : MS → MH → Prop
  c : MS → MH → Prop
  e : MV → MS → MH → Prop
def SGood (r : SRes) (D : SW4) : Prop := match r with | .nx ρ h => D.n ρ h | .rt v h => D.r v h | .bk ρ h => D.b ρ h | .ct ρ h => D.c ρ h | .ex e ρ h => D.e e ρ h | .bad => False
structure SW4.Le (D D' : SW4) : Prop where
  n : ∀ ρ h, D.n ρ h → D'.n ρ h
  r : ∀ ρ h, D.r ρ h → D'.r ρ h
  b : ∀ ρ h, D.b ρ h → D'.b ρ h
  c : ∀ ρ h, D.c ρ h → D'.c ρ h
  e : ∀ v ρ h, D.e v ρ h → D'.e v ρ h
theorem SGood.mono {r : SRes} {D D' : SW4} (g : SGood r D) (l : D.Le D') : SGood r D' := by
  cases r with
  | nx ρ h => exact l.n _ _ g
  | rt ρ h => exact l.r _ _ g
  | bk ρ h => exact l.b _ _ g
  | ct ρ h => exact l.c _ _ g
  | ex v ρ h => exact l.e _ _ _ g
  | bad => exact g
/-- an expression's value, then a statement -/
def Res.st {α : Type} (r : Res α) (ρ : MS) (f : α → MH → SRes) : SRes := match r with | .ok a h => f a h | .ex e h => .ex e ρ h | .bad => .bad
@[simp] theorem Res.st_ok {α : Type} (a : α) (h : MH) (ρ : MS) (f : α → MH → SRes) : (Res.ok a h).st ρ f = f a h := rfl
@[simp] theorem Res.st_bad {α : Type} (ρ : MS) (f : α → MH → SRes) : (Res.bad : Res α).st ρ f = .bad := rfl
theorem SGood.st {α : Type} {r : Res α} {ρ : MS} {f : α → MH → SRes} {D : SW4} : SGood (r.st ρ f) D ↔ Good r (fun a h => SGood (f a h) D) (fun e h => D.e e ρ h) := by
  cases r <;> exact Iff.rfl
section
variable (K : PySem.W.Frag) (cl : Str → Option Addr) (mp : Mp) (H : Hp)
def QN (N : L2.St → Hp → Prop) : MS → MH → Prop := fun ρ' h' => ∀ σ' H' mp', Fut K mp mp' H H' → Rl K cl mp' h' H' → RS K mp' H' ρ' σ' → N σ' H'
def QX (W : Wsh) : MV → MS → MH → Prop := fun e ρ' h' => ∀ c d σ' H' mp', Fut K mp mp' H H' → Rl K cl mp' h' H' → RS K mp' H' ρ' σ' → RX K cl mp' H' e c d → W c d σ' H'
def wD (W : Wsh) (D : Ends) : SW4 := ⟨QN K cl mp H D.nx, QV K cl mp H D.rt, QN K cl mp H D.bk, QN K cl mp H D.ct, QX K cl mp H W⟩
end
def tMS (K : PySem.W.Frag) (cl : Str → Option Addr) (W : Wsh) (m : MSt) : TS := fun D σ H => ∃ ρ h mp, Rl K cl mp h H ∧ RS K mp H ρ σ ∧ SGood (m ρ h) (wD K cl mp H W D)
abbrev SS (X : Cx) (cl : Str → Option Addr) (W : Wsh) (st : Stmt) (m : MSt) : Prop := PS X st (tMS X.K cl W m)
abbrev SSs (X : Cx) (cl : Str → Option Addr) (W : Wsh) (st : List Stmt) (m : MSt) : Prop := PSs X st (tMS X.K cl W m)
theorem psW {X : Cx} {e : Stmt} {t t' : TS} (h : PS X e t) (w : ∀ D σ H, t' D σ H → t D σ H) : PS X e t' := ⟨fun pins s σ H D I q => h.run pins s σ H D I (w D σ H q)⟩
theorem pssW {X : Cx} {e : List Stmt} {t t' : TS} (h : PSs X e t) (w : ∀ D σ H, t' D σ H → t D σ H) : PSs X e t' := ⟨fun pins s σ H D I q => h.run pins s σ H D I (w D σ H q)⟩
section
variable {K : PySem.W.Frag} {cl : Str → Option Addr} {W : Wsh} {mp mp1 : Mp} {H H1 : Hp} {h : MH} {ρ : MS} {σ : L2.St}
theorem QN.fut {N : L2.St → Hp → Prop} (f : Fut K mp mp1 H H1) {ρ : MS} {h : MH} (q : QN K cl mp H N ρ h) : QN K cl mp1 H1 N ρ h := fun σ' H' mp' f' => q σ' H' mp' (f.trans f')
theorem QX.fut (f : Fut K mp mp1 H H1) {e : MV} {ρ : MS} {h : MH} (q : QX K cl mp H W e ρ h) : QX K cl mp1 H1 W e ρ h := fun c d σ' H' mp' f' => q c d σ' H' mp' (f.trans f')
theorem wD.fut {D : Ends} (f : Fut K mp mp1 H H1) : (wD K cl mp H W D).Le (wD K cl mp1 H1 W D) := ⟨fun _ _ q => q.fut f, fun _ _ q => q.fut f, fun _ _ q => q.fut f, fun _ _ q => q.fut f, fun _ _ _ q => q.fut f⟩
theorem QX.ew (rs : RS K mp H ρ σ) {e : MV} {h : MH} (q : QX K cl mp H W e ρ h) : EW K cl mp H W σ e h := fun c d H' mp' f rl x => q c d σ H' mp' f rl (rs.fut f) x
/-- an expression first -/
theorem tM_st {m : ME} {f : MV → MH → SRes} {D : SW4} {R : VK} (rl : Rl K cl mp h H) (rs : RS K mp H ρ σ) (g : SGood ((m ρ h).st ρ f) D) (hE : ∀ e h', D.e e ρ h' → EW K cl mp H W σ e h')
    (k : ∀ x h1 V H1 mp1, Fut K mp mp1 H H1 → Rl K cl mp1 h1 H1 → RS K mp1 H1 ρ σ → RV K mp1 H1 x V → SGood (f x h1) D → R V H1) : tM K cl W m σ H R :=
  ⟨ρ, h, mp, rl, rs, (SGood.st.mp g).mono (fun x h1 g1 V H1 mp1 f1 rl1 rv => k x h1 V H1 mp1 f1 rl1 (rs.fut f1) rv g1) hE⟩
theorem tMT_st {m : MS → MH → Res Bool} {f : Bool → MH → SRes} {D : SW4} {R : Bool → Hp → Prop} (rl : Rl K cl mp h H) (rs : RS K mp H ρ σ) (g : SGood ((m ρ h).st ρ f) D) (hE : ∀ e h', D.e e ρ h' → EW K cl mp H W σ e h')
    (k : ∀ x h1 H1 mp1, Fut K mp mp1 H H1 → Rl K cl mp1 h1 H1 → RS K mp1 H1 ρ σ → SGood (f x h1) D → R x H1) : tMT K cl W m σ H R :=
  ⟨ρ, h, mp, rl, rs, (SGood.st.mp g).mono (fun x h1 g1 H1 mp1 f1 rl1 => k x h1 H1 mp1 f1 rl1 (rs.fut f1) g1) hE⟩
end
@[simp] def sNil : MSt := fun ρ h => .nx ρ h
/-- one, then the rest -/
@[simp] def sSeq (m1 m2 : MSt) : MSt := fun ρ h => match m1 ρ h with | .nx ρ1 h1 => m2 ρ1 h1 | .rt v h1 => .rt v h1 | .bk ρ1 h1 => .bk ρ1 h1 | .ct ρ1 h1 => .ct ρ1 h1 | .ex e ρ1 h1 => .ex e ρ1 h1 | .bad => .bad
@[simp] def sRet (m : ME) : MSt := fun ρ h => (m ρ h).st ρ fun x h1 => .rt x h1
@[simp] def sRetN : MSt := fun ρ h => .rt .non h
@[simp] def sExpr (m : ME) : MSt := fun ρ h => (m ρ h).st ρ fun _ h1 => .nx ρ h1
@[simp] def sIf (mc : MS → MH → Res Bool) (m1 m2 : MSt) : MSt := fun ρ h => (mc ρ h).st ρ fun c h1 => if c = true then m1 ρ h1 else m2 ρ h1
@[simp] def sSet (i : Nat) (m : ME) : MSt := fun ρ h => (m ρ h).st ρ fun x h1 => .nx (ρ.set i (some x)) h1
@[simp] def sBreak : MSt := fun ρ h => .bk ρ h
@[simp] def sCont : MSt := fun ρ h => .ct ρ h
@[simp] def sNever : MSt := fun _ _ => .bad
section
variable {X : Cx} {cl : Str → Option Addr} {W : Wsh} {a b c e o : Expr} {es : List Expr} {ma mb mc m mo : ME} {ms la lb : MA} {pos apos cpos p2 pos' : Pos} {f : Str} {st : Stmt} {rest : List Stmt} {m1 m2 : MSt} {mt : MS → MH → Res Bool}
theorem sss_nil : SSs X cl W [] sNil := pssW pss_nil fun D σ H ⟨ρ, h, mp, rl, rs, g⟩ => g σ H mp .refl rl rs
theorem sss_one (h1 : SS X cl W st m1) : SSs X cl W [st] m1 := pss_one h1
theorem sss_cons (h1 : SS X cl W st m1) (h2 : SSs X cl W rest m2) : SSs X cl W (st :: rest) (sSeq m1 m2) := pssW (pss_cons h1 h2) fun D σ H ⟨ρ, h, mp, rl, rs, g⟩ => by
  refine ⟨ρ, h, mp, rl, rs, ?_⟩
  unfold sSeq at g
  cases e : m1 ρ h with
  | nx ρ1 h1 =>
    rw [e] at g
    exact fun σ' H' mp' f rl' rs' => ⟨ρ1, h1, mp', rl', rs', SGood.mono g (wD.fut f)⟩
  | rt v h1 => rw [e] at g; exact g
  | bk v h1 => rw [e] at g; exact g
  | ct v h1 => rw [e] at g; exact g
  | ex v r h1 => rw [e] at g; exact g
  | bad => rw [e] at g; exact g
theorem ss_ret (he : SE X cl W e m) : SS X cl W (.Return (some e) pos) (sRet m) := psW (ps_ret he) fun D σ H ⟨ρ, h, mp, rl, rs, g⟩ =>
  tM_st rl rs g (fun _ _ q => q.ew rs) fun x h1 V H1 mp1 f1 rl1 rs1 rv1 g1 => g1 V H1 mp1 f1 rl1 rv1
theorem ss_retN : SS X cl W (.Return none pos) sRetN := psW ps_retN fun D σ H ⟨ρ, h, mp, rl, rs, g⟩ => g _ H mp .refl rl .non
theorem ss_expr (he : SE X cl W e m) (hs : swapsWith e none pos.line X.env = pure false := by rfl) : SS X cl W (.Expr e pos) (sExpr m) := psW (ps_expr he hs) fun D σ H ⟨ρ, h, mp, rl, rs, g⟩ =>
  tM_st rl rs g (fun _ _ q => q.ew rs) fun x h1 V H1 mp1 f1 rl1 rs1 rv1 g1 => g1 σ H1 mp1 f1 rl1 rs1
theorem ss_if {c : Expr} {a b : List Stmt} (hc : ST X cl W c mt) (ha : SSs X cl W a m1) (hb : SSs X cl W b m2) : SS X cl W (.If c a b pos) (sIf mt m1 m2) := psW (ps_if hc ha hb) fun D σ H ⟨ρ, h, mp, rl, rs, g⟩ =>
  tMT_st rl rs g (fun _ _ q => q.ew rs) fun c h1 H1 mp1 f1 rl1 rs1 g1 => by
    cases c with
    | true => exact ⟨ρ, h1, mp1, rl1, rs1, SGood.mono g1 (wD.fut f1)⟩
    | false => exact ⟨ρ, h1, mp1, rl1, rs1, SGood.mono g1 (wD.fut f1)⟩
theorem ss_set {i : Nat} {x : Str} (hN : X.N.Nodup) (hi : X.N[i]? = some x) (hx : Loc X.env.scope x) (he : SE X cl W e m) (hs : swapsWith e (some (.Name x pos')) pos.line X.env = pure false := by rfl) (hf : X.fn x = true ∨ X.env.scope.names.lookup x = some .local := by first | exact .inl rfl | exact .inr rfl | assumption) :
    SS X cl W (.Assign [.Name x pos'] e pos) (sSet i m) := psW (ps_set hN hi hx he hs hf) fun D σ H ⟨ρ, h, mp, rl, rs, g⟩ =>
  tM_st rl rs g (fun _ _ q => q.ew rs) fun x h1 V H1 mp1 f1 rl1 rs1 rv1 g1 => g1 (σ.set i (some V)) H1 mp1 f1 rl1 (rs1.set rv1)
theorem ss_pass : SS X cl W (.Pass pos) sNil := psW ps_pass fun D σ H ⟨ρ, h, mp, rl, rs, g⟩ => g σ H mp .refl rl rs
theorem ss_break : SS X cl W (.Break pos) sBreak := psW ps_break fun D σ H ⟨ρ, h, mp, rl, rs, g⟩ => g σ H mp .refl rl rs
theorem ss_continue : SS X cl W (.Continue pos) sCont := psW ps_continue fun D σ H ⟨ρ, h, mp, rl, rs, g⟩ => g σ H mp .refl rl rs
theorem ss_never : SS X cl W st sNever := psW ps_never fun D σ H ⟨ρ, h, mp, rl, rs, g⟩ => g
theorem sss_never : SSs X cl W rest sNever := pssW pss_never fun D σ H ⟨ρ, h, mp, rl, rs, g⟩ => g
/-- o.f = e -/
def mSetF (cs : List Str) (f : Str) (x y : MV) (h : MH) : Option MH := match x with
  | .ref n => match h[n]? with | some (.ins c fs) => if c ∈ cs ∧ fs.length < 1000 then some (h.set n (.ins c (putM f y fs))) else none | _ => none
  | _ => none
@[simp] def sSetF (cs : List Str) (f : Str) (mo m : ME) : MSt := fun ρ h => (m ρ h).st ρ fun y h1 => (mo ρ h1).st ρ fun x h2 => match mSetF cs f x y h2 with | some h3 => .nx ρ h3 | none => .bad
theorem ss_fld {cs : List Str} (hC : FldOk X.K cl cs f) (ho : SE X cl W o mo) (he : SE X cl W e m) (hs : swapsWith e (some (.Attribute o f pos')) pos.line X.env = pure false := by rfl) : SS X cl W (.Assign [.Attribute o f pos'] e pos) (sSetF cs f mo m) :=
  psW (ps_fld ho he hs) fun D σ H ⟨ρ, h, mp, rl, rs, g⟩ => tM_st rl rs g (fun _ _ q => q.ew rs) fun y h1 Y H1 mp1 f1 rl1 rs1 rv1 g1 =>
    tM_st rl1 rs1 g1 (fun _ _ q => (q.fut f1).ew rs1) fun x h2 V H2 mp2 f2 rl2 rs2 rv2 g2 => by
      split at g2
      · rename_i h3 e3
        unfold mSetF at e3
        cases rv2 with
        | @ref n a e1 =>
          dsimp only at e3
          split at e3
          · rename_i c fs cc
            split at e3
            · rename_i hc
              have := Option.some.inj e3
              subst this
              obtain ⟨C, dx, vs, h0, h1', q1⟩ := rl2.obj n _ a cc e1
              obtain ⟨k1, k2⟩ := hC c hc.1 C h0
              refine ⟨a, C, dx, vs, rfl, h1', k1, k2, ?_, ?_⟩
              · have : fs.length = vs.length := by simpa using congrArg List.length q1.1
                rw [← this]; exact hc.2
              · have f3 := Fut.set (o := .ins C dx (putF f Y vs)) rl2 e1
                exact g2 σ _ mp2 (f1.trans (f2.trans f3)) (rl2.set e1 ⟨C, dx, _, h0, upd_same, (put_ok (rv1.fut f2) q1).fut f3⟩) (rs2.fut f3)
            · cases e3
          · cases e3
        | _ => cases e3
      · exact False.elim g2
/-- x[i] = e : a list's item, a dict's -/
def putKM (kvs : List (Key × MV)) (k : Key) (v : MV) : List (Key × MV) := match kvs with
  | [] => [(k, v)]
  | (k', w) :: r => if k' = k then (k', v) :: r else (k', w) :: putKM r k v
def mSetI (x i y : MV) (h : MH) : Option MH := match x with
  | .ref n => match h[n]? with
    | some (.lst xs) => (match i with | .int k => (ixN xs.length k).map fun j => h.set n (.lst (xs.set j y)) | _ => none)
    | _ => none
  | _ => none
@[simp] def sSetI (mo mi m : ME) : MSt := fun ρ h => (m ρ h).st ρ fun y h1 => (mo ρ h1).st ρ fun x h2 => (mi ρ h2).st ρ fun i h3 => match mSetI x i y h3 with | some h4 => .nx ρ h4 | none => .bad
theorem ss_setI {i : Expr} {mi : ME} (ho : SE X cl W o mo) (hi : SE X cl W i mi) (he : SE X cl W e m) (hs : swapsWithSole [.Subscript o i pos'] e pos.line X.env = pure false := by rfl) (hw : swappedStores [.Subscript o i pos'] e X.env = pure none := by rfl)
    (h1 : (assignEach [.Subscript o i pos'] X.env).map (·.2) = [assign (.Subscript o i pos') X.env] := by rfl) (ha : ∀ v, assign (.Subscript o i pos') X.env v = (do
      let ov ← holding [v] (eval o X.env)
      let iv ← holding [v, ov] (eval i X.env)
      standAt pos'
      holding [v, ov, iv] (setItem ov iv v)
      release [v, ov, iv] []) := by intro _; rfl) : SS X cl W (.Assign [.Subscript o i pos'] e pos) (sSetI mo mi m) :=
  psW (ps_asg he (pg_sub ho hi set_list ha) hs hw h1) fun D σ H ⟨ρ, h, mp, rl, rs, g⟩ => tM_st rl rs g (fun _ _ q => q.ew rs) fun y h1 Y H1 mp1 f1 rl1 rs1 rv1 g1 =>
    tM_st rl1 rs1 g1 (fun _ _ q => (q.fut f1).ew rs1) fun x h2 V H2 mp2 f2 rl2 rs2 rv2 g2 => tM_st rl2 rs2 g2 (fun _ _ q => (q.fut (f1.trans f2)).ew rs2) fun i h3 Z H3 mp3 f3 rl3 rs3 rv3 g3 => by
      split at g3
      · rename_i h4 e4
        unfold mSetI at e4
        cases rv2.fut f3 with
        | @ref n a e1 =>
          dsimp only at e4
          split at e4
          · rename_i xs cc
            cases rv3 with
            | int k =>
              simp only [Option.map_eq_some_iff] at e4
              obtain ⟨j, e5, e6⟩ := e4
              subst e6
              obtain ⟨vs, h1', q1⟩ := rl3.obj n _ a cc e1
              refine ⟨a, vs, k, j, rfl, rfl, h1', by rw [← q1.length]; exact e5, ?_⟩
              have f4 := Fut.set (o := .lst (vs.set j Y)) rl3 e1
              exact g3 σ _ mp3 (f1.trans (f2.trans (f3.trans f4))) (rl3.set e1 ⟨_, upd_same, (q1.set (rv1.fut (f2.trans f3)) j).fut f4⟩) (rs3.fut f4)
            | _ => cases e4
          · cases e4
        | _ => cases e4
      · exact False.elim g3
/-- name += e -/
@[simp] def sAug (i : Nat) (mo : MV → MV → MH → Res MV) (m : ME) : MSt := fun ρ h => match ρ[i]? with
  | some (some x) => (m ρ h).st ρ fun y h1 => (mo x y h1).st ρ fun z h2 => .nx (ρ.set i (some z)) h2
  | _ => .bad
def mIadd (x y : MV) (h : MH) : Res MV := match x, y with
  | .int i, .int j => .ok (.int (i + j)) h
  | .str a, .str b => if szOk (a.length + b.length) then .ok (.str (a ++ b)) h else .bad
  | _, _ => .bad
theorem mIadd_noEx : NoEx2 mIadd := by
  intro x y h e h' z
  unfold mIadd at z
  repeat' split at z
  all_goals cases z
theorem iaddM : PIp X .Add (rM X.K cl mIadd) := by
  intro pins s σ H V Y v u Q I rx ry ⟨x, y, h, mp, rl, r1, r2, g⟩
  cases r1 with
  | int i =>
    cases r2 with
    | int j => exact iop_add pins s σ H _ _ v u Q I rx ry ⟨i, j, rfl, rfl, g _ H mp .refl rl (.int _)⟩
    | _ => exact False.elim g
  | str a =>
    cases r2 with
    | str b =>
      unfold mIadd at g
      dsimp only at g
      split at g
      · rename_i hz
        exact iop_add_str pins s σ H _ _ v u Q I rx ry ⟨a, b, rfl, rfl, hz.le, g _ H mp .refl rl (.str _)⟩
      · exact False.elim g
    | _ => exact False.elim g
  | _ => exact False.elim g
theorem ss_aug {i : Nat} {x : Str} {op : Operator} {mo : MV → MV → MH → Res MV} (ne : NoEx2 mo) (hN : X.N.Nodup) (hi : X.N[i]? = some x) (hx : Loc X.env.scope x) (he : SE X cl W e m) (ho : PIp X op (rM X.K cl mo)) (hf : X.fn x = true ∨ X.env.scope.names.lookup x = some .local := by first | exact .inl rfl | exact .inr rfl | assumption) :
    SS X cl W (.AugAssign (.Name x pos') op e pos) (sAug i mo m) := psW (ps_aug hN hi hx he ho hf) fun D σ H ⟨ρ, h, mp, rl, rs, g⟩ => by
  unfold sAug at g
  split at g
  · rename_i x ex
    obtain ⟨V, e1, rv⟩ := rs.at_ i x ex
    refine ⟨V, e1, tM_st rl rs g (fun _ _ q => q.ew rs) fun y h1 Y H1 mp1 f1 rl1 rs1 rv1 g1 => ⟨x, y, h1, mp1, rl1, rv.fut f1, rv1, (toNever (SGood.st.mp g1) (ne _ _ _)).mono (fun z h2 g2 Z H2 mp2 f2 rl2 rv2 => ?_) fun _ _ z => z⟩⟩
    exact g2 (σ.set i (some Z)) H2 mp2 (f1.trans f2) rl2 ((rs1.fut f2).set rv2)
  · exact False.elim g
end
end Sm

set_option Elab.async false
set_option linter.all false
set_option maxRecDepth 100000
set_option maxHeartbeats 4000000
/-! targets, what a loop walks, loops, comprehensions, defs -/
namespace Sm
open PySem PySem.Spec PyProof.Rows L2
/-! ### targets -/
inductive Tg where
  | one (i : Nat) | many (is : List Nat) | nest (i : Nat) (is : List Nat)
def setMany {α : Type} (ρ : List (Option α)) : List Nat → List α → List (Option α)
  | i :: is, x :: xs => setMany (ρ.set i (some x)) is xs
  | _, _ => ρ
def Tg.set (t : Tg) (x : MV) (ρ : MS) : Option MS := match t with
  | .one i => some (ρ.set i (some x))
  | .many is => match x with | .tup xs => if xs.length = is.length then some (setMany ρ is xs) else none | _ => none
  | .nest i is => match x with | .tup [y, .tup zs] => if zs.length = is.length then some (setMany (ρ.set i (some y)) is zs) else none | _ => none
def Tg.slots : Tg → List Nat | .one i => [i] | .many is => is | .nest i is => i :: is
def gNames : List Nat → TGs
  | [] => gNil
  | i :: is => gCons (gName i) (gNames is)
def Tg.g (K : PySem.W.Frag) : Tg → TG
  | .one i => gName i
  | .many is => gTup K is.length (gNames is)
  | .nest i is => gTup K 2 (gCons (gName i) (gCons (gTup K is.length (gNames is)) gNil))
theorem gNames_of : ∀ {is : List Nat} {vs : List L2.V} {σ : L2.St} {H : Hp} {Q : L2.St → Hp → Prop}, vs.length = is.length → Q (setMany σ is vs) H → gNames is vs σ H Q
  | [], vs, σ, H, Q, hl, q => by
    have : vs = [] := List.length_eq_zero_iff.mp hl
    subst this
    exact ⟨rfl, q⟩
  | i :: is, [], σ, H, Q, hl, q => by simp at hl
  | i :: is, v :: vs, σ, H, Q, hl, q => ⟨v, vs, rfl, gNames_of (by simpa using hl) q⟩
theorem wipe_get (σ : L2.St) : ∀ (vs : List Nat) (k : Nat), (wipe σ vs)[k]? = if k ∈ vs then (if k < σ.length then some none else none) else σ[k]?
  | [], k => by simp [wipe]
  | v :: vs, k => by
    unfold wipe
    by_cases hk : v = k
    · subst hk
      by_cases hl : v < σ.length
      · rw [List.getElem?_set_self (by rw [wipe_length]; exact hl)]; simp [hl]
      · rw [List.getElem?_eq_none (by rw [List.length_set, wipe_length]; omega)]; simp [hl]
    · rw [List.getElem?_set_ne hk, wipe_get σ vs k]
      have : (k ∈ v :: vs) ↔ k ∈ vs := by simp [Ne.symm hk]
      simp only [this]
theorem wipe_set {σ : L2.St} {i : Nat} {x : Option L2.V} {vs : List Nat} (h : i ∈ vs) : wipe (σ.set i x) vs = wipe σ vs := by
  apply List.ext_getElem?
  intro k
  rw [wipe_get, wipe_get, List.length_set]
  by_cases hk : k ∈ vs
  · simp [hk]
  · have : i ≠ k := fun z => hk (z ▸ h)
    simp [hk, List.getElem?_set_ne this]
theorem wipe_many {vs : List Nat} : ∀ {is : List Nat} {xs : List L2.V} {σ : L2.St}, (∀ i, i ∈ is → i ∈ vs) → wipe (setMany σ is xs) vs = wipe σ vs
  | [], xs, σ, _ => by unfold setMany; rfl
  | i :: is, [], σ, _ => by unfold setMany; rfl
  | i :: is, x :: xs, σ, h => by
    unfold setMany
    rw [wipe_many fun j hj => h j (by simp [hj]), wipe_set (h i (by simp))]
theorem wipe_wipe (σ : L2.St) (vs : List Nat) : wipe (wipe σ vs) vs = wipe σ vs := by
  apply List.ext_getElem?
  intro k
  rw [wipe_get (wipe σ vs), wipe_get σ, wipe_length]
  by_cases hk : k ∈ vs <;> simp [hk]
theorem rs_many {K : PySem.W.Frag} {mp : Mp} {H : Hp} : ∀ {is : List Nat} {xs : List MV} {vs : List L2.V} {ρ : MS} {σ : L2.St}, RS K mp H ρ σ → RVs K mp H xs vs → RS K mp H (setMany ρ is xs) (setMany σ is vs)
  | [], _, _, ρ, σ, r, _ => by unfold setMany; exact r
  | i :: is, _, _, ρ, σ, r, .nil => by unfold setMany; exact r
  | i :: is, _, _, ρ, σ, r, .cons q t => by unfold setMany; exact rs_many (r.set q) t
theorem tg_ok {K : PySem.W.Frag} {mp : Mp} {H : Hp} {t : Tg} {x : MV} {V : L2.V} {ρ ρ' : MS} {σ : L2.St} (e : t.set x ρ = some ρ') (rv : RV K mp H x V) (rs : RS K mp H ρ σ) :
    ∃ σ', RS K mp H ρ' σ' ∧ (∀ Q : L2.St → Hp → Prop, Q σ' H → t.g K V σ H Q) ∧ ∀ vs, (∀ i, i ∈ t.slots → i ∈ vs) → wipe σ' vs = wipe σ vs := by
  cases t with
  | one i =>
    have := Option.some.inj e
    subst this
    exact ⟨σ.set i (some V), rs.set rv, fun Q q => q, fun vs h => wipe_set (h i (by simp [Tg.slots]))⟩
  | many is =>
    unfold Tg.set at e
    cases rv with
    | @tup xs vs a h1 q1 =>
      dsimp only at e
      split at e
      · rename_i hl
        have := Option.some.inj e
        subst this
        exact ⟨setMany σ is vs, rs_many rs q1, fun Q q => ⟨a, vs, rfl, h1, by rw [← q1.length]; exact hl, gNames_of (by rw [← q1.length]; exact hl) q⟩, fun ws h => wipe_many h⟩
      · cases e
    | _ => cases e
  | nest i is =>
    unfold Tg.set at e
    dsimp only at e
    split at e
    · rename_i y zs
      split at e
      · rename_i hl
        have := Option.some.inj e
        subst this
        cases rv with
        | @tup _ vs a h1 q1 =>
          cases q1 with
          | @cons _ v _ _ ry q2 =>
            cases q2 with
            | @cons _ u _ _ rz q3 =>
              cases q3
              cases rz with
              | @tup _ ws b h2 q4 =>
                refine ⟨setMany (σ.set i (some v)) is ws, rs_many (rs.set ry) q4, fun Q q => ⟨a, _, rfl, h1, rfl, v, [.ref b], rfl, .ref b, [], rfl, ⟨b, ws, rfl, h2, by rw [← q4.length]; exact hl, gNames_of (by rw [← q4.length]; exact hl) ⟨rfl, q⟩⟩⟩, fun vs h => ?_⟩
                rw [wipe_many fun j hj => h j (by simp [Tg.slots, hj]), wipe_set (h i (by simp [Tg.slots]))]
      · cases e
    · cases e
/-! ### what is no cell may be written -/
structure Fu (K : PySem.W.Frag) (mp mp' : Mp) (H H' : Hp) : Prop where
  le : ∀ n a, mp n = some a → mp' n = some a
  tt : ∀ a xs, TpA K H a xs → TpA K H' a xs
  sf : ∀ a xs, SqF K H a xs → SqF K H' a xs
  tx : ∀ a z, FzA H a z → FzA H' a z
  cd : ∀ c q, H c = some (LamX.CodeO c q) → (∀ n, mp n ≠ some c) → H' c = some (LamX.CodeO c q) ∧ ∀ n, mp' n ≠ some c
theorem Fut.fu {K : PySem.W.Frag} {mp mp' : Mp} {H H' : Hp} (f : Fut K mp mp' H H') : Fu K mp mp' H H' := ⟨f.le, f.tt, f.sf, f.tx, fun c q => f.fr c _⟩
section
variable {K : PySem.W.Frag} {cl : Str → Option Addr} {mp mp' : Mp} {H H' : Hp} {h : MH}
mutual
theorem RV.fu (f : Fu K mp mp' H H') : ∀ {x : MV} {v : L2.V}, RV K mp H x v → RV K mp' H' x v
  | _, _, .non => .non
  | _, _, .bl b => .bl b
  | _, _, .int i => .int i
  | _, _, .str x => .str x
  | _, _, .ref h => .ref (f.le _ _ h)
  | _, _, .tup h r => .tup (f.tt _ _ h) (RVs.fu f r)
  | _, _, .scr h r => .scr (f.sf _ _ h) (RVs.fu f r)
  | _, _, .tux h r => .tux (f.tx _ _ h) (RVs.fu f r)
  | _, _, .fdc h l r => .fdc (f.tx _ _ h) l (RVs.fu f r)
theorem RVs.fu (f : Fu K mp mp' H H') : ∀ {xs : List MV} {vs : List L2.V}, RVs K mp H xs vs → RVs K mp' H' xs vs
  | _, _, .nil => .nil
  | _, _, .cons r t => .cons (RV.fu f r) (RVs.fu f t)
end
theorem RO.fu {o : MO} {a : Addr} (f : Fu K mp mp' H H') (e : H' a = H a) (r : RO K cl mp H o a) : RO K cl mp' H' o a := by
  cases o with
  | lst xs => obtain ⟨vs, h1, h2⟩ := r; exact ⟨vs, e.trans h1, h2.fu f⟩
  | ins c fs => obtain ⟨C, dx, vs, h0, h1, h2⟩ := r; exact ⟨C, dx, vs, h0, e.trans h1, h2.1, h2.2.fu f⟩
  | dct kvs => obtain ⟨vs, h1, h2⟩ := r; exact ⟨vs, e.trans h1, h2.1, h2.2.fu f⟩
  | tab q => obtain ⟨h0, h1⟩ := r; exact ⟨h0, h1.go e fun c => f.cd c q⟩
theorem Fu.tmp {D : Addr} {vs ws : List L2.V} (hD : H D = some (.lst vs)) : Fu K mp mp H (upd H D (.lst ws)) :=
  ⟨fun _ _ h => h, TpA.set (fun xs q => by
    rcases q with q | ⟨o, q⟩ <;> rw [hD] at q <;> cases q), fun a xs t => by
    rcases t with ⟨u, t⟩ | t
    · refine .inl ⟨u, ?_⟩
      rw [upd_ne]
      · exact t
      · intro z; subst z; rw [hD] at t; cases t
    · exact .inr t, fun a xs ⟨u, t, c⟩ => ⟨u, (by
    rw [upd_ne]
    · exact t
    · intro z; subst z; rw [hD] at t; cases t), c⟩, fun c q e n => ⟨(by
    rw [upd_ne]
    · exact e
    · intro z; subst z; rw [hD] at e; cases e), n⟩⟩
theorem Rl.tmp {D : Addr} {vs ws : List L2.V} (rl : Rl K cl mp h H) (hD : H D = some (.lst vs)) (np : ∀ n, mp n ≠ some D) : Rl K cl mp h (upd H D (.lst ws)) :=
  ⟨rl.dom, rl.has, rl.inj, fun n o a e q => (rl.obj n o a e q).fu (Fu.tmp hD) (upd_ne fun z => np n (by rw [← z]; exact q))⟩
theorem Fut.tmp {mp0 : Mp} {H0 : Hp} {D : Addr} {vs ws : List L2.V} (f : Fut K mp0 mp H0 H) (h0 : H0 D = none) (hD : H D = some (.lst vs)) : Fut K mp0 mp H0 (upd H D (.lst ws)) :=
  ⟨f.le, fun a xs t => (Fu.tmp (mp := mp) hD).tt a xs (f.tt a xs t), fun a xs t => (Fu.tmp (mp := mp) hD).sf a xs (f.sf a xs t), fun a o e n => by
    obtain ⟨h1, h2⟩ := f.fr a o e n
    exact ⟨by rw [upd_ne (ne_of_none e h0)]; exact h1, h2⟩, fun a xs t => (Fu.tmp (K := K) (mp := mp) hD).tx a xs (f.tx a xs t)⟩
/-- what is new now was new before -/
theorem Fut.back {mp0 : Mp} {H0 : Hp} {p : Addr} (f : Fut K mp0 mp H0 H) (rl : Rl K cl mp h H) (hp : H p = none) : H0 p = none := by
  cases e : H0 p with
  | none => rfl
  | some o =>
    by_cases hn : ∃ n, mp0 n = some p
    · obtain ⟨n, hn⟩ := hn
      obtain ⟨u, _, ro⟩ := rl.cell (f.le n p hn)
      obtain ⟨z, hz, _⟩ := ro.some
      rw [hp] at hz; cases hz
    · have := (f.fr p o e fun n hz => hn ⟨n, hz⟩).1
      rw [hp] at this; cases this
theorem Rl.np {p : Addr} (rl : Rl K cl mp h H) (hp : H p = Option.none) : ∀ n, mp n ≠ some p := fun n hn => by
  obtain ⟨u, _, ro⟩ := rl.cell hn
  obtain ⟨z, hz, _⟩ := ro.some
  rw [hp] at hz; cases hz
end
/-! ### what a loop walks -/
abbrev Gs := List (Nat × List MV)
/-- the walked lists are as they were -/
def gOk (gs : Gs) (h : MH) : Prop := ∀ g, g ∈ gs → h[g.1]? = some (.lst g.2)
@[simp] theorem gOk_nil (h : MH) : gOk [] h = True := eq_true (fun g hg => by cases hg)
structure JOk (K : PySem.W.Frag) (cl : Str → Option Addr) (J : It) (xs : List MV) (gs : Gs) (mp0 : Mp) (H0 : Hp) : Prop where
  step : ∀ (i : Nat) x mp h H, Fut K mp0 mp H0 H → Rl K cl mp h H → gOk gs h → xs[i]? = some x → J.go i H ∧ ∀ V H', J.yld i H V H' → Fut K mp mp H H' ∧ Rl K cl mp h H' ∧ RV K mp H' x V
  stop : ∀ (i : Nat) mp h H, Fut K mp0 mp H0 H → Rl K cl mp h H → gOk gs h → xs.length ≤ i → J.stop i H
abbrev MI := MS → MH → Res (List MV × Gs)
def tMI (K : PySem.W.Frag) (cl : Str → Option Addr) (W : Wsh) (m : MI) : TI := fun σ H R => ∃ ρ h mp, Rl K cl mp h H ∧ RS K mp H ρ σ ∧ Good (m ρ h) (fun xg h' => ∀ J H' mp', Fut K mp mp' H H' → Rl K cl mp' h' H' → JOk K cl J xg.1 xg.2 mp' H' → R J H') (EW K cl mp H W σ)
abbrev SI (X : Cx) (cl : Str → Option Addr) (W : Wsh) (tg iter : Expr) (m : MI) : Prop := PI X tg iter (tMI X.K cl W m)
theorem piW {X : Cx} {tg e : Expr} {t t' : TI} (h : PI X tg e t) (w : ∀ σ H R, t' σ H R → t σ H R) : PI X tg e t' := ⟨fun pins s σ H R I q => h.run pins s σ H R I (w σ H R q)⟩
def iAny (K : PySem.W.Frag) (tl : TE) : TI := fun σ H R => tl σ H fun x H1 => (∃ a, x = .ref a ∧ (((∃ xs, SqL K H1 a xs) ∧ R (Itl K a) H1) ∨ ((∃ xs, SqT K H1 a xs) ∧ R (Itt K a) H1))) ∨ ∃ z, x = .str z ∧ R (Its z) H1
theorem pi_any {X : Cx} {tg ex : Expr} {te : TE} (pe : PE X ex te) : PI X tg ex (iAny X.K te) where
  run := by
    intro pn st sg Hh Rr inv hw
    apply thn (pe.run pn st sg Hh _ inv hw)
    rintro val st1 ⟨vv, Hn, inv1, rel, alt⟩
    have fresh1 : ∀ b, b ∈ [st1.heap.objs.size] → FpOk X pn Hn b := by
      intro b hb
      rw [List.mem_singleton] at hb
      rw [hb]
      exact inv1.fpOk (Nat.le_refl _) (inv1.hok.fresh (Nat.le_refl _))
    have keep1 : ∀ ob : Obj, Inv X pn sg Hn { st1 with heap := st1.heap.push ob } := fun ob =>
      inv1.kept (t' := st1.toks) (fun _ _ e => Heap.get?_push_of_some _ e)
    rcases alt with ⟨adr, eadr, ⟨⟨ys, hys⟩, go⟩ | ⟨⟨ys, hys⟩, go⟩⟩ | ⟨z, ez, go⟩
    · subst eadr
      cases rel
      obtain ⟨vals, _, pl, _⟩ := inv1.list hys
      apply wpAny_pyIter_list pl.isList
      exact ⟨_, _, _, _, Hn, rfl, keep1 _, turn_list adr _, ⟨_, Heap.get?_push_size _ rfl, rfl, rfl⟩, fresh1, go⟩
    · subst eadr
      cases rel
      obtain ⟨vals, _, pl, _⟩ := inv1.tuple hys
      apply wpAny_pyIter_tuple (show st1.heap.IsTuple adr vals.toArray from pl)
      exact ⟨_, _, _, _, Hn, rfl, keep1 _, turn_tuple adr _, ⟨_, Heap.get?_push_size _ rfl, rfl, rfl⟩, fresh1, go⟩
    · subst ez
      obtain ⟨t, rfl⟩ := rel
      cases ha : z.cps.all (· < 128)
      · exact wpAny_pyIter_wide ha (pi_one (tk := st1.toks) inv1 _ (turn_str _ z t "str_iterator" (.inr rfl)) ⟨_, Heap.get?_push_size _ rfl, rfl, rfl⟩ go)
      · exact wpAny_pyIter_ascii ha (pi_one (tk := st1.toks) inv1 _ (turn_str _ z t "str_ascii_iterator" (.inl rfl)) ⟨_, Heap.get?_push_size _ rfl, rfl, rfl⟩ go)
section
variable {X : Cx} {cl : Str → Option Addr} {W : Wsh} {tg a b c e o : Expr} {es : List Expr} {ma mb mc m mo : ME} {ms la lb : MA} {pos apos cpos p2 pos' p : Pos} {mi : MI}
def signs (z : Str) : List MV := z.cps.toList.map fun c => .str ⟨#[c]⟩
/-- the items of a value that is walked, and what must stay -/
def walkOf (x : MV) (h : MH) : Option (List MV × Gs) := match x with
  | .tup xs => some (xs, [])
  | .scr xs => some (xs, [])
  | .str z => some (signs z, [])
  | .ref n => match h[n]? with | some (.lst xs) => some (xs, [(n, xs)]) | _ => none
  | _ => none
@[simp] def iOf (m : ME) : MI := fun ρ h => (m ρ h).bind fun x h1 => match walkOf x h1 with | some xg => .ok xg h1 | none => .bad
theorem jok_list {K : PySem.W.Frag} {mp0 : Mp} {H0 : Hp} {a : Addr} {xs : List MV} {gs : Gs} (hs : ∀ mp h H, Fut K mp0 mp H0 H → Rl K cl mp h H → gOk gs h → ∃ vs, SqL K H a vs ∧ RVs K mp H xs vs ∧ ∀ ws, SqL K H a ws → ws = vs) : JOk K cl (Itl K a) xs gs mp0 H0 where
  step := fun i x mp h H f rl g e => by
    obtain ⟨vs, h1, h2, h3⟩ := hs mp h H f rl g
    obtain ⟨v, e1, r1⟩ := h2.get e
    refine ⟨⟨vs, v, h1, e1⟩, fun V H' ⟨e2, e3⟩ => ?_⟩
    subst e2
    have := e3 vs h1
    rw [e1] at this
    have := Option.some.inj this
    subst this
    exact ⟨.refl, rl, r1⟩
  stop := fun i mp h H f rl g l => by
    obtain ⟨vs, h1, h2, h3⟩ := hs mp h H f rl g
    exact ⟨vs, h1, by rw [← h2.length]; exact l⟩
theorem jok_tup {K : PySem.W.Frag} {mp0 : Mp} {H0 : Hp} {a : Addr} {xs : List MV} {vs : List L2.V} (h1 : TpA K H0 a vs) (q1 : RVs K mp0 H0 xs vs) : JOk K cl (Itt K a) xs [] mp0 H0 where
  step := fun i x mp h H f rl g e => by
    obtain ⟨v, e1, r1⟩ := (q1.fut f).get e
    refine ⟨⟨vs, v, f.tt _ _ h1, e1⟩, fun V H' ⟨e2, e3⟩ => ?_⟩
    subst e2
    have := e3 vs (f.tt _ _ h1)
    rw [e1] at this
    have := Option.some.inj this
    subst this
    exact ⟨.refl, rl, r1⟩
  stop := fun i mp h H f rl g l => ⟨vs, f.tt _ _ h1, by rw [← q1.length]; exact l⟩
theorem jok_str {K : PySem.W.Frag} {mp0 : Mp} {H0 : Hp} {z : Str} : JOk K cl (Its z) (signs z) [] mp0 H0 where
  step := fun i x mp h H f rl g e => by
    unfold signs at e
    rw [List.getElem?_map, Option.map_eq_some_iff] at e
    obtain ⟨c, e1, rfl⟩ := e
    have l : i < z.cps.size := by
      have := (List.getElem?_eq_some_iff.mp e1).1
      simpa using this
    refine ⟨l, fun V H' ⟨e2, c', e3, e4⟩ => ?_⟩
    subst e2 e4
    have : c = c' := by
      rw [Array.getElem?_toList] at e1
      rw [e1] at e3
      exact Option.some.inj e3
    subst this
    exact ⟨.refl, rl, .str _⟩
  stop := fun i mp h H f rl g l => by
    have : z.cps.size ≤ i := by simpa [signs] using l
    exact this
/-- a list's items are told by the list alone -/
theorem jok_list' {K : PySem.W.Frag} {mp0 : Mp} {H0 : Hp} {a : Addr} {xs : List MV} {gs : Gs} (hs : ∀ mp h H, Fut K mp0 mp H0 H → Rl K cl mp h H → gOk gs h → ∃ vs, SqL K H a vs ∧ RVs K mp H xs vs) : JOk K cl (Itl K a) xs gs mp0 H0 where
  step := fun i x mp h H f rl g e => by
    obtain ⟨vs, h1, h2⟩ := hs mp h H f rl g
    obtain ⟨v, e1, r1⟩ := h2.get e
    refine ⟨⟨vs, v, h1, e1⟩, fun V H' ⟨e2, e3⟩ => ?_⟩
    subst e2
    have := e3 vs h1
    rw [e1] at this
    have := Option.some.inj this
    subst this
    exact ⟨.refl, rl, r1⟩
  stop := fun i mp h H f rl g l => by
    obtain ⟨vs, h1, h2⟩ := hs mp h H f rl g
    exact ⟨vs, h1, by rw [← h2.length]; exact l⟩
theorem cell_list {K : PySem.W.Frag} {mp0 : Mp} {H0 : Hp} {n : Nat} {a : Addr} {xs : List MV} (e1 : mp0 n = some a) : ∀ mp h H, Fut K mp0 mp H0 H → Rl K cl mp h H → gOk [(n, xs)] h → ∃ vs, SqL K H a vs ∧ RVs K mp H xs vs := fun mp h H f rl g => by
  obtain ⟨vs, h1, q1⟩ := rl.obj n _ a (g (n, xs) (by simp)) (f.le _ _ e1)
  exact ⟨vs, SqL.of h1, q1⟩
theorem si_of (he : SE X cl W e m) : SI X cl W tg e (iOf m) := piW (pi_any he) fun σ H R ⟨ρ, h, mp, rl, rs, g⟩ =>
  tM_bind rl rs g (fun _ _ z => z) fun x h1 V H1 mp1 f1 rl1 rs1 rv1 g1 => by
    split at g1
    · rename_i xg ex
      unfold walkOf at ex
      cases rv1 with
      | tup h2 q2 =>
        have := Option.some.inj ex
        subst this
        exact .inl ⟨_, rfl, .inr ⟨⟨_, h2⟩, g1 _ H1 mp1 f1 rl1 (jok_tup h2 q2)⟩⟩
      | scr h2 q2 =>
        have := Option.some.inj ex
        subst this
        exact .inl ⟨_, rfl, .inl ⟨⟨_, h2.sql⟩, g1 _ H1 mp1 f1 rl1 (jok_list' fun mp h H f rl g => ⟨_, (f.sf _ _ h2).sql, q2.fut f⟩)⟩⟩
      | str z =>
        have := Option.some.inj ex
        subst this
        exact .inr ⟨z, rfl, g1 _ H1 mp1 f1 rl1 jok_str⟩
      | @ref n a e1 =>
        dsimp only at ex
        split at ex
        · rename_i xs cc
          have := Option.some.inj ex
          subst this
          obtain ⟨vs, h2, q2⟩ := rl1.obj n _ a cc e1
          exact .inl ⟨_, rfl, .inl ⟨⟨_, SqL.of h2⟩, g1 _ H1 mp1 f1 rl1 (jok_list' (cell_list e1))⟩⟩
        · cases ex
      | _ => cases ex
    · exact False.elim g1
@[simp] def iLst (la : MA) : MI := fun ρ h => (la ρ h).bind fun xs h1 => .ok (xs, []) h1
theorem si_lst (he : SL X cl W e la) : SI X cl W tg e (iLst la) := piW (pi_list he) fun σ H R ⟨ρ, h, mp, rl, rs, g⟩ =>
  tML_bind rl rs g (fun _ _ z => z) fun xs h1 p vs H1 mp1 f1 rl1 rs1 h0 np hp rv g1 =>
    ⟨p, rfl, ⟨vs, SqL.of hp⟩, g1 _ H1 mp1 f1 rl1 (jok_list' fun mp h H f rl g => ⟨vs, SqL.of (f.fr p _ hp np).1, rv.fut f⟩)⟩
def intR (lo : Int) (n : Nat) : List MV := (List.range n).map fun (k : Nat) => MV.int (lo + (k : Int))
theorem jok_range {K : PySem.W.Frag} {mp0 : Mp} {H0 : Hp} {lo : Int} {n : Nat} : JOk K cl (Itr lo n) (intR lo n) [] mp0 H0 where
  step := fun i x mp h H f rl g e => by
    unfold intR at e
    rw [List.getElem?_map, Option.map_eq_some_iff] at e
    obtain ⟨k, e1, rfl⟩ := e
    obtain ⟨l, e2⟩ := List.getElem?_eq_some_iff.mp e1
    simp at l e2
    subst e2
    refine ⟨l, fun V H' ⟨e2, e3⟩ => ?_⟩
    subst e2 e3
    exact ⟨.refl, rl, .int _⟩
  stop := fun i mp h H f rl g l => by
    have : n ≤ i := by simpa [intR] using l
    exact this
@[simp] def iRange1 (ms : MA) : MI := fun ρ h => (ms ρ h).bind fun xs h1 => match xs with
  | [.int j] => if -(2 ^ 62) ≤ j ∧ j < 2 ^ 62 then .ok (intR 0 j.toNat, []) h1 else .bad
  | _ => .bad
@[simp] def iRange2 (ms : MA) : MI := fun ρ h => (ms ρ h).bind fun xs h1 => match xs with
  | [.int i, .int j] => if (-(2 ^ 62) ≤ i ∧ i < 2 ^ 62) ∧ -(2 ^ 62) ≤ j ∧ j < 2 ^ 62 then .ok (intR i (j - i).toNat, []) h1 else .bad
  | _ => .bad
theorem si_range1 (hg : Gl X "range") (hm : X.mg "range" = none) (ha : SA X cl W [a] ms) (hs : starEach [a] X.env = [(false, eval a X.env)] := by rfl) : SI X cl W tg (.Call (.Name "range" p) [a] [] pos) (iRange1 ms) :=
  piW (pi_range1 hg hm ha hs) fun σ H R ⟨ρ, h, mp, rl, rs, g⟩ => tMA_bind rl rs g (fun _ _ z => z) fun xs h1 V H1 mp1 f1 rl1 rs1 rv1 g1 => by
    split at g1
    · rename_i j
      obtain ⟨Y, rfl, ry⟩ := rvs1 rv1
      cases ry
      split at g1
      · rename_i hz
        exact ⟨j, rfl, hz.1, hz.2, g1 _ H1 mp1 f1 rl1 jok_range⟩
      · exact False.elim g1
    · exact False.elim g1
theorem si_range2 (hg : Gl X "range") (hm : X.mg "range" = none) (ha : SA X cl W [a, b] ms) (hs : starEach [a, b] X.env = [(false, eval a X.env), (false, eval b X.env)] := by rfl) (hs2 : starEach [b] X.env = [(false, eval b X.env)] := by rfl) : SI X cl W tg (.Call (.Name "range" p) [a, b] [] pos) (iRange2 ms) :=
  piW (pi_range2 hg hm ha hs hs2) fun σ H R ⟨ρ, h, mp, rl, rs, g⟩ => tMA_bind rl rs g (fun _ _ z => z) fun xs h1 V H1 mp1 f1 rl1 rs1 rv1 g1 => by
    split at g1
    · rename_i i j
      obtain ⟨Z, Y, rfl, rz, ry⟩ := rvs2 rv1
      cases ry
      cases rz
      split at g1
      · rename_i hz
        exact ⟨i, j, rfl, ⟨hz.1.1, hz.1.2, hz.2.1, hz.2.2⟩, g1 _ H1 mp1 f1 rl1 jok_range⟩
      · exact False.elim g1
    · exact False.elim g1
/-- enumerate -/
def enumM (xs : List MV) : List MV := xs.zipIdx.map fun p => .tup [.int (p.2 : Nat), p.1]
theorem enumM_get {xs : List MV} {i : Nat} {y : MV} (e : (enumM xs)[i]? = some y) : ∃ x, xs[i]? = some x ∧ y = .tup [.int (i : Nat), x] := by
  unfold enumM at e
  rw [List.getElem?_map, Option.map_eq_some_iff] at e
  obtain ⟨q, e1, e2⟩ := e
  rw [List.getElem?_zipIdx, Option.map_eq_some_iff] at e1
  obtain ⟨x, e3, e4⟩ := e1
  subst e4
  exact ⟨x, e3, by simpa using e2.symm⟩
theorem jok_enum {K : PySem.W.Frag} {mp0 : Mp} {H0 : Hp} {a : Addr} {xs : List MV} {gs : Gs} (hs : ∀ mp h H, Fut K mp0 mp H0 H → Rl K cl mp h H → gOk gs h → ∃ vs, SqL K H a vs ∧ RVs K mp H xs vs) : JOk K cl (Ite K a) (enumM xs) gs mp0 H0 where
  step := fun i x mp h H f rl g e => by
    obtain ⟨vs, h1, h2⟩ := hs mp h H f rl g
    obtain ⟨y, e0, rfl⟩ := enumM_get e
    obtain ⟨v, e1, r1⟩ := h2.get e0
    refine ⟨⟨vs, v, h1, e1⟩, fun V H' ⟨T, w, e2, hT, e3, e4⟩ => ?_⟩
    subst e2 e3
    have := e4 vs h1
    rw [e1] at this
    have := Option.some.inj this
    subst this
    exact ⟨Fut.new hT, rl.new hT, .tup (SqT.of upd_same) (.cons (.int _) (.cons (r1.fut (Fut.new hT)) .nil))⟩
  stop := fun i mp h H f rl g l => by
    obtain ⟨vs, h1, h2⟩ := hs mp h H f rl g
    exact ⟨vs, h1, by rw [← h2.length]; simpa [enumM] using l⟩
@[simp] def iEnumE (m : ME) : MI := fun ρ h => (m ρ h).bind fun x h1 => match x with
  | .ref n => (match h1[n]? with | some (.lst xs) => .ok (enumM xs, [(n, xs)]) h1 | _ => .bad)
  | _ => .bad
@[simp] def iEnumL (la : MA) : MI := fun ρ h => (la ρ h).bind fun xs h1 => .ok (enumM xs, []) h1
variable {elts : List Expr} {kk : Nat} {tpos : Pos}
theorem si_enumE (hg : Gl X "enumerate") (hm : X.mg "enumerate" = none) (he : SE X cl W e m) (hs : starEach [e] X.env = [(false, eval e X.env)] := by rfl) : SI X cl W (.Tuple elts kk tpos) (.Call (.Name "enumerate" p) [e] [] pos) (iEnumE m) :=
  piW (pi_enum hg hm (pa_cons he pa_nil hs) hs) fun σ H R ⟨ρ, h, mp, rl, rs, g⟩ => tM_bind rl rs g (fun _ _ z => z) fun x h1 V H1 mp1 f1 rl1 rs1 rv1 g1 => by
    cases rv1 with
    | @ref n a e1 =>
      dsimp only at g1
      split at g1
      · rename_i xs cc
        obtain ⟨vs, h2, q2⟩ := rl1.obj n _ a cc e1
        exact ⟨a, vs, rfl, SqL.of h2, g1 _ H1 mp1 f1 rl1 (jok_enum (cell_list e1))⟩
      · exact False.elim g1
    | _ => exact False.elim g1
theorem si_enumL (hg : Gl X "enumerate") (hm : X.mg "enumerate" = none) (he : SL X cl W e la) (hs : starEach [e] X.env = [(false, eval e X.env)] := by rfl) : SI X cl W (.Tuple elts kk tpos) (.Call (.Name "enumerate" p) [e] [] pos) (iEnumL la) :=
  piW (pi_enum hg hm (pa_cons he pa_nil hs) hs) fun σ H R ⟨ρ, h, mp, rl, rs, g⟩ => tML_bind rl rs g (fun _ _ z => z) fun xs h1 p vs H1 mp1 f1 rl1 rs1 h0 np hp rv g1 =>
    ⟨p, vs, rfl, SqL.of hp, g1 _ H1 mp1 f1 rl1 (jok_enum fun mp h H f rl g => ⟨vs, SqL.of (f.fr p _ hp np).1, rv.fut f⟩)⟩
/-- zip of two tuples -/
def zipM (xs ys : List MV) : List MV := (xs.zip ys).map fun p => .tup [p.1, p.2]
theorem zipM_get {xs ys : List MV} {i : Nat} {z : MV} (e : (zipM xs ys)[i]? = some z) : ∃ x y, xs[i]? = some x ∧ ys[i]? = some y ∧ z = .tup [x, y] := by
  unfold zipM at e
  rw [List.getElem?_map, Option.map_eq_some_iff] at e
  obtain ⟨q, e1, e2⟩ := e
  rw [List.getElem?_zip_eq_some] at e1
  exact ⟨q.1, q.2, e1.1, e1.2, e2.symm⟩
theorem jok_zip {K : PySem.W.Frag} {mp0 : Mp} {H0 : Hp} {a b : Addr} {xs ys : List MV} {vs ws : List L2.V} (h1 : TpA K H0 a vs) (q1 : RVs K mp0 H0 xs vs) (h2 : TpA K H0 b ws) (q2 : RVs K mp0 H0 ys ws) : JOk K cl (RZ.ItzT K a b) (zipM xs ys) [] mp0 H0 where
  step := fun i x mp h H f rl g e => by
    obtain ⟨u, w, e1, e2, rfl⟩ := zipM_get e
    obtain ⟨U, e3, r3⟩ := (q1.fut f).get e1
    obtain ⟨Z, e4, r4⟩ := (q2.fut f).get e2
    refine ⟨⟨vs, ws, U, Z, f.tt _ _ h1, f.tt _ _ h2, e3, e4⟩, fun V H' ⟨T, x, y, e5, hT, e6, e7, e8⟩ => ?_⟩
    subst e5 e6
    have z1 := e7 vs (f.tt _ _ h1)
    rw [e3] at z1
    have z2 := e8 ws (f.tt _ _ h2)
    rw [e4] at z2
    have z1 := Option.some.inj z1
    have z2 := Option.some.inj z2
    subst z1 z2
    exact ⟨Fut.new hT, rl.new hT, .tup (SqT.of upd_same) (.cons (r3.fut (Fut.new hT)) (.cons (r4.fut (Fut.new hT)) .nil))⟩
  stop := fun i mp h H f rl g l => ⟨vs, ws, f.tt _ _ h1, f.tt _ _ h2, by
    have : min xs.length ys.length ≤ i := by simpa [zipM] using l
    rw [← q1.length, ← q2.length]
    omega⟩
@[simp] def iZip2 (ms : MA) : MI := fun ρ h => (ms ρ h).bind fun xs h1 => match xs with
  | [.tup xs, .tup ys] => .ok (zipM xs ys, []) h1
  | _ => .bad
theorem si_zip (hg : Gl X "zip") (hm : X.mg "zip" = none) (ha : SA X cl W [a, b] ms) (hs : starEach [a, b] X.env = (false, eval a X.env) :: starEach [b] X.env := by rfl) (hpl : (backTo pos (starEach [b] X.env)).any (·.1) = false := by rfl) : SI X cl W (.Tuple elts kk tpos) (.Call (.Name "zip" p) [a, b] [] pos) (iZip2 ms) :=
  piW (RZ.pi_zipA hg hm ha hs hpl) fun σ H R ⟨ρ, h, mp, rl, rs, g⟩ => tMA_bind rl rs g (fun _ _ z => z) fun xs h1 V H1 mp1 f1 rl1 rs1 rv1 g1 => by
    split at g1
    · obtain ⟨Z, Y, rfl, rz, ry⟩ := rvs2 rv1
      cases rz with
      | tup h1 q1 =>
        cases ry with
        | tup h2 q2 => exact ⟨_, _, _, _, rfl, .inr ⟨h1, h2, g1 _ H1 mp1 f1 rl1 (jok_zip h1 q1 h2 q2)⟩⟩
    · exact False.elim g1
end
/-! ### for -/
open Classical in
noncomputable def forGo (gs : Gs) (t : Tg) (body : MSt) : List MV → MSt
  | [], ρ, h => if gOk gs h then .nx ρ h else .bad
  | x :: xs, ρ, h => if gOk gs h then match t.set x ρ with
    | some ρ1 => match body ρ1 h with
      | .nx ρ2 h2 => forGo gs t body xs ρ2 h2
      | .ct ρ2 h2 => forGo gs t body xs ρ2 h2
      | .bk ρ2 h2 => .nx ρ2 h2
      | .rt v h2 => .rt v h2
      | .ex e ρ2 h2 => .ex e ρ2 h2
      | .bad => .bad
    | none => .bad
    else .bad
@[simp] noncomputable def sFor (mi : MI) (t : Tg) (body : MSt) : MSt := fun ρ h => (mi ρ h).st ρ fun xg h1 => forGo xg.2 t body xg.1 ρ h1
section
variable {X : Cx} {cl : Str → Option Addr} {W : Wsh} {tg iter : Expr} {body : List Stmt} {mi : MI} {t : Tg} {mb : MSt} {pos : Pos}
theorem ss_for (hp : PassesOwn (model X.prog X.w) X.A X.env X.xe) (hc : X.calm = true) (hi : SI X cl W tg iter mi) (hg : PG X tg (t.g X.K)) (hb : SSs X cl W body mb) (hs : ∀ x, foldedSetIterable iter X.env x = pure x := by intro _; rfl) :
    SS X cl W (.For tg iter body [] pos) (sFor mi t mb) := psW (ps_for hp hc hi hg hb hs) fun D σ H ⟨ρ, h, mp, rl, rs, g⟩ => by
  refine ⟨ρ, h, mp, rl, rs, (SGood.st.mp g).mono (fun xg h1 g1 J H1 mp1 f1 rl1 jok => ?_) fun e h' q => QX.ew rs q⟩
  obtain ⟨xs, gs⟩ := xg
  dsimp only at g1 jok
  have g1 := SGood.mono g1 (wD.fut f1)
  have rs1 := rs.fut f1
  refine ⟨fun i m σ' H' => m = xs.length - i ∧ i ≤ xs.length ∧ ∃ ρ' h' mp', Fut X.K mp1 mp' H1 H' ∧ Rl X.K cl mp' h' H' ∧ RS X.K mp' H' ρ' σ' ∧ SGood (forGo gs t mb (xs.drop i) ρ' h') (wD X.K cl mp1 H1 W D),
    ⟨_, rfl, Nat.zero_le _, ρ, h1, mp1, .refl, rl1, rs1, g1⟩, ?_⟩
  rintro i m σ' H' ⟨rfl, hi, ρ', h', mp', f', rl', rs', g'⟩
  by_cases hlt : i < xs.length
  · have hd : xs.drop i = xs[i] :: xs.drop (i + 1) := List.drop_eq_getElem_cons hlt
    rw [hd] at g'
    unfold forGo at g'
    split at g'
    · rename_i gok
      obtain ⟨go, yl⟩ := jok.step i xs[i] mp' h' H' f' rl' gok (by simp [hlt])
      refine .inr ⟨go, fun σ3 H3 => ∃ ρ3 h3 mp3, Fut X.K mp1 mp3 H1 H3 ∧ Rl X.K cl mp3 h3 H3 ∧ RS X.K mp3 H3 ρ3 σ3 ∧ SGood (forGo gs t mb (xs.drop (i + 1)) ρ3 h3) (wD X.K cl mp1 H1 W D), fun σ3 H3 z => ⟨xs.length - (i + 1), by omega, rfl, hlt, z⟩, fun V H'' y => ?_⟩
      obtain ⟨f2, rl2, rv2⟩ := yl V H'' y
      split at g'
      · rename_i ρ1 et
        obtain ⟨σ2, rs2, q2, _⟩ := tg_ok et rv2 (rs'.fut f2)
        refine q2 _ ⟨ρ1, h', mp', rl2, rs2, ?_⟩
        have f3 := f'.trans f2
        cases eb : mb ρ1 h' with
        | nx ρ2 h2 =>
          rw [eb] at g'
          exact fun σ4 H4 mp4 f4 rl4 rs4 => ⟨ρ2, h2, mp4, f3.trans f4, rl4, rs4, g'⟩
        | ct ρ2 h2 =>
          rw [eb] at g'
          exact fun σ4 H4 mp4 f4 rl4 rs4 => ⟨ρ2, h2, mp4, f3.trans f4, rl4, rs4, g'⟩
        | bk ρ2 h2 => rw [eb] at g'; exact QN.fut f3 g'
        | rt v h2 => rw [eb] at g'; exact QV.fut f3 g'
        | ex v ρ2 h2 => rw [eb] at g'; exact QX.fut f3 g'
        | bad => rw [eb] at g'; exact False.elim g'
      · exact False.elim g'
    · exact False.elim g'
  · have e : i = xs.length := by omega
    subst e
    rw [List.drop_length] at g'
    unfold forGo at g'
    split at g'
    · rename_i gok
      exact .inl ⟨jok.stop _ mp' h' H' f' rl' gok (Nat.le_refl _), g' σ' H' mp' f' rl' rs'⟩
    · exact False.elim g'
/-! ### while -/
def whileGo (mt : MS → MH → Res Bool) (body : MSt) : Nat → MSt
  | 0, _, _ => .bad
  | n + 1, ρ, h => (mt ρ h).st ρ fun c h1 => if c = true then (match body ρ h1 with
      | .nx ρ2 h2 => whileGo mt body n ρ2 h2
      | .ct ρ2 h2 => whileGo mt body n ρ2 h2
      | .bk ρ2 h2 => .nx ρ2 h2
      | .rt v h2 => .rt v h2
      | .ex e ρ2 h2 => .ex e ρ2 h2
      | .bad => .bad) else .nx ρ h1
/-- how often at most -/
def manyTurns : Nat := 1000000000
def sWhile (mt : MS → MH → Res Bool) (body : MSt) : MSt := whileGo mt body manyTurns
variable {c : Expr} {mt : MS → MH → Res Bool}
theorem ss_while (hp : PassesOwn (model X.prog X.w) X.A X.env X.xe) (hc : ST X cl W c mt) (hb : SSs X cl W body mb) : SS X cl W (.While c body [] pos) (sWhile mt mb) := psW (ps_while hp hc hb) fun D σ H ⟨ρ, h, mp, rl, rs, g⟩ => by
  refine ⟨fun m σ' H' => ∃ ρ' h' mp', Fut X.K mp mp' H H' ∧ Rl X.K cl mp' h' H' ∧ RS X.K mp' H' ρ' σ' ∧ SGood (whileGo mt mb m ρ' h') (wD X.K cl mp H W D), ⟨manyTurns, ρ, h, mp, .refl, rl, rs, g⟩, ?_⟩
  rintro m σ' H' ⟨ρ', h', mp', f', rl', rs', g'⟩
  cases m with
  | zero => exact False.elim g'
  | succ n =>
    unfold whileGo at g'
    refine tMT_st rl' rs' g' (fun e h' q => (QX.fut f' q).ew rs') fun c h1 H1 mp1 f1 rl1 rs1 g1 => ?_
    have f2 := f'.trans f1
    cases c with
    | true =>
      refine ⟨fun σ3 H3 => ∃ ρ3 h3 mp3, Fut X.K mp mp3 H H3 ∧ Rl X.K cl mp3 h3 H3 ∧ RS X.K mp3 H3 ρ3 σ3 ∧ SGood (whileGo mt mb n ρ3 h3) (wD X.K cl mp H W D), fun σ3 H3 z => ⟨n, Nat.lt_succ_self n, z⟩, ρ', h1, mp1, rl1, rs1, ?_⟩
      rw [if_pos rfl] at g1
      cases eb : mb ρ' h1 with
      | nx ρ2 h2 =>
        rw [eb] at g1
        exact fun σ4 H4 mp4 f4 rl4 rs4 => ⟨ρ2, h2, mp4, f2.trans f4, rl4, rs4, g1⟩
      | ct ρ2 h2 =>
        rw [eb] at g1
        exact fun σ4 H4 mp4 f4 rl4 rs4 => ⟨ρ2, h2, mp4, f2.trans f4, rl4, rs4, g1⟩
      | bk ρ2 h2 => rw [eb] at g1; exact QN.fut f2 g1
      | rt v h2 => rw [eb] at g1; exact QV.fut f2 g1
      | ex v ρ2 h2 => rw [eb] at g1; exact QX.fut f2 g1
      | bad => rw [eb] at g1; exact False.elim g1
    | false => exact g1 σ' H1 mp1 f2 rl1 rs1
/-! ### a, b = e -/
@[simp] def sSetT (t : Tg) (m : ME) : MSt := fun ρ h => (m ρ h).st ρ fun x h1 => match t.set x ρ with | some ρ1 => .nx ρ1 h1 | none => .bad
theorem ss_setT {e : Expr} {m : ME} (he : SE X cl W e m) (hg : PG X tg (t.g X.K)) (hs : swapsWithSole [tg] e pos.line X.env = pure false := by rfl) (hw : swappedStores [tg] e X.env = pure none := by rfl)
    (h1 : (assignEach [tg] X.env).map (·.2) = [assign tg X.env] := by rfl) : SS X cl W (.Assign [tg] e pos) (sSetT t m) := psW (ps_asg he hg hs hw h1) fun D σ H ⟨ρ, h, mp, rl, rs, g⟩ =>
  tM_st rl rs g (fun _ _ q => q.ew rs) fun x h1 V H1 mp1 f1 rl1 rs1 rv1 g1 => by
    split at g1
    · rename_i ρ1 et
      obtain ⟨σ2, rs2, q2, _⟩ := tg_ok et rv1 rs1
      exact q2 _ (g1 σ2 H1 mp1 f1 rl1 rs2)
    · exact False.elim g1
end
end Sm

set_option Elab.async false
set_option linter.all false
set_option maxRecDepth 100000
set_option maxHeartbeats 4000000
/-! comprehensions, defs -/
namespace Sm
open PySem PySem.Spec PyProof.Rows L2
/-- an exception is no end here -/
def Res.nx {α : Type} (r : Res α) : Res α := match r with | .ok a h => .ok a h | _ => .bad
@[simp] theorem Res.nx_ok {α : Type} (a : α) (h : MH) : (Res.ok a h).nx = .ok a h := rfl
@[simp] theorem Res.nx_bad {α : Type} : (Res.bad : Res α).nx = .bad := rfl
theorem Good.nx {α : Type} {r : Res α} {Q : α → MH → Prop} {E E' : MV → MH → Prop} (g : Good r.nx Q E) : Good r Q E' := by
  cases r with
  | ok a h => exact g
  | ex e h => exact False.elim g
  | bad => exact g
abbrev W0 : Wsh := fun _ _ _ _ => False
/-- slots forgotten -/
def wipeM (ρ : MS) : List Nat → MS
  | [] => ρ
  | v :: vs => (wipeM ρ vs).set v none
theorem rs_wipe {K : PySem.W.Frag} {mp : Mp} {H : Hp} {ρ : MS} {σ : L2.St} (rs : RS K mp H ρ σ) : ∀ vs, RS K mp H (wipeM ρ vs) (wipe σ vs)
  | [] => rs
  | v :: vs => by
    have ih := rs_wipe rs vs
    unfold wipeM wipe
    refine ⟨by simp [ih.len], fun i x e => ?_⟩
    by_cases hi : i = v
    · subst hi
      by_cases hl : i < (wipeM ρ vs).length
      · rw [List.getElem?_set_self hl] at e; cases e
      · rw [List.getElem?_eq_none (by simpa using hl)] at e; cases e
    · rw [List.getElem?_set_ne (Ne.symm hi)] at e
      obtain ⟨v', h1, h2⟩ := ih.at_ i x e
      exact ⟨v', by rw [List.getElem?_set_ne (Ne.symm hi)]; exact h1, h2⟩
open Classical in
noncomputable def compGo (gs : Gs) (t : Tg) (mt : MS → MH → Res Bool) (me : ME) (ρ : MS) : List MV → MH → Res (List MV)
  | [], h => if gOk gs h then .ok [] h else .bad
  | x :: xs, h => if gOk gs h then match t.set x ρ with
    | some ρ1 => (mt ρ1 h).nx.bind fun b h1 => if b = true then (me ρ1 h1).nx.bind fun y h2 => (compGo gs t mt me ρ xs h2).bind fun ys h3 => .ok (y :: ys) h3 else compGo gs t mt me ρ xs h1
    | none => .bad
    else .bad
noncomputable def lComp (mi : MI) (t : Tg) (vs : List Nat) (mt : MS → MH → Res Bool) (me : ME) : MA := fun ρ h => (mi ρ h).bind fun xg h1 => if szOk xg.1.length then compGo xg.2 t mt me (wipeM ρ vs) xg.1 h1 else .bad
@[simp] def tYesM : MS → MH → Res Bool := fun _ h => .ok true h
abbrev STs (X : Cx) (cl : Str → Option Addr) (W : Wsh) (ifs : List Expr) (m : MS → MH → Res Bool) : Prop := PTs X ifs (tMT X.K cl W m)
theorem ptsW {X : Cx} {e : List Expr} {t t' : TT} (h : PTs X e t) (w : ∀ σ H Q, t' σ H Q → t σ H Q) : PTs X e t' := ⟨fun pins s σ H Q I q => h.run pins s σ H Q I (w σ H Q q)⟩
section
variable {X : Cx} {cl : Str → Option Addr} {W : Wsh} {tg iter elt c : Expr} {mi : MI} {t : Tg} {mt : MS → MH → Res Bool} {me : ME} {pos spos py : Pos} {ifs : List Expr} {scope : Scope} {own : List (Str × Nat)}
theorem sts_nil : STs X cl W [] tYesM := ptsW pts_nil fun σ H Q ⟨ρ, h, mp, rl, rs, g⟩ => g H mp .refl rl
theorem sts_one (hc : ST X cl W c mt) : STs X cl W [c] mt := pts_one hc
theorem lc_read {K : PySem.W.Frag} {vs : List Nat} (hv : ∀ i, i ∈ t.slots → i ∈ vs) : ∀ σ H Q, tML K cl W (lComp mi t vs mt me) σ H Q → tLc (tMI K cl W mi) (t.g K) (tMT K cl W0 mt) (tM K cl W0 me) vs σ H Q := fun σ H Q ⟨ρ, h, mp, rl, rs, g⟩ => by
  refine ⟨ρ, h, mp, rl, rs, (Good.bind.mp g).mono (fun xg h1 g1 J H1 mp1 f1 rl1 jok D hD => ?_) fun _ _ z => z⟩
  obtain ⟨xs, gs⟩ := xg
  dsimp only at g1 jok
  split at g1
  · rename_i hz
    have h0 : H D = none := f1.back rl1 hD
    have rs1 := rs_wipe (rs.fut f1) vs
    have np1 := rl1.np hD
    have hz' : xs.length ≤ 1000000 := hz
    refine ⟨fun i m H' => m = xs.length - i ∧ i ≤ xs.length ∧ ∃ h' mp' acc accV, Fut K mp1 mp' H1 H' ∧ Rl K cl mp' h' H' ∧ (∀ n, mp' n ≠ some D) ∧ H' D = some (.lst accV) ∧ RVs K mp' H' acc accV ∧ acc.length ≤ i ∧
      Good (compGo gs t mt me (wipeM ρ vs) (xs.drop i) h') (fun ys h'' => QL K cl mp H Q (acc ++ ys) h'') (EW K cl mp H W σ), ⟨_, rfl, Nat.zero_le _, h1, mp1, [], [], Fut.new hD, rl1.new hD, np1, upd_same, .nil, Nat.le_refl _, g1⟩, ?_⟩
    rintro i m H' ⟨rfl, hi, h', mp', acc, accV, f', rl', np', hD', rv', la, g'⟩
    by_cases hlt : i < xs.length
    · have hd : xs.drop i = xs[i] :: xs.drop (i + 1) := List.drop_eq_getElem_cons hlt
      rw [hd] at g'
      unfold compGo at g'
      split at g'
      · rename_i gok
        obtain ⟨go, yl⟩ := jok.step i xs[i] mp' h' H' f' rl' gok (by simp [hlt])
        refine .inr ⟨go, fun H3 => ∃ h3 mp3 acc3 accV3, Fut K mp1 mp3 H1 H3 ∧ Rl K cl mp3 h3 H3 ∧ (∀ n, mp3 n ≠ some D) ∧ H3 D = some (.lst accV3) ∧ RVs K mp3 H3 acc3 accV3 ∧ acc3.length ≤ i + 1 ∧
          Good (compGo gs t mt me (wipeM ρ vs) (xs.drop (i + 1)) h3) (fun ys h'' => QL K cl mp H Q (acc3 ++ ys) h'') (EW K cl mp H W σ), fun H3 z => ⟨xs.length - (i + 1), by omega, rfl, hlt, z⟩, fun V H'' y => ?_⟩
        obtain ⟨f2, rl2, rv2⟩ := yl V H'' y
        split at g'
        · rename_i ρ1 et
          obtain ⟨σ2, rs2, q2, w2⟩ := tg_ok et rv2 ((rs1.fut f').fut f2)
          obtain ⟨hD2, np2⟩ := f2.fr D _ hD' np'
          refine q2 _ ⟨(w2 vs hv).trans (wipe_wipe σ vs), ρ1, h', mp', rl2, rs2, ?_⟩
          refine Good.nx ((Good.bind.mp g').mono (fun b hb gb H3 mp3 f3 rl3 => ?_) fun _ _ z => z)
          obtain ⟨hD3, np3⟩ := f3.fr D _ hD2 np2
          cases b with
          | true =>
            rw [if_pos rfl] at gb
            refine ⟨ρ1, hb, mp3, rl3, rs2.fut f3, Good.nx ((Good.bind.mp gb).mono (fun y hy gy Y H4 mp4 f4 rl4 rv4 => ?_) fun _ _ z => z)⟩
            obtain ⟨hD4, np4⟩ := f4.fr D _ hD3 np3
            have f14 : Fut K mp1 mp4 H1 H4 := f'.trans (f2.trans (f3.trans f4))
            have fu := Fu.tmp (K := K) (mp := mp4) (ws := accV ++ [Y]) hD4
            refine ⟨accV, hD4, ?_, hy, mp4, acc ++ [y], accV ++ [Y], f14.tmp hD hD4, rl4.tmp hD4 np4, np4, upd_same, ?_, by simp; omega, ?_⟩
            · rw [← rv'.length]
              exact Nat.lt_of_le_of_lt la (Nat.lt_of_lt_of_le hlt (Nat.le_trans hz' (by decide)))
            · exact ((rv'.fut (f2.trans (f3.trans f4))).append (.cons rv4 .nil)).fu fu
            · refine (Good.bind.mp gy).mono (fun ys h3 q => ?_) fun _ _ z => z
              rw [List.append_assoc]
              exact q
          | false =>
            rw [if_neg (by decide)] at gb
            exact ⟨hb, mp3, acc, accV, f'.trans (f2.trans f3), rl3, np3, hD3, rv'.fut (f2.trans f3), by omega, gb⟩
        · exact False.elim g'
      · exact False.elim g'
    · have e : i = xs.length := by omega
      subst e
      rw [List.drop_length] at g'
      unfold compGo at g'
      split at g'
      · rename_i gok
        refine .inl ⟨jok.stop _ mp' h' H' f' rl' gok (Nat.le_refl _), ?_⟩
        have q : QL K cl mp H Q (acc ++ []) h' := g'
        rw [List.append_nil] at q
        exact q D accV H' mp' (f1.trans f') rl' h0 np' hD' rv'
      · exact False.elim g'
  · exact False.elim g1
theorem sl_comp (hv : ∀ i, i ∈ t.slots → i ∈ own.map (·.2) := by decide) (hc : X.calm = true) (hN : X.N.Nodup) (hi : SI X cl W tg iter mi) (ok : BlkOk X.N X.env.scope scope own)
    (hg : ∀ (s : Shared) (H : Hp) (C : Addr) (cl' : List (Str × Addr)) (fp : List Addr), PG (X.blk s H scope (compEnvC scope cl' C X.env) fp) tg (t.g X.K)) (ht : ∀ (s : Shared) (H : Hp) (C : Addr) (cl' : List (Str × Addr)) (fp : List Addr), STs (X.blk s H scope (compEnvC scope cl' C X.env) fp) cl W0 ifs mt)
    (he : ∀ (s : Shared) (H : Hp) (C : Addr) (cl' : List (Str × Addr)) (fp : List Addr), SE (X.blk s H scope (compEnvC scope cl' C X.env) fp) cl W0 elt me) (hs : ∀ x, foldedSetIterable iter X.env x = pure x := by intro _; rfl) :
    SL X cl W (.ListComp elt [⟨tg, iter, ifs, 0⟩] scope pos) (lComp mi t (own.map (·.2)) mt me) := peW (pe_lc hc hN hi ok hg ht he hs) (lc_read hv)
theorem st_bind {α β : Type} (r : Res α) (f : α → MH → Res β) (ρ : MS) (g : β → MH → SRes) : (r.bind f).st ρ g = r.st ρ fun a h => (f a h).st ρ g := by cases r <;> rfl
theorem ss_setLc {i : Nat} {y : Str} (hv : ∀ i, i ∈ t.slots → i ∈ own.map (·.2) := by decide) (hc : X.calm = true) (hN : X.N.Nodup) (hy : X.N[i]? = some y) (hyl : X.env.scope.names.lookup y = some .local)
    (hsw : swapsWith (.ListComp elt [⟨tg, iter, ifs, 0⟩] scope pos) (some (.Name y py)) spos.line X.env = pure true) (hi : SI X cl W tg iter mi) (ok : BlkOk X.N X.env.scope scope own)
    (hg : ∀ (s : Shared) (H : Hp) (C : Addr) (cl' : List (Str × Addr)) (fp : List Addr), PG (X.blk s H scope (compEnvC scope cl' C X.env) fp) tg (t.g X.K)) (ht : ∀ (s : Shared) (H : Hp) (C : Addr) (cl' : List (Str × Addr)) (fp : List Addr), STs (X.blk s H scope (compEnvC scope cl' C X.env) fp) cl W0 ifs mt)
    (he : ∀ (s : Shared) (H : Hp) (C : Addr) (cl' : List (Str × Addr)) (fp : List Addr), SE (X.blk s H scope (compEnvC scope cl' C X.env) fp) cl W0 elt me) (hs : ∀ x, foldedSetIterable iter X.env x = pure x := by intro _; rfl) :
    SS X cl W (.Assign [.Name y py] (.ListComp elt [⟨tg, iter, ifs, 0⟩] scope pos) spos) (sSet i (eNew (lComp mi t (own.map (·.2)) mt me))) := psW (ps_setLc hc hN hy hyl hsw hi ok hg ht he hs) fun D σ H ⟨ρ, h, mp, rl, rs, g⟩ => by
  refine lc_read (mt := mt) (me := me) hv σ H _ ⟨ρ, h, mp, rl, rs, ?_⟩
  unfold sSet eNew at g
  rw [st_bind] at g
  refine (SGood.st.mp g).mono (fun xs h1 g1 p vs H1 mp1 f1 rl1 h0 np hp rv => ?_) fun e h' q => QX.ew rs q
  have f2 := f1.toCell rl1 h0
  exact g1 (σ.set i (some (.ref p))) H1 (Mp.put mp1 h1.length p) f2 (rl1.toCell np ⟨vs, hp, rv⟩) ((rs.fut f2).set (.ref Mp.put_same))
end
/-! ### what nothing knows any more goes -/
mutual
def bel (n : Nat) : MV → Bool
  | .ref k => decide (k < n)
  | .tup xs => bels n xs
  | .scr xs => bels n xs
  | .tux xs => bels n xs
  | .fdc _ xs => bels n xs
  | .exn _ _ vs => bels n vs
  | .non => true
  | .bl _ => true
  | .int _ => true
  | .str _ => true
def bels (n : Nat) : List MV → Bool
  | [] => true
  | x :: xs => bel n x && bels n xs
end
def belO (n : Nat) : MO → Bool
  | .lst xs => bels n xs
  | .ins _ fs => bels n (fs.map (·.2))
  | .dct kvs => bels n (kvs.map (·.2))
  | .tab _ => true
def gcOk (h : MH) (v : MV) (h' : MH) : Prop := bel h.length v = true ∧ ∀ i, i < h.length → ∃ o, h'[i]? = some o ∧ (h[i]? = some o ∨ belO h.length o = true)
open Classical in
noncomputable def gc (h : MH) (v : MV) (h' : MH) : MH := if gcOk h v h' then h'.take h.length else h'
def Mp.cut (mp : Mp) (n : Nat) : Mp := fun k => if k < n then mp k else none
section
variable {K : PySem.W.Frag} {cl : Str → Option Addr} {mp mp' : Mp} {H H' : Hp} {h h' : MH}
mutual
theorem RV.cut {n : Nat} : ∀ {x : MV} {v : L2.V}, RV K mp H x v → bel n x = true → RV K (mp.cut n) H x v
  | _, _, .non, _ => .non
  | _, _, .bl b, _ => .bl b
  | _, _, .int i, _ => .int i
  | _, _, .str x, _ => .str x
  | _, _, @RV.ref _ _ _ k a h, e => .ref (by
    have e : k < n := by simpa [bel] using e
    simp [Mp.cut, e, h])
  | _, _, .tup h r, e => .tup h (RVs.cut r (by simpa [bel] using e))
  | _, _, .scr h r, e => .scr h (RVs.cut r (by simpa [bel] using e))
  | _, _, .tux h r, e => .tux h (RVs.cut r (by simpa [bel] using e))
  | _, _, .fdc h l r, e => .fdc h l (RVs.cut r (by simpa [bel] using e))
theorem RVs.cut {n : Nat} : ∀ {xs : List MV} {vs : List L2.V}, RVs K mp H xs vs → bels n xs = true → RVs K (mp.cut n) H xs vs
  | _, _, .nil, _ => .nil
  | x :: xs, _, .cons r t, e => by
    have e : bel n x = true ∧ bels n xs = true := by simpa [bels] using e
    exact .cons (RV.cut r e.1) (RVs.cut t e.2)
end
mutual
theorem RV.bel {n : Nat} (hn : ∀ k a, mp k = some a → k < n) : ∀ {x : MV} {v : L2.V}, RV K mp H x v → bel n x = true
  | _, _, .non => by simp [Sm.bel]
  | _, _, .bl b => by simp [Sm.bel]
  | _, _, .int i => by simp [Sm.bel]
  | _, _, .str x => by simp [Sm.bel]
  | _, _, .ref h => by simp [Sm.bel, hn _ _ h]
  | _, _, .tup h r => by simp only [Sm.bel]; exact RVs.bel hn r
  | _, _, .scr h r => by simp only [Sm.bel]; exact RVs.bel hn r
  | _, _, .tux h r => by simp only [Sm.bel]; exact RVs.bel hn r
  | _, _, .fdc h l r => by simp only [Sm.bel]; exact RVs.bel hn r
theorem RVs.bel {n : Nat} (hn : ∀ k a, mp k = some a → k < n) : ∀ {xs : List MV} {vs : List L2.V}, RVs K mp H xs vs → bels n xs = true
  | _, _, .nil => by simp [Sm.bels]
  | _, _, .cons r t => by simp [Sm.bels, RV.bel hn r, RVs.bel hn t]
end
theorem ro_bel {n : Nat} (hn : ∀ k a, mp k = Option.some a → k < n) {o : MO} {a : Addr} (r : RO K cl mp H o a) : belO n o = true := by
  cases o with
  | lst xs => obtain ⟨vs, _, q⟩ := r; exact q.bel hn
  | ins c fs => obtain ⟨C, dx, vs, _, _, q⟩ := r; exact q.2.bel hn
  | dct kvs => obtain ⟨vs, _, q⟩ := r; exact q.2.bel hn
  | tab q => rfl
theorem RO.cut {n : Nat} {o : MO} {a : Addr} (r : RO K cl mp H o a) (e : belO n o = true) : RO K cl (mp.cut n) H o a := by
  cases o with
  | lst xs => obtain ⟨vs, h1, q⟩ := r; exact ⟨vs, h1, q.cut e⟩
  | ins c fs => obtain ⟨C, dx, vs, h0, h1, q⟩ := r; exact ⟨C, dx, vs, h0, h1, q.1, q.2.cut e⟩
  | dct kvs => obtain ⟨vs, h1, q⟩ := r; exact ⟨vs, h1, q.1, q.2.cut e⟩
  | tab q => obtain ⟨h0, h1⟩ := r; exact ⟨h0, h1.go rfl fun c e n' => ⟨e, fun k z => by
      unfold Mp.cut at z
      split at z
      · exact n' k z
      · cases z⟩⟩
theorem gc_ok {v : MV} {V : L2.V} (rl : Rl K cl mp h H) (f : Fut K mp mp' H H') (rl' : Rl K cl mp' h' H') (rv : RV K mp' H' v V) : ∃ mp'', Fut K mp mp'' H H' ∧ Rl K cl mp'' (gc h v h') H' ∧ RV K mp'' H' v V := by
  unfold gc
  split
  · rename_i ok
    obtain ⟨ok1, ok2⟩ := ok
    have cutE : ∀ {k a}, mp'.cut h.length k = some a → k < h.length ∧ mp' k = some a := fun {k a} e => by
      unfold Mp.cut at e
      split at e
      · rename_i l; exact ⟨l, e⟩
      · cases e
    have len : h.length ≤ h'.length := by
      by_cases hz : h.length = 0
      · omega
      · obtain ⟨o, e, _⟩ := ok2 (h.length - 1) (by omega)
        have := (List.getElem?_eq_some_iff.mp e).1
        omega
    refine ⟨mp'.cut h.length, ⟨fun n a e => ?_, f.tt, f.sf, fun a o e n => ?_, f.tx⟩, ⟨fun n a e => ?_, fun n l => ?_, fun n k a e1 e2 => ?_, fun n o a e q => ?_⟩, rv.cut ok1⟩
    · have := rl.dom n a e
      simp [Mp.cut, this, f.le n a e]
    · obtain ⟨h1, h2⟩ := f.fr a o e n
      exact ⟨h1, fun k q => h2 k (cutE q).2⟩
    · have := (cutE e).1
      rw [List.length_take]; omega
    · rw [List.length_take] at l
      obtain ⟨a, e⟩ := rl'.has n (by omega)
      exact ⟨a, by simp [Mp.cut, show n < h.length by omega, e]⟩
    · exact rl'.inj n k a (cutE e1).2 (cutE e2).2
    · obtain ⟨l, q'⟩ := cutE q
      rw [List.getElem?_take_of_lt l] at e
      have ro := rl'.obj n o a e q'
      refine ro.cut ?_
      obtain ⟨o', e1, e2⟩ := ok2 n l
      rw [e] at e1
      have := Option.some.inj e1
      subst this
      rcases e2 with e2 | e2
      · obtain ⟨b, _, ro0⟩ := rl.at e2
        exact ro_bel rl.dom ro0
      · exact e2
  · exact ⟨mp', f, rl', rv⟩
end
/-! ### a def -/
noncomputable def mfun (np n : Nat) (body : MSt) : List MV → MH → Res MV := fun args h => if args.length = np then (match body (args.map some ++ List.replicate (n - np) none) h with
  | .rt v h' => .ok v (gc h v h')
  | .nx _ h' => .ok .non (gc h .non h')
  | _ => .bad) else .bad
theorem mfun_noEx {np n : Nat} {body : MSt} : NoEx1 (mfun np n body) := by
  intro xs h e h' z
  unfold mfun at z
  repeat' split at z
  all_goals cases z
theorem rs_start {K : PySem.W.Frag} {mp : Mp} {H : Hp} {xs : List MV} {vs : List L2.V} (r : RVs K mp H xs vs) (n : Nat) : RS K mp H (xs.map some ++ List.replicate n none) (vs.map some ++ List.replicate n none) :=
  ⟨by simp [r.length], fun i x e => by
    by_cases hl : i < xs.length
    · rw [List.getElem?_append_left (by simpa using hl), List.getElem?_map, Option.map_eq_some_iff] at e
      obtain ⟨y, e1, e2⟩ := e
      have := Option.some.inj e2
      subst this
      obtain ⟨v, e3, r3⟩ := r.get e1
      exact ⟨v, by rw [List.getElem?_append_left (by rw [List.length_map, ← r.length]; exact hl), List.getElem?_map, e3]; rfl, r3⟩
    · rw [List.getElem?_append_right (by simpa using hl), List.getElem?_replicate] at e
      split at e
      · cases Option.some.inj e
      · cases e⟩
section
variable {P : Program} {w : World} {K : PySem.W.Frag} {mg : Str → Option Value} {base : Heap} {cl : Str → Option Addr}
/-- the reading of a def's body -/
theorem fun_read {N ps : List Str} {mb : MSt} {vs : List L2.V} {H : Hp} {Q : VK} {E : XK} (h : spM K cl (mfun ps.length N.length mb) vs H Q E) : tMS K cl W0 mb { nx := fun _ H' => Q .non H', rt := Q } (L2.start N vs) H := by
  obtain ⟨xs, h, mp, rl, rv, g⟩ := h
  unfold mfun at g
  split at g
  · rename_i hl
    refine ⟨xs.map some ++ List.replicate (N.length - ps.length) none, h, mp, rl, ?_, ?_⟩
    · unfold L2.start
      rw [← hl, rv.length]
      exact rs_start rv _
    · cases e : mb (xs.map some ++ List.replicate (N.length - ps.length) none) h with
      | rt v h' =>
        rw [e] at g
        exact fun V H' mp' f rl' rv' => by
          obtain ⟨mp2, f2, rl2, rv2⟩ := gc_ok rl f rl' rv'
          exact g V H' mp2 f2 rl2 rv2
      | nx ρ h' =>
        rw [e] at g
        exact fun σ' H' mp' f rl' rs' => by
          obtain ⟨mp2, f2, rl2, rv2⟩ := gc_ok (v := .non) rl f rl' .non
          exact g _ H' mp2 f2 rl2 rv2
      | bk ρ h' => rw [e] at g; exact False.elim g
      | ct ρ h' => rw [e] at g; exact False.elim g
      | ex v ρ h' => rw [e] at g; exact False.elim g
      | bad => rw [e] at g; exact False.elim g
  · exact False.elim g
theorem spM_len {np n : Nat} {mb : MSt} {vs : List L2.V} {H : Hp} {Q : VK} {E : XK} (h : spM K cl (mfun np n mb) vs H Q E) : vs.length = np := by
  obtain ⟨xs, h, mp, rl, rv, g⟩ := h
  unfold mfun at g
  split at g
  · rename_i hl
    rw [← rv.length]; exact hl
  · exact False.elim g
theorem fnM {x qual : Str} {st : Stmt} {f : Addr} {fd : FuncData} {N ps : List Str} {k : Nat} {mb : MSt} (F : L2.Fun K x qual st f fd) (S : FnScope N ps (defScope st))
    (hb : ∀ (cdv : Value) (A : Around) (outer : List Env) (s : Shared) (H : Hp) (E : XK), Room k (A.deeper (envOfC qual (defScope st) s.heap.objs.size f cdv)) → SSs (cxOf CX0 P w K mg base N qual (defScope st) f cdv A outer s H E).nox cl W0 (defBody st) mb) :
    FnOk P w K mg base CX0 (k + 1) f fd ps (spM K cl (mfun ps.length N.length mb)) :=
  F.ok S (fun vs H Q E h => spM_len h) fun cdv A outer s H vs Q E hr h => ⟨_, hb cdv A outer s H E hr, fun_read h⟩
theorem fnMD {x qual : Str} {params : Arguments} {body : List Stmt} {scope : Scope} {dvs : List L2.V} {kws : List (Str × L2.V)} {f : Addr} {fd : FuncData} {N ps : List Str} {k : Nat} {mb : MSt} (F : FunD K x qual params body scope dvs kws f fd) (S : FnScope N ps scope)
    (hb : ∀ (cdv : Value) (A : Around) (outer : List Env) (s : Shared) (H : Hp) (E : XK), Room k (A.deeper (envOfC qual scope s.heap.objs.size f cdv)) → SSs (cxOf CX0 P w K mg base N qual scope f cdv A outer s H E).nox cl W0 body mb) :
    FnOk P w K mg base CX0 (k + 1) f fd ps (spM K cl (mfun ps.length N.length mb)) :=
  F.ok S (fun vs H Q E h => spM_len h) fun cdv A outer s H vs Q E hr h => ⟨_, (hb cdv A outer s H E hr).nox, fun_read h⟩
/-- the law itself -/
theorem law_read {m : List MV → MH → Res MV} (hm : ∀ ns : List Int, ns.length ≤ 63 → ∃ h, m [.scr (ns.map MV.int)] [] = .ok (.bl true) h) (H : Hp) (a : Addr) (ns : List Int) (hl : ns.length ≤ 63) (hO : Only H) (hS : SqL K H a (ns.map L2.V.int)) :
    spM K cl m [.ref a] H (fun v _ => v = .bl true) fun _ _ _ => False := by
  obtain ⟨h', e⟩ := hm ns hl
  have rvI : ∀ (ns : List Int), RVs K (fun _ => none) H (ns.map MV.int) (ns.map L2.V.int) := fun ns => by
    induction ns with
    | nil => exact .nil
    | cons n ns ih => exact .cons (.int n) ih
  refine ⟨[.scr (ns.map MV.int)], [], fun _ => none, Rl.mk (fun n a e => nomatch e) (fun n l => absurd l (Nat.not_lt_zero n)) (fun n k a e => nomatch e) (fun n o a e => by simp at e), .cons (.scr ?_ (rvI ns)) .nil, ?_⟩
  · rcases hS with hS | hS
    · rcases hS with hS | ⟨o, hS⟩
      · rcases hO a with z | ⟨ob, xs, z⟩
        · rw [hS] at z; cases z
        · rw [hS] at z; cases z
      · exact .inl ⟨o, hS⟩
    · exact .inr hS
  · rw [e]
    intro V H' mp' f rl rv
    cases rv
    rfl
end
end Sm

set_option Elab.async false
set_option linter.all false
set_option maxRecDepth 100000
set_option maxHeartbeats 4000000
/-! the rules as the printer names them -/
namespace Sm
open PySem PySem.Spec PyProof.Rows L2
local macro_rules | `(tactic| trivial) => `(tactic| (intro x y h e h' z; simp only [mAdd, mSub, mMul, mMod, mDiv, mPow, mLt, mLe, mGt, mGe, mEq, mNe, mIs, mIsNot, mIn, mNotIn, mIx, ixL, ixS, ixD, optR] at z; (repeat' split at z); all_goals cases z))
theorem mAdd_noEx : NoEx2 mAdd := by trivial
theorem mSub_noEx : NoEx2 mSub := by trivial
theorem mMul_noEx : NoEx2 mMul := by trivial
theorem mMod_noEx : NoEx2 mMod := by trivial
theorem mDiv_noEx : NoEx2 mDiv := by trivial
theorem mPow_noEx : NoEx2 mPow := by trivial
theorem mLt_noEx : NoEx2 mLt := by trivial
theorem mLe_noEx : NoEx2 mLe := by trivial
theorem mGt_noEx : NoEx2 mGt := by trivial
theorem mGe_noEx : NoEx2 mGe := by trivial
theorem mEq_noEx : NoEx2 mEq := by trivial
theorem mNe_noEx : NoEx2 mNe := by trivial
theorem mIs_noEx : NoEx2 mIs := by trivial
theorem mIsNot_noEx : NoEx2 mIsNot := by trivial
theorem mIn_noEx : NoEx2 mIn := by trivial
theorem mNotIn_noEx : NoEx2 mNotIn := by trivial
theorem mIx_noEx : NoEx2 mIx := by trivial
theorem mLen_noEx : NoEx1 mLen := by
  intro xs h e h' z; unfold mLen at z; (repeat' split at z); all_goals cases z
theorem mTuple_noEx : NoEx1 mTuple := by
  intro xs h e h' z; unfold mTuple at z; (repeat' split at z); all_goals cases z
theorem mInt_noEx : NoEx1 mInt := by
  intro xs h e h' z; unfold mInt at z; (repeat' split at z); all_goals cases z
theorem mBool_noEx : NoEx1 mBool := by
  intro xs h e h' z; unfold mBool at z; (repeat' split at z); all_goals cases z
theorem mAbs_noEx : NoEx1 mAbs := by
  intro xs h e h' z; unfold mAbs at z; (repeat' split at z); all_goals cases z
theorem mMin_noEx : NoEx1 mMin := by
  intro xs h e h' z; unfold mMin at z; (repeat' split at z); all_goals cases z
theorem mMax_noEx : NoEx1 mMax := by
  intro xs h e h' z; unfold mMax at z; (repeat' split at z); all_goals cases z
theorem mStr_noEx : NoEx1 mStr := by
  intro xs h e h' z; unfold mStr at z; (repeat' split at z); all_goals cases z
section
variable {X : Cx} {cl : Str → Option Addr} {W : Wsh} {a b c e o : Expr} {es : List Expr} {ma mb mc m mo : ME} {ms la lb : MA} {pos apos cpos p p2 : Pos} {k : Nat}
theorem b_Add (ha : SE X cl W a ma) (hb : SE X cl W b mb) : SE X cl W (.BinOp a .Add b pos) (eBin mAdd ma mb) := se_bin op_addM rM_ok mAdd_noEx ha hb
theorem b_Sub (ha : SE X cl W a ma) (hb : SE X cl W b mb) : SE X cl W (.BinOp a .Sub b pos) (eBin mSub ma mb) := se_bin op_subM rM_ok mSub_noEx ha hb
theorem b_Mult (ha : SE X cl W a ma) (hb : SE X cl W b mb) : SE X cl W (.BinOp a .Mult b pos) (eBin mMul ma mb) := se_bin op_mulM rM_ok mMul_noEx ha hb
theorem b_Mod (ha : SE X cl W a ma) (hb : SE X cl W b mb) : SE X cl W (.BinOp a .Mod b pos) (eBin mMod ma mb) := se_bin op_modM rM_ok mMod_noEx ha hb
theorem b_FloorDiv (ha : SE X cl W a ma) (hb : SE X cl W b mb) : SE X cl W (.BinOp a .FloorDiv b pos) (eBin mDiv ma mb) := se_bin op_divM rM_ok mDiv_noEx ha hb
theorem b_Pow (ha : SE X cl W a ma) (hb : SE X cl W b mb) : SE X cl W (.BinOp a .Pow b pos) (eBin mPow ma mb) := se_bin op_powM rM_ok mPow_noEx ha hb
theorem c_Lt (ha : SE X cl W a ma) (hb : SE X cl W b mb) : SE X cl W (.Compare a [.Lt] [b] pos) (eBin mLt ma mb) := se_cmp op_ltM rM_ok mLt_noEx ha hb (nomark _)
theorem c_LtE (ha : SE X cl W a ma) (hb : SE X cl W b mb) : SE X cl W (.Compare a [.LtE] [b] pos) (eBin mLe ma mb) := se_cmp op_leM rM_ok mLe_noEx ha hb (nomark _)
theorem c_Gt (ha : SE X cl W a ma) (hb : SE X cl W b mb) : SE X cl W (.Compare a [.Gt] [b] pos) (eBin mGt ma mb) := se_cmp op_gtM rM_ok mGt_noEx ha hb (nomark _)
theorem c_GtE (ha : SE X cl W a ma) (hb : SE X cl W b mb) : SE X cl W (.Compare a [.GtE] [b] pos) (eBin mGe ma mb) := se_cmp op_geM rM_ok mGe_noEx ha hb (nomark _)
theorem c_Eq (hr : Room k X.A) (ha : SE X cl W a ma) (hb : SE X cl W b mb) : SE X cl W (.Compare a [.Eq] [b] pos) (eBin mEq ma mb) := se_cmp (op_eqM hr.units) rM_ok mEq_noEx ha hb (nomark _)
theorem c_NotEq (hr : Room k X.A) (ha : SE X cl W a ma) (hb : SE X cl W b mb) : SE X cl W (.Compare a [.NotEq] [b] pos) (eBin mNe ma mb) := se_cmp (op_neM hr.units) rM_ok mNe_noEx ha hb (nomark _)
theorem c_Is (ha : SE X cl W a ma) (hb : SE X cl W b mb) : SE X cl W (.Compare a [.Is] [b] pos) (eBin mIs ma mb) := se_cmp op_isM rM_ok mIs_noEx ha hb (nomark _)
theorem c_IsNot (ha : SE X cl W a ma) (hb : SE X cl W b mb) : SE X cl W (.Compare a [.IsNot] [b] pos) (eBin mIsNot ma mb) := se_cmp op_isNotM rM_ok mIsNot_noEx ha hb (nomark _)
theorem c_In (hr : Room k X.A) (ha : SE X cl W a ma) (hb : SE X cl W b mb) (hm : behindInMarks .In b = false := by with_unfolding_all rfl) : SE X cl W (.Compare a [.In] [b] pos) (eBin mIn ma mb) := se_cmp (op_inM (hu_of hr)) rM_ok mIn_noEx ha hb hm
theorem c_NotIn (hr : Room k X.A) (ha : SE X cl W a ma) (hb : SE X cl W b mb) (hm : behindInMarks .NotIn b = false := by with_unfolding_all rfl) : SE X cl W (.Compare a [.NotIn] [b] pos) (eBin mNotIn ma mb) := se_cmp (op_notInM (hu_of hr)) rM_ok mNotIn_noEx ha hb hm
theorem t_Lt (ha : SE X cl W a ma) (hb : SE X cl W b mb) : ST X cl W (.Compare a [.Lt] [b] pos) (tOfE (eBin mLt ma mb)) := st_cmp op_ltM rM_ok mLt_noEx ha hb (nomark _)
theorem t_LtE (ha : SE X cl W a ma) (hb : SE X cl W b mb) : ST X cl W (.Compare a [.LtE] [b] pos) (tOfE (eBin mLe ma mb)) := st_cmp op_leM rM_ok mLe_noEx ha hb (nomark _)
theorem t_Gt (ha : SE X cl W a ma) (hb : SE X cl W b mb) : ST X cl W (.Compare a [.Gt] [b] pos) (tOfE (eBin mGt ma mb)) := st_cmp op_gtM rM_ok mGt_noEx ha hb (nomark _)
theorem t_GtE (ha : SE X cl W a ma) (hb : SE X cl W b mb) : ST X cl W (.Compare a [.GtE] [b] pos) (tOfE (eBin mGe ma mb)) := st_cmp op_geM rM_ok mGe_noEx ha hb (nomark _)
theorem t_Eq (hr : Room k X.A) (ha : SE X cl W a ma) (hb : SE X cl W b mb) : ST X cl W (.Compare a [.Eq] [b] pos) (tOfE (eBin mEq ma mb)) := st_cmp (op_eqM hr.units) rM_ok mEq_noEx ha hb (nomark _)
theorem t_NotEq (hr : Room k X.A) (ha : SE X cl W a ma) (hb : SE X cl W b mb) : ST X cl W (.Compare a [.NotEq] [b] pos) (tOfE (eBin mNe ma mb)) := st_cmp (op_neM hr.units) rM_ok mNe_noEx ha hb (nomark _)
theorem t_Is (ha : SE X cl W a ma) (hb : SE X cl W b mb) : ST X cl W (.Compare a [.Is] [b] pos) (tOfE (eBin mIs ma mb)) := st_cmp op_isM rM_ok mIs_noEx ha hb (nomark _)
theorem t_IsNot (ha : SE X cl W a ma) (hb : SE X cl W b mb) : ST X cl W (.Compare a [.IsNot] [b] pos) (tOfE (eBin mIsNot ma mb)) := st_cmp op_isNotM rM_ok mIsNot_noEx ha hb (nomark _)
theorem t_In (hr : Room k X.A) (ha : SE X cl W a ma) (hb : SE X cl W b mb) (hm : behindInMarks .In b = false := by with_unfolding_all rfl) : ST X cl W (.Compare a [.In] [b] pos) (tOfE (eBin mIn ma mb)) := st_cmp (op_inM (hu_of hr)) rM_ok mIn_noEx ha hb hm
theorem t_NotIn (hr : Room k X.A) (ha : SE X cl W a ma) (hb : SE X cl W b mb) (hm : behindInMarks .NotIn b = false := by with_unfolding_all rfl) : ST X cl W (.Compare a [.NotIn] [b] pos) (tOfE (eBin mNotIn ma mb)) := st_cmp (op_notInM (hu_of hr)) rM_ok mNotIn_noEx ha hb hm
theorem x_ix (hr : Room k X.A) (ha : SE X cl W a ma) (hb : SE X cl W b mb) (hs : PlainIx b) : SE X cl W (.Subscript a b pos) (eBin mIx ma mb) := se_ix (hu_of hr) mIx_noEx ha hb hs
/-! what is never come to -/
@[simp] def eBad : ME := fun _ _ => .bad
@[simp] def lBad : MA := fun _ _ => .bad
theorem se_never : SE X cl W e eBad := ⟨fun pins s σ H Q I ⟨ρ, h, mp, rl, rs, g⟩ => False.elim g⟩
theorem sl_never : SL X cl W e lBad := ⟨fun pins s σ H Q I ⟨ρ, h, mp, rl, rs, g⟩ => False.elim g⟩
/-- {} -/
@[simp] def eDict0 : ME := fun _ h => .ok (.ref h.length) (h ++ [.dct []])
theorem se_dict0 : SE X cl W (.Dict [] [] pos) eDict0 := peW pe_dnewK fun σ H Q ⟨ρ, h, mp, rl, rs, g⟩ p hp =>
  g _ _ (Mp.put mp h.length p) ((Fut.new hp).toCell (rl.new hp) hp) ((rl.new hp).toCell (rl.np hp) ⟨[], upd_same, rfl, .nil⟩) (.ref Mp.put_same)
/-- the class of names -/
theorem fld1 {K : PySem.W.Frag} {c f : Str} {C : Addr} (hc : cl c = some C) (h1 : Cls K C) (h2 : NoAttr K C f) : FldOk K cl [c] f := fun c' hc' C' e => by
  have : c' = c := by simpa using hc'
  subst this
  rw [hc] at e
  have := Option.some.inj e
  subst this
  exact ⟨h1, h2⟩
theorem fldCons {K : PySem.W.Frag} {c f : Str} {cs : List Str} {C : Addr} (hc : cl c = some C) (h1 : Cls K C) (h2 : NoAttr K C f) (h : FldOk K cl cs f) : FldOk K cl (c :: cs) f := fun c' hc' C' e => by
  rcases List.mem_cons.mp hc' with z | z
  · subst z
    rw [hc] at e
    have := Option.some.inj e
    subst this
    exact ⟨h1, h2⟩
  · exact h c' z C' e
end
theorem fnNever {P : Program} {w : World} {K : PySem.W.Frag} {mg : Str → Option Value} {base : Heap} {cl : Str → Option Addr} {k : Nat} {f : Addr} {fd : FuncData} {ps : List Str} : FnOk P w K mg base CX0 k f fd ps (spM K cl fun _ _ => .bad) :=
  ⟨fun vs H Q E h => by obtain ⟨_, _, _, _, _, g⟩ := h; exact False.elim g, fun A outer s H args us vs Q E _ _ _ _ h => by obtain ⟨_, _, _, _, _, g⟩ := h; exact False.elim g⟩
theorem neBad : NoEx1 (fun (_ : List MV) (_ : MH) => (Res.bad : Res MV)) := fun _ _ _ _ z => by cases z
end Sm

set_option Elab.async false
set_option linter.all false
set_option maxRecDepth 100000
set_option maxHeartbeats 4000000
/-! more rules: o.f += e, texts' join, displayed dicts, dict.get -/
namespace Sm
open PySem PySem.Spec PyProof.Rows L2
section
variable {X : Cx} {cl : Str → Option Addr} {W : Wsh} {a b c e o : Expr} {es : List Expr} {ma mb mc m mo : ME} {ms la lb : MA} {pos apos cpos p p2 pos' : Pos} {k : Nat} {f : Str}
/-! ### o.f += e -/
theorem in_addM : InOp X .Add (rM X.K cl mIadd) := fun pins s σ H x y u v Q I rx ry h => iaddM pins s σ H x y u v Q I rx ry h
theorem in_subM : InOp X .Sub (rM X.K cl mSub) := by
  intro pins s σ H V Y v u Q I rx ry ⟨x, y, h, mp, rl, r1, r2, g⟩
  cases r1 with
  | int i =>
    cases r2 with
    | int j => exact in_sub pins s σ H _ _ v u Q I rx ry ⟨i, j, rfl, rfl, g _ H mp .refl rl (.int _)⟩
    | _ => exact False.elim g
  | _ => exact False.elim g
/-- the class of an instance, its field -/
def insAt (x : MV) (h : MH) : Option (Str × List (Str × MV)) := match x with | .ref n => (match h[n]? with | some (.ins c fs) => some (c, fs) | _ => none) | _ => none
def mAugF (cs : List Str) (f : Str) (op : MV → MV → MH → Res MV) (m : ME) (ρ : MS) (x : MV) (h : MH) : SRes := match insAt x h with
  | some (c, fs) => if c ∈ cs then match fs.lookup f with
    | some v => (m ρ h).st ρ fun y h1 => (op v y h1).st ρ fun z h2 => match insAt x h2 with
      | some (c', fs') => if c' = c ∧ fs'.length < 1000 then (match x with | .ref n => .nx ρ (h2.set n (.ins c (putM f z fs'))) | _ => .bad) else .bad
      | none => .bad
    | none => .bad
    else .bad
  | none => .bad
@[simp] def sAugF (cs : List Str) (f : Str) (op : MV → MV → MH → Res MV) (mo m : ME) : MSt := fun ρ h => (mo ρ h).st ρ fun x h1 => mAugF cs f op m ρ x h1
theorem insAt_ok {K : PySem.W.Frag} {mp : Mp} {h : MH} {H : Hp} {x : MV} {V : L2.V} {c : Str} {fs : List (Str × MV)} (rl : Rl K cl mp h H) (r : RV K mp H x V) (e : insAt x h = some (c, fs)) : ∃ n a C dx vs, x = .ref n ∧ mp n = some a ∧ V = .ref a ∧ cl c = some C ∧ H a = some (.ins C dx vs) ∧ RFs K mp H fs vs := by
  cases r with
  | @ref n a e1 =>
    unfold insAt at e
    dsimp only at e
    split at e
    · rename_i c' fs' cc
      have := Option.some.inj e
      cases this
      obtain ⟨C, dx, vs, h0, h1, q1⟩ := rl.obj n _ a cc e1
      exact ⟨n, a, C, dx, vs, rfl, e1, rfl, h0, h1, q1⟩
    · cases e
  | _ => cases e
theorem ss_augF {cs : List Str} {op : Operator} {mop : MV → MV → MH → Res MV} (ne : NoEx2 mop) (hC : FldOk X.K cl cs f) (ho : SE X cl W o mo) (he : SE X cl W e m) (hop : InOp X op (rM X.K cl mop)) : SS X cl W (.AugAssign (.Attribute o f pos') op e pos) (sAugF cs f mop mo m) :=
  psW (ps_fldaug ho he hop) fun D σ H ⟨ρ, h, mp, rl, rs, g⟩ => tM_st rl rs g (fun _ _ q => q.ew rs) fun x h1 V H1 mp1 f1 rl1 rs1 rv1 g1 => by
    unfold mAugF at g1
    split at g1
    · rename_i c fs ei
      obtain ⟨n, a, C, dx, vs, rfl, e1, rfl, h0, hA, q1⟩ := insAt_ok rl1 rv1 ei
      split at g1
      · rename_i hc
        obtain ⟨k1, k2⟩ := hC c hc C h0
        split at g1
        · rename_i v ev
          rcases look_ok (f := f) q1 with ⟨z1, z2⟩ | ⟨y, w, z1, z2, z3⟩
          · rw [z1] at ev; cases ev
          · rw [z1] at ev
            have := Option.some.inj ev
            subst this
            refine ⟨a, C, dx, vs, w, rfl, hA, k1, k2, z2, tM_st rl1 rs1 g1 (fun _ _ q => (q.fut f1).ew rs1) fun y2 h2 Y H2 mp2 f2 rl2 rs2 rv2 g2 => ⟨y, y2, h2, mp2, rl2, z3.fut f2, rv2, (toNever (SGood.st.mp g2) (ne _ _ _)).mono (fun z h3 g3 Z H3 mp3 f3 rl3 rv3 => ?_) fun _ _ z => z⟩⟩
            split at g3
            · rename_i c' fs' ei'
              split at g3
              · rename_i hc'
                have rvx : RV X.K mp3 H3 (.ref n) (.ref a) := .ref (f3.le _ _ (f2.le _ _ e1))
                obtain ⟨n', a', C', dx', vs', ex, e1', ea, h0', hA', q1'⟩ := insAt_ok rl3 rvx ei'
                cases ex
                cases ea
                rw [hc'.1, h0] at h0'
                have := Option.some.inj h0'
                subst this
                refine ⟨dx', vs', hA', ?_, ?_⟩
                · have : fs'.length = vs'.length := by simpa using congrArg List.length q1'.1
                  rw [← this]; exact hc'.2
                · have f4 := Fut.set (o := .ins C dx' (putF f Z vs')) rl3 e1'
                  exact g3 σ _ mp3 (f1.trans (f2.trans (f3.trans f4))) (rl3.set e1' ⟨C, dx', _, h0, upd_same, (put_ok rv3 q1').fut f4⟩) ((rs2.fut f3).fut f4)
              · exact False.elim g3
            · exact False.elim g3
        · exact False.elim g1
      · exact False.elim g1
    · exact False.elim g1
/-! ### texts' join -/
def strsOf : List MV → Option (List Str)
  | [] => some []
  | .str s :: xs => (strsOf xs).map (s :: ·)
  | _ => none
@[simp] theorem strsOf_map (ss : List Str) : strsOf (ss.map MV.str) = some ss := by
  induction ss with
  | nil => rfl
  | cons s ss ih => simp [strsOf, ih]
theorem strsOf_ok {K : PySem.W.Frag} {mp : Mp} {H : Hp} : ∀ {xs : List MV} {vs : List L2.V} {ss : List Str}, RVs K mp H xs vs → strsOf xs = some ss → vs = ss.map L2.V.str
  | [], _, _, .nil, e => by simp [strsOf] at e; subst e; rfl
  | x :: xs, _, ss, .cons r t, e => by
    cases r with
    | str b =>
      simp only [strsOf, Option.map_eq_some_iff] at e
      obtain ⟨cs, e1, rfl⟩ := e
      rw [strsOf_ok t e1]
      rfl
    | _ => simp [strsOf] at e
def joinOk (a : Str) (ss : List Str) : Prop := (ss.map (·.length)).sum + ss.length * a.length ≤ 16777216
instance {a : Str} {ss : List Str} : Decidable (joinOk a ss) := inferInstanceAs (Decidable (_ ≤ _))
def mJoin (x : MV) (xs : List MV) (h : MH) : Res MV := match x, xs with
  | .str a, [y] => (match itemsOf y h with
    | some ys => (match strsOf ys with
      | some ss => if joinOk a ss then .ok (.str (Txt.join a ss)) h else .bad
      | none => .bad)
    | none => .bad)
  | _, _ => .bad
theorem mJoin_noEx : NoExM mJoin := by
  intro x xs h e h' z
  unfold mJoin at z
  repeat' split at z
  all_goals cases z
theorem joinM : MtR X "str.join" (rMM X.K cl mJoin) := by
  intro pins s σ H V Vs v us Q I rx rxs ⟨x, xs, h, mp, rl, r1, r2, g⟩
  unfold mJoin at g
  split at g
  · rename_i a y
    obtain ⟨Y, rfl, ry⟩ := rvs1 r2
    cases r1
    split at g
    · rename_i ys ey
      obtain ⟨p, vs, rfl, hs, q1⟩ := items_ok rl ry ey
      split at g
      · rename_i ss es
        have := strsOf_ok q1 es
        subst this
        split at g
        · rename_i hz
          exact mt_join pins s σ H _ _ v us Q I rx rxs ⟨a, p, ss, rfl, rfl, hs.imp (fun z => z.1) (fun z => z.1), hz, g _ H mp .refl rl (.str _)⟩
        · exact False.elim g
      · exact False.elim g
    · exact False.elim g
  · exact False.elim g
/-! ### {k: v, ..} -/
def pairsM : List (ME × ME) → MS → MH → Res (List (MV × MV))
  | [], _, h => .ok [] h
  | (mk, mv) :: r, ρ, h => (mk ρ h).bind fun x h1 => (mv ρ h1).bind fun y h2 => (pairsM r ρ h2).bind fun ps h3 => .ok ((x, y) :: ps) h3
@[simp] theorem pairsM_nil (ρ : MS) (h : MH) : pairsM [] ρ h = .ok [] h := rfl
@[simp] theorem pairsM_cons (mk mv : ME) (r : List (ME × ME)) (ρ : MS) (h : MH) : pairsM ((mk, mv) :: r) ρ h = (mk ρ h).bind fun x h1 => (mv ρ h1).bind fun y h2 => (pairsM r ρ h2).bind fun ps h3 => .ok ((x, y) :: ps) h3 := rfl
def keyed : List (MV × MV) → Option (List (Key × MV))
  | [] => some []
  | (x, y) :: r => match keyOf x, keyed r with | some k, some kvs => some ((k, y) :: kvs) | _, _ => none
def putDM (kvs : List (Key × MV)) (k : Key) (v : MV) : List (Key × MV) := if (kvs.any fun kv => decide (kv.1 = k)) = true then kvs.map (fun kv => if kv.1 = k then (kv.1, v) else kv) else kvs ++ [(k, v)]
def mergeM (kvs more : List (Key × MV)) : List (Key × MV) := more.foldl (fun acc kv => putDM acc kv.1 kv.2) kvs
@[simp] def eDisp (prs : List (ME × ME)) : ME := fun ρ h => (pairsM prs ρ h).bind fun ps h1 => match keyed ps with
  | some kvs => if kvs.length ≤ 15 then .ok (.ref h1.length) (h1 ++ [.dct (mergeM [] kvs)]) else .bad
  | none => .bad
def RPs (K : PySem.W.Frag) (mp : Mp) (H : Hp) (ps : List (MV × MV)) (vs : List (L2.V × L2.V)) : Prop := RVs K mp H (ps.map (·.1)) (vs.map (·.1)) ∧ RVs K mp H (ps.map (·.2)) (vs.map (·.2))
theorem putK_ok {K : PySem.W.Frag} {mp : Mp} {H : Hp} {k : Key} {x : MV} {v : L2.V} (q : RV K mp H x v) {fs : List (Key × MV)} {vs : List (Key × L2.V)} (r : RFs K mp H fs vs) : RFs K mp H (putDM fs k x) (putK vs k v) := by
  have any : ∀ {fs : List (Key × MV)} {vs : List (Key × L2.V)}, RFs K mp H fs vs → (fs.any fun kv => decide (kv.1 = k)) = vs.any fun kv => decide (kv.1 = k) := by
    intro fs vs r
    have h1 : (fs.any fun kv => decide (kv.1 = k)) = (fs.map (·.1)).any fun z => decide (z = k) := by rw [List.any_map]; rfl
    have h2 : (vs.any fun kv => decide (kv.1 = k)) = (vs.map (·.1)).any fun z => decide (z = k) := by rw [List.any_map]; rfl
    rw [h1, h2, r.1]
  have all : ∀ {fs : List (Key × MV)} {vs : List (Key × L2.V)}, RFs K mp H fs vs → RFs K mp H (fs.map fun kv => if kv.1 = k then (kv.1, x) else kv) (vs.map fun kv => if kv.1 = k then (kv.1, v) else kv) := by
    intro fs
    induction fs with
    | nil =>
      intro vs r
      have : vs = [] := by have := r.1; cases vs with | nil => rfl | cons _ _ => simp at this
      subst this
      exact ⟨rfl, .nil⟩
    | cons a fs ih =>
      intro vs r
      cases vs with
      | nil => have := r.1; simp at this
      | cons w vs =>
        obtain ⟨k1, y⟩ := a
        obtain ⟨k2, w⟩ := w
        obtain ⟨e, t⟩ := r
        simp only [List.map_cons, List.cons.injEq] at e t
        obtain ⟨rfl, e⟩ := e
        cases t with
        | cons t1 t2 =>
          obtain ⟨i1, i2⟩ := ih (vs := vs) ⟨e, t2⟩
          by_cases hk : k1 = k
          · exact ⟨by simp only [List.map_cons, hk, if_true, i1], by simp only [List.map_cons, hk, if_true]; exact .cons q i2⟩
          · exact ⟨by simp only [List.map_cons, hk, if_false, i1], by simp only [List.map_cons, hk, if_false]; exact .cons t1 i2⟩
  unfold putDM putK
  rw [any r]
  split
  · exact all r
  · exact ⟨by simp [r.1], by simp only [List.map_append, List.map_cons, List.map_nil]; exact r.2.append (.cons q .nil)⟩
theorem merge_ok {K : PySem.W.Frag} {mp : Mp} {H : Hp} : ∀ {more : List (Key × MV)} {mv : List (Key × L2.V)} {fs : List (Key × MV)} {vs : List (Key × L2.V)}, RFs K mp H more mv → RFs K mp H fs vs → RFs K mp H (mergeM fs more) (mergeK vs mv)
  | [], mv, fs, vs, r, q => by
    have : mv = [] := by have := r.1; cases mv with | nil => rfl | cons _ _ => simp at this
    subst this
    exact q
  | (k1, y) :: more, mv, fs, vs, r, q => by
    cases mv with
    | nil => have := r.1; simp at this
    | cons w mv =>
      obtain ⟨k2, w⟩ := w
      obtain ⟨e, t⟩ := r
      simp only [List.map_cons, List.cons.injEq] at e t
      obtain ⟨rfl, e⟩ := e
      cases t with
      | cons t1 t2 => exact merge_ok (more := more) (mv := mv) ⟨e, t2⟩ (putK_ok t1 q)
theorem keyed_ok {K : PySem.W.Frag} {mp : Mp} {H : Hp} : ∀ {ps : List (MV × MV)} {vs : List (L2.V × L2.V)} {kvs : List (Key × MV)}, RPs K mp H ps vs → keyed ps = some kvs → ∃ ws : List (Key × L2.V), vs = ws.map (fun kv => (kV kv.1, kv.2)) ∧ RFs K mp H kvs ws
  | [], vs, kvs, r, e => by
    have : vs = [] := by have := r.1.length; cases vs with | nil => rfl | cons _ _ => simp at this
    subst this
    have := Option.some.inj e
    subst this
    exact ⟨[], rfl, rfl, .nil⟩
  | (x, y) :: ps, vs, kvs, r, e => by
    cases vs with
    | nil => have := r.1.length; simp at this
    | cons v vs =>
      obtain ⟨v1, v2⟩ := v
      unfold keyed at e
      split at e
      · rename_i k kvs' ek ekv
        have := Option.some.inj e
        subst this
        obtain ⟨r1, r2⟩ := r
        cases r1 with
        | cons a1 t1 =>
          cases r2 with
          | cons a2 t2 =>
            obtain ⟨ws, e1, e2⟩ := keyed_ok (ps := ps) (vs := vs) ⟨t1, t2⟩ ekv
            have := keyOf_ok a1 ek
            subst this
            subst e1
            exact ⟨(k, v2) :: ws, rfl, by simp [e2.1], .cons a2 e2.2⟩
      · cases e
theorem tPairs_of : ∀ {prs : List (ME × ME)} {ρ : MS} {h : MH} {mp : Mp} {σ : L2.St} {H : Hp} {R : List (L2.V × L2.V) → Hp → Prop} {β : Type} {Q1 : β → MH → Prop} {E1 : MV → MH → Prop} {fn : List (MV × MV) → MH → Res β}, Rl X.K cl mp h H → RS X.K mp H ρ σ →
    Good ((pairsM prs ρ h).bind fn) Q1 E1 → (∀ e h', E1 e h' → EW X.K cl mp H W σ e h') →
    (∀ ps h1 vs H1 mp1, Fut X.K mp mp1 H H1 → Rl X.K cl mp1 h1 H1 → RPs X.K mp1 H1 ps vs → Good (fn ps h1) Q1 E1 → R vs H1) → tPairs (prs.map fun pr => (tM X.K cl W pr.1, tM X.K cl W pr.2)) σ H R
  | [], ρ, h, mp, σ, H, R, β, Q1, E1, fn, rl, rs, g, hE, k => k [] h [] H mp .refl rl ⟨.nil, .nil⟩ g
  | (mk, mv) :: prs, ρ, h, mp, σ, H, R, β, Q1, E1, fn, rl, rs, g, hE, k => by
    show tM X.K cl W mk σ H _
    have g' : Good ((mk ρ h).bind fun x h1 => (mv ρ h1).bind fun y h2 => (pairsM prs ρ h2).bind fun ps h3 => fn ((x, y) :: ps) h3) Q1 E1 := by
      have as : ∀ {α β γ : Type} (r : Res α) (f : α → MH → Res β) (g : β → MH → Res γ), (r.bind f).bind g = r.bind fun a h => (f a h).bind g := fun r f g => by cases r <;> rfl
      rw [pairsM_cons, as] at g
      simpa only [as, Res.bind_ok] using g
    refine tM_bind rl rs g' hE fun x h1 V H1 mp1 f1 rl1 rs1 rv1 g1 => tM_bind rl1 rs1 g1 (fun e h' q => (hE e h' q).fut f1) fun y h2 Y H2 mp2 f2 rl2 rs2 rv2 g2 => ?_
    refine tPairs_of (prs := prs) (fn := fun ps h3 => fn ((x, y) :: ps) h3) rl2 rs2 g2 (fun e h' q => (hE e h' q).fut (f1.trans f2)) fun ps h3 vs H3 mp3 f3 rl3 rp g3 => ?_
    exact k ((x, y) :: ps) h3 ((V, Y) :: vs) H3 mp3 (f1.trans (f2.trans f3)) rl3 ⟨.cons (rv1.fut (f2.trans f3)) rp.1, .cons (rv2.fut f3) rp.2⟩ g3
/-- what is no cell is written -/
theorem tmpD {K : PySem.W.Frag} {mp0 mp : Mp} {H0 H : Hp} {h : MH} {D : Addr} {u u' : List (Key × L2.V)} (rl : Rl K cl mp h H) (f : Fut K mp0 mp H0 H) (h0 : H0 D = none) (hD : H D = some (.dK u)) (np : ∀ n, mp n ≠ some D) :
    Fu K mp mp H (upd H D (.dK u')) ∧ Rl K cl mp h (upd H D (.dK u')) ∧ Fut K mp0 mp H0 (upd H D (.dK u')) := by
  have fu : Fu K mp mp H (upd H D (.dK u')) := ⟨fun _ _ h => h, TpA.set (fun xs q => by
    rcases q with q | ⟨o, q⟩ <;> rw [hD] at q <;> cases q), fun a xs t => by
    rcases t with ⟨u, t⟩ | t
    · refine .inl ⟨u, ?_⟩
      rw [upd_ne]
      · exact t
      · intro z; subst z; rw [hD] at t; cases t
    · exact .inr t, fun a xs ⟨u, t, c⟩ => ⟨u, (by
      rw [upd_ne]
      · exact t
      · intro z; subst z; rw [hD] at t; cases t), c⟩, fun c q e n => ⟨(by
      rw [upd_ne]
      · exact e
      · intro z; subst z; rw [hD] at e; cases e), n⟩⟩
  refine ⟨fu, ⟨rl.dom, rl.has, rl.inj, fun n o a e q => (rl.obj n o a e q).fu fu (upd_ne fun z => np n (by rw [← z]; exact q))⟩, ⟨f.le, fun a xs t => fu.tt a xs (f.tt a xs t), fun a xs t => fu.sf a xs (f.sf a xs t), fun a o e n => ?_, fun a xs t => fu.tx a xs (f.tx a xs t)⟩⟩
  obtain ⟨h1, h2⟩ := f.fr a o e n
  exact ⟨by rw [upd_ne (ne_of_none e h0)]; exact h1, h2⟩
theorem se_disp {prs : List (ME × ME)} {keys : List (Option Expr)} {values : List Expr} (hp : PPs X pos keys values (prs.map fun pr => (tM X.K cl W pr.1, tM X.K cl W pr.2))) (hall : keys.all (·.isSome) = true) (hl : keys.length = values.length) (h0 : keys ≠ [])
    (h15 : keys.length ≤ 15) : SE X cl W (.Dict keys values pos) (eDisp prs) := peW (pe_disp hp hall hl h0 h15) fun σ H Q ⟨ρ, h, mp, rl, rs, g⟩ p hp => by
  have f0 : Fut X.K mp mp H (upd H p (.dK [])) := Fut.new hp
  have rl0 := rl.new (o := .dK []) hp
  refine tPairs_of rl0 (rs.fut f0) g (fun e h' q => q.fut f0) fun ps h1 vs H1 mp1 f1 rl1 rp g1 => ?_
  obtain ⟨hD, np⟩ := f1.fr p _ upd_same (rl.np hp)
  refine ⟨hD, ?_⟩
  split at g1
  · rename_i kvs ek
    obtain ⟨ws, e1, e2⟩ := keyed_ok rp ek
    split at g1
    · rename_i hz
      have hlen : kvs.length = ws.length := by simpa using congrArg List.length e2.1
      obtain ⟨fu, rl2, f2⟩ := tmpD (u' := mergeK [] ws) rl1 (f0.trans f1) hp hD np
      refine ⟨ws, e1, by rw [← hlen]; exact hz, ?_⟩
      have mo := merge_ok (fs := []) (vs := []) e2 ⟨rfl, .nil⟩
      exact g1 _ _ (Mp.put mp1 h1.length p) (f2.toCell rl2 hp) (rl2.toCell np ⟨_, upd_same, mo.1, mo.2.fu fu⟩) (.ref Mp.put_same)
    · exact False.elim g1
  · exact False.elim g1
/-! ### d.get(k), d.get(k, x) -/
def dctAt (x : MV) (h : MH) : Option (List (Key × MV)) := match x with | .ref n => (match h[n]? with | some (.dct kvs) => some kvs | _ => none) | _ => none
theorem dctAt_ok {K : PySem.W.Frag} {mp : Mp} {h : MH} {H : Hp} {x : MV} {V : L2.V} {kvs : List (Key × MV)} (rl : Rl K cl mp h H) (r : RV K mp H x V) (e : dctAt x h = some kvs) : ∃ n a vs, x = .ref n ∧ mp n = some a ∧ V = .ref a ∧ H a = some (.dK vs) ∧ RFs K mp H kvs vs := by
  cases r with
  | @ref n a e1 =>
    unfold dctAt at e
    dsimp only at e
    split at e
    · rename_i kvs' cc
      have := Option.some.inj e
      subst this
      obtain ⟨vs, h1, q1⟩ := rl.obj n _ a cc e1
      exact ⟨n, a, vs, rfl, e1, rfl, h1, q1⟩
    · cases e
  | _ => cases e
@[simp] def eGet1 (mo m : ME) : ME := fun ρ h => (mo ρ h).bind fun x h1 => if (dctAt x h1).isSome = true then (m ρ h1).bind fun y h2 => match dctAt x h2, keyOf y with
  | some kvs, some k => .ok ((valM kvs k).getD .non) h2
  | _, _ => .bad
  else .bad
@[simp] def eGet2 (mo m m2 : ME) : ME := fun ρ h => (mo ρ h).bind fun x h1 => if (dctAt x h1).isSome = true then (m ρ h1).bind fun y h2 => (m2 ρ h2).bind fun z h3 => match dctAt x h3, keyOf y with
  | some kvs, some k => .ok ((valM kvs k).getD z) h3
  | _, _ => .bad
  else .bad
theorem getD_ok {K : PySem.W.Frag} {mp : Mp} {H : Hp} {k : Key} {fs : List (Key × MV)} {vs : List (Key × L2.V)} {z : MV} {Z : L2.V} (r : RFs K mp H fs vs) (rz : RV K mp H z Z) : RV K mp H ((valM fs k).getD z) ((valV vs k).getD Z) := by
  rcases val_ok (k := k) r with ⟨z1, z2⟩ | ⟨y, w, z1, z2, z3⟩
  · rw [z1, z2]; exact rz
  · rw [z1, z2]; exact z3
theorem se_get1 (hr : Room k X.A) (ho : SE X cl W o mo) (he : SE X cl W e m) (mm : M1 X o "get" apos e cpos) : SE X cl W (.Call (.Attribute o "get" apos) [e] [] cpos) (eGet1 mo m) :=
  peW (pe_dget1 (hu_of hr) ho he mm) fun σ H Q ⟨ρ, h, mp, rl, rs, g⟩ => tM_bind rl rs g (fun _ _ z => z) fun x h1 V H1 mp1 f1 rl1 rs1 rv1 g1 => by
    split at g1
    · rename_i hs
      obtain ⟨kvs, ek⟩ := Option.isSome_iff_exists.mp hs
      obtain ⟨n, a, vs, rfl, e1, rfl, hA, q1⟩ := dctAt_ok rl1 rv1 ek
      refine ⟨a, rfl, .inl ⟨vs, .inl hA⟩, tM_bind rl1 rs1 g1 (fun _ _ z => z.fut f1) fun y h2 Y H2 mp2 f2 rl2 rs2 rv2 g2 => ?_⟩
      split at g2
      · rename_i kvs' k ek' hk
        obtain ⟨n', a', vs', ex, e1', ea, hA', q1'⟩ := dctAt_ok rl2 (rv1.fut f2) ek'
        cases ea
        have := keyOf_ok rv2 hk
        subst this
        exact ⟨_, DGet.k hA', g2 _ H2 mp2 (f1.trans f2) rl2 (getD_ok q1' .non)⟩
      · exact False.elim g2
    · exact False.elim g1
theorem se_get2 {e2 : Expr} {m2 : ME} (hr : Room k X.A) (ho : SE X cl W o mo) (he : SE X cl W e m) (he2 : SE X cl W e2 m2) (mm : M2 X o "get" apos e e2 cpos) : SE X cl W (.Call (.Attribute o "get" apos) [e, e2] [] cpos) (eGet2 mo m m2) :=
  peW (pe_dget2 (hu_of hr) ho he he2 mm) fun σ H Q ⟨ρ, h, mp, rl, rs, g⟩ => tM_bind rl rs g (fun _ _ z => z) fun x h1 V H1 mp1 f1 rl1 rs1 rv1 g1 => by
    split at g1
    · rename_i hs
      obtain ⟨kvs, ek⟩ := Option.isSome_iff_exists.mp hs
      obtain ⟨n, a, vs, rfl, e1, rfl, hA, q1⟩ := dctAt_ok rl1 rv1 ek
      refine ⟨a, rfl, .inl ⟨vs, .inl hA⟩, tM_bind rl1 rs1 g1 (fun _ _ z => z.fut f1) fun y h2 Y H2 mp2 f2 rl2 rs2 rv2 g2 => tM_bind rl2 rs2 g2 (fun _ _ z => z.fut (f1.trans f2)) fun z h3 Z H3 mp3 f3 rl3 rs3 rv3 g3 => ?_⟩
      split at g3
      · rename_i kvs' k ek' hk
        obtain ⟨n', a', vs', ex, e1', ea, hA', q1'⟩ := dctAt_ok rl3 (rv1.fut (f2.trans f3)) ek'
        cases ea
        have := keyOf_ok rv2 hk
        subst this
        exact ⟨_, DGet.k hA', g3 _ H3 mp3 (f1.trans (f2.trans f3)) rl3 (getD_ok q1' rv3)⟩
      · exact False.elim g3
    · exact False.elim g1
end
end Sm

set_option Elab.async false
set_option linter.all false
set_option maxRecDepth 100000
set_option maxHeartbeats 4000000
/-! more words: enumerate of a text, split, lower, partition -/
namespace Sm
open PySem L2 PyProof.Rows
/-- the signs of a text with their numbers, in new pairs -/
def Ites (z : Str) : It :=
  ⟨fun i _ => ∃ c, z.cps[i]? = some c,
   fun i H v H' => ∃ T c, v = .ref T ∧ H T = none ∧ z.cps[i]? = some c ∧ H' = upd H T (.tup [.int (i : Nat), .str ⟨#[c]⟩]),
   fun i _ => z.cps.size ≤ i⟩
def enStr (z : Str) (t : Tok) (q r : Addr) : Nat → Heap → Prop := fun k g => (∃ was, IsEnum g q r ((k : Nat) : Int) was) ∧ (q ≠ r ∧ k ≤ z.cps.size ∧ g.IsStrIter r (strIterType z) z t k)
theorem turn_enS {P : Program} {w : World} {K : PySem.W.Frag} {elts : List Expr} {kk : Nat} {tpos : Pos} {z : Str} {t : Tok} {q r : Addr} : Turn P w K (.Tuple elts kk tpos) (Ites z) [q, r] q (enStr z t q r) where
  mem := .head _
  obj := by
    rintro k g ⟨⟨was, e1⟩, ne, -, ⟨ob, e2, -, e3⟩⟩ c hc
    rcases List.mem_cons.mp hc with rfl | hc
    · exact ⟨_, e1, fun v => by intro y; cases y⟩
    · obtain rfl := List.mem_singleton.mp hc
      exact ⟨ob, e2, fun v y => by rw [e3] at y; cases y⟩
  keep := by
    rintro k g g' ⟨⟨was, e1⟩, ne, le, ⟨ob, e2, e3⟩⟩ kp
    exact ⟨⟨was, kp q (.head _) _ e1⟩, ne, le, ⟨ob, kp r (.tail _ (.head _)) ob e2, e3⟩⟩
  item := by
    intro X e1 e2 e3 calm k pins s σ H E I free st go
    subst e1; subst e2; subst e3
    obtain ⟨⟨was, en⟩, ne, -, si⟩ := st
    obtain ⟨c, hc⟩ := go
    have lq := Heap.lt_size en
    have lr : r < s.heap.objs.size := by
      obtain ⟨ob, y, -⟩ := si
      exact Heap.lt_size y
    have D : Draws X.prog X.w X.A.in1 r [r] z.cps.size (fun i v => ∃ c u, z.cps[i]? = some c ∧ v = .str ⟨#[c]⟩ u) (fun i h => h.IsStrIter r (strIterType z) z t i) := Draws.text (show X.A.in1.handled = none from I.ok.hd calm) r z t
    have kz : k < z.cps.size := (Array.getElem?_eq_some_iff.mp hc).1
    refine wpAny_pyNext_enum_itemD D en si kz ne (by simpa using ne) ?_
    rintro v g tk ⟨c', u, hc', rfl⟩ out si' tup - kp
    rw [hc] at hc'
    obtain rfl := Option.some.inj hc'
    refine ⟨_, rfl, ?_⟩
    refine wpAny_letOwnedTupleGo_enum (s := { s with heap := g, toks := tk + 1 }) out ?_
    intro g2 en2 sb
    have nq : s.heap.objs.size ≠ q := fun y => Nat.lt_irrefl _ (y ▸ lq)
    have tup2 := (sb.2 _ nq).trans tup
    have fresh := I.hok.fresh (Nat.le_refl s.heap.objs.size)
    have okT : ObjOk X.prog X.w (upd H s.heap.objs.size (.tup [.int (k : Nat), .str ⟨#[c]⟩])) g2 s.heap.objs.size (.tup [.int (k : Nat), .str ⟨#[c]⟩]) := by
      refine ⟨by show 2 ≤ sizeLine; decide, [.int k tk, .str ⟨#[c]⟩ u], ?_, ⟨_, tup2, rfl, _, rfl⟩⟩
      exact .cons ⟨tk, rfl⟩ (.cons ⟨u, rfl⟩ .nil)
    have J : Inv X pins σ (upd H s.heap.objs.size (.tup [.int (k : Nat), .str ⟨#[c]⟩])) { s with heap := g2, toks := tk + 1 } := by
      refine I.turnedNew (ch := [q, r]) ?_ free (Nat.le_refl _) okT
      intro b ob hb y
      have b1 : b ≠ q := fun y => hb (by rw [y]; exact .head _)
      have b2 : b ≠ r := fun y => hb (by rw [y]; exact .tail _ (.head _))
      exact (sb.2 b b1).trans (kp b ob b1 b2 y)
    have en3 := en2
    rw [show (k : Int) + 1 = ((k + 1 : Nat) : Int) from by push_cast; rfl] at en3
    refine ⟨.ref s.heap.objs.size, _, J, rfl, ⟨_, c, rfl, fresh, hc, rfl⟩, ⟨⟨_, en3⟩, ne, kz, ?_⟩, ?_⟩
    · obtain ⟨ob, e2, e3⟩ := si'
      exact ⟨ob, (sb.2 r ne.symm).trans e2, e3⟩
    · intro b hb
      have hb0 := hb
      have nb : b ≠ s.heap.objs.size := by
        rcases List.mem_cons.mp hb with rfl | hb
        · exact Nat.ne_of_lt lq
        · obtain rfl := List.mem_singleton.mp hb
          exact Nat.ne_of_lt lr
      rw [upd_ne nb]
      exact (free b hb0).1
  done := by
    intro X e1 e2 e3 calm k pins s σ H E I free st stop
    subst e1; subst e2; subst e3
    obtain ⟨⟨was, en⟩, ne, le, si⟩ := st
    have D : Draws X.prog X.w X.A.in1 r [r] z.cps.size (fun i v => ∃ c u, z.cps[i]? = some c ∧ v = .str ⟨#[c]⟩ u) (fun i h => h.IsStrIter r (strIterType z) z t i) := Draws.text (show X.A.in1.handled = none from I.ok.hd calm) r z t
    obtain rfl := Nat.le_antisymm le stop
    obtain ⟨g0, g1, -, g3, g4, g5⟩ := free r (.tail _ (.head _))
    exact wpAny_pyNext_enum_endD D en si fun g x => ⟨rfl, I.turned (t' := s.toks) (fun b ob nb y => x b ob nb y) g0 g1 g3 g4 g5⟩
  self := by
    rintro A k s Q E ⟨⟨was, en⟩, -⟩ g
    exact wpAny_pyIter_enum en g
/-- a list, or a text -/
def enOf (K : PySem.W.Frag) (R : It → Hp → Prop) (x : V) (H1 : Hp) : Prop := (∃ a xs, x = .ref a ∧ SqL K H1 a xs ∧ R (Ite K a) H1) ∨ ∃ z, x = .str z ∧ R (Ites z) H1
def enOfL (K : PySem.W.Frag) (R : It → Hp → Prop) : List V → Hp → Prop | [x], H1 => enOf K R x H1 | _, _ => False
def iEn (K : PySem.W.Frag) (te : TE) : TI := fun σ H R => te σ H fun x H1 => enOf K R x H1
section
variable {X : Cx} {cl : Str → Option Addr} {W : Wsh} {a b c e o : Expr} {es elts : List Expr} {ma mb mc m mo : ME} {ms la lb : MA} {pos apos cpos p p2 pos' tpos : Pos} {k kk : Nat} {f : Str}
theorem pi_en {te : TE} (hg : Gl X "enumerate") (hm : X.mg "enumerate" = none) (he : PE X e te) (hs : starEach [e] X.env = [(false, eval e X.env)] := by rfl) :
    PI X (.Tuple elts kk tpos) (.Call (.Name "enumerate" p) [e] [] pos) (iEn X.K te) where
  run := by
    intro pins s σ H R I h
    have hA := (pa_cons he pa_nil hs).run pos pins s σ H (enOfL X.K R) I h
    refine Call_ (ld_blt I hg hm boot_enumerate (PyProof.Rows.callWith_type1 (thn hA ?_) hs rfl))
    rintro us s1 ⟨vs, H1, J, rv, q⟩
    cases rv with
    | nil => exact False.elim q
    | cons r rr =>
      cases rr with
      | cons _ _ => exact False.elim q
      | nil =>
        have two : ∀ b, b ∈ [s1.heap.objs.size + 1, s1.heap.objs.size] → s1.heap.objs.size ≤ b := fun b hb => by
          rcases List.mem_cons.mp hb with rfl | hb
          · exact Nat.le_succ _
          · rw [List.mem_singleton.mp hb]; exact Nat.le_refl _
        rcases q with ⟨a, xs, rfl, hq, q⟩ | ⟨z, rfl, q⟩
        · cases r
          obtain ⟨its, rv, pl, -⟩ := J.list hq
          refine call_enumerate_list pl.isList fun g en li _ kp => wpAny_pyIter_enum en ?_
          have J2 := J.kept (t' := s1.toks) kp
          exact ⟨_, _, _, _, H1, rfl, J2, turn_enum a _ _, ⟨⟨_, en⟩, li, Nat.succ_ne_self _⟩, fun b hb => J.fpOk (two b hb) (J.hok.fresh (two b hb)), q⟩
        · obtain ⟨t, rfl⟩ := r
          refine call_enumerate_str fun g en li _ kp => wpAny_pyIter_enum en ?_
          have J2 := J.kept (t' := s1.toks) kp
          exact ⟨_, _, _, _, H1, rfl, J2, turn_enS (z := z) (t := t), ⟨⟨_, en⟩, Nat.succ_ne_self _, Nat.zero_le _, li⟩, fun b hb => J.fpOk (two b hb) (J.hok.fresh (two b hb)), q⟩
theorem jok_enS {K : PySem.W.Frag} {mp0 : Mp} {H0 : Hp} {z : Str} : JOk K cl (Ites z) (enumM (signs z)) [] mp0 H0 where
  step := fun i x mp h H f rl g e => by
    obtain ⟨y, e0, rfl⟩ := enumM_get e
    unfold signs at e0
    rw [List.getElem?_map, Option.map_eq_some_iff] at e0
    obtain ⟨c, e1, rfl⟩ := e0
    have e2 : z.cps[i]? = some c := by rw [← Array.getElem?_toList]; exact e1
    refine ⟨⟨c, e2⟩, fun V H' ⟨T, c', e3, hT, e4, e5⟩ => ?_⟩
    subst e3 e5
    rw [e2] at e4
    obtain rfl := Option.some.inj e4
    exact ⟨Fut.new hT, rl.new hT, .tup (SqT.of upd_same) (.cons (.int _) (.cons (.str _) .nil))⟩
  stop := fun i mp h H f rl g l => by
    have : z.cps.size ≤ i := by simpa [enumM, signs] using l
    exact this
/-- of a list or a text -/
def enR (o : Option MO) (n : Nat) (h : MH) : Res (List MV × Gs) := match o with | some (.lst xs) => .ok (enumM xs, [(n, xs)]) h | _ => .bad
@[simp] def iEnumA (m : ME) : MI := fun ρ h => (m ρ h).bind fun x h1 => match x with
  | .ref n => enR h1[n]? n h1
  | .str z => .ok (enumM (signs z), []) h1
  | _ => .bad
theorem si_enumA (hg : Gl X "enumerate") (hm : X.mg "enumerate" = none) (he : SE X cl W e m) (hs : starEach [e] X.env = [(false, eval e X.env)] := by rfl) : SI X cl W (.Tuple elts kk tpos) (.Call (.Name "enumerate" p) [e] [] pos) (iEnumA m) :=
  piW (pi_en hg hm he hs) fun σ H R ⟨ρ, h, mp, rl, rs, g⟩ => tM_bind rl rs g (fun _ _ z => z) fun x h1 V H1 mp1 f1 rl1 rs1 rv1 g1 => by
    cases rv1 with
    | @ref n a e1 =>
      dsimp only at g1
      unfold enR at g1
      split at g1
      · rename_i xs cc
        obtain ⟨vs, h2, q2⟩ := rl1.obj n _ a cc e1
        exact .inl ⟨a, vs, rfl, SqL.of h2, g1 _ H1 mp1 f1 rl1 (jok_enum (cell_list e1))⟩
      · exact False.elim g1
    | str z => exact .inr ⟨z, rfl, g1 _ H1 mp1 f1 rl1 jok_enS⟩
    | _ => exact False.elim g1
/-! ### texts' methods -/
def mSplit (x : MV) (xs : List MV) (h : MH) : Res MV := match x, xs with
  | .str a, [.str b] => if (b.length == 0) = false ∧ a.length ≤ 999998 then .ok (.ref h.length) (h ++ [.lst ((Txt.split a b).map MV.str)]) else .bad
  | _, _ => .bad
theorem mSplit_noEx : NoExM mSplit := by
  intro x xs h e h' z
  unfold mSplit at z
  repeat' split at z
  all_goals cases z
theorem rvs_strs {K : PySem.W.Frag} {mp : Mp} {H : Hp} : ∀ ys : List Str, RVs K mp H (ys.map MV.str) (ys.map L2.V.str)
  | [] => .nil
  | y :: ys => .cons (.str y) (rvs_strs ys)
theorem line2 {n : Nat} (h : n ≤ 999998) : n + 2 ≤ sizeLine := Nat.le_trans (by omega : n + 2 ≤ 1000000) (by decide)
theorem splitM : MtR X "str.split" (rMM X.K cl mSplit) := by
  intro pins s σ H V Vs v us Q I rx rxs ⟨x, xs, h, mp, rl, r1, r2, g⟩
  unfold mSplit at g
  split at g
  · rename_i a b
    obtain ⟨Y, rfl, ry⟩ := rvs1 r2
    cases r1
    cases ry
    split at g
    · rename_i hz
      refine mt_split pins s σ H _ _ v us Q I rx rxs ⟨a, b, rfl, rfl, hz.1, line2 hz.2, fun p hp => ?_⟩
      obtain ⟨f1, rl1⟩ := newCell (xs := (Txt.split a b).map MV.str) rl hp (rvs_strs _)
      exact g _ _ _ f1 rl1 (.ref Mp.put_same)
    · exact False.elim g
  · exact False.elim g
def mLower (x : MV) (xs : List MV) (h : MH) : Res MV := match x, xs with
  | .str a, [] => if a.length ≤ 1000000 then .ok (.str (Txt.lower a)) h else .bad
  | _, _ => .bad
theorem mLower_noEx : NoExM mLower := by
  intro x xs h e h' z
  unfold mLower at z
  repeat' split at z
  all_goals cases z
theorem lowerM : MtR X "str.lower" (rMM X.K cl mLower) := by
  intro pins s σ H V Vs v us Q I rx rxs ⟨x, xs, h, mp, rl, r1, r2, g⟩
  unfold mLower at g
  split at g
  · cases r2
    cases r1
    split at g
    · rename_i hz
      exact mt_lower pins s σ H _ _ v us Q I rx rxs ⟨_, rfl, rfl, by omega, g _ H mp .refl rl (.str _)⟩
    · exact False.elim g
  · exact False.elim g
def mPartition (x : MV) (xs : List MV) (h : MH) : Res MV := match x, xs with
  | .str a, [.str b] => if (b.length == 0) = false ∧ a.length ≤ 1000000 then .ok (.tup [.str (Txt.partition a b).1, .str (Txt.partition a b).2.1, .str (Txt.partition a b).2.2]) h else .bad
  | _, _ => .bad
theorem mPartition_noEx : NoExM mPartition := by
  intro x xs h e h' z
  unfold mPartition at z
  repeat' split at z
  all_goals cases z
theorem partitionM : MtR X "str.partition" (rMM X.K cl mPartition) := by
  intro pins s σ H V Vs v us Q I rx rxs ⟨x, xs, h, mp, rl, r1, r2, g⟩
  unfold mPartition at g
  split at g
  · rename_i a b
    obtain ⟨Y, rfl, ry⟩ := rvs1 r2
    cases r1
    cases ry
    split at g
    · rename_i hz
      refine mt_partition pins s σ H _ _ v us Q I rx rxs ⟨a, b, rfl, rfl, hz.1, Nat.le_trans hz.2 (by decide), fun p hp => ?_⟩
      exact g _ _ mp (Fut.new hp) (rl.new hp) (.tup (SqT.of upd_same) (.cons (.str _) (.cons (.str _) (.cons (.str _) .nil))))
    · exact False.elim g
  · exact False.elim g
end
end Sm

set_option Elab.async false
set_option linter.all false
set_option maxRecDepth 100000
set_option maxHeartbeats 4000000
/-! more stores: a list's or dict's item, o.f in a row of targets; int of a text -/
namespace Sm
open PySem L2
/-- .. = v , by mirrors -/
abbrev MG := MV → MSt
def gVar (i : Nat) : MG := fun x ρ h => .nx (ρ.set i (some x)) h
def setR (o : Option MH) (ρ : MS) : SRes := match o with | some h => .nx ρ h | none => .bad
def gFld (cs : List Str) (f : Str) (mo : ME) : MG := fun y ρ h => (mo ρ h).st ρ fun x h1 => setR (mSetF cs f x y h1) ρ
def setIO (o : Option MO) (n : Nat) (i y : MV) (h : MH) : Option MH := match o with
  | some (.lst xs) => (match i with | .int k => (ixN xs.length k).map fun j => h.set n (.lst (xs.set j y)) | _ => none)
  | some (.dct kvs) => (match keyOf i with | some k => if kvs.length < 1000000 then some (h.set n (.dct (putDM kvs k y))) else none | none => none)
  | _ => none
def mSetJ (x i y : MV) (h : MH) : Option MH := match x with | .ref n => setIO h[n]? n i y h | _ => none
def gIt (mo mi : ME) : MG := fun y ρ h => (mo ρ h).st ρ fun x h1 => (mi ρ h1).st ρ fun i h2 => setR (mSetJ x i y h2) ρ
def gAll : List MG → List MV → MSt
  | [], [] => fun ρ h => .nx ρ h
  | g :: gs, x :: xs => fun ρ h => match g x ρ h with | .nx ρ1 h1 => gAll gs xs ρ1 h1 | .ex e ρ1 h1 => .ex e ρ1 h1 | _ => .bad
  | _, _ => fun _ _ => .bad
def gMany (gs : List MG) : MG := fun x ρ h => match x with | .tup xs => if xs.length = gs.length then gAll gs xs ρ h else .bad | _ => .bad
def onlyN (r : SRes) : SRes := match r with | .nx ρ h => .nx ρ h | .ex e ρ h => .ex e ρ h | _ => .bad
def sAsg (g : MG) (m : ME) : MSt := fun ρ h => (m ρ h).st ρ fun x h1 => onlyN (g x ρ h1)
section
variable (K : PySem.W.Frag) (cl : Str → Option Addr) (W : Wsh)
def eG (Q : L2.St → Hp → Prop) : Ends := { nx := Q, rt := fun _ _ => False }
def tMG (g : MG) : TG := fun V σ H Q => ∃ x ρ h mp, Rl K cl mp h H ∧ RS K mp H ρ σ ∧ RV K mp H x V ∧ SGood (g x ρ h) (wD K cl mp H W (eG Q))
def tMGs (gs : List MG) : TGs := fun Vs σ H Q => ∃ xs ρ h mp, Rl K cl mp h H ∧ RS K mp H ρ σ ∧ RVs K mp H xs Vs ∧ SGood (gAll gs xs ρ h) (wD K cl mp H W (eG Q))
end
abbrev SG (X : Cx) (cl : Str → Option Addr) (W : Wsh) (e : Expr) (g : MG) : Prop := PG X e (tMG X.K cl W g)
abbrev SGs (X : Cx) (cl : Str → Option Addr) (W : Wsh) (es : List Expr) (gs : List MG) : Prop := PGs X es (tMGs X.K cl W gs)
theorem pgW {X : Cx} {e : Expr} {t t' : TG} (h : PG X e t) (w : ∀ V σ H Q, t' V σ H Q → t V σ H Q) : PG X e t' := ⟨fun pins s σ H v u Q I r q => h.run pins s σ H v u Q I r (w v σ H Q q)⟩
theorem pgsW {X : Cx} {e : List Expr} {t t' : TGs} (h : PGs X e t) (w : ∀ V σ H Q, t' V σ H Q → t V σ H Q) : PGs X e t' := ⟨fun pins s σ H v u Q I r q => h.run pins s σ H v u Q I r (w v σ H Q q)⟩
section
variable {X : Cx} {cl : Str → Option Addr} {W : Wsh} {a b c e o i tg : Expr} {es : List Expr} {ma mb m mo mi : ME} {pos pos' p p2 : Pos} {k : Nat} {f : Str} {g : MG} {gs : List MG}
theorem sg_var {i : Nat} {e : Expr} (h : PG X e (gName i)) : SG X cl W e (gVar i) := pgW h fun V σ H Q ⟨x, ρ, h, mp, rl, rs, rv, g⟩ => g _ H mp .refl rl (rs.set rv)
/-- o.f = .., as a target -/
def gFldH (K : PySem.W.Frag) (to : TE) (f : Str) : TG := fun V σ H Q => to σ H fun x H1 => ∃ a C dx fs, x = .ref a ∧ H1 a = some (.ins C dx fs) ∧ Cls K C ∧ NoAttr K C f ∧ fs.length < 1000 ∧ Q σ (upd H1 a (.ins C dx (putF f V fs)))
theorem pg_fldH {to : TE} (ho : PE X o to) : PG X (.Attribute o f pos) (gFldH X.K to f) where
  run := by
    intro pins s σ H v u Q I r h
    refine PySem.W.kas_attr (thn (ho.run pins s σ H _ I h) ?_)
    rintro ov s1 ⟨x, H1, J, rx, a, C, dx, fs, rfl, ea, c, n, l, q⟩
    obtain rfl : ov = Value.ref a := rx
    exact setattr_ok J ea c n l r fun s2 J2 => ⟨σ, _, J2, q⟩
theorem sg_fld {cs : List Str} (hC : FldOk X.K cl cs f) (ho : SE X cl W o mo) : SG X cl W (.Attribute o f pos) (gFld cs f mo) := pgW (pg_fldH ho) fun V σ H Q ⟨y, ρ, h, mp, rl, rs, rv, g⟩ =>
  tM_st rl rs g (fun _ _ q => q.ew rs) fun x h1 Y H1 mp1 f1 rl1 rs1 rv1 g1 => by
    unfold setR at g1
    split at g1
    · rename_i h3 e3
      unfold mSetF at e3
      cases rv1 with
      | @ref n a e1 =>
        dsimp only at e3
        split at e3
        · rename_i c fs cc
          split at e3
          · rename_i hc
            obtain rfl := Option.some.inj e3
            obtain ⟨C, dx, vs, h0, h1', q1⟩ := rl1.obj n _ a cc e1
            obtain ⟨k1, k2⟩ := hC c hc.1 C h0
            refine ⟨a, C, dx, vs, rfl, h1', k1, k2, ?_, ?_⟩
            · have : fs.length = vs.length := by simpa using congrArg List.length q1.1
              rw [← this]; exact hc.2
            · have f3 := Fut.set (o := .ins C dx (putF f V vs)) rl1 e1
              exact g1 σ _ mp1 (f1.trans f3) (rl1.set e1 ⟨C, dx, _, h0, upd_same, (put_ok (rv.fut f1) q1).fut f3⟩) (rs1.fut f3)
          · cases e3
        · cases e3
      | _ => cases e3
    · exact False.elim g1
/-- a list's item or a dict's -/
def rSetB : TSet := fun o i v H Q => rSetL o i v H Q ∨ rSetD o i v H Q
theorem set_both (hu : X.A.units + 1 < cLine) : PSet X rSetB := by
  intro pins s σ H o i v ov iv u Q I ro ri rv h
  rcases h with h | h
  · exact set_list pins s σ H o i v ov iv u Q I ro ri rv h
  · exact set_dict hu pins s σ H o i v ov iv u Q I ro ri rv h
theorem setJ_ok {K : PySem.W.Frag} {mp mp0 : Mp} {h h4 : MH} {H H0 : Hp} {x i y : MV} {V Z Y : L2.V} {ρ : MS} {σ : L2.St} {Q : L2.St → Hp → Prop} (rl : Rl K cl mp h H) (rs : RS K mp H ρ σ) (f0 : Fut K mp0 mp H0 H) (r1 : RV K mp H x V) (r2 : RV K mp H i Z) (r3 : RV K mp H y Y) (e4 : mSetJ x i y h = some h4) (q : QN K cl mp0 H0 Q ρ h4) :
    rSetB V Z Y H fun H3 => Q σ H3 := by
  unfold mSetJ at e4
  cases r1 with
  | @ref n a e1 =>
    dsimp only at e4
    unfold setIO at e4
    split at e4
    · rename_i xs cc
      cases r2 with
      | int k =>
        simp only [Option.map_eq_some_iff] at e4
        obtain ⟨j, e5, rfl⟩ := e4
        obtain ⟨vs, h1', q1⟩ := rl.obj n _ a cc e1
        have f4 := Fut.set (o := .lst (vs.set j Y)) rl e1
        exact .inl ⟨a, vs, k, j, rfl, rfl, h1', by rw [← q1.length]; exact e5, q σ _ mp (f0.trans f4) (rl.set e1 ⟨_, upd_same, (q1.set r3 j).fut f4⟩) (rs.fut f4)⟩
      | _ => cases e4
    · rename_i kvs cc
      split at e4
      · rename_i k ek
        split at e4
        · rename_i lk
          obtain rfl := Option.some.inj e4
          obtain ⟨vs, h1', q1⟩ := rl.obj n _ a cc e1
          have f4 := Fut.set (o := .dK (putK vs k Y)) rl e1
          have lv : vs.length < sizeLine := by
            have : kvs.length = vs.length := by simpa using congrArg List.length q1.1
            rw [← this]; exact szlt lk
          obtain rfl := keyOf_ok r2 ek
          exact .inr ⟨a, _, rfl, DPut.k h1' lv, q σ _ mp (f0.trans f4) (rl.set e1 ⟨_, upd_same, (putK_ok r3 q1).fut f4⟩) (rs.fut f4)⟩
        · cases e4
      · cases e4
    · cases e4
  | _ => cases e4
theorem sg_it (hu : X.A.units + 1 < cLine) (ho : SE X cl W o mo) (hi : SE X cl W i mi) (ha : ∀ v, assign (.Subscript o i pos') X.env v = (do
      let ov ← holding [v] (eval o X.env)
      let iv ← holding [v, ov] (eval i X.env)
      standAt pos'
      holding [v, ov, iv] (setItem ov iv v)
      release [v, ov, iv] []) := by intro _; rfl) : SG X cl W (.Subscript o i pos') (gIt mo mi) := pgW (pg_sub ho hi (set_both hu) ha) fun V σ H Q ⟨y, ρ, h, mp, rl, rs, rv, g⟩ =>
  tM_st rl rs g (fun _ _ q => q.ew rs) fun x h1 Y H1 mp1 f1 rl1 rs1 rv1 g1 => tM_st rl1 rs1 g1 (fun _ _ q => (q.fut f1).ew rs1) fun i h2 Z H2 mp2 f2 rl2 rs2 rv2 g2 => by
    unfold setR at g2
    split at g2
    · rename_i h4 e4
      exact setJ_ok rl2 rs2 (f1.trans f2) (rv1.fut f2) rv2 (rv.fut (f1.trans f2)) e4 g2
    · exact False.elim g2
theorem sgs_nil : SGs X cl W [] [] := pgsW pgs_nil fun Vs σ H Q ⟨xs, ρ, h, mp, rl, rs, rv, g⟩ => by
  cases rv with
  | nil => exact ⟨rfl, g σ H mp .refl rl rs⟩
  | cons _ _ => exact False.elim g
theorem sgs_cons (h1 : SG X cl W e g) (h2 : SGs X cl W es gs) (hs : (assignEach (e :: es) X.env).map (·.2) = assign e X.env :: (assignEach es X.env).map (·.2) := by rfl) : SGs X cl W (e :: es) (g :: gs) := pgsW (pgs_cons h1 h2 hs) fun Vs σ H Q ⟨xs, ρ, h, mp, rl, rs, rv, gg⟩ => by
  cases rv with
  | nil => exact False.elim gg
  | @cons x V xs Vs r t =>
    refine ⟨V, Vs, rfl, x, ρ, h, mp, rl, rs, r, ?_⟩
    unfold gAll at gg
    cases e : g x ρ h with
    | nx ρ1 h1 =>
      rw [e] at gg
      exact fun σ' H' mp' f' rl' rs' => ⟨xs, ρ1, h1, mp', rl', rs', t.fut f', SGood.mono gg (wD.fut f')⟩
    | rt v h1 => rw [e] at gg; exact False.elim gg
    | bk ρ1 h1 => rw [e] at gg; exact False.elim gg
    | ct ρ1 h1 => rw [e] at gg; exact False.elim gg
    | ex v ρ1 h1 => rw [e] at gg; exact gg
    | bad => rw [e] at gg; exact False.elim gg
theorem sg_tup {es : List Expr} {k : Nat} {n : Nat} (hc : X.calm = true) (h : SGs X cl W es gs) (hl : gs.length = n := by rfl)
    (hn : (assignEach es X.env).length = n := by rfl) (hst : (assignEach es X.env).findIdx? (·.1) = none := by rfl) : SG X cl W (.Tuple es k pos) (gMany gs) := pgW (pg_tup hc h hn hst) fun V σ H Q ⟨x, ρ, h, mp, rl, rs, rv, g⟩ => by
  cases rv with
  | @tup xs vs a h1 r =>
    unfold gMany at g
    dsimp only at g
    split at g
    · rename_i e
      exact ⟨a, vs, rfl, h1, by rw [← r.length, e]; exact hl, xs, ρ, h, mp, rl, rs, r, g⟩
    · exact False.elim g
  | _ => exact False.elim g
theorem ss_asg (he : SE X cl W e m) (hg : SG X cl W tg g) (hs : swapsWithSole [tg] e pos.line X.env = pure false := by rfl) (hw : swappedStores [tg] e X.env = pure none := by rfl)
    (h1 : (assignEach [tg] X.env).map (·.2) = [assign tg X.env] := by rfl) : SS X cl W (.Assign [tg] e pos) (sAsg g m) := psW (ps_asg he hg hs hw h1) fun D σ H ⟨ρ, h, mp, rl, rs, gg⟩ =>
  tM_st rl rs gg (fun _ _ q => q.ew rs) fun x h1 V H1 mp1 f1 rl1 rs1 rv1 g1 => by
    refine ⟨x, ρ, h1, mp1, rl1, rs1, rv1, ?_⟩
    unfold onlyN at g1
    cases e : g x ρ h1 with
    | nx ρ1 h2 => rw [e] at g1; exact QN.fut f1 g1
    | rt v h2 => rw [e] at g1; exact False.elim g1
    | bk ρ1 h2 => rw [e] at g1; exact False.elim g1
    | ct ρ1 h2 => rw [e] at g1; exact False.elim g1
    | ex v ρ1 h2 => rw [e] at g1; exact QX.fut f1 g1
    | bad => rw [e] at g1; exact False.elim g1
/-! ### int of a text too -/
def mInt2 (xs : List MV) (h : MH) : Res MV := match xs with
  | [.int i] => .ok (.int i) h | [.bl b] => .ok (.int (if b then 1 else 0)) h
  | [.str a] => (match PySem.intText? a with | some n => if a.length ≤ 640 then .ok (.int n) h else .bad | none => .bad)
  | _ => .bad
theorem mInt2_noEx : NoEx1 mInt2 := by
  intro xs h e h' z
  unfold mInt2 at z
  repeat' split at z
  all_goals cases z
theorem int2M : CallR X (.type "int") (rMC X.K cl mInt2) := by
  intro pins s σ H Vs us Q I r ⟨xs, h, mp, rl, rv, g⟩
  unfold mInt2 at g
  split at g
  · obtain ⟨V, rfl, rx⟩ := rvs1 rv
    cases rx
    exact call_int1 pins s σ H _ us Q I r (.inl ⟨_, rfl, g _ H mp .refl rl (.int _)⟩)
  · obtain ⟨V, rfl, rx⟩ := rvs1 rv
    cases rx
    exact call_int1 pins s σ H _ us Q I r (.inr ⟨_, rfl, g _ H mp .refl rl (.int _)⟩)
  · obtain ⟨V, rfl, rx⟩ := rvs1 rv
    cases rx
    split at g
    · rename_i n en
      split at g
      · rename_i hz
        exact call_int_str pins s σ H _ us Q I r ⟨_, n, rfl, en, hz, g _ H mp .refl rl (.int _)⟩
      · exact False.elim g
    · exact False.elim g
  · exact False.elim g
end
end Sm

set_option Elab.async false
set_option linter.all false
set_option maxRecDepth 100000
set_option maxHeartbeats 4000000
/-! tuples that stay as made (tuple(xs), t.index(x)), and comprehensions of two clauses over tuples -/
namespace Sm
open PySem L2 PyProof.Rows PySem.Spec
section
variable {X : Cx} {cl : Str → Option Addr} {W : Wsh} {e o : Expr} {es : List Expr} {m mo : ME} {ms : MA} {apos cpos pos : Pos}
/-! ### seen as a plain tuple -/
def wkM (x : MV) : MV := match x with | .tux xs => .tup xs | y => y
theorem wkM_ok {K : PySem.W.Frag} {mp : Mp} {H : Hp} {x : MV} {V : L2.V} (r : RV K mp H x V) : RV K mp H (wkM x) V := by
  cases r with
  | tux h q => exact .tup h.tp q
  | non => exact .non
  | bl b => exact .bl b
  | int i => exact .int i
  | str z => exact .str z
  | ref h => exact .ref h
  | tup h q => exact .tup h q
  | scr h q => exact .scr h q
  | fdc h l q => exact .fdc h l q
def eWk (m : ME) : ME := fun ρ h => (m ρ h).bind fun x h1 => .ok (wkM x) h1
theorem se_wk (he : SE X cl W e m) : SE X cl W e (eWk m) :=
  peW he fun σ H Q ⟨ρ, h, mp, rl, rs, g⟩ => ⟨ρ, h, mp, rl, rs, (Good.bind.mp g).mono (fun x h1 q V H1 mp1 f1 rl1 rv1 => q V H1 mp1 f1 rl1 (wkM_ok rv1)) fun _ _ z => z⟩
/-! ### tuple(xs) of a list -/
theorem call_tuple_frz : CallR X (.type "tuple") (fun xs H Q => ∃ p ys, xs = [.ref p] ∧ SqL X.K H p ys ∧ ∀ l (ob : Obj), H l = none → ob.cls = .type "tuple" → ob.dict = none → Q (.ref l) (upd H l (.frz ob (.tup ys)))) := by
  intro pins s σ H xs us Q I r h
  obtain ⟨p, ys, rfl, hq, q⟩ := h
  obtain ⟨u, rfl, rx⟩ := vals1 r
  cases rx
  obtain ⟨its, r', pl, hz⟩ := I.list hq
  have hlen := r'.length
  refine call_tuple_list pl.isList (fun h' kp => ?_) (by simp only [List.size_toArray] <;> omega)
  have I1 : Inv X pins σ H { s with heap := h' } := I.kept (t' := s.toks) kp
  have I2 : Inv X pins σ (upd H h'.objs.size (.frz { cls := .type "tuple", data := .seq its.toArray } (.tup ys))) { s with heap := h'.push { cls := .type "tuple", data := .seq its.toArray } } :=
    I1.laid (t' := s.toks) (fun b o e => Heap.get?_push_of_some _ e) (Nat.le_refl _) (show ObjOk X.prog X.w _ _ _ (.frz _ (.tup ys)) from ⟨Heap.get?_push_size _ rfl, hz, its, r', IsTup.new _ _⟩)
  exact ⟨.ref h'.objs.size, _, I2, rfl, q _ _ (I1.hok.fresh (Nat.le_refl _)) rfl rfl⟩
def mTupX (xs : List MV) (h : MH) : Res MV := match xs with
  | [x] => (match lstAt x h with | some ys => .ok (.tux ys) h | none => .bad)
  | _ => .bad
theorem mTupX_noEx : NoEx1 mTupX := by
  intro xs h e h' z; unfold mTupX at z; (repeat' split at z); all_goals cases z
theorem tupXM : CallR X (.type "tuple") (rMC X.K cl mTupX) := by
  intro pins s σ H Vs us Q I r ⟨xs, h, mp, rl, rv, g⟩
  unfold mTupX at g
  split at g
  · rename_i x
    obtain ⟨V, rfl, rx⟩ := rvs1 rv
    split at g
    · rename_i ys ey
      obtain ⟨n, p, vs, rfl, e1, c, rfl, hp, q1⟩ := lstAt_ok rl rx ey
      exact call_tuple_frz pins s σ H _ us Q I r ⟨p, vs, rfl, SqL.of hp, fun l ob hl c1 c2 => g _ _ mp (Fut.new hl) (rl.new hl) (.tux ⟨ob, upd_same, c1, c2⟩ (q1.fut (Fut.new hl)))⟩
    · exact False.elim g
  · exact False.elim g
/-! ### t.index(x) -/
def mIndexT (x : MV) (xs : List MV) (h : MH) : Res MV := match x, xs with
  | .tux ys, [y] => if flatM y && ys.all flatM then (match ys.findIdx? (fun z => eqM z y) with | some j => .ok (.int (j : Nat)) h | none => .bad) else .bad
  | _, _ => .bad
theorem mIndexT_noEx : NoExM mIndexT := by
  intro x xs h e h' z
  unfold mIndexT at z
  repeat' split at z
  all_goals cases z
def rIndexT : L2.V → List L2.V → Hp → VK → Prop := fun x xs H Q => ∃ (a : Addr) (ys : List L2.V) (y : L2.V) (j : Nat) (z : L2.V), x = V.ref a ∧ xs = [y] ∧ TxA H a ys ∧ flatV y = true ∧ ys.all flatV = true ∧ ys[j]? = some z ∧ eqV z y = true ∧
  (∀ (m : Nat) (z' : L2.V), m < j → ys[m]? = some z' → eqV z' y = false) ∧ Q (.int (j : Nat)) H
theorem mt_indexT : MtR X "tuple.index" rIndexT := by
  intro pins s σ H x xs v us Q I rx rxs h
  obtain ⟨a, ys, y, j, z, rfl, rfl, ⟨ob, hs, hcl, hdi⟩, fy, fys, hz, hzj, hno, q⟩ := h
  cases rx
  cases rxs with
  | cons ry rt =>
    rename_i uy ut
    cases rt
    obtain ⟨ho, hlen, its, rv, ob', ho', hc', n, hd⟩ := I.hok a _ hs
    have eo : ob = ob' := Option.some.inj (ho.symm.trans ho')
    subst eo
    obtain ⟨cls, dd, data, sl⟩ := ob
    simp only at hcl hdi hd
    subst hcl hdi hd
    obtain ⟨u, hu, ru⟩ := rv.get hz
    obtain ⟨hjl, hje⟩ := List.getElem?_eq_some_iff.mp hu
    have hvl := rv.length
    have hj : j < its.toArray.size := by simpa using hjl
    refine call_meets PySem.F.slot_tuple_index ⟨_, ho, rfl⟩ PySem.F.entry_tuple_index (PySem.F.args_tuple_index_2 _ _)
      (SeqAt.tuple_index2_found a its.toArray n none sl uy (fun m => eqU y (its.toArray[m]?.getD uy)) j hj (Nat.zero_le _) hj ?_ ?_) ⟨ho, fun m hm => ?_, ?_⟩
    · have e1 : its.toArray[j]? = some u := by simpa using hu
      show eqU y (its.toArray[j]?.getD uy) = true
      rw [e1]
      show eqU y u = true
      rw [eqU_of ru (flat_at fys hz)]
      exact hzj
    · intro m _ _ hmj
      have hml : m < its.length := by omega
      have hmy : m < ys.length := by omega
      have hy' : ys[m]? = some ys[m] := List.getElem?_eq_getElem hmy
      obtain ⟨u2, hu2, ru2⟩ := rv.get hy'
      have e1 : its.toArray[m]? = some u2 := by simpa using hu2
      show eqU y (its.toArray[m]?.getD uy) = false
      rw [e1]
      show eqU y u2 = false
      rw [eqU_of ru2 (flat_at fys hy')]
      exact hno m _ hmj hy'
    · have e1 : its.toArray[m]? = some its.toArray[m] := by simp [hm]
      rw [e1]
      exact mem_eqAt ry fy rv fys its.toArray[m] (by simp)
    · exact ⟨.int (j : Nat), H, I.tok _, ⟨_, rfl⟩, q⟩
theorem indexTM : MtR X "tuple.index" (fun V Vs H Q => ∃ x xs h mp, Rl X.K cl mp h H ∧ RV X.K mp H x V ∧ RVs X.K mp H xs Vs ∧ Good (mIndexT x xs h) (QV X.K cl mp H Q) never) := by
  intro pins s σ H V Vs v us Q I rx rxs ⟨x, xs, h, mp, rl, r1, r2, g⟩
  unfold mIndexT at g
  split at g
  · rename_i ys y
    obtain ⟨Y, rfl, ry⟩ := rvs1 r2
    cases r1 with
    | @tux _ vs p hp q1 =>
      split at g
      · rename_i hf
        rw [Bool.and_eq_true] at hf
        split at g
        · rename_i j ej
          rw [List.findIdx?_eq_some_iff_getElem] at ej
          obtain ⟨hj, h1, h2⟩ := ej
          obtain ⟨z, e3, r3⟩ := q1.get (i := j) (x := ys[j]) (by simp [hj])
          refine mt_indexT pins s σ H _ _ v us Q I rx rxs ⟨p, vs, Y, j, z, rfl, rfl, hp, by rw [flat_ok ry]; exact hf.1, by rw [flats_ok q1]; exact hf.2, e3, by rw [eqM_ok r3 ry]; exact h1, fun k z' hk ez => ?_, g _ H mp .refl rl (.int _)⟩
          obtain ⟨w, e4, r4⟩ := q1.getV ez
          rw [eqM_ok r4 ry]
          obtain ⟨hk', e5⟩ := List.getElem?_eq_some_iff.mp e4
          have := h2 k hk
          rw [e5] at this
          simpa using this
        · exact False.elim g
      · exact False.elim g
  · exact False.elim g
/-- the receiver is a tuple that is known -/
def tBMT (r : L2.V → List L2.V → Hp → VK → Prop) (to : TE) (t : TA) : TE := fun σ H Q => to σ H fun x H1 => (∃ a ys, x = .ref a ∧ TxA H1 a ys) ∧ t σ H1 fun xs H2 => r x xs H2 Q
theorem pe_bmT {to : TE} {t : TA} {name : Str} {id : String} {r : L2.V → List L2.V → Hp → VK → Prop} (slot : Slot "tuple" name id) (hty : typeOf (.builtin id) = pure (.type "method_descriptor")) (hm : MtR X id r) (ho : PE X o to) (ha : PA X (e :: es) t)
    (hbase : attributeBase o name X.env (eval o X.env) = eval o X.env := by rfl)
    (hfew : ((backTo cpos (starEach (e :: es) X.env)).all (fun x => !x.1) && (backToKw cpos (keywordEach [] X.env)).all (fun x => x.1.isSome)
      && decide ((e :: es).length + ([] : List Keyword).length + (if ([] : List Keyword).isEmpty then 0 else 1) < 30)) = true := by rfl)
    (hline : (apos.endLine == cpos.line) = true := by rfl) (hs : starEach (e :: es) X.env = (false, eval e X.env) :: starEach es X.env := by rfl) (hplain : (backTo cpos (starEach es X.env)).any (·.1) = false := by rfl) :
    PE X (.Call (.Attribute o name apos) (e :: es) [] cpos) (tBMT r to t) := by
  refine ⟨fun pins s σ H Q I h => ?_⟩
  refine wpAny_Call_method_late hbase hfew hline rfl (thn (ho.run pins s σ H _ I h) fun v s1 ⟨x, H1, I1, r1, ty, q1⟩ => ?_)
  obtain ⟨a, ys, rfl, ob, hob, hcl, hdi⟩ := ty
  cases r1
  obtain ⟨hg, _⟩ := I1.hok a _ hob
  refine ⟨"tuple", id, PySem.F.plainAttrs_tuple, slot, hty, ⟨ob, hg, hcl⟩, fun b e => by cases e; exact ⟨ob, hg, hdi⟩, ?_⟩
  have hA := ha.run cpos pins s1 σ H1 _ I1 q1
  rw [hs] at hA ⊢
  refine Calls.callWith_builtin (by show (false || (backTo cpos (starEach es X.env)).any (·.1)) = false; rw [hplain] <;> rfl) (Calls.evalArgs_plain ?_)
  exact thn hA fun us s2 ⟨vs, H2, I2, r2, q2⟩ => hm pins s2 σ H2 (.ref a) vs _ us Q I2 (show L2.RelV (.ref a) (.ref a) from rfl) r2 q2
def isTux (x : MV) : Bool := match x with | .tux _ => true | _ => false
@[simp] def eBMT (mt : MV → List MV → MH → Res MV) (mo : ME) (ms : MA) : ME := fun ρ h => (mo ρ h).bind fun x h1 => if isTux x = true then (ms ρ h1).bind fun xs h2 => mt x xs h2 else .bad
theorem se_indexT (ho : SE X cl W o mo) (ha : SA X cl W (e :: es) ms)
    (hbase : attributeBase o "index" X.env (eval o X.env) = eval o X.env := by rfl)
    (hfew : ((backTo cpos (starEach (e :: es) X.env)).all (fun x => !x.1) && (backToKw cpos (keywordEach [] X.env)).all (fun x => x.1.isSome)
      && decide ((e :: es).length + ([] : List Keyword).length + (if ([] : List Keyword).isEmpty then 0 else 1) < 30)) = true := by rfl)
    (hline : (apos.endLine == cpos.line) = true := by rfl) (hs : starEach (e :: es) X.env = (false, eval e X.env) :: starEach es X.env := by rfl) (hplain : (backTo cpos (starEach es X.env)).any (·.1) = false := by rfl) :
    SE X cl W (.Call (.Attribute o "index" apos) (e :: es) [] cpos) (eBMT mIndexT mo ms) :=
  peW (pe_bmT PySem.F.slot_tuple_index PySem.F.type_tuple_index indexTM ho ha hbase hfew hline hs hplain) fun σ H Q ⟨ρ, h, mp, rl, rs, g⟩ =>
    tM_bind rl rs g (fun _ _ z => z) fun x h1 V H1 mp1 f1 rl1 rs1 rv1 g1 => by
      split at g1
      · rename_i ht
        cases rv1 with
        | @tux _ vs a hx q =>
          exact ⟨⟨a, vs, rfl, hx⟩, tMA_bind rl1 rs1 g1 (fun _ _ z => z.fut f1) fun xs h2 Vs H2 mp2 f2 rl2 rs2 rv2 g2 =>
            ⟨_, xs, h2, mp2, rl2, .tux (f2.tx _ _ hx) (q.fut f2), rv2, toNever (g2.mono (fun v h' q => q.fut (f1.trans f2)) fun _ _ z => z) (mIndexT_noEx _ _ _)⟩⟩
        | _ => exact absurd ht (by simp [isTux])
      · exact False.elim g1
end
end Sm

set_option Elab.async false
set_option linter.all false
set_option maxRecDepth 100000
set_option maxHeartbeats 4000000
/-! sorted(xs, key=lambda p: p[0]), xs a list of tuples that begin with an int -/
namespace Sm
open PySem L2 PyProof.Rows PySem.Spec
section
variable {P : Program} {w : World} {A : Around}
theorem lam0 {s : Shared} {f c' t : Addr} {q p : Str} {params : Arguments} {scope : Scope} {pm ctv : Value} {n : Int} {tk : Tok} {its : List Value} {p1 p2 p3 : Pos} {j : Nat}
    (hd : A.depth < recursionLimit) (hf : s.heap.get? f = some (PySem.W.kla_obj "<lambda>" q params (.Subscript (.Name p p1) (.Constant (.int 0) j p2) p3) scope [] pm c' ctv))
    (hc : s.heap.CodeRec (.ref c') q) (hl : s.heap.NoLimit)
    (hb : ∀ v, bindArgs (PySem.W.kla_fn "<lambda>" q params (.Subscript (.Name p p1) (.Constant (.int 0) j p2) p3) scope [] pm (.ref c') ctv) ⟨[v], []⟩ = pure [(p, v)])
    (hs : scope.names.lookup p = some .local) (hco : scope.isCoroutine = false) (hg : scope.isGenerator = false) (hk : scope.kind = .function) (hcell : ∀ x ∈ scope.names, x.2 ≠ .cell)
    (ht : IsTup s.heap t its.toArray) (h0 : its[0]? = some (.int n tk)) (hnm : (p == ("__debug__" : Str)) = false) :
    wpAny (model P w) A (call (.ref f) [.ref t]) (PySem.W.KeyPure (.int n) s) (fun _ _ => False) s := by
  refine wpAny_call (PySem.W.kla_callFunE hd hf rfl hco hg rfl hc ?_)
  rw [hb]
  refine wpAny_pure (wpAny_newFunctionEnv hcell (fun x hx => by
    have e : x = (p, .ref t) := by simpa using hx
    rw [e]; exact hs) (fun h₁ hns hsb => ⟨hl.fresh _ hsb, ?_⟩) hk)
  have kp : ∀ b o, s.heap.get? b = some o → h₁.get? b = some o := fun b o e => hsb.extBut b o (Nat.ne_of_lt (Heap.lt_size e)) (Heap.get?_push_of_some _ e)
  refine PySem.W.kla_codeExpr ?_
  refine wpAny_Subscript_Constant_late ?_
  refine wpAny_Name (wpAny_loadName_local hk hs hns (v := .ref t) (by simp) ?_) hnm
  refine wpAny_Constant_int ?_
  have ht' : IsTup h₁ t its.toArray := by
    obtain ⟨o, e, r⟩ := ht
    exact ⟨o, kp _ _ e, r⟩
  refine ⟨"tuple", _, slot_tuple_getitem.lookup, ht'.typeIs, ?_⟩
  refine PyProof.Rows.getItem_tuple (j := 0) ht' (by decide) (by decide) ?_ (by simpa using h0) ?_
  · have l0 : 0 < its.length := (List.getElem?_eq_some_iff.mp h0).1
    exact seqIndex_of (Int.le_refl 0) (by simpa using l0)
  · exact ⟨h₁, _, rfl, kp, .int n tk⟩
end
section
variable {X : Cx} {pins : List (Addr × Obj)} {σ : L2.St} {H : Hp} {s : Shared}
/-- a table of code objects named q, its contents -/
def TabC (H : Hp) (ps : Array Value) (q : Str) : Prop := TriplesOk ps.toList ∧ ∀ (pos : Pos) (cv : Value), codeAmong pos ps.toList = some cv → ∃ c, cv = .ref c ∧ H c = some (LamX.CodeO c q)
/-- what the making of a lambda leaves: nothing, or one code object more, and its row in the table -/
def Lamd (H : Hp) (P : Addr) (ps : Array Value) (q : Str) (H1 : Hp) : Prop := H1 = H ∨ ∃ (more : Array Value) (c0 : Addr), H c0 = none ∧ H1 = upd (upd H P (.tbl (ps ++ more))) c0 (LamX.CodeO c0 q) ∧ TabC H1 (ps ++ more) q
/-- lambda ..: .., without defaults and without names of the def around -/
theorem lam_mk {c P : Addr} {ps : Array Value} {params : Arguments} {body : Expr} {scope : Scope} {pos : Pos} {E : Value → Shared → Prop} {Q : Value → Shared → Prop} (I : Inv X pins σ H s) (TB : LamX.TabB X.base X.mg c P) (hcode : X.env.code = .ref c)
    (hP : H P = some (.tbl ps)) (hq : TabC H ps (X.env.qual ++ "<lambda>")) (hdef : defaultsOf params X.env = ([], [])) (hfree : ∀ y ∈ scope.names, y.2 ≠ .free) (hcl : cloFrom X.env.cells scope.names [] = [])
    (go : ∀ (f c' : Addr) (pm ctv : Value) (H1 : Hp) (s' : Shared), Inv X pins σ H1 s' → Lamd H P ps (X.env.qual ++ "<lambda>") H1 → s'.heap.get? f = some (PySem.W.kla_obj "<lambda>" (X.env.qual ++ "<lambda>") params body scope [] pm c' ctv) →
      s'.heap.CodeRec (.ref c') (X.env.qual ++ "<lambda>") → Q (.ref f) s') : wpAny (model X.prog X.w) X.A (eval (.Lambda params body scope pos) X.env) Q E s := by
  have hB : s.heap.BuiltinsAt X.mg P := TB.bm.keeps I.bk
  have hO : s.heap.get? P = some { cls := .none, data := .fields ps } := I.hok P _ hP
  have clo := closure_ok (env := X.env) (scope := scope) fun y hy e => absurd e (hfree y hy)
  rw [hcl] at clo
  refine PySem.W.kla_eval hdef ?_
  cases hc : codeAmong pos ps.toList with
  | some cv =>
    obtain ⟨c1, rfl, hco⟩ := hq.2 pos cv hc
    refine PySem.W.kla_makeFunctionHit (mg := X.mg) (c := c) (P := P) (ps := ps) clo I.ok.glob (I.mod.glob.keeps I.bk) hcode (TB.code.keeps I.bk) hO hq.1 hc hB fun ctv g tk up _ => ?_
    have kp : ∀ b o, s.heap.get? b = some o → (g.push (PySem.W.kla_obj "<lambda>" (X.env.qual ++ "<lambda>") params body scope [] ((X.mg "__name__").getD .none) c1 ctv)).get? b = some o := fun b o e => Heap.get?_push_of_some _ (up b o e)
    have J := I.kept (t' := tk) kp
    obtain ⟨⟨oc, us, t, e1, e2, e3⟩, _⟩ := J.hok c1 _ hco
    exact go _ c1 _ ctv H _ J (.inl rfl) (Heap.get?_push_size _ rfl) ⟨c1, oc, us, t, rfl, e1, e2, e3⟩
  | none =>
    refine PySem.W.kla_makeFunction (mg := X.mg) (c := c) (P := P) (ps := ps) clo I.ok.glob (I.mod.glob.keeps I.bk) hcode (TB.code.keeps I.bk) hO hq.1 hc TB.gP hB fun c1 ctv g tk up ge lt rec tab => ?_
    obtain ⟨c2, oc, us, t, e0, e1, e2, e3⟩ := rec
    cases e0
    have n1 : H c1 = none := I.hok.fresh ge
    have nP : P ≠ c1 := ne_of_none hP n1
    have J := LamX.inv_table (q := X.env.qual ++ "<lambda>") (t' := tk) (more := #[rawInt pos.line, rawInt pos.col, .ref c1]) (h' := g.push (PySem.W.kla_obj "<lambda>" (X.env.qual ++ "<lambda>") params body scope [] ((X.mg "__name__").getD .none) c1 ctv)) I hP
      (fun b o hb e => Heap.get?_push_of_some _ (up b o hb e)) (Heap.get?_push_of_some _ tab) ge ⟨oc, us, t, Heap.get?_push_of_some _ e1, e2, e3⟩
    have el : (ps ++ #[rawInt pos.line, rawInt pos.col, .ref c1]).toList = ps.toList ++ [rawInt pos.line, rawInt pos.col, .ref c1] := by simp
    refine go _ c1 _ ctv _ _ J (.inr ⟨_, c1, n1, rfl, ?_, fun p' cv hcv => ?_⟩) (Heap.get?_push_size _ rfl) ⟨c1, oc, us, t, rfl, Heap.get?_push_of_some _ e1, e2, e3⟩
    · rw [el]; exact PySem.TriplesOk_snoc _ _ _ _ hq.1
    · rw [el] at hcv
      rcases LamX.among_app _ hq.1 hcv with z | z
      · obtain ⟨c3, z1, z2⟩ := hq.2 p' cv z
        refine ⟨c3, z1, ?_⟩
        rw [upd_ne (ne_of_none z2 n1), upd_ne fun y => LamX.codeO_ne ps (Option.some.inj ((y ▸ z2).symm.trans hP))]
        exact z2
      · exact ⟨c1, z, upd_same⟩
end
end Sm

set_option Elab.async false
set_option linter.all false
set_option maxRecDepth 100000
set_option maxHeartbeats 4000000
/-! sorted(xs, key=lambda p: p[0]), xs a list of tuples that begin with an int -/
namespace Sm
open PySem L2 PyProof.Rows PySem.Spec PySem.Calls
theorem Lamd.ext {H H1 : Hp} {P : Addr} {ps : Array Value} {q : Str} (l : Lamd H P ps q H1) (hP : H P = some (.tbl ps)) : ∀ b o, H b = some o → (∀ ps, o ≠ .tbl ps) → H1 b = some o := fun b o e n => by
  rcases l with rfl | ⟨more, c0, h0, rfl, _⟩
  · exact e
  · rw [upd_ne (ne_of_none e h0), upd_ne fun z => n ps (Option.some.inj (e.symm.trans (by rw [z]; exact hP)))]
    exact e
theorem Lamd.sqT {K : PySem.W.Frag} {H H1 : Hp} {P : Addr} {ps : Array Value} {q : Str} (l : Lamd H P ps q H1) (hP : H P = some (.tbl ps)) {a : Addr} {xs : List V} (h : SqT K H a xs) : SqT K H1 a xs := by
  rcases h with h | h
  · rcases h with h | ⟨o, h⟩
    · exact .inl (.inl (l.ext hP _ _ h fun _ z => by cases z))
    · exact .inl (.inr ⟨o, l.ext hP _ _ h fun _ z => by cases z⟩)
  · exact .inr h
theorem vals_each : ∀ {bs : List (V × Int)} {us : List Value}, Vals (bs.map (·.1)) us → PySem.W.EachIs (fun u (b : V × Int) => RelV b.1 u ∧ b ∈ bs) us bs := by
  have go : ∀ {bs ws : List (V × Int)} {us : List Value}, Vals (bs.map (·.1)) us → (∀ v ∈ bs, v ∈ ws) → PySem.W.EachIs (fun u (b : V × Int) => RelV b.1 u ∧ b ∈ ws) us bs := by
    intro bs
    induction bs with
    | nil => intro ws us r _; cases r; exact .nil
    | cons b bs ih => intro ws us r h; cases r with | cons r t => exact .cons ⟨r, h _ (List.mem_cons_self ..)⟩ (ih t fun v hv => h v (List.mem_cons_of_mem _ hv))
  exact fun {bs us} r => go r fun _ h => h
theorem each_vals {S : V × Int → Prop} {us : List Value} {bs : List (V × Int)} (e : PySem.W.EachIs (fun u (b : V × Int) => RelV b.1 u ∧ S b) us bs) : Vals (bs.map (·.1)) us := by
  induction e with
  | nil => exact .nil
  | cons r t ih => exact .cons r.1 ih
section
variable {X : Cx} {e : Expr} {te : TE}
def qSortK (K : PySem.W.Frag) (P : Addr) (q : Str) (Q : VK) (x : V) (H1 : Hp) : Prop := ∃ (l : Addr) (bs : List (V × Int)) (ps : Array Value), x = .ref l ∧ H1 l = some (.lst (bs.map (·.1))) ∧ (∀ b ∈ bs, ∃ (t : Addr) (zs : List V), b.1 = .ref t ∧ SqT K H1 t (.int b.2 :: zs)) ∧
  H1 P = some (.tbl ps) ∧ TabC H1 ps q ∧ ∀ H2 D, Lamd H1 P ps q H2 → H2 D = none → Q (.ref D) (upd H2 D (.lst ((bs.mergeSort fun a b => decide (a.2 ≤ b.2)).map (·.1))))
def tSortK (K : PySem.W.Frag) (P : Addr) (q : Str) (te : TE) : TE := fun σ H Q => te σ H fun x H1 => qSortK K P q Q x H1
def oneQ (R : V → Hp → Prop) : List V → Hp → Prop := fun xs H => match xs with | [x] => R x H | _ => False
theorem pe_sortK {c P : Addr} {params : Arguments} {scope : Scope} {x : Str} {p p1 p2 p3 lp kp pos : Pos} {j k : Nat} (hr : Room k X.A) (TB : LamX.TabB X.base X.mg c P) (hcode : X.env.code = .ref c) (hg : Gl X "sorted") (hm : X.mg "sorted" = none) (he : PE X e te)
    (hdef : defaultsOf params X.env = ([], [])) (hfree : ∀ y ∈ scope.names, y.2 = .local) (hcl : cloFrom X.env.cells scope.names [] = [])
    (hb : ∀ (f c' : Addr) (pm ctv v : Value), bindArgs (PySem.W.kla_fn "<lambda>" (X.env.qual ++ "<lambda>") params (.Subscript (.Name x p1) (.Constant (.int 0) j p2) p3) scope [] pm (.ref c') ctv) ⟨[v], []⟩ = pure [(x, v)])
    (hs : scope.names.lookup x = some .local) (hco : scope.isCoroutine = false) (hgen : scope.isGenerator = false) (hk : scope.kind = .function) (hnm : (x == ("__debug__" : Str)) = false)
    (h1 : starEach [e] X.env = (false, eval e X.env) :: starEach [] X.env := by rfl) (h2 : backTo pos (starEach [e] X.env) = (false, eval e X.env) :: backTo pos (starEach [] X.env) := by rfl) (h3 : (backTo pos (starEach [e] X.env)).any (·.1) = false := by rfl) :
    PE X (.Call (.Name "sorted" p) [e] [⟨some "key", .Lambda params (.Subscript (.Name x p1) (.Constant (.int 0) j p2) p3) scope lp, kp⟩] pos) (tSortK X.K P (X.env.qual ++ "<lambda>") te) := by
  refine ⟨fun pins s σ H Q I h => ?_⟩
  refine wpAny_Call_Name_kw (ld_blt (u := .builtin "sorted") I hg hm rfl ?_ (by decide) (by decide))
  refine PyProof.Rows.callWith_kw (thn ((pa_cons he pa_nil h1).run pos pins s σ H (oneQ (qSortK X.K P (X.env.qual ++ "<lambda>") Q)) I h) fun us s1 ⟨xs, H1, I1, r1, q1⟩ => ?_) h2 h3
  obtain ⟨x1, rfl⟩ : ∃ x1, xs = [x1] := by
    match xs, q1 with
    | [x1], _ => exact ⟨x1, rfl⟩
  obtain ⟨l, bs, ps, rfl, hl, ht, hP, hq, q⟩ := q1
  obtain rfl := Vals.ref1 r1
  refine wpAny_evalAll_cons (wpAny_bind (lam_mk I1 TB hcode hP hq hdef (fun y hy z => by rw [hfree y hy] at z; cases z) hcl fun f c' pm ctv H2 s2 I2 L g1 g2 => wpAny_bind (wpAny_standAt (wpAny_pure (wpAny_evalAll_nil ?_)))))
  have hl2 : H2 l = some (.lst (bs.map (·.1))) := L.ext hP _ _ hl fun _ z => by cases z
  obtain ⟨hz, its, n, rv, hob⟩ := (show ObjOk X.prog X.w H2 s2.heap l (.lst (bs.map (·.1))) from I2.hok l _ hl2)
  have hlen := rv.length
  show wpAny (model X.prog X.w) X.A (call (.builtin "sorted") [.ref l] [(Str.ofString "key", .ref f)]) (EP X pins σ Q) X.xe s2
  refine PySem.W.sorted_key_data (A := X.A) (b := false) (fun v : V × Int => .int v.2) ⟨_, hob, rfl, n, rfl⟩ (vals_each rv) (PySem.W.AllAlike.of fun _ _ => by simp [PySem.W.alike]) (PySem.W.Sortable.others fun v => ⟨by simp, by simp⟩) (by simpa using hz)
    (fun v _ => by have := hr.units; simp [PyData.depth]; omega) (ksk_s1 _ _) (fun _ => ksk_l1 _ _) (fun _ => ksk_t1 _ _) (fun v x_1 hR hx h tk kp => ?_) fun out cc h' tk kp fr hD ho eo => ?_
  · obtain ⟨t, zs, ex, hT⟩ := ht x_1 hx
    have hR1 := hR.1
    rw [ex] at hR1
    obtain rfl : v = .ref t := hR1
    have J := I2.kept (t' := tk) kp
    obtain ⟨ts, r1, it, _⟩ := J.tuple (L.sqT hP hT)
    obtain ⟨u0, us0, rfl, ⟨tk0, rfl⟩, _⟩ : ∃ u us, ts = u :: us ∧ RelV (.int x_1.2) u ∧ Vals zs us := by
      cases r1 with
      | cons a b => exact ⟨_, _, rfl, a, b⟩
    have cr : (PySem.Heap.CodeRec h (.ref c') (X.env.qual ++ "<lambda>")) := by
      obtain ⟨c2, oc, us, tt, e0, e1, e2, e3⟩ := g2
      exact ⟨c2, oc, us, tt, e0, kp _ _ e1, e2, e3⟩
    exact lam0 (s := { s2 with heap := h, toks := tk }) hr.depth (kp _ _ g1) cr J.nolimit (fun v => hb f c' pm ctv v) hs hco hgen hk (fun y hy z => by rw [hfree y hy] at z; cases z) it rfl hnm
  · rw [PySem.W.dataLe_int] at eo
    have hD2 : H2 (s2.heap.objs.size + 1) = none := I2.hok.fresh (Nat.le_succ _)
    refine ⟨.ref _, upd H2 (s2.heap.objs.size + 1) (.lst ((bs.mergeSort fun a b => decide (a.2 ≤ b.2)).map (·.1))), I2.laid (t' := tk) kp (Nat.le_succ _) ⟨by rw [List.length_map, List.length_mergeSort]; simpa using hz, out, cc, each_vals eo, hD⟩, rfl, q _ _ L hD2⟩
end
end Sm

set_option Elab.async false
set_option linter.all false
set_option maxRecDepth 100000
set_option maxHeartbeats 4000000
/-! sorted(xs, key=lambda p: p[0]) in the small machine -/
namespace Sm
open PySem L2 PyProof.Rows PySem.Spec
def keyI : MV → Option Int
  | .tup (.int k :: _) => some k
  | .tux (.int k :: _) => some k
  | _ => none
def keyD (x : MV) : Int := (keyI x).getD 0
def sortK (xs : List MV) : List MV := xs.mergeSort fun a b => decide (keyD a ≤ keyD b)
def mSortK (i : Nat) (q : Str) (x : MV) (h : MH) : Res MV := match x with
  | .ref n => match h[n]?, h[i]? with
    | some (.lst xs), some (.tab q') => if q' = q ∧ xs.all (fun x => (keyI x).isSome) = true then .ok (.ref h.length) (h ++ [.lst (sortK xs)]) else .bad
    | _, _ => .bad
  | _ => .bad
theorem keyI_tp {K : PySem.W.Frag} {mp : Mp} {H : Hp} {x : MV} {v : V} (r : RV K mp H x v) (e : (keyI x).isSome = true) : ∃ (t : Addr) (zs : List V), v = .ref t ∧ SqT K H t (.int (keyD x) :: zs) := by
  cases r with
  | @tup xs vs a h r =>
    cases r with
    | nil => cases e
    | cons r t => cases r with
      | int k => exact ⟨a, _, rfl, h⟩
      | _ => cases e
  | @tux xs vs a h r =>
    cases r with
    | nil => cases e
    | cons r t => cases r with
      | int k => exact ⟨a, _, rfl, h.tp⟩
      | _ => cases e
  | _ => cases e
theorem rvs_zip {K : PySem.W.Frag} {mp : Mp} {H : Hp} : ∀ {xs : List MV} {vs : List V}, RVs K mp H xs vs → ∃ cs : List (MV × V), cs.map (·.1) = xs ∧ cs.map (·.2) = vs ∧ ∀ c ∈ cs, RV K mp H c.1 c.2
  | _, _, .nil => ⟨[], rfl, rfl, fun _ h => by cases h⟩
  | _, _, .cons (x := x) (v := v) r t => by
    obtain ⟨cs, h1, h2, h3⟩ := rvs_zip t
    exact ⟨(x, v) :: cs, by simp [h1], by simp [h2], fun c hc => by
      rcases List.mem_cons.mp hc with rfl | hc
      · exact r
      · exact h3 c hc⟩
theorem zip_rvs {K : PySem.W.Frag} {mp : Mp} {H : Hp} : ∀ {cs : List (MV × V)}, (∀ c ∈ cs, RV K mp H c.1 c.2) → RVs K mp H (cs.map (·.1)) (cs.map (·.2))
  | [], _ => .nil
  | c :: cs, h => .cons (h c (List.mem_cons_self ..)) (zip_rvs fun c hc => h c (List.mem_cons_of_mem _ hc))
section
variable {K : PySem.W.Frag} {cl : Str → Option Addr} {mp : Mp} {h : MH} {H H2 : Hp}
theorem Lamd.go {i : Nat} {P : Addr} {ps : Array Value} {q : Str} (rl : Rl K cl mp h H) (e : h[i]? = some (.tab q)) (ei : mp i = some P) (hP : H P = some (.tbl ps)) (l : Lamd H P ps q H2) : Fut K mp mp H H2 ∧ Rl K cl mp h H2 := by
  rcases l with rfl | ⟨more, c0, h0, rfl, hq⟩
  · exact ⟨.refl, rl⟩
  · have nP : P ≠ c0 := ne_of_none hP h0
    have ec : upd (upd H P (.tbl (ps ++ more))) c0 (LamX.CodeO c0 q) = upd (upd H c0 (LamX.CodeO c0 q)) P (.tbl (ps ++ more)) := by
      funext b
      by_cases h1 : b = c0
      · subst h1; rw [upd_same, upd_ne nP.symm, upd_same]
      · by_cases h2 : b = P
        · subst h2; rw [upd_same, upd_ne h1, upd_same]
        · rw [upd_ne h1, upd_ne h2, upd_ne h2, upd_ne h1]
    have rl1 := rl.new (o := LamX.CodeO c0 q) h0
    obtain ⟨hcl, _⟩ : RO K cl mp H (.tab q) P := rl.obj i _ P e ei
    have f1 : Fut K mp mp H (upd H c0 (LamX.CodeO c0 q)) := Fut.new h0
    have f2 : Fut K mp mp (upd H c0 (LamX.CodeO c0 q)) (upd (upd H c0 (LamX.CodeO c0 q)) P (.tbl (ps ++ more))) := Fut.set rl1 ei
    refine ⟨by rw [ec]; exact f1.trans f2, ?_⟩
    have ro : RO K cl mp (upd (upd H c0 (LamX.CodeO c0 q)) P (.tbl (ps ++ more))) (.tab q) P := by
      refine ⟨hcl, _, upd_same, hq.1, fun pos cv z => ?_⟩
      obtain ⟨c, e1, e2⟩ := hq.2 pos cv z
      rw [ec] at e2
      refine ⟨c, e1, e2, fun n hn => ?_⟩
      have nc : c ≠ P := fun z => by
        rw [z, upd_same] at e2
        exact LamX.codeO_ne _ (Option.some.inj e2).symm
      rw [upd_ne nc] at e2
      obtain ⟨u, _, ro⟩ := rl1.cell hn
      exact ro.noCode _ _ e2
    have rl2 := Rl.set (u := .tab q) rl1 ei ro
    rw [ec]
    have es : h.set i (.tab q) = h := by
      obtain ⟨hl, ex⟩ := List.getElem?_eq_some_iff.mp e
      rw [← ex]; exact List.set_getElem_self hl
    rw [es] at rl2
    exact rl2
end
section
variable {X : Cx} {cl : Str → Option Addr} {W : Wsh} {e : Expr} {m : ME}
theorem se_sortK {c P : Addr} {params : Arguments} {scope : Scope} {x : Str} {p p1 p2 p3 lp kp pos : Pos} {i j k : Nat} (hr : Room k X.A) (TB : LamX.TabB X.base X.mg c P) (hcode : X.env.code = .ref c) (hcP : cl (X.env.qual ++ "<lambda>") = some P) (hg : Gl X "sorted") (hm : X.mg "sorted" = none) (he : SE X cl W e m)
    (hdef : defaultsOf params X.env = ([], [])) (hfree : ∀ y ∈ scope.names, y.2 = .local) (hcl : cloFrom X.env.cells scope.names [] = [])
    (hb : ∀ (f c' : Addr) (pm ctv v : Value), bindArgs (PySem.W.kla_fn "<lambda>" (X.env.qual ++ "<lambda>") params (.Subscript (.Name x p1) (.Constant (.int 0) j p2) p3) scope [] pm (.ref c') ctv) ⟨[v], []⟩ = pure [(x, v)])
    (hs : scope.names.lookup x = some .local) (hco : scope.isCoroutine = false) (hgen : scope.isGenerator = false) (hk : scope.kind = .function) (hnm : (x == ("__debug__" : Str)) = false := by decide)
    (h1 : starEach [e] X.env = (false, eval e X.env) :: starEach [] X.env := by rfl) (h2 : backTo pos (starEach [e] X.env) = (false, eval e X.env) :: backTo pos (starEach [] X.env) := by rfl) (h3 : (backTo pos (starEach [e] X.env)).any (·.1) = false := by rfl) :
    SE X cl W (.Call (.Name "sorted" p) [e] [⟨some "key", .Lambda params (.Subscript (.Name x p1) (.Constant (.int 0) j p2) p3) scope lp, kp⟩] pos) (eUn (mSortK i (X.env.qual ++ "<lambda>")) m) := by
  refine peW (pe_sortK hr TB hcode hg hm he hdef hfree hcl hb hs hco hgen hk hnm h1 h2 h3) fun σ H Q ⟨ρ, h, mp, rl, rs, g⟩ => ?_
  refine tM_bind rl rs g (fun _ _ z => z) fun x h1 V H1 mp1 f1 rl1 rs1 rv1 g1 => ?_
  unfold mSortK at g1
  cases rv1 with
  | @ref n a e1 =>
    dsimp only at g1
    split at g1
    · rename_i xs q' c1 c2
      split at g1
      · rename_i hx
        obtain ⟨hq, hall⟩ := hx
        subst hq
        obtain ⟨P1, ei, hcl1, ps, hP, ht, hc⟩ := rl1.at c2
        rw [hcP] at hcl1
        cases hcl1
        obtain ⟨vs, ha, q1⟩ := rl1.obj n _ a c1 e1
        obtain ⟨cs, z1, z2, z3⟩ := rvs_zip q1
        have hall' : ∀ c ∈ cs, (keyI c.1).isSome = true := fun c hc => List.all_eq_true.mp hall _ (by rw [← z1]; exact List.mem_map_of_mem hc)
        refine ⟨a, cs.map fun c => (c.2, keyD c.1), ps, rfl, ?_, fun b hb => ?_, hP, ⟨ht, fun pos cv z => ?_⟩, fun H2 D L hD => ?_⟩
        · rw [ha, List.map_map, ← z2]; rfl
        · obtain ⟨c, hc, rfl⟩ := List.mem_map.mp hb
          exact keyI_tp (z3 c hc) (hall' c hc)
        · obtain ⟨c, a1, a2, _⟩ := hc pos cv z
          exact ⟨c, a1, a2⟩
        · obtain ⟨f2, rl2⟩ := Lamd.go rl1 c2 ei hP L
          have s1 : ((cs.map fun c => (c.2, keyD c.1)).mergeSort fun a b => decide (a.2 ≤ b.2)) = (cs.mergeSort fun a b => decide (keyD a.1 ≤ keyD b.1)).map fun c => (c.2, keyD c.1) := (List.map_mergeSort (f := fun (c : MV × V) => (c.2, keyD c.1)) (r := fun a b => decide (keyD a.1 ≤ keyD b.1)) (s := fun (a b : V × Int) => decide (a.2 ≤ b.2)) fun _ _ _ _ => rfl).symm
          have s2 : sortK xs = (cs.mergeSort fun a b => decide (keyD a.1 ≤ keyD b.1)).map (·.1) := by
            unfold sortK
            rw [← z1]
            exact (List.map_mergeSort (f := fun (c : MV × V) => c.1) (r := fun a b => decide (keyD a.1 ≤ keyD b.1)) (s := fun a b => decide (keyD a ≤ keyD b)) fun _ _ _ _ => rfl).symm
          have rr : RVs X.K mp1 H1 (sortK xs) (((cs.map fun c => (c.2, keyD c.1)).mergeSort fun a b => decide (a.2 ≤ b.2)).map (·.1)) := by
            rw [s1, s2, List.map_map]
            exact zip_rvs fun c hc => z3 c ((List.mergeSort_perm _ _).mem_iff.mp hc)
          obtain ⟨f, rl'⟩ := newCell rl2 hD (rr.fut f2)
          exact g1 _ _ _ ((f1.trans f2).trans f) rl' (.ref Mp.put_same)
      · exact g1.elim
    · exact g1.elim
  | _ => exact g1.elim
end
end Sm

set_option Elab.async false
set_option linter.all false
set_option maxRecDepth 100000
set_option maxHeartbeats 4000000
/-! repr(x), where nothing else is being shown -/
namespace Sm
open PySem L2 PyProof.Rows PySem.Spec
def datM (h : MH) : Nat → MV → Option PyData
  | 0, _ => none
  | n + 1, x => match x with
    | .non => some .none
    | .bl b => some (.bool b)
    | .int i => some (.int i)
    | .str x => some (.str x)
    | .tup xs => (xs.mapM (datM h n)).map .tuple
    | .tux xs => (xs.mapM (datM h n)).map .tuple
    | .ref k => match h[k]? with
      | some (.lst xs) => (xs.mapM (datM h n)).map .list
      | _ => none
    | _ => none
theorem mapM_cons {α β : Type} {f : α → Option β} {x : α} {xs : List α} {ds : List β} (e : (x :: xs).mapM f = some ds) : ∃ d r, f x = some d ∧ xs.mapM f = some r ∧ ds = d :: r := by
  rw [List.mapM_cons] at e
  cases e1 : f x with
  | none => rw [e1] at e; cases e
  | some d =>
    cases e2 : xs.mapM f with
    | none => rw [e1, e2] at e; cases e
    | some r =>
      rw [e1, e2] at e
      exact ⟨d, r, rfl, rfl, (Option.some.inj e).symm⟩
theorem datM_dep {h : MH} : ∀ {n : Nat} {x : MV} {d : PyData}, datM h n x = some d → d.depth ≤ n ∧ d.hasDict = false := by
  have all : ∀ {f : MV → Option PyData} {n : Nat}, (∀ x d, f x = some d → d.depth ≤ n ∧ d.hasDict = false) → ∀ {xs : List MV} {ds : List PyData}, xs.mapM f = some ds → PyData.depthAll ds ≤ n ∧ PyData.hasDictAll ds = false := by
    intro f n hf xs
    induction xs with
    | nil => intro ds e; cases e; simp [PyData.depthAll, PyData.hasDictAll]
    | cons x xs ih =>
      intro ds e
      obtain ⟨d, r, e1, e2, rfl⟩ := mapM_cons e
      have a := hf x d e1
      have b := ih e2
      simp only [PyData.depthAll, PyData.hasDictAll, a.2, b.2, Bool.or_self, and_true]
      omega
  intro n
  induction n with
  | zero => intro x d e; cases e
  | succ n ih =>
    intro x d e
    unfold datM at e
    cases x with
    | non => cases e; simp [PyData.depth, PyData.hasDict]
    | bl b => cases e; simp [PyData.depth, PyData.hasDict]
    | int b => cases e; simp [PyData.depth, PyData.hasDict]
    | str b => cases e; simp [PyData.depth, PyData.hasDict]
    | tup xs =>
      obtain ⟨ds, e1, rfl⟩ := Option.map_eq_some_iff.mp e
      have := all (fun x d => @ih x d) e1
      simp only [PyData.depth, PyData.hasDict]
      exact ⟨by omega, this.2⟩
    | tux xs =>
      obtain ⟨ds, e1, rfl⟩ := Option.map_eq_some_iff.mp e
      have := all (fun x d => @ih x d) e1
      simp only [PyData.depth, PyData.hasDict]
      exact ⟨by omega, this.2⟩
    | ref k =>
      dsimp only at e
      split at e
      · obtain ⟨ds, e1, rfl⟩ := Option.map_eq_some_iff.mp e
        have := all (fun x d => @ih x d) e1
        simp only [PyData.depth, PyData.hasDict]
        exact ⟨by omega, this.2⟩
      · cases e
    | _ => cases e
section
variable {X : Cx} {cl : Str → Option Addr} {pins : List (Addr × Obj)} {σ : L2.St} {H : Hp} {s : Shared} {mp : Mp} {h : MH}
theorem datM_reads (I : Inv X pins σ H s) (rl : Rl X.K cl mp h H) : ∀ {n : Nat} {x : MV} {v : L2.V} {u : Value} {d : PyData}, RV X.K mp H x v → RelV v u → datM h n x = some d → ∃ as, Reads s.heap u d as := by
  have all : ∀ {f : MV → Option PyData}, (∀ x v u d, RV X.K mp H x v → RelV v u → f x = some d → ∃ as, Reads s.heap u d as) →
      ∀ {xs : List MV} {vs : List L2.V} {us : List Value} {ds : List PyData}, RVs X.K mp H xs vs → Vals vs us → xs.mapM f = some ds → ∃ as, ReadsAll s.heap us ds as := by
    intro f hf xs
    induction xs with
    | nil => intro vs us ds r q e; cases r; cases q; cases e; exact ⟨_, .nil⟩
    | cons x xs ih =>
      intro vs us ds r q e
      cases r with
      | cons r1 r2 =>
        cases q with
        | cons q1 q2 =>
          obtain ⟨d, rr, e1, e2, rfl⟩ := mapM_cons e
          obtain ⟨as, z1⟩ := hf _ _ _ _ r1 q1 e1
          obtain ⟨bs, z2⟩ := ih r2 q2 e2
          exact ⟨_, .cons z1 z2⟩
  intro n
  induction n with
  | zero => intro x v u d _ _ e; cases e
  | succ n ih =>
    intro x v u d r q e
    have tp : ∀ {xs : List MV} {vs : List L2.V} {a : Addr}, SqT X.K H a vs → RVs X.K mp H xs vs → ∀ {ds}, xs.mapM (datM h n) = some ds → ∃ as, Reads s.heap (.ref a) (.tuple ds) as := by
      intro xs vs a ht rr ds e1
      obtain ⟨its, r1, ⟨o, ho, hc, m, hd⟩, _⟩ := I.tuple ht
      obtain ⟨as, z⟩ := all (fun x v u d => @ih x v u d) rr r1 e1
      exact ⟨_, .tuple ho hc hd z⟩
    unfold datM at e
    cases r with
    | non => cases e; cases q; exact ⟨_, .none⟩
    | bl b => cases e; cases q; exact ⟨_, .bool b⟩
    | int i => cases e; obtain ⟨t, rfl⟩ := q; exact ⟨_, .int i t⟩
    | str y => cases e; obtain ⟨t, rfl⟩ := q; exact ⟨_, .str y t⟩
    | tup ht rr =>
      cases q
      obtain ⟨ds, e1, rfl⟩ := Option.map_eq_some_iff.mp e
      exact tp ht rr e1
    | tux ht rr =>
      cases q
      obtain ⟨ds, e1, rfl⟩ := Option.map_eq_some_iff.mp e
      exact tp ht.tp rr e1
    | @ref k a hk =>
      cases q
      dsimp only at e
      split at e
      · rename_i xs c
        obtain ⟨ds, e1, rfl⟩ := Option.map_eq_some_iff.mp e
        obtain ⟨vs, ha, rr⟩ := rl.obj k _ a c hk
        obtain ⟨hz, its, m, r1, ho⟩ := (show ObjOk X.prog X.w H s.heap a (.lst vs) from I.hok a _ ha)
        obtain ⟨as, z⟩ := all (fun x v u d => @ih x v u d) rr r1 e1
        exact ⟨_, .list ho rfl rfl z⟩
      · cases e
    | _ => cases e
def shOk (d : PyData) : Bool := d.showable && decide (d.shown.length ≤ 16777216)
def mRepr (xs : List MV) (h : MH) : Res MV := match xs with
  | [x] => match datM h 20 x with
    | some d => if shOk d = true then .ok (.str d.shown) h else .bad
    | none => .bad
  | _ => .bad
theorem mRepr_noEx : NoEx1 mRepr := by
  intro xs h e h' z
  unfold mRepr at z
  repeat' split at z
  all_goals cases z
theorem reprM (hu : X.A.units + 64 < cLine) (hg : X.A.guards = some []) : CallR X (.builtin "repr") (rMC X.K cl mRepr) := by
  intro pins s σ H Vs us Q I r ⟨xs, h, mp, rl, rv, g⟩
  unfold mRepr at g
  split at g
  · rename_i x
    obtain ⟨V, rfl, rx⟩ := rvs1 rv
    obtain ⟨u, rfl, ru⟩ := vals1 r
    split at g
    · rename_i d ed
      split at g
      · rename_i hz
        unfold shOk at hz
        rw [Bool.and_eq_true, decide_eq_true_eq] at hz
        obtain ⟨z1, z2⟩ := hz
        have zz : d.shown.length ≤ sizeLine := by rw [sizeLine_eq]; exact z2
        have fin : ∀ (h' : Heap) (t : Tok) (tk : Nat), (∀ b o, s.heap.get? b = some o → h'.get? b = some o) → EP X pins σ Q (.str d.shown t) { s with heap := h', toks := tk } := fun h' t tk kp =>
          ⟨.str d.shown, H, I.kept kp, ⟨_, rfl⟩, g (.str d.shown) H mp .refl rl (.str _)⟩
        obtain ⟨dp, hd⟩ := datM_dep ed
        obtain ⟨as, rd⟩ := datM_reads I rl rx ru ed
        have ref : ∀ {a : Addr}, u = .ref a → wpAny (model X.prog X.w) X.A (call (.builtin "repr") [u]) (EP X pins σ Q) X.xe s := fun e => by
          subst e
          exact repr_of_reads' rd z1 (PyData.noDict_hsm hd) hg (by omega) (fun _ _ e => e) (fun h' t tk kp => fin h' t tk kp) zz
        cases rx with
        | non => cases ru; cases ed; exact PySem.P.repr_of_none (fin _ _ _ fun _ _ e => e)
        | bl b => cases ru; cases ed; exact PySem.P.repr_of_bool (by cases b <;> exact fin _ _ _ fun _ _ e => e)
        | int i => obtain ⟨t, rfl⟩ := ru; cases ed; exact PySem.P.repr_of_int (by simpa [PyData.showable] using z1) (fin _ _ _ fun _ _ e => e)
        | str y => obtain ⟨t, rfl⟩ := ru; cases ed; exact PySem.P.repr_of_str (fin _ _ _ fun _ _ e => e) (by simpa only [PyData.shown] using zz)
        | tup _ _ => cases ru; exact ref rfl
        | tux _ _ => cases ru; exact ref rfl
        | scr _ _ => cases ed
        | fdc _ _ _ => cases ed
        | ref _ => cases ru; exact ref rfl
      · exact g.elim
    · exact g.elim
  · exact g.elim
end
end Sm

set_option Elab.async false
set_option linter.all false
set_option maxRecDepth 100000
set_option maxHeartbeats 4000000
/-! defs that are called where nothing is being shown; defs whose code object is known -/
namespace Sm
open PySem L2 PyProof.Rows PySem.Spec
/-- a def's promise, where nothing is being shown -/
structure FnG (P : Program) (w : World) (K : PySem.W.Frag) (mg : Str → Option Value) (base : Heap) (k : Nat) (f : Addr) (fd : FuncData) (ps : List Str) (sp : Sp) : Prop where
  len : ∀ vs H Q E, sp vs H Q E → vs.length = ps.length
  run : ∀ (A : Around) (outer : List Env) (s : Shared) (H : Hp) (args : Args) (us : List Value) (vs : List V) (Q : VK) (E : XK), A.guards = some [] → Room k A → Env0 P w K mg base A outer s H → BindsTo s fd args (ps.zip us) → Vals vs us → sp vs H Q E →
    codeAny (model P w) A (.call (.ref f) args) (CR CX0 outer P w H s Q E) s
section
variable {P : Program} {w : World} {K : PySem.W.Frag} {mg : Str → Option Value} {base : Heap} {cl : Str → Option Addr}
theorem fnMG {x qual : Str} {st : Stmt} {f : Addr} {fd : FuncData} {N ps : List Str} {k : Nat} {mb : MSt} (F : L2.Fun K x qual st f fd) (S : FnScope N ps (defScope st))
    (hb : ∀ (cdv : Value), fd.code = cdv → ∀ (A : Around) (outer : List Env) (s : Shared) (H : Hp) (E : XK), A.guards = some [] → Room k (A.deeper (envOfC qual (defScope st) s.heap.objs.size f cdv)) → SSs (cxOf CX0 P w K mg base N qual (defScope st) f cdv A outer s H E).nox cl W0 (defBody st) mb) :
    FnG P w K mg base (k + 1) f fd ps (spM K cl (mfun ps.length N.length mb)) := by
  obtain ⟨oc, od, kV, doc, pm, an, cdv, ct, osl, rfl, lk, hcd⟩ := F.ex
  refine ⟨fun vs H Q E h => spM_len h, fun A outer s H args us vs Q E hg hr e0 hbd r h => ?_⟩
  exact LamX.run_ofS lk hcd S hr e0 hbd r (spM_len h) fun hr' => ⟨_, (hb cdv rfl A outer s H E hg hr').nox, fun_read h⟩
theorem fnMC {x qual : Str} {st : Stmt} {f : Addr} {fd : FuncData} {N ps : List Str} {k : Nat} {mb : MSt} (F : L2.Fun K x qual st f fd) (S : FnScope N ps (defScope st))
    (hb : ∀ (cdv : Value), fd.code = cdv → ∀ (A : Around) (outer : List Env) (s : Shared) (H : Hp) (E : XK), Room k (A.deeper (envOfC qual (defScope st) s.heap.objs.size f cdv)) → SSs (cxOf CX0 P w K mg base N qual (defScope st) f cdv A outer s H E).nox cl W0 (defBody st) mb) :
    FnOk P w K mg base CX0 (k + 1) f fd ps (spM K cl (mfun ps.length N.length mb)) := by
  obtain ⟨oc, od, kV, doc, pm, an, cdv, ct, osl, rfl, lk, hcd⟩ := F.ex
  exact fn_of lk hcd S (fun vs H Q E h => spM_len h) fun A outer s H vs Q E hr h => ⟨_, (hb cdv rfl A outer s H E hr).nox, fun_read h⟩
end
section
variable {X : Cx} {k : Nat} {f : Addr} {fd : FuncData} {ps : List Str} {sp : Sp} {x : Str} {p pos : Pos} {e : Expr} {es : List Expr} {t : TA}
theorem pe_callG (hG : X.A.guards = some []) (F : FnG X.prog X.w X.K X.mg X.base k f fd ps sp) (hr : Room k X.A) (hg : Gl X x) (hm : X.mg x = some (.ref f)) (hk : PySem.W.keepIn X.K (.ref f) = true) (hb : Binds X.K fd ps [])
    (ha : PA X (e :: es) t) (hdb : (x == ("__debug__" : Str)) = false := by decide) (he : starEach (e :: es) X.env = (false, eval e X.env) :: starEach es X.env := by rfl) (hpl : (backTo pos (starEach es X.env)).any (·.1) = false := by rfl) :
    PE X (.Call (.Name x p) (e :: es) [] pos) (tCall sp [] E0 t) := by
  refine ⟨fun pins s σ H Q I h => wpAny_Call_Name_kw (ld_glob I hg hm (PySem.W.callWith_K (h₀ := X.base) I.ok.mod.kin hk (thn (ha.run pos pins s σ H _ I h) fun us s1 ⟨vs, H1, I1, r, q⟩ => ⟨I1.kIn, ?_⟩) he hpl) hdb)⟩
  have q : sp (vs ++ []) H1 Q E0 := q
  rw [List.append_nil] at q
  show wpAny (model X.prog X.w) X.A (call (.ref f) us) (EP X pins σ Q) X.xe s1
  have ln : (us ++ ([] : List Value)).length = ps.length := by rw [List.append_nil, ← r.length]; exact F.len _ _ _ _ q
  have bd := hb s1 us I1.kIn ln
  rw [List.append_nil] at bd
  refine wpAny_call (codeAny_mono (F.run X.A X.stack s1 H1 ⟨us, []⟩ us vs Q E0 hG hr I1.env0 bd r q) fun r s' z => ?_)
  match r, z with
  | .error e, z => exact pass0 pins σ H1 s1 e s' I1 z
  | .ok (.ret u), z => exact I1.after z
end
section
variable {X : Cx} {cl : Str → Option Addr} {W : Wsh} {k : Nat} {fa : Addr} {fd : FuncData} {ps : List Str} {mf : List MV → MH → Res MV} {x : Str} {p pos : Pos} {e : Expr} {es : List Expr} {ms : MA}
theorem se_callG (hG : X.A.guards = some []) (ne : NoEx1 mf) (F : FnG X.prog X.w X.K X.mg X.base k fa fd ps (spM X.K cl mf)) (hr : Room k X.A) (hg : Gl X x) (hm : X.mg x = some (.ref fa)) (hk : PySem.W.keepIn X.K (.ref fa) = true) (hb : Binds X.K fd ps []) (ha : SA X cl W (e :: es) ms)
    (hdb : (x == ("__debug__" : Str)) = false := by decide) (he : starEach (e :: es) X.env = (false, eval e X.env) :: starEach es X.env := by rfl) (hpl : (backTo pos (starEach es X.env)).any (·.1) = false := by rfl) :
    SE X cl W (.Call (.Name x p) (e :: es) [] pos) (eCallD mf [] ms) := peW (pe_callG hG F hr hg hm hk hb ha hdb he hpl) (tCall_of ne fun _ _ => .nil)
end
end Sm

set_option Elab.async false
set_option linter.all false
set_option maxRecDepth 100000
set_option maxHeartbeats 4000000
/-! the law's call from the top, where nothing is being shown and some defs' tables of code objects are known -/
namespace Sm
open PySem L2 PyProof.Rows PySem.Spec
/-- what is tracked at the law's entry -/
def HT (K : PySem.W.Frag) (ts : List Addr) (a : Addr) (o : Obj) (xs : List V) : Hp := fun b => if b ∈ ts then some (.tbl #[]) else if b = a ∧ (K.lookup a).isNone = true then some (.frz o (.lst xs)) else none
section
variable {K : PySem.W.Frag} {ts : List Addr} {a b : Addr} {o : Obj} {xs : List V} {u : HO}
theorem HT.tab (hb : b ∈ ts) : HT K ts a o xs b = some (.tbl #[]) := if_pos hb
theorem HT.frz (ha : a ∉ ts) (hk : K.lookup a = none) : HT K ts a o xs a = some (.frz o (.lst xs)) := (if_neg ha).trans (if_pos ⟨rfl, by rw [hk]; rfl⟩)
theorem HT.non (h1 : b ∉ ts) (h2 : b ≠ a ∨ K.lookup a ≠ none) : HT K ts a o xs b = none := (if_neg h1).trans (if_neg fun z => by
  rcases h2 with h2 | h2
  · exact h2 z.1
  · exact h2 (Option.isNone_iff_eq_none.mp z.2))
theorem HT.cas (e : HT K ts a o xs b = some u) : (b ∈ ts ∧ u = .tbl #[]) ∨ (b = a ∧ K.lookup a = none ∧ u = .frz o (.lst xs)) := by
  unfold HT at e
  split at e
  · exact .inl ⟨by assumption, (Option.some.inj e).symm⟩
  · split at e
    · rename_i z
      exact .inr ⟨z.1, Option.isNone_iff_eq_none.mp z.2, (Option.some.inj e).symm⟩
    · cases e
end
abbrev lstObj (vs : List Value) : Obj := { cls := .type "list", data := .seq vs.toArray }
abbrev tblObj (ps : Array Value) : Obj := { cls := .none, data := .fields ps }
theorem top_call {P : Program} {w : World} {K : PySem.W.Frag} {mg mb : Str → Option Value} {k : Nat} {fa a : Addr} {cs : List (Addr × Addr)} {fd : FuncData} {x : Str} {sp : Sp} {s : Shared} {vs : List Value} {ns : List Int}
    (KX : K.In s.heap) (hm : s.heap.Ns mainGlobals mg) (hb : s.heap.Ns builtinsNs mb) (hbb : ∀ x : Str, x ≠ "__name__" → mb x = bootBuiltins x) (hlim : s.heap.NoLimit) (hg : s.gens = #[])
    (hT : ∀ p ∈ cs, s.heap.get? p.2 = some (tblObj #[])) (nT : ∀ p ∈ cs, K.lookup p.2 = none) (C : ∀ p ∈ cs, PySem.W.CodeHd s.heap p.1 p.2)
    (hbm : ∃ (bm : Addr) (ob : Obj), mg "__builtins__" = some (.ref bm) ∧ bm ≠ builtinsNs ∧ s.heap.get? bm = some ob ∧ ob.cls = .type "module" ∧ ob.dict = some builtinsNs ∧ ob.data = .plain)
    (ha : s.heap.get? a = some (lstObj vs)) (hi : IntsAre vs ns) (hl : ns.length ≤ sizeLine) (hr : Room k callerA)
    (F : ∀ base : Heap, K.In base → base.Ns mainGlobals mg → (∀ p ∈ cs, LamX.TabB base mg p.1 p.2) → FnG P w K mg base k fa fd [x] sp) (hbind : ∀ (s : Shared) (u : Value), BindsTo s fd ⟨[u], []⟩ [(x, u)])
    (hsp : ∀ H : Hp, (∀ p ∈ cs, H p.2 = some (.tbl #[])) → SqF K H a (ns.map V.int) → sp [.ref a] H (fun v _ => v = .bl true) fun _ _ _ => False) :
    codeAny (model P w) callerA (.call (.ref fa) ⟨[.ref a], []⟩) (fun r s' => r = .ok (.ret (.bool true)) ∧ OldK s.heap s'.heap ∧ s'.os = s.os ∧ AllBare s'.gens) s := by
  have rv := vals_ints hi
  have isT : ∀ b, b ∈ cs.map (·.2) → s.heap.get? b = some (tblObj #[]) := fun b m => by
    obtain ⟨p, hp, rfl⟩ := List.mem_map.mp m
    exact hT p hp
  have inT : ∀ p ∈ cs, p.2 ∈ cs.map (·.2) := fun p hp => List.mem_map_of_mem hp
  have aT : a ∉ cs.map (·.2) := fun m => by
    have e := isT a m
    rw [ha] at e
    have e' : Data.seq vs.toArray _ = Data.fields #[] := congrArg Obj.data (Option.some.inj e)
    cases e'
  generalize hH : HT K (cs.map (·.2)) a (lstObj vs) (ns.map V.int) = H
  -- other things are not tracked
  have free : ∀ {b : Addr} {ob : Obj}, s.heap.get? b = some ob → ob.data ≠ .fields #[] → ob.data ≠ (lstObj vs).data → H b = none := fun {b ob} e n1 n2 => by
    rw [← hH]
    refine HT.non (fun m => ?_) (.inl fun z => ?_)
    · rw [isT b m] at e
      exact n1 (Option.some.inj e ▸ rfl)
    · rw [z, ha] at e
      exact n2 (Option.some.inj e ▸ rfl)
  have hok : HOk P w H s.heap := fun b u e => by
    rw [← hH] at e
    rcases HT.cas e with ⟨m, rfl⟩ | ⟨rfl, _, rfl⟩
    · exact isT b m
    · exact ⟨ha, by rw [List.length_map]; exact hl, vs, _, rv, ha⟩
  have tabs : ∀ p ∈ cs, H p.2 = some (.tbl #[]) := fun p hp => by rw [← hH]; exact HT.tab (inT p hp)
  have scr : SqF K H a (ns.map V.int) := by
    cases e : K.lookup a with
    | none => exact .inl ⟨lstObj vs, by rw [← hH]; exact HT.frz aT e⟩
    | some o =>
      obtain rfl : lstObj vs = o := Option.some.inj (ha.symm.trans (KX a o e))
      exact .inr ⟨_, vs.toArray, _, e, rfl, rfl, rfl, by rw [List.size_toArray, hi.length]; exact hl, by simpa using rv⟩
  have hid : ∀ {b : Addr} {ob : Obj}, s.heap.get? b = some ob → ob.data ≠ .fields #[] → ob.data ≠ (lstObj vs).data → (hidT s.heap H).get? b = some ob := fun e n1 n2 => hidT_get e (free e n1 n2)
  have names : ∀ {b : Addr} {m : Str → Option Value}, s.heap.Ns b m → (hidT s.heap H).Ns b m := fun {b m} ⟨o, es, ep, e, d, r⟩ => ⟨o, es, ep, hid e (fun z => by rw [d] at z; cases z) (fun z => by rw [d] at z; cases z), d, r⟩
  have KB : K.In (hidT s.heap H) := fun b o e => hidT_get (KX b o e) (by
    rw [← hH]
    refine HT.non (fun m => ?_) ?_
    · obtain ⟨p, hp, z⟩ := List.mem_map.mp m
      rw [← z, nT p hp] at e
      cases e
    · by_cases z : b = a
      · exact .inr fun n => by rw [z, n] at e; cases e
      · exact .inl z)
  have TB : ∀ p ∈ cs, LamX.TabB (hidT s.heap H) mg p.1 p.2 := fun p hp => by
    have hp2 := hT p hp
    obtain ⟨o, us, f1, f2, f3, f4, f5, f6, f7, e, r1, r2, r3, r4⟩ := C p hp
    obtain ⟨bm, ob, b1, b2, b3, b4, b5, b6⟩ := hbm
    obtain ⟨og, es, ep, g1, g2, _⟩ := hm
    have ne : ∀ {b : Addr}, b = mainGlobals → ∀ {d : Obj}, s.heap.get? b = some d → d.data = og.data := fun {b} z {d} y => by
      rw [z, g1] at y
      exact Option.some.inj y ▸ rfl
    refine ⟨⟨o, us, f1, f2, f3, f4, f5, f6, f7, hid e (fun z => ?_) (fun z => by rw [r2] at z; cases z), r1, r2, r3, r4⟩, ⟨bm, ob, b1, b2, fun z => ?_, fun z => ?_, hid b3 (fun z => by rw [b6] at z; cases z) (fun z => by rw [b6] at z; cases z), b4, b5, b6⟩, fun z => ?_⟩
    · rw [r2] at z
      cases z
      simp at r3
    · have := ne z b3
      rw [b6, g2] at this
      cases this
    · rw [z, hp2] at b3
      cases b3
      cases b6
    · have := ne z.symm hp2
      rw [g2] at this
      cases this
  have e0 : Env0 P w K mg (hidT s.heap H) callerA [] s H := ⟨rfl, ⟨KB, names hm, ⟨mb, names hb, hbb⟩, let ⟨mc, z1, z2⟩ := hlim; ⟨mc, names z1, z2⟩⟩, fun b o e => of_hidT e, Nat.le_of_eq (hidT_size _ _), trivial, fun b z => (nomatch (show b ∈ ([] : List Addr) from z)), hok, .of_eq hg⟩
  refine codeAny_mono ((F _ KB (names hm) TB).run callerA [] s H ⟨[.ref a], []⟩ [.ref a] [.ref a] _ _ rfl hr e0 (hbind s (.ref a)) (.cons rfl .nil) (hsp H tabs scr)) fun r s' z => ?_
  match r, z with
  | .ok (.ret u), z =>
    obtain ⟨v, H', os, bare, un, hok', ru, q⟩ := z
    have q : v = .bl true := q
    subst q
    obtain rfl : u = Value.bool true := ru
    have old : ∀ b o, b ∉ cs.map (·.2) → s.heap.get? b = some o → s'.heap.get? b = some o := fun b o nb e => by
      cases hb : H b with
      | none => exact un.keep b o e hb (fun z => (nomatch (show b ∈ ([] : List Addr) from z))) (by simp)
      | some u =>
        have hb' := hb
        rw [← hH] at hb'
        rcases HT.cas hb' with ⟨m, _⟩ | ⟨_, _, rfl⟩
        · exact (nb m).elim
        · have z1 := (hok b _ hb).1
          have z2 := (hok' b _ (un.frzs b _ _ hb)).1
          rw [e] at z1
          cases z1
          exact z2
    have more : ∀ p ∈ cs, ∃ ps : Array Value, s'.heap.get? p.2 = some (tblObj ps) := fun p hp => by
      obtain ⟨ps, z⟩ := un.tbls p.2 #[] (tabs p hp)
      exact ⟨_, hok' p.2 _ z⟩
    refine ⟨rfl, ⟨fun b o e => ?_, fun b o e => ?_⟩, os, bare⟩
    · by_cases m : b ∈ cs.map (·.2)
      · obtain ⟨p, hp, rfl⟩ := List.mem_map.mp m
        obtain ⟨ps, z⟩ := more p hp
        obtain rfl : o = tblObj #[] := Option.some.inj (e.symm.trans (hT p hp))
        exact .inr (.inl ⟨((C p hp).tab (hT p hp)).isCodeTable, rfl, #[], ps, rfl, by rw [Array.empty_append]; exact z⟩)
      · exact .inl (old b o m e)
    · by_cases m : b ∈ cs.map (·.2)
      · obtain ⟨p, hp, rfl⟩ := List.mem_map.mp m
        obtain ⟨ps, z⟩ := more p hp
        exact ⟨_, z⟩
      · exact ⟨o, old b o m e⟩
end Sm

set_option Elab.async false
set_option linter.all false
set_option maxRecDepth 100000
set_option maxHeartbeats 4000000
/-! set(xs), xs a list of ints -/
namespace Sm
open PySem L2 PyProof.Rows PySem.Spec PySem.Calls
abbrev setObj (w : World) : Obj := { cls := .type "set", dict := none, data := .set #[] 0 (.fresh 0 0 (!w.params.followText "set-order")) }
section
variable {P : Program} {w : World} {A : Around} {E : Value → Shared → Prop} {s : Shared} {l : Addr} {its : Array Value} {ns : List Int}
/-- what set(xs) leaves -/
def SetMade (w : World) (s : Shared) (S : Addr) (ns : List Int) (v : Value) (s' : Shared) : Prop := v = .none ∧ ∃ g tk c, s' = { s with heap := g, toks := tk } ∧ SetR w g S (fun j => decide (j ∈ ns)) c ∧ ∀ b o, b ≠ S → s.heap.get? b = some o → g.get? b = some o
set_option maxHeartbeats 8000000 in
theorem init_lst {S : Addr} (hh : A.handled = none) (hS : s.heap.get? S = some (setObj w)) (hl : s.heap.IsList l its) (hi : IntsAre its.toList ns) (hb : ns.length + 1 < scanBound) :
    wpAny (model P w) A (Builtin.«set.__init__» ⟨[.ref S, .ref l], []⟩) (fun f s' => ∃ v, f = .done (.ret v) ∧ SetMade w s S ns v s') E s := by
  have sz : its.size = ns.length := by
    have := IntsAre.length hi
    rwa [Array.length_toList] at this
  have hT : s.TypeIs (.ref S) "set" := ⟨_, hS, rfl⟩
  obtain ⟨ol, hol, hcl, nl, hdl⟩ := hl
  obtain ⟨oc, od, oda, osl⟩ := ol
  simp only at hcl hdl
  subst hcl; subst hdl
  have hl : s.heap.IsList l its := ⟨_, hol, rfl, nl, rfl⟩
  have a1 := F.sub_list_set
  have a2 := F.sub_list_frozenset
  have a3 : (Value.type "list" == Value.type "dict") = false := by decide
  have sl : l < s.heap.objs.size := Heap.lt_size hol
  have sS : S < s.heap.objs.size := Heap.lt_size hS
  have nS : S ≠ l := fun z => by
    rw [z, hol] at hS
    have d := congrArg Obj.data (Option.some.inj hS)
    cases d
  unfold Builtin.«set.__init__» noKeywords Builtin.Frozenset.updateFrom
  generalize hp : pyIter = it
  wp_walk
  subst hp
  refine wpAny_pyIter_list hl (wpAny_bind (wpAny_runValue ?_))
  refine set_update_ints ((Walks.list (by simp [hh]) _ l (Nat.ne_of_lt sl) its).toS) S (by
      simp only [List.mem_cons, List.not_mem_nil, or_false, not_or]
      exact ⟨Nat.ne_of_lt sS, nS⟩) ns sz hb (fun i v hv => ?_) (its.size - 0) 0 _ (by omega) (Nat.zero_le _) ⟨⟨_, Heap.get?_push_size _ rfl, rfl, rfl⟩, hl.push _⟩ ⟨0, Nat.le_refl 0, setR_new_at (Heap.get?_push_of_some _ hS)⟩ fun s' c mv _ R => ?_
  · have lt : i < ns.length := by rw [← sz]; exact (Array.getElem?_eq_some_iff.mp hv).1
    obtain ⟨t, e⟩ := PyProof.Rows.IntsAre.int_at hi i v (by rw [Array.getElem?_toList]; exact hv)
    exact ⟨ns[i], t, List.getElem?_eq_getElem lt, by rw [e, List.getD_eq_getElem?_getD, List.getElem?_eq_getElem lt] <;> rfl⟩
  · obtain ⟨g, g2, d2, tk, os2⟩ := s'
    obtain rfl : g2 = s.gens := mv.gens
    obtain rfl : d2 = s.drawn := mv.drawn
    obtain rfl : os2 = s.os := mv.os
    refine wpAny_pure ?_
    show wpAny _ _ (ret Value.none) _ _ _
    refine wpAny_pure ⟨.none, rfl, rfl, g, tk, c, rfl, R, fun b o nb e => mv.heap b o ?_ (Heap.get?_push_of_some _ e)⟩
    simp only [List.mem_cons, List.not_mem_nil, or_false, not_or]
    exact ⟨nb, Nat.ne_of_lt (Heap.lt_size e)⟩
set_option maxHeartbeats 8000000 in
theorem call_set_lst {Q : Value → Shared → Prop} (hh : A.handled = none) (hl : s.heap.IsList l its) (hi : IntsAre its.toList ns) (hb : ns.length + 1 < scanBound)
    (h : ∀ (g : Heap) (tk c : Nat), SetR w g s.heap.objs.size (fun j => decide (j ∈ ns)) c → (∀ b o, s.heap.get? b = some o → g.get? b = some o) → Q (.ref s.heap.objs.size) { s with heap := g, toks := tk }) :
    wpAny (model P w) A (call (.type "set") [.ref l]) Q E s := by
  obtain ⟨c0, tl, b1⟩ := F.called_set.mro
  have b2 := F.called_set.made
  have b3 := F.called_set.sub
  refine wpAny_call (codeAny_of_tree ?_)
  show wpAny _ _ (callAny (.type "set") _) _ _ _
  refine wpAny_pure ⟨Code.quiet_builtin _ (by decide +kernel), codeAny_builtin F.entry_type_call ?_⟩
  rw [Around.under_plain (weight_type_call_type "set" [.ref l] []) rfl]
  have b4 := F.called_set.notType
  have b5 := F.called_set.canCreate
  have b6 := F.typeCall_set_1 (.ref l)
  repeat (any_goals (first | assumption | wp_step))
  refine codeAny_mono (code_set_led1 (P := P) (w := w) (.ref l) (E := E) (Q₁ := fun ob s1 => ob = .ref s.heap.objs.size ∧ s1 = { s with heap := s.heap.push (setObj w) }) ⟨rfl, rfl⟩) fun r s1 z => ?_
  match r, z with
  | .error e, z => exact z
  | .ok (.ret ob), z =>
    obtain ⟨rfl, rfl⟩ := z
    have gS : (s.heap.push (setObj w)).get? s.heap.objs.size = some (setObj w) := Heap.get?_push_size _ rfl
    have tS : Shared.TypeIs { s with heap := s.heap.push (setObj w) } (.ref s.heap.objs.size) "set" := ⟨_, gS, rfl⟩
    have b7 := F.called_set.init.lookup
    have b8 := F.called_set.init.bind (.ref s.heap.objs.size)
    repeat (any_goals (first | assumption | wp_step))
    refine codeAny_mono (codeAny_call_builtin (R := wants (SetMade w { s with heap := s.heap.push (setObj w) } s.heap.objs.size ns) E) F.called_set.init.plain F.entry_set_init (check_set_init_1 tS ?_)) fun r2 s2 z2 => ?_
    · obtain ⟨o, e1, e2⟩ := hl
      refine wpAny_mono (init_lst (S := s.heap.objs.size) (ns := ns) (its := its) (by simp [hh]) gS ⟨o, Heap.get?_push_of_some _ e1, e2⟩ hi hb) (fun f s' q => ?_) fun _ _ e => e
      obtain ⟨v, rfl, q⟩ := q
      exact q
    · match r2, z2 with
      | .error e, z2 => exact z2
      | .ok (.ret u), z2 =>
        obtain ⟨rfl, g, tk, c, rfl, R, kp⟩ := z2
        repeat (any_goals (first | assumption | wp_step))
        exact h g tk c R fun b o e => kp b o (Nat.ne_of_lt (Heap.lt_size e)) (Heap.get?_push_of_some _ e)
end
end Sm

set_option Elab.async false
set_option linter.all false
set_option maxRecDepth 100000
set_option maxHeartbeats 4000000
/-! sorted(set(xs)), xs a list of ints -/
namespace Sm
open PySem L2 PyProof.Rows PySem.Spec
def insS (k : Int) : List Int → List Int
  | [] => [k]
  | x :: xs => if k < x then k :: x :: xs else if k = x then x :: xs else x :: insS k xs
def setI (ns : List Int) : List Int := ns.foldr insS []
theorem insS_mem {k j : Int} : ∀ {xs : List Int}, j ∈ insS k xs ↔ j = k ∨ j ∈ xs
  | [] => by simp [insS]
  | x :: xs => by
    unfold insS
    split
    · simp
    · split
      · rename_i h1 h2; subst h2; simp
      · simp only [List.mem_cons, insS_mem (xs := xs)]
        constructor
        · rintro (h | h | h)
          · exact .inr (.inl h)
          · exact .inl h
          · exact .inr (.inr h)
        · rintro (h | h | h)
          · exact .inr (.inl h)
          · exact .inl h
          · exact .inr (.inr h)
theorem insS_up {k : Int} : ∀ {xs : List Int}, xs.Pairwise (· < ·) → (insS k xs).Pairwise (· < ·)
  | [], _ => by simp [insS]
  | x :: xs, h => by
    obtain ⟨h1, h2⟩ := List.pairwise_cons.mp h
    unfold insS
    split
    · rename_i hk
      refine List.pairwise_cons.mpr ⟨fun y hy => ?_, h⟩
      rcases List.mem_cons.mp hy with rfl | hy
      · exact hk
      · have := h1 y hy; omega
    · split
      · exact h
      · refine List.pairwise_cons.mpr ⟨fun y hy => ?_, insS_up h2⟩
        rcases insS_mem.mp hy with rfl | hy
        · omega
        · exact h1 y hy
theorem setI_mem {j : Int} : ∀ {ns : List Int}, j ∈ setI ns ↔ j ∈ ns
  | [] => Iff.rfl
  | n :: ns => by
    show j ∈ insS n (setI ns) ↔ _
    rw [insS_mem, setI_mem, List.mem_cons]
theorem setI_up : ∀ {ns : List Int}, (setI ns).Pairwise (· < ·)
  | [] => .nil
  | n :: ns => insS_up setI_up
theorem up_eq : ∀ {a b : List Int}, a.Pairwise (· < ·) → b.Pairwise (· < ·) → (∀ k, k ∈ a ↔ k ∈ b) → a = b
  | [], [], _, _, _ => rfl
  | [], y :: b, _, _, h => by have := (h y).mpr (by simp); simp at this
  | x :: a, [], _, _, h => by have := (h x).mp (by simp); simp at this
  | x :: a, y :: b, ha, hb, h => by
    obtain ⟨a1, a2⟩ := List.pairwise_cons.mp ha
    obtain ⟨b1, b2⟩ := List.pairwise_cons.mp hb
    have e : x = y := by
      have hx := (h x).mp (by simp)
      have hy := (h y).mpr (by simp)
      rcases List.mem_cons.mp hx with e | hx
      · exact e
      · rcases List.mem_cons.mp hy with e | hy
        · exact e.symm
        · have := a1 _ hy
          have := b1 _ hx
          omega
    subst e
    congr 1
    refine up_eq a2 b2 fun k => ⟨fun hk => ?_, fun hk => ?_⟩
    · rcases List.mem_cons.mp ((h k).mp (List.mem_cons_of_mem _ hk)) with e | m
      · have := a1 k hk; omega
      · exact m
    · rcases List.mem_cons.mp ((h k).mpr (List.mem_cons_of_mem _ hk)) with e | m
      · have := b1 k hk; omega
      · exact m
def intsM : List MV → Option (List Int)
  | [] => some []
  | .int i :: xs => (intsM xs).map (i :: ·)
  | _ => none
theorem intsM_map : ∀ {xs : List MV} {ns : List Int}, intsM xs = some ns → xs = ns.map .int
  | [], ns, e => by cases e; rfl
  | x :: xs, ns, e => by
    unfold intsM at e
    split at e
    · cases ‹_ :: _ = []›
    · rename_i i r z
      cases z
      obtain ⟨m, e1, rfl⟩ := Option.map_eq_some_iff.mp e
      rw [intsM_map e1]; rfl
    · cases e
theorem rvs_ints {K : PySem.W.Frag} {mp : Mp} {H : Hp} : ∀ {ns : List Int} {vs : List V}, RVs K mp H (ns.map .int) vs → vs = ns.map V.int
  | [], _, .nil => rfl
  | n :: ns, _, .cons (.int _) t => by rw [rvs_ints t]; rfl
theorem ints_rvs {K : PySem.W.Frag} {mp : Mp} {H : Hp} : ∀ {ns : List Int}, RVs K mp H (ns.map .int) (ns.map V.int)
  | [] => .nil
  | n :: ns => .cons (.int n) ints_rvs
def mSortSet (xs : List MV) (h : MH) : Res MV := match xs with
  | [.ref n] => match h[n]? with
    | some (.lst ys) => match intsM ys with
      | some ns => if (setI ns).length < 64 ∧ ns.length ≤ 1000 then .ok (.ref h.length) (h ++ [.lst ((setI ns).map .int)]) else .bad
      | none => .bad
    | _ => .bad
  | _ => .bad
theorem mSortSet_noEx : NoEx1 mSortSet := by
  intro xs h e h' z
  unfold mSortSet at z
  repeat' split at z
  all_goals cases z
section
variable {X : Cx} {cl : Str → Option Addr} {W : Wsh} {e : Expr} {ms : MA} {p p1 p2 pos : Pos}
theorem setR_len {w : World} {h : Heap} {a : Addr} {ns : List Int} {c : Nat} (R : SetR w h a (fun j => decide (j ∈ ns)) c) : c = (setI ns).length := by
  obtain ⟨o, es, ep, t, _, _, _, _, nd, mem, _, _, hn, _⟩ := R
  have nd2 : (setI ns).Nodup := (setI_up (ns := ns)).imp fun h z => by omega
  have pm : (es.toList.map L2.keyOf).Perm (setI ns) := (List.perm_ext_iff_of_nodup nd nd2).mpr fun k => by
    rw [← mem k, setI_mem, decide_eq_true_eq]
  rw [← hn, ← pm.length_eq, List.length_map, Array.length_toList]
def rSetL (w : World) (K : PySem.W.Frag) : List V → Hp → VK → Prop := fun xs H Q => ∃ (l : Addr) (ns : List Int), xs = [.ref l] ∧ SqL K H l (ns.map V.int) ∧ ns.length ≤ 1000 ∧ ∀ a, H a = none → Q (.ref a) (upd H a (SetO w a (fun j => decide (j ∈ ns)) (setI ns).length))
theorem vals_intsAre : ∀ {ns : List Int} {us : List Value}, Vals (ns.map V.int) us → IntsAre us ns
  | [], _, .nil => .nil
  | n :: ns, _, .cons r t => by obtain ⟨tk, rfl⟩ := r; exact .cons n tk (vals_intsAre t)
theorem cr_setL (hc : X.calm = true) : CallR X (.type "set") (rSetL X.w X.K) := by
  intro pins s σ H xs us Q I r h
  obtain ⟨l, ns, rfl, hs, hz, q⟩ := h
  rw [Vals.ref1 r]
  obtain ⟨its, rv, pl, _⟩ := I.list hs
  refine call_set_lst (ns := ns) (I.ok.hd hc) pl.isList (by simpa using vals_intsAre rv) (by unfold scanBound; omega) fun g tk c R kp => ?_
  have hn : H s.heap.objs.size = none := I.hok.fresh (Nat.le_refl _)
  obtain rfl := setR_len R
  exact ⟨.ref _, _, I.laid (t' := tk) kp (Nat.le_refl _) (setO_new R), rfl, q _ hn⟩
/-- sorted(set(e)) -/
theorem se_sortSet (hc : X.calm = true) (hg : Gl X "sorted") (hm : X.mg "sorted" = none) (hg2 : Gl X "set") (hm2 : X.mg "set" = none) (hs : SA X cl W [e] ms)
    (h1 : starEach [e] X.env = (false, eval e X.env) :: starEach [] X.env := by rfl) (h2 : (backTo p2 (starEach [] X.env)).any (·.1) = false := by rfl)
    (h3 : starEach [.Call (.Name "set" p1) [e] [] p2] X.env = (false, eval (.Call (.Name "set" p1) [e] [] p2) X.env) :: starEach [] X.env := by rfl) (h4 : (backTo pos (starEach [] X.env)).any (·.1) = false := by rfl) :
    SE X cl W (.Call (.Name "sorted" p) [.Call (.Name "set" p1) [e] [] p2] [] pos) (eCallB mSortSet ms) := by
  refine peW (pe_callB (cr_sortedSet hc) hg hm (by decide +kernel) (pa_cons (pe_callTy (cr_setL hc) hg2 hm2 (by decide +kernel) hs (by decide) (by decide) h1 h2) pa_nil h3) (by decide) (by decide) h3 h4) fun σ H Q ⟨ρ, h, mp, rl, rs, g⟩ => ?_
  refine tMA_bind rl rs g (fun _ _ z => z) fun xs h1 V H1 mp1 f1 rl1 rs1 rv1 g1 => ?_
  unfold mSortSet at g1
  split at g1
  · rename_i n
    obtain ⟨v, rfl, rx⟩ := rvs1 rv1
    cases rx with
    | @ref _ a e1 =>
      split at g1
      · rename_i ys c1
        split at g1
        · rename_i ns ei
          split at g1
          · rename_i hz
            obtain ⟨vs, ha, q1⟩ := rl1.obj n _ a c1 e1
            rw [intsM_map ei] at q1
            rw [rvs_ints q1] at ha
            refine ⟨a, ns, rfl, SqL.of ha, hz.2, fun b hb => ⟨b, _, _, rfl, upd_same, hz.1, fun ns' D up mem _ hD => ?_⟩⟩
            obtain rfl : ns' = setI ns := up_eq up setI_up fun k => by rw [mem k, setI_mem, decide_eq_true_eq]
            have f2 : Fut X.K mp1 mp1 H1 (upd H1 b (SetO X.w b (fun j => decide (j ∈ ns)) (setI ns).length)) := Fut.new hb
            obtain ⟨f, rl'⟩ := newCell (rl1.new (o := SetO X.w b (fun j => decide (j ∈ ns)) (setI ns).length) hb) hD (ints_rvs (ns := setI ns))
            exact g1 _ _ _ ((f1.trans f2).trans f) rl' (.ref Mp.put_same)
          · exact g1.elim
        · exact g1.elim
      · exact g1.elim
  · exact g1.elim
end
end Sm

set_option Elab.async false
set_option linter.all false
set_option maxRecDepth 100000
set_option maxHeartbeats 4000000
/-! dict(t), t a tuple of pairs that the law made -/
namespace Sm
open PySem L2 PyProof.Rows PySem.Spec
section
variable {X : Cx}
def rDictF (K : PySem.W.Frag) : List V → Hp → VK → Prop := fun xs H Q => ∃ (a : Addr) (ps : List Addr) (kvs : List (Key × V)), xs = [.ref a] ∧ TxA H a (ps.map V.ref) ∧ Paired (fun p kv => SqT K H p [kV kv.1, kv.2]) ps kvs ∧ ∀ p od, H p = none → Q (.ref p) (upd H p (.frz od (.dK (mergeK [] kvs))))
def rDictT (K : PySem.W.Frag) : List V → Hp → VK → Prop := fun xs H Q => ∃ (a : Addr) (ps : List Addr) (kvs : List (Key × V)), xs = [.ref a] ∧ TxA H a (ps.map V.ref) ∧ Paired (fun p kv => SqT K H p [kV kv.1, kv.2]) ps kvs ∧ ∀ p, H p = none → Q (.ref p) (upd H p (.dK (mergeK [] kvs)))
theorem call_dictT (hc : X.calm = true) : CallR X (.type "dict") (rDictT X.K) := by
  intro pins s σ H xs us Q I r ⟨a, ps, kvs, e, ⟨o, ha, c1, c2⟩, hp, q⟩
  subst e
  rw [Vals.ref1 r]
  obtain ⟨g1, hz, its, rv, o', g2, c3, n, dat⟩ := (show _ ∧ ObjOk X.prog X.w H s.heap a (.tup (ps.map V.ref)) from I.hok a _ ha)
  obtain rfl : o = o' := Option.some.inj (g1.symm.trans g2)
  have ei := refs_at rv
  subst ei
  rw [List.length_map] at hz
  obtain ⟨prs, rel, hl, hpr⟩ := pairs_of I hp
  have ex : ∀ j : Nat, ∃ u : Value, ∀ k, prs[j]? = some k → ∃ b, ps[j]? = some b ∧ IsTup s.heap b #[u, k.2] ∧ keyIs k.1 u = true := fun j => by
    cases e : prs[j]? with
    | none => exact ⟨.none, fun k z => by cases z⟩
    | some k =>
      obtain ⟨b, u, e1, e2, e3⟩ := hpr j k e
      exact ⟨u, fun k' z => by cases z; exact ⟨b, e1, e2, e3⟩⟩
  obtain ⟨U, hU⟩ := Classical.axiomOfChoice ex
  have at_ : ∀ {j : Nat} {k v : Value}, (prs.mapIdx fun j k => (U j, k.2))[j]? = some (k, v) → ∃ y : Key, prs[j]? = some (y, v) ∧ k = U j := fun {j k v} e => by
    rw [List.getElem?_mapIdx] at e
    obtain ⟨y, e1, e2⟩ := Option.map_eq_some_iff.mp e
    cases e2
    exact ⟨y.1, e1, rfl⟩
  have ok : PySem.PlainSeq "tuple" s.heap a (ps.map Value.ref).toArray ∧ PySem.PairItems s.heap (ps.map Value.ref).toArray (fun j => ps.getD j 0) (prs.mapIdx fun j k => (U j, k.2)) := by
    refine ⟨⟨o, n, g1, c1, c2, dat⟩, by simp [hl], fun j k v e => ?_⟩
    obtain ⟨y, e1, rfl⟩ := at_ e
    obtain ⟨b, b1, b2, _⟩ := hU j _ e1
    refine ⟨by simp [b1], .inl ?_⟩
    have eb : ps.getD j 0 = b := by rw [List.getD_eq_getElem?_getD, b1]; rfl
    show s.heap.IsTuple (ps.getD j 0) _
    rw [eb]
    obtain ⟨o2, z1, z2, z3⟩ := b2
    exact ⟨o2, z1, z2, z3⟩
  refine PySem.call_dict_pairs (knd := mixKind X.prog X.w) (kvs := prs) (PySem.PairArg.tuple a _ (fun j => ps.getD j 0) (prs.mapIdx fun j k => (U j, k.2))) (I.ok.hd hc) ok ⟨by simp, fun j k v e => ?_⟩ (by rw [List.length_mapIdx, hl]; exact hz) fun g tk hd kp => ?_
  · obtain ⟨y, e1, rfl⟩ := at_ e
    obtain ⟨b, _, _, b3⟩ := hU j _ e1
    exact ⟨y, e1, b3⟩
  · have hm : (s.heap.objs.size == sysModules) = false := beq_eq_false_iff_ne.mpr (Nat.ne_of_gt I.big)
    have hlen : (mergeK [] kvs).length ≤ sizeLine := Nat.le_trans (length_mergeK kvs []) (by rw [List.length_nil, Nat.zero_add, rel.length, hl]; exact hz)
    exact ⟨.ref s.heap.objs.size, upd H s.heap.objs.size (.dK (mergeK [] kvs)), I.laid (t' := tk) (fun b o e => kp b o (by simp) e) (Nat.le_refl _) (show ObjOk X.prog X.w _ _ _ (.dK (mergeK [] kvs)) from ⟨hlen, hm, merged [] prs, KV.merge rel .nil, hd⟩), rfl, q _ (I.hok.fresh (Nat.le_refl _))⟩
theorem call_dictF (hc : X.calm = true) : CallR X (.type "dict") (rDictF X.K) := by
  intro pins s σ H xs us Q I r ⟨a, ps, kvs, e, ht, hp, q⟩
  refine thn (call_dictT hc pins s σ H xs us (fun x H' => ∃ p, H p = none ∧ x = .ref p ∧ H' = upd H p (.dK (mergeK [] kvs))) I r ⟨a, ps, kvs, e, ht, hp, fun p h0 => ⟨p, h0, rfl, rfl⟩⟩) fun v s1 ⟨x, H', I1, rx, p, h0, e1, e2⟩ => ?_
  subst e1 e2
  obtain ⟨od, I2⟩ := I1.lock (d := p) (u := .dK (mergeK [] kvs)) upd_same trivial
  have eu : upd (upd H p (.dK (mergeK [] kvs))) p (.frz od (.dK (mergeK [] kvs))) = upd H p (.frz od (.dK (mergeK [] kvs))) := by
    funext b
    by_cases hb : b = p
    · subst hb; rw [upd_same, upd_same]
    · rw [upd_ne hb, upd_ne hb, upd_ne hb]
  rw [eu] at I2
  exact ⟨.ref p, _, I2, rx, q p od h0⟩
end
end Sm

set_option Elab.async false
set_option linter.all false
set_option maxRecDepth 100000
set_option maxHeartbeats 4000000
namespace PySem
section
open Builtin Builtin.Str Builtin.Int
variable {prog : Program} {w : World} {A : Around} {E : Value → Shared → Prop} {s : Shared} {K : PySem.W.Frag} {x C f : Addr} {ox : Obj} {odd : Option Obj}
/-- a text of an instance by its own way -/
theorem strOf_ins {Q : Value → Shared → Prop} (hu : A.units < cLine) (X : K.In s.heap) (I : PySem.W.InstAt s.heap x ox C odd) (hs : PySem.W.findIn K (.ref C) "__str__" = some (some (.ref f))) (hf : PySem.W.isFn K (.ref f) = true)
    (h : wpAny (model prog w) A (call (.ref f) [.ref x]) (fun r s₁ => ∃ n u, r = Value.str n u ∧ Q r s₁) E s) : wpAny (model prog w) A (strOf (.ref x)) Q E s := by
  unfold strOf
  refine wpAny_ite_false (by rfl) ?_
  refine wpAny_bind (wpAny_cRoomFor hu ?_)
  refine wpAny_bind (m := callSpecial? (.ref x) (Str.ofString "__str__")) (PySem.W.special_fn X I hs (beq_iff_eq.mp hf) (wpAny_mono h (fun r s' hr => ?_) fun _ _ y => y))
  obtain ⟨n, u, rfl, hq⟩ := hr
  exact wpAny_bind (wpAny_pure (wpAny_ite_false (by rfl) (wpAny_pure hq)))
theorem str_ins {Q : Value → Shared → Prop} (hu : A.in1.in1.units < cLine) (X : K.In s.heap) (I : PySem.W.InstAt s.heap x ox C odd) (hs : PySem.W.findIn K (.ref C) "__str__" = some (some (.ref f))) (hf : PySem.W.isFn K (.ref f) = true)
    (h : wpAny (model prog w) A.in1.in1 (call (.ref f) [.ref x]) (fun r s₁ => ∃ n u, r = Value.str n u ∧ Q r s₁) E s) : wpAny (model prog w) A (call (.type "str") [.ref x]) Q E s := by
  refine callType_codes (T := "str") (Bi := Builtin.«object.__init__») (Q₁ := fun r s₁ => ∃ n u, r = Value.str n u ∧ Q r s₁) PySem.F.called_str (PySem.F.typeCall_str_1 _) PySem.F.entry_object_init ?_ ?_
  · refine codeAny_of_tree ?_
    show wpAny _ A.in1.in1 (do checkBuiltinCall "str.__new__" ⟨[.type "str", .ref x], []⟩; again (.builtin "str.__new__" ⟨[.type "str", .ref x], []⟩)) _ _ s
    refine wpAny_bind (wpAny_of_eq (PySem.F.newCall_str_1 _) (wpAny_pure ⟨plainId_quiet (by decide +kernel) _, codeAny_builtin PySem.F.entry_str_new ?_⟩))
    rw [Around.under_plainId (by decide +kernel) _]
    rw [str_new_tree]
    refine wpAny_bind (wpAny_pure ?_)
    refine wpAny_bind (wpAny_of_eq isSubtype_str_str ?_)
    refine wpAny_bind (strOf_ins hu X I hs hf (wpAny_mono h (fun r s₁ hr => ?_) fun _ _ y => y))
    obtain ⟨n, u, rfl, hq⟩ := hr
    exact ⟨n, u, rfl, wpAny_pure ⟨n, u, rfl, hq⟩⟩
  · rintro obj s₁ ⟨n, u, rfl, hq⟩
    exact ⟨typeIs_str _ _ _, PySem.F.args_object_init_2 _ _, object_init_meets PySem.F.called_str.init.lookup PySem.F.called_str.made (by decide) prog w A.in1 _ s₁ ⟨typeIs_str _ _ _, rfl, hq⟩⟩
end
end PySem
namespace Sm
open PySem L2
section
variable {X : Cx} {cl : Str → Option Addr} {W : Wsh} {fa C : Addr} {fd : FuncData} {ps : List Str} {k : Nat} {cn : Str} {mf : List MV → MH → Res MV}
def insOf (cn : Str) (x : MV) (h : MH) : Bool := match x with | .ref n => (match h[n]? with | some (.ins c _) => decide (c = cn) | _ => false) | _ => false
def isTx (x : MV) : Bool := match x with | .str _ => true | _ => false
/-- x == y, x an instance with its own == -/
def mEqI (cn : Str) (mf : List MV → MH → Res MV) (x y : MV) (h : MH) : Res MV := if insOf cn x h = true ∧ (isTx y = true ∨ insOf cn y h = true) then mf [x, y] h else .bad
theorem mEqI_noEx (ne : NoEx1 mf) : NoEx2 (mEqI cn mf) := fun x y h e h' z => by
  unfold mEqI at z
  split at z
  · exact ne _ _ _ _ z
  · cases z
theorem ins_ok {K : PySem.W.Frag} {mp : Mp} {h : MH} {H : Hp} {x : MV} {V : L2.V} (hC : cl cn = some C) (rl : Rl K cl mp h H) (r : RV K mp H x V) (e : insOf cn x h = true) : ∃ a dx fs, V = .ref a ∧ H a = some (.ins C dx fs) := by
  unfold insOf at e
  cases r with
  | @ref n a e1 =>
    dsimp only at e
    split at e
    · rename_i c' fs cc
      obtain ⟨C', dx, vs, h0, h1', q1⟩ := rl.obj n _ a cc e1
      have ec := of_decide_eq_true e
      rw [ec, hC] at h0
      have := Option.some.inj h0
      subst this
      exact ⟨a, dx, vs, rfl, h1'⟩
    · cases e
  | _ => cases e
theorem op_eqI (hC : cl cn = some C) (hm : Meth X.K C "__eq__" fa) (F : FnOk X.prog X.w X.K X.mg X.base CX0 k fa fd ps (spM X.K cl mf)) (ne : NoEx1 mf) (hr : Room k X.A) (hb : Binds X.K fd ps []) : OpR X (compareOp .Eq) (rM X.K cl (mEqI cn mf)) := by
  intro pins s σ H V Y v u Q I rx ry ⟨x, y, h, mp, rl, r1, r2, g⟩
  unfold mEqI at g
  split at g
  · rename_i hc
    obtain ⟨a, dx, fs, rfl, ha⟩ := ins_ok hC rl r1 hc.1
    cases (show v = Value.ref a from rx)
    obtain ⟨mA, J, _⟩ := ins_get I.hok ha
    obtain ⟨od, J, _⟩ := J.look
    obtain ⟨m, hF⟩ := I.fr
    have run : wpAny (model X.prog X.w) X.A (call (.ref fa) [.ref a, u]) (PySem.W.CmpBack (EP X pins σ Q)) X.xe s := by
      refine wpAny_mono (run_fn (us := [.ref a, u]) (vs := [.ref a, Y]) F hr hb .nil pass0 I (.cons rfl (.cons ry .nil)) ⟨[x, y], h, mp, rl, .cons r1 (.cons r2 .nil), toNever g (ne _ _)⟩) (fun r s' z => ?_) fun _ _ z => z
      obtain ⟨z', H', I', rz, qz⟩ := z
      exact SlX.cmpback rz ⟨z', H', I', rz, qz⟩
    rcases hc.2 with hy | hy
    · cases r2 with
      | str z =>
        obtain ⟨t, rfl⟩ := (show ∃ t, u = Value.str z t from ry)
        exact PySem.W.cmp_K (op := .Eq) (tb := .type "str") hr.units0 hF I.ok.mod.kin J (PySem.W.Looks.of_pure rfl) (by rfl) hm.at_ hm.fn run
      | _ => cases hy
    · obtain ⟨b, dy, gs, rfl, hb'⟩ := ins_ok hC rl r2 hy
      cases (show u = Value.ref b from ry)
      obtain ⟨mB, J', _⟩ := ins_get I.hok hb'
      obtain ⟨od', J', _⟩ := J'.look
      exact PySem.W.cmp_K (op := .Eq) (tb := .ref C) hr.units0 hF I.ok.mod.kin J J'.type (by simp [PySem.W.notFirst]) hm.at_ hm.fn run
  · exact False.elim g
theorem se_eqI {a b : Expr} {ma mb : ME} (hC : cl cn = some C) (hm : Meth X.K C "__eq__" fa) (F : FnOk X.prog X.w X.K X.mg X.base CX0 k fa fd ps (spM X.K cl mf)) (ne : NoEx1 mf) (hr : Room k X.A) (hb : Binds X.K fd ps []) (ha : SE X cl W a ma) (hb' : SE X cl W b mb) :
    SE X cl W (.Compare a [.Eq] [b] pos) (eBin (mEqI cn mf) ma mb) := se_cmp (op_eqI hC hm F ne hr hb) rM_ok (mEqI_noEx ne) ha hb' (nomark _)
theorem st_eqI {a b : Expr} {ma mb : ME} (hC : cl cn = some C) (hm : Meth X.K C "__eq__" fa) (F : FnOk X.prog X.w X.K X.mg X.base CX0 k fa fd ps (spM X.K cl mf)) (ne : NoEx1 mf) (hr : Room k X.A) (hb : Binds X.K fd ps []) (ha : SE X cl W a ma) (hb' : SE X cl W b mb) :
    ST X cl W (.Compare a [.Eq] [b] pos) (tOfE (eBin (mEqI cn mf) ma mb)) := st_cmp (op_eqI hC hm F ne hr hb) rM_ok (mEqI_noEx ne) ha hb' (nomark _)
/-- str(x), x an instance with its own __str__ -/
def mStrI (cn : Str) (mf : List MV → MH → Res MV) (xs : List MV) (h : MH) : Res MV := match xs with
  | [x] => if insOf cn x h = true then (match mf [x] h with | .ok (.str z) h' => .ok (.str z) h' | _ => .bad) else .bad
  | _ => .bad
theorem mStrI_noEx : NoEx1 (mStrI cn mf) := fun xs h e h' z => by
  unfold mStrI at z
  repeat' split at z
  all_goals cases z
theorem strI (hC : cl cn = some C) (hm : Meth X.K C "__str__" fa) (F : FnOk X.prog X.w X.K X.mg X.base CX0 k fa fd ps (spM X.K cl mf)) (hr : Room (k + 2) X.A) (hb : Binds X.K fd ps []) : CallR X (.type "str") (rMC X.K cl (mStrI cn mf)) := by
  intro pins s σ H Vs us Q I r ⟨xs, h, mp, rl, rv, g⟩
  unfold mStrI at g
  split at g
  · rename_i x
    split at g
    · rename_i hc
      obtain ⟨V, rfl, rx⟩ := rvs1 rv
      obtain ⟨a, dx, fs, rfl, ha⟩ := ins_ok hC rl rx hc
      obtain ⟨u, rfl, ru⟩ := vals1 r
      cases (show u = Value.ref a from ru)
      obtain ⟨mA, J, _⟩ := ins_get I.hok ha
      obtain ⟨od, J, _⟩ := J.look
      have hr1 : Room (k + 1) X.A.in1 := Room.in1 hr
      have hr2 : Room k X.A.in1.in1 := hr1.in1
      split at g
      · rename_i z h' em
        have sp : spM X.K cl mf [.ref a] H (fun v H' => ∃ z, v = .str z ∧ Q v H') E0 := ⟨[x], h, mp, rl, .cons rx .nil, by
          rw [em]
          intro V' H' mp' f1 rl1 rv1
          cases rv1
          exact ⟨_, rfl, g _ H' mp' f1 rl1 (.str _)⟩⟩
        refine PySem.str_ins hr2.units0 I.kIn J hm.at_ hm.fn ?_
        have hl : ([.ref a] : List Value).length = ps.length := by have := F.len _ _ _ _ sp; simpa using this
        refine wpAny_call (codeAny_mono (F.run X.A.in1.in1 X.stack s H ⟨[.ref a], []⟩ [.ref a] [.ref a] _ E0 hr2 I.env0.in1.in1 (by simpa using hb s [.ref a] I.kIn (by simpa using hl)) (.cons rfl .nil) sp) fun r s' hq => ?_)
        cases r with
        | error e => exact pass0 pins σ H s e s' I hq
        | ok fl =>
          cases fl with
          | ret w =>
            obtain ⟨z', H', I', rz, i, ei, qz⟩ := I.after hq
            subst ei
            obtain ⟨t, e⟩ := (show ∃ t, w = Value.str i t from rz)
            cases e
            exact ⟨i, t, rfl, .str i, H', I', ⟨t, rfl⟩, qz⟩
          | next => exact False.elim hq
          | brk => exact False.elim hq
          | cont => exact False.elim hq
      · exact False.elim g
    · exact False.elim g
  · exact False.elim g
theorem me_of {K : PySem.W.Frag} {C : Addr} : PySem.W.kitOne K (.ref C) (.ref C) = some true := by
  unfold PySem.W.kitOne
  rw [if_pos (by simp)]
theorem ks_of {K : PySem.W.Frag} {C : Addr} (ic : PySem.W.isClsIn K C = true) (ty : PySem.W.typeIn K (.ref C) = some (.type "type")) : PySem.W.kitOne K (.type "str") (.ref C) = some false := by
  unfold PySem.W.kitOne
  rw [if_neg (show ¬ ((Value.type "str" == Value.ref C) = true) from fun z => by cases z)]
  show (if _ then _ else _) = _
  rw [if_pos (by rw [Bool.and_eq_true]; exact ⟨ic, by rw [ty]; rfl⟩)]
  rfl
/-- isinstance(x, C), C an own class -/
def mIsC (cn : Str) (x : MV) (h : MH) : Res MV := if insOf cn x h = true then .ok (.bl true) h else if isTx x = true then .ok (.bl false) h else .bad
theorem se_isC {e : Expr} {m : ME} {x : Str} {p pT : Pos} (hC : cl cn = some C) (ic : C8.InsC X.K C) (ks : PySem.W.kitOne X.K (.type "str") (.ref C) = some false) (hg : Gl X "isinstance") (hm : X.mg "isinstance" = none) (he : SE X cl W e m) (ht : PE X (.Name x pT) (tC (.ref C)))
    (hs : starEach [e, .Name x pT] X.env = (false, eval e X.env) :: starEach [.Name x pT] X.env := by rfl) (hs2 : starEach [.Name x pT] X.env = [(false, eval (.Name x pT) X.env)] := by rfl) (hpl : (backTo pos (starEach [.Name x pT] X.env)).any (·.1) = false := by rfl) :
    SE X cl W (.Call (.Name "isinstance" p) [e, .Name x pT] [] pos) (eUn (mIsC cn) m) :=
  peW (pe_callB call_isi hg hm (by decide +kernel) (pa_cons he (pa_cons ht pa_nil hs2) hs) (hn := by decide) (hdb := by decide) (he := hs) (hpl := hpl)) fun σ H Q ⟨ρ, h, mp, rl, rs, g⟩ =>
    tM_bind rl rs g (fun _ _ z => z) fun x h1 V H1 mp1 f1 rl1 rs1 rv1 g1 => by
      unfold mIsC at g1
      split at g1
      · rename_i hc
        obtain ⟨a, dx, fs, rfl, ha⟩ := ins_ok hC rl1 rv1 hc
        exact ⟨.ref a, _, .ref C, .ref C, _, rfl, .own C, .base (.ins ha ic.cl ic.ha ic.hn ic.htk ic.hm), ic.me, g1 _ H1 mp1 f1 rl1 (.bl _)⟩
      · split at g1
        · rename_i hc
          cases rv1 with
          | str z => exact ⟨.str z, _, .type "str", .ref C, _, rfl, .own C, .base (.str z), ks, g1 _ H1 mp1 f1 rl1 (.bl _)⟩
          | _ => cases hc
        · exact False.elim g1
end
end Sm

set_option Elab.async false
set_option linter.all false
set_option maxRecDepth 100000
set_option maxHeartbeats 4000000
/-! exceptions with four fields: made, raised, let out of a def -/
namespace Sm
open PySem L2 PyProof.Rows PySem.Spec
/-- a class without own __init__ whose base's is called by its name -/
structure ExB (K : PySem.W.Frag) (mg : Str → Option Value) (x : Str) where
  C : Addr
  m : mg x = some (.ref C)
  sg : PySem.W.specialIn K (.ref C) "__getattribute__" = some (some (.builtin "type.__getattribute__"))
  rd : PySem.W.readsIn K C (.type "type") = true
  fi : PySem.W.findCls K (.ref C) (.type "type") "__init__" = some (.val (.builtin "ValueError.__init__"))
section
variable {X : Cx} {e : Expr} {es : List Expr} {ta : TA} {p1 p2 pos : Pos} {x : Str}
theorem pe_binit {pl : Sem Bool} (B : ExB X.K X.mg x) (hg : Gl X x) (ha : PA X (e :: es) ta) (hdb : (x == ("__debug__" : Str)) = false := by decide)
    (hc : eval (.Call (.Attribute (.Name x p1) "__init__" p2) (e :: es) [] pos) X.env = (do
      let cv ← eval (.Name x p1) X.env
      standAt p2.atName
      let (g, ahead) ← holding [cv] (getMethod cv "__init__" pl)
      callWith pos g ahead (backTo pos (starEach (e :: es) X.env)) (backToKw pos (keywordEach [] X.env))) := by rfl)
    (he : starEach (e :: es) X.env = (false, eval e X.env) :: starEach es X.env := by rfl) (hpl : (backTo pos (starEach es X.env)).any (·.1) = false := by rfl) :
    PE X (.Call (.Attribute (.Name x p1) "__init__" p2) (e :: es) [] pos) (tVeI X.K ta) := by
  refine ⟨fun pins s σ H Q I h => ?_⟩
  refine PySem.W.methodCall_KW (ld_glob I hg B.m ?_ hdb) hc
  refine PySem.W.method_cls I.kIn B.sg (PySem.W.cls_value I.kIn B.rd B.fi (by decide +kernel) ?_)
  show wpAny _ _ (callWith pos (Value.builtin "ValueError.__init__") ([] : List Value) (backTo pos (starEach (e :: es) X.env)) []) _ _ _
  refine PyProof.Rows.callWith_method1 (thn (ha.run pos pins _ σ H _ (I.tok _) h) fun us s1 q => ?_) he hpl
  obtain ⟨vs, H1, I1, r1, a, C, ws, ev, hl, T, ea, q⟩ := q
  subst ev
  cases r1 with
  | @cons _ u0 _ ur ra rb =>
    obtain rfl : u0 = Value.ref a := ra
    have hz : ur.length ≤ sizeLine := by
      have := Paired.length rb
      rw [sizeLine_eq]
      omega
    exact oinit_ok T I1 ea hz fun s' J => ⟨.non, H1, J, rfl, q⟩
end
/-- an exception with four fields: page, row, column, why -/
def xfs (p : Str) (r c : Int) (y : Str) : List (Str × L2.V) := [("why", .str y), ("column", .int c), ("row", .int r), ("page", .str p)]
abbrev xOk (p : Str) (r c : Int) (y : Str) : Prop := p.length ≤ 1000 ∧ y.length ≤ 1000 ∧ r.natAbs.log2 < 1920 ∧ c.natAbs.log2 < 1920
/-- what its __init__ promises -/
def spFI (C : Addr) : Sp := fun vs H Q _ => ∃ (a : Addr) (p : Str) (r c : Int) (y : Str), vs = [.ref a, .str p, .int r, .int c, .str y] ∧ H a = some (exo a C none) ∧ xOk p r c y ∧
  ∀ dx H', H dx = none → dx ≠ a → H' a = some (exo a C (some dx)) → H' dx = some (exd dx (xfs p r c y)) → (∀ b, b ≠ a → b ≠ dx → H' b = H b) → Q .non H'
def rAS : R2 := fun x y H Q => ∃ i j, x = .str i ∧ y = .str j ∧ i.length + j.length ≤ sizeLine ∧ Q (.str (i ++ j)) H
def rSI : List L2.V → Hp → VK → Prop := fun xs H Q => ∃ i : Int, xs = [.int i] ∧ i.natAbs.log2 < 1920 ∧ Q (.str (toString i)) H
/-- the reading of the four stores behind the text -/
def tFI (K : PySem.W.Frag) : TS :=
  tSeq (tDrop (tVeI K (tCons (tVar 0) (tCons (tOp rAS (tOp rAS (tOp rAS (tOp rAS (tOp rAS (tOp rAS (tVar 1) (tC (.str " "))) (tCB rSI (tCons (tVar 2) tNil))) (tC (.str ":"))) (tCB rSI (tCons (tVar 3) tNil))) (tC (.str ": "))) (tVar 4)) tNil))))
    (tSeq (tOst K "page" (tVar 0) (tVar 1)) (tSeq (tOst K "row" (tVar 0) (tVar 2)) (tSeq (tOst K "column" (tVar 0) (tVar 3)) (tOst K "why" (tVar 0) (tVar 4)))))
theorem read_FI {K : PySem.W.Frag} {C : Addr} (ox : OexC K C) (n1 : PySem.W.findIn K (.ref C) "page" = some none) (n2 : PySem.W.findIn K (.ref C) "row" = some none) (n3 : PySem.W.findIn K (.ref C) "column" = some none) (n4 : PySem.W.findIn K (.ref C) "why" = some none)
    {N : List Str} (hN : N.length = 5) {vs : List L2.V} {H : Hp} {Q : VK} {E : XK} (h : spFI C vs H Q E) : tFI K { nx := fun _ H' => Q .non H', rt := Q } (L2.start N vs) H := by
  obtain ⟨a, p, r, c, y, rfl, ha, ⟨b1, b2, b3, b4⟩, q⟩ := h
  have es : L2.start N [.ref a, .str p, .int r, .int c, .str y] = [some (.ref a), some (.str p), some (.int r), some (.int c), some (.str y)] := by
    unfold L2.start; rw [hN]; rfl
  rw [es]
  have t1 := PyProof.Rows.int_text_len_1921 b3
  have t2 := PyProof.Rows.int_text_len_1921 b4
  have l1 : Str.length " " = 1 := rfl
  have l2 : Str.length ":" = 1 := rfl
  have l3 : Str.length ": " = 2 := rfl
  have la : ∀ a b : Str, (a ++ b).length = a.length + b.length := Str.length_append
  have z : sizeLine = 16777216 := sizeLine_eq
  have la0 : ∀ a b : Str, (a ++ b).length = a.length + b.length := la
  refine ⟨_, rfl, _, rfl, _, _, rfl, rfl, by rw [z]; omega, _, rfl, _, rfl, b3, _, _, rfl, rfl, by rw [z]; simp only [la]; omega, _, _, rfl, rfl, by rw [z]; simp only [la]; omega, _, rfl, _, rfl, b4, _, _, rfl, rfl, by rw [z]; simp only [la]; omega, _, _, rfl, rfl, by rw [z]; simp only [la]; omega, _, rfl, _, _, rfl, rfl, by rw [z]; simp only [la]; omega, a, C, _, rfl, by simp, ox, ha, ?_⟩
  refine ⟨_, rfl, _, rfl, a, C, rfl, ox, n1, .inl ⟨ha, fun dx hd ne => ?_⟩⟩
  refine ⟨_, rfl, _, rfl, a, C, rfl, ox, n2, .inr ⟨dx, _, upd_same, (upd_ne ne).trans upd_same, by simp, ?_⟩⟩
  refine ⟨_, rfl, _, rfl, a, C, rfl, ox, n3, .inr ⟨dx, _, (upd_ne ne.symm).trans upd_same, upd_same, by simp, ?_⟩⟩
  refine ⟨_, rfl, _, rfl, a, C, rfl, ox, n4, .inr ⟨dx, _, (upd_ne ne.symm).trans ((upd_ne ne.symm).trans upd_same), upd_same, by simp, ?_⟩⟩
  exact q dx _ hd ne ((upd_ne ne.symm).trans ((upd_ne ne.symm).trans ((upd_ne ne.symm).trans upd_same))) upd_same fun b h1 h2 => by rw [upd_ne h2, upd_ne h2, upd_ne h2, upd_ne h1, upd_ne h2]
/-- raise k(page, row, column, why) -/
def xns : List Str := ["why", "column", "row", "page"]
def raise4 (k : Str) (xs : List MV) (ρ : MS) (h : MH) : SRes := match xs with
  | [.str p, .int r, .int c, .str y] => if xOk p r c y then .ex (.exn k xns [.str y, .int c, .int r, .str p]) ρ h else .bad
  | _ => .bad
def sRaise4 (k : Str) (ms : MA) : MSt := fun ρ h => (ms ρ h).st ρ fun xs h1 => raise4 k xs ρ h1
section
variable {X : Cx} {cl : Str → Option Addr} {W : Wsh} {e : Expr} {es : List Expr} {ms : MA} {p pos pos2 : Pos} {x : Str} {C fI : Addr} {k : Nat} {fd : FuncData} {ps : List Str}
theorem ss_raise4 (hc : X.calm = true) (tk : Takes X W) (hcl : cl x = some C) (ox : OexC X.K C) (iC : PySem.W.findIn X.K (.ref C) "__init__" = some (some (.ref fI))) (tI : PySem.W.typeIn X.K (.ref fI) = some (.type "function")) (F : FnOk X.prog X.w X.K X.mg X.base CX0 k fI fd ps (spFI C)) (hr : Room (k + 1) X.A)
    (hb : Binds X.K fd ps []) (hg : Gl X x) (hm : X.mg x = some (.ref C)) (ha : SA X cl W (e :: es) ms) (hdb : (x == ("__debug__" : Str)) = false := by decide) (he : starEach (e :: es) X.env = (false, eval e X.env) :: starEach es X.env := by rfl) (hpl : (backTo pos (starEach es X.env)).any (·.1) = false := by rfl) :
    SS X cl W (.Raise (some (.Call (.Name x p) (e :: es) [] pos)) none pos2) (sRaise4 x ms) :=
  psW (ps_raise hc tk (pmk_oex (dvs := []) ox iC tI F hr hb .nil pass0 hg hm ha hdb he hpl)) fun D σ H ⟨ρ, h, mp, rl, rs, g⟩ =>
    ⟨ρ, h, mp, rl, rs, (SGood.st.mp g).mono (fun xs h1 g1 Vs H1 mp1 f1 rl1 rv1 => by
      unfold raise4 at g1
      split at g1
      · rename_i P R Cc Y
        split at g1
        · rename_i ok
          cases rv1 with
          | cons r1 rv1 => cases r1; cases rv1 with
            | cons r2 rv1 => cases r2; cases rv1 with
              | cons r3 rv1 => cases r3; cases rv1 with
                | cons r4 rv1 =>
                  cases r4; cases rv1
                  refine ⟨by simp, fun a na => ⟨a, P, R, Cc, Y, rfl, upd_same, ok, fun dx H' hd ne ea ed oth => ⟨rfl, dx, xfs P R Cc Y, ea, ed, ?_, ?_⟩⟩⟩
                  · rw [upd_ne ne] at hd; exact hd
                  · have nd : H1 dx = none := by rw [upd_ne ne] at hd; exact hd
                    have eH : upd (del H' a) dx (.xd (xfs P R Cc Y)) = upd H1 dx (.xd (xfs P R Cc Y)) := by
                      funext b
                      by_cases hb1 : b = dx
                      · rw [hb1, upd_same, upd_same]
                      · rw [upd_ne hb1, upd_ne hb1]
                        by_cases hb2 : b = a
                        · rw [hb2, del_same, na]
                        · rw [del_ne hb2, oth b hb2 hb1, upd_ne hb2]
                    rw [eH]
                    exact g1 _ _ σ _ mp1 (f1.trans (Fut.new nd)) (rl1.new nd) (rs.fut (f1.trans (Fut.new nd))) ⟨x, xns, _, C, rfl, hcl, rfl, .inr ⟨dx, xfs P R Cc Y, rfl, upd_same, rfl, .cons (.str _) (.cons (.int _) (.cons (.int _) (.cons (.str _) .nil)))⟩⟩
        · exact False.elim g1
      · exact False.elim g1) fun e h' q => QX.ew rs q⟩
end
/-! ### a def that lets exceptions out -/
def EXk (K : PySem.W.Frag) (cl : Str → Option Addr) (mp : Mp) (H : Hp) (E : XK) : MV → MH → Prop := fun e h' => ∀ c d H' mp', Fut K mp mp' H H' → Rl K cl mp' h' H' → RX K cl mp' H' e c d → E c d H'
def spX (K : PySem.W.Frag) (cl : Str → Option Addr) (mf : List MV → MH → Res MV) : Sp := fun vs H Q E => ∃ xs h mp, Rl K cl mp h H ∧ RVs K mp H xs vs ∧ Good (mf xs h) (QV K cl mp H Q) (EXk K cl mp H E)
noncomputable def mfunX (np n : Nat) (body : MSt) : List MV → MH → Res MV := fun args h => if args.length = np then (match body (args.map some ++ List.replicate (n - np) none) h with
  | .rt v h' => .ok v (gc h v h')
  | .nx _ h' => .ok .non (gc h .non h')
  | .ex e _ h' => .ex e h'
  | _ => .bad) else .bad
abbrev WEx (E : XK) : Wsh := fun c d _ H => E c d H
section
variable {P : Program} {w : World} {K : PySem.W.Frag} {mg : Str → Option Value} {base : Heap} {cl : Str → Option Addr}
theorem funX_read {N ps : List Str} {mb : MSt} {vs : List L2.V} {H : Hp} {Q : VK} {E : XK} (h : spX K cl (mfunX ps.length N.length mb) vs H Q E) : tMS K cl (WEx E) mb { nx := fun _ H' => Q .non H', rt := Q } (L2.start N vs) H := by
  obtain ⟨xs, h, mp, rl, rv, g⟩ := h
  unfold mfunX at g
  split at g
  · rename_i hl
    refine ⟨xs.map some ++ List.replicate (N.length - ps.length) none, h, mp, rl, ?_, ?_⟩
    · unfold L2.start
      rw [← hl, rv.length]
      exact rs_start rv _
    · cases e : mb (xs.map some ++ List.replicate (N.length - ps.length) none) h with
      | rt v h' =>
        rw [e] at g
        exact fun V H' mp' f rl' rv' => by
          obtain ⟨mp2, f2, rl2, rv2⟩ := gc_ok rl f rl' rv'
          exact g V H' mp2 f2 rl2 rv2
      | nx ρ h' =>
        rw [e] at g
        exact fun σ' H' mp' f rl' rs' => by
          obtain ⟨mp2, f2, rl2, rv2⟩ := gc_ok (v := .non) rl f rl' .non
          exact g _ H' mp2 f2 rl2 rv2
      | ex v ρ h' => rw [e] at g; exact fun c d σ' H' mp' f rl' rs' rx => g c d H' mp' f rl' rx
      | bk ρ h' => rw [e] at g; exact False.elim g
      | ct ρ h' => rw [e] at g; exact False.elim g
      | bad => rw [e] at g; exact False.elim g
  · exact False.elim g
theorem spX_len {np n : Nat} {mb : MSt} {vs : List L2.V} {H : Hp} {Q : VK} {E : XK} (h : spX K cl (mfunX np n mb) vs H Q E) : vs.length = np := by
  obtain ⟨xs, h, mp, rl, rv, g⟩ := h
  unfold mfunX at g
  split at g
  · rename_i hl
    rw [← rv.length]; exact hl
  · exact False.elim g
theorem fnX {x qual : Str} {st : Stmt} {f : Addr} {fd : FuncData} {N ps : List Str} {k : Nat} {mb : MSt} (F : L2.Fun K x qual st f fd) (S : FnScope N ps (defScope st))
    (hb : ∀ (cdv : Value) (A : Around) (outer : List Env) (s : Shared) (H : Hp) (E : XK), Room k (A.deeper (envOfC qual (defScope st) s.heap.objs.size f cdv)) →
      PassesOwn (model P w) (cxOf (L2.CX P w) P w K mg base N qual (defScope st) f cdv A outer s H E).A (cxOf (L2.CX P w) P w K mg base N qual (defScope st) f cdv A outer s H E).env (cxOf (L2.CX P w) P w K mg base N qual (defScope st) f cdv A outer s H E).xe →
      Takes (cxOf (L2.CX P w) P w K mg base N qual (defScope st) f cdv A outer s H E) (WEx E) → SSs (cxOf (L2.CX P w) P w K mg base N qual (defScope st) f cdv A outer s H E) cl (WEx E) (defBody st) mb) :
    FnOk P w K mg base (L2.CX P w) (k + 1) f fd ps (spX K cl (mfunX ps.length N.length mb)) :=
  F.okX S (fun vs H Q E h => spX_len h) fun cdv A outer s H vs Q E hr h => ⟨_, hb cdv A outer s H E hr (passes_of rfl) (takes_of rfl rfl rfl rfl), funX_read h⟩
end
section
variable {X : Cx} {cl : Str → Option Addr} {W : Wsh} {e : Expr} {es : List Expr} {ms : MA} {p pos : Pos} {x : Str} {fa : Addr} {k : Nat} {fd : FuncData} {ps : List Str} {mf : List MV → MH → Res MV}
/-- f(e, ..), what it lets out is wished for here -/
theorem tCallX_of : ∀ σ H Q, tM X.K cl W (eCallD mf [] ms) σ H Q → tCallS (spX X.K cl mf) (L2.WE W) (tMA X.K cl W ms) σ H Q := fun σ H Q ⟨ρ, h, mp, rl, rs, g⟩ =>
  tMA_bind rl rs g (fun _ _ z => z) fun xs h1 V H1 mp1 f1 rl1 rs1 rv1 g1 => ⟨xs ++ [], h1, mp1, rl1, by rw [List.append_nil]; exact rv1, g1.mono (fun v h' q => q.fut f1) fun e h' q => q.fut f1⟩
theorem se_callX (tk : Takes X W) (F : FnOk X.prog X.w X.K X.mg X.base (L2.CX X.prog X.w) k fa fd ps (spX X.K cl mf)) (hr : Room k X.A) (hg : Gl X x) (hm : X.mg x = some (.ref fa)) (hk : PySem.W.keepIn X.K (.ref fa) = true) (hb : Binds X.K fd ps []) (ha : SA X cl W (e :: es) ms)
    (hdb : (x == ("__debug__" : Str)) = false := by decide) (he : starEach (e :: es) X.env = (false, eval e X.env) :: starEach es X.env := by rfl) (hpl : (backTo pos (starEach es X.env)).any (·.1) = false := by rfl) :
    SE X cl W (.Call (.Name x p) (e :: es) [] pos) (eCallD mf [] ms) := peW (pe_callS F hr hg hm hk hb (fun σ => passAt tk σ) ha hdb he hpl) tCallX_of
end
/-! ### try .. except k as n: a suite that reads the four fields -/
def clr (i : Nat) (r : SRes) : SRes := match r with
  | .nx ρ h => .nx (ρ.set i none) h | .rt v h => .rt v h | .bk ρ h => .bk (ρ.set i none) h | .ct ρ h => .ct (ρ.set i none) h | _ => .bad
def caught4 (ks : List Str) (i : Nat) (mx : List MV → MSt) (e : MV) (ρ : MS) (h : MH) : SRes := match e with
  | .exn k ns vs => if k ∈ ks ∧ ns = xns ∧ i < ρ.length then clr i (mx vs (ρ.set i none) h) else .bad
  | _ => .bad
def sTry4 (ks : List Str) (i : Nat) (mb : MSt) (mx : List MV → MSt) : MSt := fun ρ h => match mb ρ h with
  | .ex e ρ' h' => caught4 ks i mx e ρ' h'
  | r => r
theorem RS.none {K : PySem.W.Frag} {mp : Mp} {H : Hp} {ρ : MS} {σ : L2.St} {i : Nat} {v : Option L2.V} (r : RS K mp H ρ σ) : RS K mp H (ρ.set i none) (σ.set i v) := ⟨by simp [r.len], fun j y e => by
  by_cases hj : j = i
  · subst hj
    by_cases hl : j < ρ.length
    · rw [List.getElem?_set_self hl] at e; cases e
    · rw [List.getElem?_eq_none (by simp; omega)] at e; cases e
  · rw [List.getElem?_set_ne (Ne.symm hj)] at e
    obtain ⟨w, h1, h2⟩ := r.at_ j y e
    exact ⟨w, by rw [List.getElem?_set_ne (Ne.symm hj)]; exact h1, h2⟩⟩
/-- an exception's four worths, as they stand -/
def Xv (K : PySem.W.Frag) (mp : Mp) (H : Hp) (dd : Addr) (vs : List MV) : Prop := ∃ fs, H dd = some (.xd fs) ∧ fs.map (·.1) = xns ∧ RVs K mp H vs (fs.map (·.2))
/-- how a suite is read -/
def SuiteOk (K : PySem.W.Frag) (cl : Str → Option Addr) (ks : List Str) (i : Nat) (mx : List MV → MSt) (ts : Addr → Value → Option Addr → TS) : Prop :=
  ∀ (k : Str) (C a dd : Addr) (vs : List MV) (D : Ends) (σ : L2.St) (H : Hp) (ρ : MS) (h : MH) (mp : Mp), k ∈ ks → cl k = some C → Xv K mp H dd vs → Rl K cl mp h H → RS K mp H ρ σ → i < σ.length → SGood (mx vs (ρ.set i none) h) (wD K cl mp H W0 D) → ts a (.ref C) (some dd) D (σ.set i (some (.ref a))) H
section
variable {X : Cx} {cl : Str → Option Addr} {x n : Str} {c : Value} {i : Nat} {body suite : List Stmt} {b₀ : Stmt} {np pos pos' : Pos} {mb : MSt} {mx : List MV → MSt} {ks : List Str} {ts : Addr → Value → Option Addr → TS}
theorem ss_try4 (hs : X.stack = X.env :: X.outer) (hf : X.env.frame = some X.env.locals) (hN : X.N.Nodup) (hi : X.N[i]? = some n) (hln : X.env.kindOf n = some .local) (hc : Names X x c) (hk : ∀ k, k ∈ ks → ∀ C, cl k = some C → PySem.W.exmOne X.K (.ref C) c = some true)
    (hb : ∀ (W : WX) (pn : List (Addr × Obj)) (xe : Value → Shared → Prop), Takes (X.tr pn xe) W → SSs (X.tr pn xe) cl W body mb)
    (hsu : ∀ (a : Addr) (oe : Obj) (cls : Value) (d : Option Addr) (pn : List (Addr × Obj)), Zc cls d oe → (∃ vs, oe.data = .fields vs) → PSs (X.suite a ((a, oe) :: pn)) (b₀ :: suite) (ts a cls d)) (hr : SuiteOk X.K cl ks i mx ts) :
    SS X cl W0 (.Try body [.ExceptHandler (some (.Name x np)) (some n) (b₀ :: suite) pos'] [] [] pos) (sTry4 ks i mb mx) :=
  psW (ps_try_as (tb := fun W => tMS X.K cl W mb) hs hf hN hi hln hc takes0 (fun W pn xe tk _ => hb W pn xe tk) hsu) fun D σ H ⟨ρ, h, mp, rl, rs, g⟩ => by
    refine ⟨ρ, h, mp, rl, rs, ?_⟩
    unfold sTry4 at g
    cases e : mb ρ h with
    | nx ρ' h' => rw [e] at g; exact g
    | rt v h' => rw [e] at g; exact g
    | bk ρ' h' => rw [e] at g; exact g
    | ct ρ' h' => rw [e] at g; exact g
    | bad => rw [e] at g; exact g.elim
    | ex v ρ' h' =>
      rw [e] at g
      intro c0 d σ' H' mp' f rl' rs' rx
      dsimp only at g
      unfold caught4 at g
      obtain ⟨k, ns, vs, C, rfl, hC, rfl, rx⟩ := rx
      dsimp only at g
      split at g
      · rename_i hk'
        obtain ⟨hk1, rfl, hl0⟩ := hk'
        rcases rx with ⟨z, _⟩ | ⟨dd, fs, rfl, hdd, hfs, rfs⟩
        · cases z
        · refine ⟨true, hk k hk1 C hC, fun _ a na => ?_, fun z => by cases z⟩
          have hl : i < σ'.length := by rw [← rs'.len]; exact hl0
          · refine hr k C a dd vs _ σ' H' ρ' h' mp' hk1 hC ⟨fs, hdd, hfs, rfs⟩ rl' rs' hl ?_
            unfold clr at g
            cases e2 : mx vs (ρ'.set i Option.none) h' with
            | nx ρ2 h2 => rw [e2] at g; exact fun σ2 H2 mp2 f2 rl2 rs2 => g (σ2.set i Option.none) H2 mp2 (f.trans f2) rl2 rs2.none
            | rt v2 h2 => rw [e2] at g; exact fun V2 H2 mp2 f2 rl2 rv2 => g V2 H2 mp2 (f.trans f2) rl2 rv2
            | bk ρ2 h2 => rw [e2] at g; exact fun σ2 H2 mp2 f2 rl2 rs2 => g (σ2.set i Option.none) H2 mp2 (f.trans f2) rl2 rs2.none
            | ct ρ2 h2 => rw [e2] at g; exact fun σ2 H2 mp2 f2 rl2 rs2 => g (σ2.set i Option.none) H2 mp2 (f.trans f2) rl2 rs2.none
            | ex v2 ρ2 h2 => rw [e2] at g; exact g.elim
            | bad => rw [e2] at g; exact g.elim
      · exact g.elim
end
end Sm

set_option Elab.async false
set_option linter.all false
set_option maxRecDepth 100000
set_option maxHeartbeats 4000000
/-! the suites that read the four fields of what was caught -/
namespace Sm
open PySem L2 PyProof.Rows PySem.Spec
/-- isinstance(e, C), C just the class -/
theorem isi_same {x t : Value} {L : Heap → Prop} (LT : ∀ (M : Model) (h : Heap), L h → PySem.W.Looks M h (typeOf x) t) : Answers (fun s => L s.heap) x t true := by
  intro dep tk prog w A R s hs
  obtain ⟨h0, g, d, tt, os⟩ := s
  obtain ⟨p, hq⟩ := hs
  unfold Builtin.«isinstance.nested»
  refine wpAny_bind ((LT (model prog w) h0 p).at ?_)
  rw [if_pos (by simp)]
  first
    | exact hq tt
    | exact wpAny_bind (wpAny_rule (hq tt))
    | exact wpAny_bind (wpAny_rule (wpAny_pure (hq tt)))
def rIsX (cls : Value) (C a : Addr) : List L2.V → Hp → VK → Prop := fun xs H Q => xs = [.ref a, .ref C] ∧ cls = .ref C ∧ Q (.bl true) H
theorem call_isX {X : Cx} {a C : Addr} {oe : Obj} {cls : Value} {d : Option Addr} {pn : List (Addr × Obj)} (hz : Zc cls d oe) : CallR (X.suite a ((a, oe) :: pn)) (.builtin "isinstance") (rIsX cls C a) := by
  intro pins s σ H xs us Q I r h
  obtain ⟨rfl, rfl, q⟩ := h
  obtain ⟨u1, u2, rfl, r1, r2⟩ := vals2 r
  cases (show u1 = Value.ref a from r1)
  cases (show u2 = Value.ref C from r2)
  obtain ⟨ha, _⟩ := I.pin (a, oe) (List.mem_append_left _ List.mem_cons_self)
  have LT : ∀ (M : Model) (h : Heap), h.get? a = some oe → PySem.W.Looks M h (typeOf (.ref a)) (.ref C) := fun M h e => hz.1 ▸ (PySem.W.Looks.ld e).andThen .now
  exact PySem.call_isinstance (S := fun _ R s => s.heap.get? a = some oe ∧ ∀ tk, R (.ok (.ret (.bool true))) { s with toks := tk })
    (fun prog w A R s hs => isinstance_outer (isi_same (L := fun h => h.get? a = some oe) LT 0 _ prog w A R s hs) (by intro e; cases e)) ⟨ha, fun tk => ⟨.bl true, H, I.tok tk, rfl, q⟩⟩
/-! ### v = (e.page, e.row, e.column, e.why) -/
def mxA (j : Nat) (vs : List MV) : MSt := fun ρ h => match vs with | [y, c, r, p] => .nx (ρ.set j (some (.tup [p, r, c, y]))) h | _ => .bad
def tsA (C : Addr) (i j : Nat) (a : Addr) (cls : Value) (d : Option Addr) : TS := tAsg (tTup (tCons (tXf a cls d C "page" (tVar i)) (tCons (tXf a cls d C "row" (tVar i)) (tCons (tXf a cls d C "column" (tVar i)) (tCons (tXf a cls d C "why" (tVar i)) tNil))))) (gName j)
section
variable {K : PySem.W.Frag} {cl : Str → Option Addr} {mp : Mp} {H : Hp}
theorem xv4 {dd : Addr} {y c r p : MV} (x : Xv K mp H dd [y, c, r, p]) : ∃ Y Cc R P, H dd = some (.xd [("why", Y), ("column", Cc), ("row", R), ("page", P)]) ∧ RV K mp H y Y ∧ RV K mp H c Cc ∧ RV K mp H r R ∧ RV K mp H p P := by
  obtain ⟨fs, h1, h2, h3⟩ := x
  match fs, h2, h3 with
  | [(k1, Y), (k2, Cc), (k3, R), (k4, P)], h2, h3 =>
    simp only [xns, List.map_cons, List.map_nil, List.cons.injEq, and_true] at h2
    obtain ⟨rfl, rfl, rfl, rfl⟩ := h2
    cases h3 with
    | cons r1 h3 => cases h3 with
      | cons r2 h3 => cases h3 with
        | cons r3 h3 => cases h3 with
          | cons r4 h3 => exact ⟨Y, Cc, R, P, h1, r1, r2, r3, r4⟩
theorem nq : ((("column" : Str) == "why") = false) ∧ ((("row" : Str) == "why") = false) ∧ ((("row" : Str) == "column") = false) ∧ ((("page" : Str) == "why") = false) ∧ ((("page" : Str) == "column") = false) ∧ ((("page" : Str) == "row") = false) := by decide +kernel
theorem lk_y {Y Cc R P : L2.V} : List.lookup ("why" : Str) [(("why" : Str), Y), ("column", Cc), ("row", R), ("page", P)] = some Y := by simp [List.lookup]
theorem lk_c {Y Cc R P : L2.V} : List.lookup ("column" : Str) [(("why" : Str), Y), ("column", Cc), ("row", R), ("page", P)] = some Cc := by simp [List.lookup, nq]
theorem lk_r {Y Cc R P : L2.V} : List.lookup ("row" : Str) [(("why" : Str), Y), ("column", Cc), ("row", R), ("page", P)] = some R := by simp [List.lookup, nq]
theorem lk_p {Y Cc R P : L2.V} : List.lookup ("page" : Str) [(("why" : Str), Y), ("column", Cc), ("row", R), ("page", P)] = some P := by simp [List.lookup, nq]
theorem suiteA {k : Str} {C : Addr} {i j : Nat} (hcl : cl k = some C) (hij : j ≠ i) : SuiteOk K cl [k] i (mxA j) (tsA C i j) := by
  intro k' C' a dd vs D σ H ρ h mp hk hC xv rl rs hl g
  rw [List.mem_singleton] at hk
  subst hk
  rw [hcl] at hC
  cases hC
  unfold mxA at g
  split at g
  · rename_i y c r p
    obtain ⟨Y, Cc, R, P, hd, ry, rc, rr, rp⟩ := xv4 xv
    have e1 : (σ.set i (some (L2.V.ref a)))[i]? = some (some (.ref a)) := List.getElem?_set_self hl
    refine ⟨_, e1, rfl, rfl, dd, _, P, rfl, hd, lk_p, _, e1, rfl, rfl, dd, _, R, rfl, hd, lk_r, _, e1, rfl, rfl, dd, _, Cc, rfl, hd, lk_c, _, e1, rfl, rfl, dd, _, Y, rfl, hd, lk_y, by show 4 ≤ sizeLine; decide, fun q hq => ?_⟩
    have f := Fut.new (K := K) (mp := mp) (o := .tup [P, R, Cc, Y]) hq
    exact g _ _ mp f (rl.new hq) ((RS.none rs).fut f |>.set (.tup (SqT.of upd_same) (.cons (rp.fut f) (.cons (rr.fut f) (.cons (rc.fut f) (.cons (ry.fut f) .nil))))))
  · exact g.elim
end
/-! ### l.append(isinstance(e, C) and (e.row, e.column, e.why, e.page) == what is due) -/
def mxB (j : Nat) (mR : ME) (vs : List MV) : MSt := fun ρ h => match vs, ρ[j]? with
  | [y, c, r, p], some (some L) => if tyOk "list" L h = true then (mR ρ h).st ρ fun R h1 => (mEq (.tup [r, c, y, p]) R h1).st ρ fun b h2 => (mAppend L [b] h2).st ρ fun _ h3 => .nx ρ h3 else .bad
  | _, _ => .bad
def tsB (K : PySem.W.Frag) (cl : Str → Option Addr) (C : Addr) (i j : Nat) (mR : ME) (a : Addr) (cls : Value) (d : Option Addr) : TS :=
  tDrop (tBM K "list" (rMM K cl mAppend) (tVar j) (tCons (tAndV (tCB (rIsX cls C a) (tCons (tVar i) (tCons (tC (.ref C)) tNil)))
    (tOp (rM K cl mEq) (tTup (tCons (tXf a cls d C "row" (tVar i)) (tCons (tXf a cls d C "column" (tVar i)) (tCons (tXf a cls d C "why" (tVar i)) (tCons (tXf a cls d C "page" (tVar i)) tNil))))) (tM K cl W0 mR))) tNil))
section
variable {K : PySem.W.Frag} {cl : Str → Option Addr}
theorem suiteB {k : Str} {C : Addr} {i j : Nat} {mR : ME} (hcl : cl k = some C) (hij : j ≠ i) : SuiteOk K cl [k] i (mxB j mR) (tsB K cl C i j mR) := by
  intro k' C' a dd vs D σ H ρ h mp hk hC xv rl rs hl g
  rw [List.mem_singleton] at hk
  subst hk
  rw [hcl] at hC
  cases hC
  have rs0 := rs.none (i := i) (v := some (.ref a))
  unfold mxB at g
  split at g
  · rename_i y c r p L eL
    split at g
    · rename_i ht
      obtain ⟨Y, Cc, R, P, hd, ry, rc, rr, rp⟩ := xv4 xv
      have e1 : (σ.set i (some (L2.V.ref a)))[i]? = some (some (.ref a)) := List.getElem?_set_self hl
      obtain ⟨VL, eV, rL⟩ := rs0.at_ j L eL
      refine ⟨VL, eV, tyOk_ok rl rL ht, _, e1, rfl, rfl, true, rfl, ?_⟩
      rw [if_pos rfl]
      refine ⟨_, e1, rfl, rfl, dd, _, R, rfl, hd, lk_r, _, e1, rfl, rfl, dd, _, Cc, rfl, hd, lk_c, _, e1, rfl, rfl, dd, _, Y, rfl, hd, lk_y, _, e1, rfl, rfl, dd, _, P, rfl, hd, lk_p, by show 4 ≤ sizeLine; decide, fun q hq => ?_⟩
      have f := Fut.new (K := K) (mp := mp) (o := .tup [R, Cc, Y, P]) hq
      refine ⟨_, h, mp, rl.new hq, rs0.fut f, (SGood.st.mp g).mono (fun Rv h1 g1 V1 H1 mp1 f1 rl1 rv1 => ?_) fun e h' z => (QX.ew rs0 z).fut f⟩
      have rt : RV K mp1 H1 (.tup [r, c, y, p]) (.ref q) := (RV.tup (SqT.of upd_same) (.cons (rr.fut f) (.cons (rc.fut f) (.cons (ry.fut f) (.cons (rp.fut f) .nil))))).fut f1
      refine ⟨_, _, h1, mp1, rl1, rt, rv1, toNever ((SGood.st.mp g1).mono (fun b h2 g2 V2 H2 mp2 f2 rl2 rv2 => ?_) fun e h' z => z) (mEq_noEx _ _ _)⟩
      refine ⟨L, [b], h2, mp2, rl2, ((rL.fut f).fut f1).fut f2, .cons rv2 .nil, toNever ((SGood.st.mp g2).mono (fun u h3 g3 V3 H3 mp3 f3 rl3 rv3 => ?_) fun e h' z => z) (mAppend_noEx _ _ _)⟩
      exact g3 _ H3 mp3 (((f.trans f1).trans f2).trans f3) rl3 ((((rs0.fut f).fut f1).fut f2).fut f3)
    · exact g.elim
  · exact g.elim
end
end Sm

set_option Elab.async false
set_option linter.all false
set_option maxRecDepth 100000
set_option maxHeartbeats 4000000
/-! methods and classes that let exceptions out, wished for at the slots as they are -/
namespace Sm
open PySem L2 PyProof.Rows PySem.Spec
section
variable {X : Cx} {U : CXT} {lv : Nat} {g D : Addr} {gd : FuncData} {qs : List Str} {pr : Sp} {EE : L2.St → XK} {nm ms : Str} {p0 p1 p2 : Pos} {a0 ob : Expr} {as : List Expr} {to : TE} {tas : TA}
def tMethW (D : Addr) (ms : Str) (pr : Sp) (EE : L2.St → XK) (to : TE) (tas : TA) : TE := fun σ H Q => to σ H fun y H1 => ∃ a dx fs, y = .ref a ∧ H1 a = some (.ins D dx fs) ∧ fs.lookup ms = none ∧ tas σ H1 fun vs H2 => pr (y :: vs) H2 Q (EE σ)
theorem pe_methW {pl : Sem Bool} (ho : PE X ob to) (c : Cls X.K D) (me : Meth X.K D ms g) (G : FnOk X.prog X.w X.K X.mg X.base U lv g gd qs pr) (rm : Room lv X.A) (bi : Binds X.K gd qs []) (ps : ∀ σ, PassesAt U X σ (EE σ)) (has : PA X (a0 :: as) tas)
    (h1 : starEach (a0 :: as) X.env = (false, eval a0 X.env) :: starEach as X.env := by rfl) (h2 : (backTo p0 (starEach as X.env)).any (·.1) = false := by rfl)
    (h3 : eval (.Call (.Attribute ob ms p1) (a0 :: as) [] p0) X.env = (do
      let w0 ← eval ob X.env
      standAt p1.atName
      let (f0, fi) ← holding [w0] (getMethod w0 ms pl)
      callWith p0 f0 fi (backTo p0 (starEach (a0 :: as) X.env)) (backToKw p0 (keywordEach [] X.env))) := by rfl) :
    PE X (.Call (.Attribute ob ms p1) (a0 :: as) [] p0) (tMethW D ms pr EE to tas) := by
  refine ⟨fun pins s σ H Q I h => PySem.W.methodCall_KW (pl := pl) (thn (ho.run pins s σ H _ I h) fun u s1 ⟨y, H1, I1, ry, a, dx, fs, ey, ea, lk, q⟩ => ?_) h3⟩
  subst ey
  cases (show u = Value.ref a from ry)
  refine getmeth_ok I1 ea c me lk (PySem.W.callWith_K (first := [.ref a]) (h₀ := X.base) I.ok.mod.kin me.kp (thn (has.run p0 pins s1 σ H1 _ I1 q) fun us s2 ⟨vs, H2, I2, r, q2⟩ => ⟨I2.kIn, ?_⟩) h1 h2)
  exact run_fnS (us := .ref a :: us) (vs := .ref a :: vs) G rm bi (ps σ) I2 (.cons rfl r) q2
theorem pe_methW0 {pl : Sem Bool} (ho : PE X ob to) (c : Cls X.K D) (me : Meth X.K D ms g) (G : FnOk X.prog X.w X.K X.mg X.base U lv g gd qs pr) (rm : Room lv X.A) (bi : Binds X.K gd qs []) (ps : ∀ σ, PassesAt U X σ (EE σ))
    (h3 : eval (.Call (.Attribute ob ms p1) [] [] p0) X.env = (do
      let w0 ← eval ob X.env
      standAt p1.atName
      let (f0, fi) ← holding [w0] (getMethod w0 ms pl)
      callWith p0 f0 fi (backTo p0 (starEach [] X.env)) (backToKw p0 (keywordEach [] X.env))) := by rfl) :
    PE X (.Call (.Attribute ob ms p1) [] [] p0) (tMethW D ms pr EE to tNil) := by
  refine ⟨fun pins s σ H Q I h => PySem.W.methodCall_KW (pl := pl) (thn (ho.run pins s σ H _ I h) fun u s1 ⟨y, H1, I1, ry, a, dx, fs, ey, ea, lk, q⟩ => ?_) h3⟩
  subst ey
  cases (show u = Value.ref a from ry)
  exact getmeth_ok I1 ea c me lk (PySem.W.callWith_K0 (first := [.ref a]) I1.kIn me.kp (run_fnS (us := [.ref a]) (vs := [.ref a]) G rm bi (ps σ) I1 (.cons rfl .nil) q))
def tMakeW (D : Addr) (pr : Sp) (EE : L2.St → XK) (tas : TA) : TE := fun σ H Q => tas σ H fun vs H1 => ∀ y dy, H1 y = none → H1 dy = none → dy ≠ y → pr (.ref y :: vs) (upd (upd H1 dy (.own y)) y (.ins D dy [])) (fun v H2 => v = .non ∧ Q (.ref y) H2) (EE σ)
theorem pe_makeW (M : Mk X.K D g) (G : FnOk X.prog X.w X.K X.mg X.base U lv g gd qs pr) (rm : Room (lv + 1) X.A) (gl : Gl X nm) (mC : X.mg nm = some (.ref D)) (bi : Binds X.K gd qs []) (ps : ∀ σ, PassesAt U X σ (EE σ)) (has : PA X (a0 :: as) tas)
    (hd : (nm == ("__debug__" : Str)) = false := by decide) (h1 : starEach (a0 :: as) X.env = (false, eval a0 X.env) :: starEach as X.env := by rfl) (h2 : (backTo p0 (starEach as X.env)).any (·.1) = false := by rfl) :
    PE X (.Call (.Name nm p2) (a0 :: as) [] p0) (tMakeW D pr EE tas) := by
  refine ⟨fun pins s σ H Q I h => wpAny_Call_Name_kw (ld_glob I gl mC (PySem.W.callWith_K (h₀ := X.base) I.ok.mod.kin M.kp (thn (has.run p0 pins s σ H _ I h) fun us s1 ⟨vs, H1, I1, r, q⟩ => ⟨I1.kIn, ?_⟩) h1 h2) hd)⟩
  have hq := q (s1.heap.objs.size + 1) s1.heap.objs.size (I1.hok.fresh (Nat.le_succ _)) (I1.hok.fresh (Nat.le_refl _)) (Nat.ne_of_lt (Nat.lt_succ_self _))
  have J := Inv.made (C := D) I1
  have rr : Vals (V.ref (s1.heap.objs.size + 1) :: vs) (Value.ref (s1.heap.objs.size + 1) :: us) := .cons rfl r
  have len : (Value.ref (s1.heap.objs.size + 1) :: us ++ []).length = qs.length := by
    rw [List.append_nil, ← rr.length]; exact G.len _ _ _ _ hq
  have bb := bi _ (Value.ref (s1.heap.objs.size + 1) :: us) J.kIn len
  rw [List.append_nil] at bb
  refine wpAny_call (make_map (f := g) I1.kIn M.makes M.init (beq_iff_eq.mp M.fn) (codeAny_mono (G.run _ X.stack _ _ ⟨Value.ref (s1.heap.objs.size + 1) :: us, []⟩ _ _ _ _ (rm.make D us []) (J.env0.make D us []) bb rr hq) fun rz s' z => ?_))
  cases rz with
  | error e => exact ps σ pins _ _ e s' J z
  | ok fl =>
    cases fl with
    | ret u =>
      obtain ⟨v, H', I3, rv, rfl, q3⟩ := J.after z
      exact ⟨rv, V.ref (s1.heap.objs.size + 1), H', I3, rfl, q3⟩
    | next => exact z.elim
    | brk => exact z.elim
    | cont => exact z.elim
end
section
variable {X : Cx} {cl : Str → Option Addr} {W : Wsh} {e o : Expr} {es : List Expr} {mo : ME} {ms : MA} {p pos apos : Pos} {x : Str} {fa C : Addr} {k : Nat} {fd : FuncData} {ps : List Str} {mf : List MV → MH → Res MV} {mn cn : Str}
theorem tMethX_of (hC : cl cn = some C) : ∀ σ H Q, tM X.K cl W (eMeth cn mn mf [] mo ms) σ H Q → tMethW C mn (spX X.K cl mf) (L2.WE W) (tM X.K cl W mo) (tMA X.K cl W ms) σ H Q := fun σ H Q ⟨ρ, h, mp, rl, rs, g⟩ =>
  tM_bind rl rs g (fun _ _ z => z) fun x h1 V H1 mp1 f1 rl1 rs1 rv1 g1 => by
    cases rv1 with
    | @ref n a e1 =>
      dsimp only at g1
      split at g1
      · rename_i c' fs cc
        split at g1
        · rename_i hc
          obtain ⟨C', dx, vs, h0, h1', q1⟩ := rl1.obj n _ a cc e1
          rw [hc.1, hC] at h0
          have := Option.some.inj h0
          subst this
          refine ⟨a, dx, vs, rfl, h1', ?_, ?_⟩
          · rcases look_ok (f := mn) q1 with ⟨_, z2⟩ | ⟨y, w, z1, _, _⟩
            · exact z2
            · rw [hc.2] at z1; cases z1
          · exact tMA_bind rl1 rs1 g1 (fun _ _ z => z.fut f1) fun xs h2 Vs H2 mp2 f2 rl2 rs2 rv2 g2 =>
              ⟨_, h2, mp2, rl2, .cons (.ref (f2.le _ _ e1)) (by rw [List.append_nil]; exact rv2), g2.mono (fun v h' q => q.fut (f1.trans f2)) fun e h' q => q.fut (f1.trans f2)⟩
        · exact False.elim g1
      · exact False.elim g1
    | _ => exact False.elim g1
theorem se_methX {pl : Sem Bool} (tk : Takes X W) (hC : cl cn = some C) (ho : SE X cl W o mo) (c : Cls X.K C) (hm : Meth X.K C mn fa) (F : FnOk X.prog X.w X.K X.mg X.base (L2.CX X.prog X.w) k fa fd ps (spX X.K cl mf)) (hr : Room k X.A) (hb : Binds X.K fd ps []) (ha : SA X cl W (e :: es) ms)
    (h1 : starEach (e :: es) X.env = (false, eval e X.env) :: starEach es X.env := by rfl) (h2 : (backTo pos (starEach es X.env)).any (·.1) = false := by rfl)
    (h3 : eval (.Call (.Attribute o mn apos) (e :: es) [] pos) X.env = (do
      let w0 ← eval o X.env
      standAt apos.atName
      let (f0, fi) ← holding [w0] (getMethod w0 mn pl)
      callWith pos f0 fi (backTo pos (starEach (e :: es) X.env)) (backToKw pos (keywordEach [] X.env))) := by rfl) :
    SE X cl W (.Call (.Attribute o mn apos) (e :: es) [] pos) (eMeth cn mn mf [] mo ms) := peW (pe_methW ho c hm F hr hb (fun σ => passAt tk σ) ha h1 h2 h3) (tMethX_of hC)
theorem se_methX0 {pl : Sem Bool} (tk : Takes X W) (hC : cl cn = some C) (ho : SE X cl W o mo) (c : Cls X.K C) (hm : Meth X.K C mn fa) (F : FnOk X.prog X.w X.K X.mg X.base (L2.CX X.prog X.w) k fa fd ps (spX X.K cl mf)) (hr : Room k X.A) (hb : Binds X.K fd ps [])
    (h3 : eval (.Call (.Attribute o mn apos) [] [] pos) X.env = (do
      let w0 ← eval o X.env
      standAt apos.atName
      let (f0, fi) ← holding [w0] (getMethod w0 mn pl)
      callWith pos f0 fi (backTo pos (starEach [] X.env)) (backToKw pos (keywordEach [] X.env))) := by rfl) :
    SE X cl W (.Call (.Attribute o mn apos) [] [] pos) (eMeth cn mn mf [] mo aNil) := peW (pe_methW0 ho c hm F hr hb (fun σ => passAt tk σ) h3) fun σ H Q q => by
      obtain ⟨ρ, h, mp, rl, rs, g⟩ := tMethX_of (ms := aNil) hC σ H Q q
      exact ⟨ρ, h, mp, rl, rs, g.mono (fun v h' q V H' mp' f1 rl1 rv => by
        obtain ⟨a, dx, fs, e1, e2, e3, ρ2, h2, mp2, rl2, rs2, g2⟩ := q V H' mp' f1 rl1 rv
        exact ⟨a, dx, fs, e1, e2, e3, g2 [] H' mp2 .refl rl2 .nil⟩) fun _ _ z => z⟩
theorem tMakeX_of (hC : cl cn = some C) : ∀ σ H Q, tM X.K cl W (eMake cn mf [] ms) σ H Q → tMakeW C (spX X.K cl mf) (L2.WE W) (tMA X.K cl W ms) σ H Q := fun σ H Q ⟨ρ, h, mp, rl, rs, g⟩ =>
  tMA_bind rl rs g (fun _ _ z => z) fun xs h1 Vs H1 mp1 f1 rl1 rs1 rv1 g1 x dx hx hdx hne => by
    have f2 : Fut X.K mp1 mp1 H1 (upd H1 dx (.own x)) := Fut.new hdx
    have rl2 := rl1.new (o := .own x) hdx
    have hx2 : upd H1 dx (.own x) x = none := by rw [upd_ne (Ne.symm hne)]; exact hx
    have f3 : Fut X.K mp1 mp1 (upd H1 dx (.own x)) (upd (upd H1 dx (.own x)) x (.ins C dx [])) := Fut.new hx2
    have rl3 := rl2.new (o := .ins C dx []) hx2
    have f23 := f2.trans f3
    have f4 := f23.toCell (cl := cl) rl3 hx
    have rl4 : Rl X.K cl (Mp.put mp1 h1.length x) (h1 ++ [.ins cn []]) (upd (upd H1 dx (.own x)) x (.ins C dx [])) := rl3.toCell (fun n e => by
      obtain ⟨u, _, ro⟩ := rl1.cell e
      obtain ⟨z, hz, _⟩ := ro.some
      rw [hx] at hz; cases hz) ⟨C, dx, [], hC, upd_same, rfl, .nil⟩
    refine ⟨_, _, _, rl4, .cons (.ref Mp.put_same) (by rw [List.append_nil]; exact rv1.fut f4), (Good.bind.mp g1).mono (fun v h2 g2 V H2 mp2 f5 rl5 rv5 => ?_) fun e h' q => q.fut (f1.trans f4)⟩
    cases rv5 with
    | non => exact ⟨rfl, g2 _ H2 mp2 (f1.trans (f4.trans f5)) rl5 (.ref (f5.le _ _ Mp.put_same))⟩
    | _ => exact False.elim g2
theorem se_makeX (tk : Takes X W) (hC : cl cn = some C) (M : Mk X.K C fa) (F : FnOk X.prog X.w X.K X.mg X.base (L2.CX X.prog X.w) k fa fd ps (spX X.K cl mf)) (hr : Room (k + 1) X.A) (hg : Gl X x) (hm : X.mg x = some (.ref C)) (hb : Binds X.K fd ps []) (ha : SA X cl W (e :: es) ms)
    (hdb : (x == ("__debug__" : Str)) = false := by decide) (h1 : starEach (e :: es) X.env = (false, eval e X.env) :: starEach es X.env := by rfl) (h2 : (backTo pos (starEach es X.env)).any (·.1) = false := by rfl) :
    SE X cl W (.Call (.Name x p) (e :: es) [] pos) (eMake cn mf [] ms) := peW (pe_makeW M F hr hg hm hb (fun σ => passAt tk σ) ha hdb h1 h2) (tMakeX_of hC)
end
theorem fnNeverX {P : Program} {w : World} {K : PySem.W.Frag} {mg : Str → Option Value} {base : Heap} {cl : Str → Option Addr} {U : CXT} {k : Nat} {f : Addr} {fd : FuncData} {ps : List Str} : FnOk P w K mg base U k f fd ps (spX K cl fun _ _ => .bad) :=
  ⟨fun vs H Q E h => by obtain ⟨_, _, _, _, _, g⟩ := h; exact g.elim, fun A outer s H args us vs Q E _ _ _ _ h => by obtain ⟨_, _, _, _, _, g⟩ := h; exact g.elim⟩
end Sm

set_option Elab.async false
set_option linter.all false
set_option maxRecDepth 100000
set_option maxHeartbeats 4000000
/-! min(xs, default=None), a list of tuples of ints and strs -/
namespace L2
open PySem PySem.Spec PyProof.Rows PySem.W
theorem dpAll_reads {X : Cx} {pins : List (Addr × Obj)} {σ : St} {H : Hp} {s : Shared} (I : Inv X pins σ H s) : ∀ {xs : List V} {us : List Value} {ds : List PyData}, DpAll X.K H xs ds → Vals xs us → ∃ as, ReadsAll s.heap us ds as
  | _, _, _, .nil, .nil => ⟨_, .nil⟩
  | _, _, _, .cons a b, .cons r t => by
    obtain ⟨as, h1⟩ := Dp.reads I _ _ _ a r
    obtain ⟨bs, h2⟩ := dpAll_reads I b t
    exact ⟨_, .cons h1 h2⟩
theorem dpAll_len {K : PySem.W.Frag} {H : Hp} : ∀ {xs : List V} {ds : List PyData}, DpAll K H xs ds → xs.length = ds.length
  | _, _, .nil => rfl
  | _, _, .cons _ b => congrArg (· + 1) (dpAll_len b)
theorem dpAll_at {K : PySem.W.Frag} {H : Hp} : ∀ {xs : List V} {ds : List PyData}, DpAll K H xs ds → ∀ {i : Nat} {v : V}, xs[i]? = some v → ∃ d, ds[i]? = some d ∧ Dp K H v d
  | _, _, .nil, i, v, h => by simp at h
  | _, _, .cons a b, 0, v, h => ⟨_, rfl, by cases (Option.some.inj h : _ = v); exact a⟩
  | _, _, .cons a b, i + 1, v, h => dpAll_at b (i := i) h
theorem minD_mem (x : PyData) (xs : List PyData) : minD x xs ∈ x :: xs := by
  unfold minD
  induction xs generalizing x with
  | nil => simp
  | cons y ys ih =>
    rw [List.foldl_cons]
    split
    · exact List.mem_cons_of_mem _ (ih y)
    · rcases List.mem_cons.mp (ih x) with h | h
      · rw [h]; simp
      · exact List.mem_cons_of_mem _ (List.mem_cons_of_mem _ h)
theorem vals_at : ∀ {xs : List V} {us : List Value}, Vals xs us → ∀ {i : Nat} {u : Value}, us[i]? = some u → ∃ v, xs[i]? = some v ∧ RelV v u
  | _, _, .nil, i, u, h => by simp at h
  | _, _, .cons r t, 0, u, h => ⟨_, rfl, by cases (Option.some.inj h : _ = u); exact r⟩
  | _, _, .cons r t, i + 1, u, h => vals_at t (i := i) h
def rMinD (K : PySem.W.Frag) : List V → List V → Hp → VK → Prop := fun vs zs H Q => ∃ (a : Addr) (xs : List V) (ds : List PyData), vs = [V.ref a] ∧ zs = [.non] ∧ SqL K H a xs ∧ DpAll K H xs ds ∧ AlikeAll ds ∧ PyData.depthAll ds ≤ 60 ∧
  (ds = [] → Q .non H) ∧ ∀ y ys (i : Nat) v, ds = y :: ys → xs[i]? = some v → ds[i]? = some (minD y ys) → Q v H
theorem cr_minD {X : Cx} (hc : X.calm = true) (hu : X.A.units + 64 < cLine) : CallRK X (.builtin "min") [Str.ofString "default"] (rMinD X.K) := by
  intro pins s σ H vs zs us ws Q I r rz h
  obtain ⟨a, xs, ds, rfl, rfl, hs, hd, al, dp, q0, q1⟩ := h
  obtain ⟨its, rv, hl, _⟩ := I.list hs
  obtain ⟨as, ra⟩ := dpAll_reads I hd rv
  rw [Vals.ref1 r]
  obtain ⟨w, rfl, rw'⟩ : ∃ w, ws = [w] ∧ RelV .non w := by
    cases rz with
    | cons r1 t => cases t; exact ⟨_, rfl, r1⟩
  cases rw'
  refine min_list_default (I.ok.hd hc) hl.isList ra al (by omega) (fun e h' tk hk => ⟨.non, H, I.kept hk, rfl, q0 e⟩) fun y ys i v h' tk bs e hv rd hk => ?_
  obtain ⟨V, hV, rV⟩ := vals_at rv (by simpa using hv)
  have I2 : Inv X pins σ H { s with heap := h', toks := tk } := I.kept hk
  obtain ⟨d, hd1, hd2⟩ := dpAll_at hd hV
  obtain ⟨cs, rd2⟩ := Dp.reads I2 _ _ _ hd2 rV
  have m1 : d ∈ ds := List.mem_of_getElem? hd1
  have m2 : minD y ys ∈ ds := by rw [e]; exact minD_mem y ys
  have ed : d = minD y ys := alike_unique _ _ _ _ _ (al.1 _ m1 _ m2) rd2 rd
  exact ⟨V, H, I2, rV, q1 y ys i V e hV (by rw [← ed]; exact hd1)⟩
end L2
namespace Sm
open PySem L2 PyProof.Rows PySem.Spec PySem.W
def atom : MV → Bool | .int _ => true | .str _ => true | _ => false
def tupA : MV → Bool | .tup xs => xs.all atom | _ => false
def dA : MV → PyData | .int i => .int i | .str x => .str x | _ => .none
def dT : MV → PyData | .tup xs => .tuple (xs.map dA) | _ => .none
def aD : PyData → MV | .int i => .int i | .str x => .str x | _ => .non
def tD : PyData → MV | .tuple ds => .tup (ds.map aD) | _ => .non
theorem aD_dA : ∀ {x : MV}, atom x = true → aD (dA x) = x := fun {x} h => by cases x <;> first | rfl | cases h
theorem tD_dT : ∀ {x : MV}, tupA x = true → tD (dT x) = x := fun {x} h => by
  cases x with
  | tup xs =>
    show MV.tup ((xs.map dA).map aD) = .tup xs
    have h : xs.all atom = true := h
    rw [List.all_eq_true] at h
    have e : (xs.map dA).map aD = xs := by
      rw [List.map_map]
      have q : xs.map (aD ∘ dA) = xs.map id := List.map_congr_left fun x hx => aD_dA (h x hx)
      rw [q, List.map_id]
    rw [e]
  | _ => cases h
theorem dp_atom {K : PySem.W.Frag} {mp : Mp} {H : Hp} {x : MV} {V : L2.V} (r : RV K mp H x V) (h : atom x = true) : Dp K H V (dA x) := by
  cases r with
  | int i => exact .int i
  | str x => exact .str x
  | _ => cases h
theorem dp_atoms {K : PySem.W.Frag} {mp : Mp} {H : Hp} : ∀ {xs : List MV} {vs : List L2.V}, RVs K mp H xs vs → xs.all atom = true → DpAll K H vs (xs.map dA)
  | _, _, .nil, _ => .nil
  | _, _, .cons r t, h => by
    rw [List.all_cons, Bool.and_eq_true] at h
    exact .cons (dp_atom r h.1) (dp_atoms t h.2)
theorem dp_tup {K : PySem.W.Frag} {mp : Mp} {H : Hp} {x : MV} {V : L2.V} (r : RV K mp H x V) (h : tupA x = true) : Dp K H V (dT x) := by
  cases r with
  | tup h1 r1 => exact .tup h1 (dp_atoms r1 h)
  | _ => cases h
theorem dp_tups {K : PySem.W.Frag} {mp : Mp} {H : Hp} : ∀ {xs : List MV} {vs : List L2.V}, RVs K mp H xs vs → xs.all tupA = true → DpAll K H vs (xs.map dT)
  | _, _, .nil, _ => .nil
  | _, _, .cons r t, h => by
    rw [List.all_cons, Bool.and_eq_true] at h
    exact .cons (dp_tup r h.1) (dp_tups t h.2)
def alB (ds : List PyData) : Bool := ds.all fun a => ds.all fun b => alike a b
def minV (ds : List PyData) : MV := match ds with | [] => .non | y :: ys => tD (minD y ys)
/-- min(x, default=None) -/
def mMinD (x : MV) (h : MH) : Res MV := match x with
  | .ref n => match h[n]? with
    | some (.lst xs) => if xs.all tupA = true ∧ alB (xs.map dT) = true ∧ PyData.depthAll (xs.map dT) ≤ 60 then .ok (minV (xs.map dT)) h else .bad
    | _ => .bad
  | _ => .bad
theorem al_of {xs : List MV} (h1 : xs.all tupA = true) (h2 : alB (xs.map dT) = true) : AlikeAll (xs.map dT) := by
  unfold alB at h2
  refine ⟨fun a ha b hb => List.all_eq_true.mp (List.all_eq_true.mp h2 a ha) b hb, fun d hd e => ?_⟩
  obtain ⟨x, hx, rfl⟩ := List.mem_map.mp hd
  have := List.all_eq_true.mp h1 x hx
  cases x with
  | tup xs => cases e
  | _ => cases this
theorem se_minD {X : Cx} {cl : Str → Option Addr} {W : Wsh} {e : Expr} {m : ME} {p pos cp kp : Pos} {j : Nat} (hc : X.calm = true) (hu : X.A.units + 64 < cLine) (hg : Gl X "min") (hm : X.mg "min" = none) (hs : SE X cl W e m)
    (he : backTo pos (starEach [e] X.env) = (false, eval e X.env) :: backTo pos (starEach [] X.env) := by rfl) (hpl : (backTo pos (starEach [e] X.env)).any (·.1) = false := by rfl)
    (hst : starEach [e] X.env = [(false, eval e X.env)] := by rfl) :
    SE X cl W (.Call (.Name "min" p) [e] [⟨some "default", .Constant .none j cp, kp⟩] pos) (eUn mMinD m) := by
  refine peW (pe_callBK (cr_minD hc hu) hg hm (by rfl) (pa_cons hs pa_nil hst) (pk_cons pe_non pk_nil) (hn := by decide) (hdb := by decide) (he := he) (hpl := hpl) (hall := by rfl) (hnone := by rfl) (hks := by rfl)) fun σ H Q ⟨ρ, h, mp, rl, rs, g⟩ => ?_
  refine tM_bind rl rs g (fun _ _ z => z) fun x h1 V H1 mp1 f1 rl1 rs1 rv1 g1 => ?_
  show rMinD X.K [V] [.non] H1 Q
  unfold mMinD at g1
  cases rv1 with
  | @ref n a e1 =>
    dsimp only at g1
    split at g1
    · rename_i xs c1
      split at g1
      · rename_i hz
        obtain ⟨z1, z2, z3⟩ := hz
        obtain ⟨vs, ha, q1⟩ := rl1.obj n _ a c1 e1
        refine ⟨a, vs, xs.map dT, rfl, rfl, SqL.of ha, dp_tups q1 z1, al_of z1 z2, z3, fun e => ?_, fun y ys i v e hv hd => ?_⟩
        · rw [e] at g1
          exact g1 _ H1 mp1 f1 rl1 .non
        · rw [e] at g1
          obtain ⟨x, hx, rx⟩ := q1.getV hv
          rw [List.getElem?_map, hx] at hd
          have hd := Option.some.inj hd
          have tx := List.all_eq_true.mp z1 x (List.mem_of_getElem? hx)
          have ex : tD (minD y ys) = x := by rw [← hd, tD_dT tx]
          rw [show minV (y :: ys) = x from ex] at g1
          exact g1 _ H1 mp1 f1 rl1 rx
      · exact g1.elim
    · exact g1.elim
  | _ => exact g1.elim
end Sm

set_option Elab.async false
set_option linter.all false
set_option maxRecDepth 100000
set_option maxHeartbeats 4000000
/-! xs[::-1], xs.extend(ys), dict(d), list(d) -/
namespace Sm
open PySem L2 PyProof.Rows PySem.Spec
section
variable {X : Cx} {cl : Str → Option Addr} {W : Wsh}
theorem RVs.rev {K : PySem.W.Frag} {mp : Mp} {H : Hp} : ∀ {xs : List MV} {vs : List L2.V}, RVs K mp H xs vs → RVs K mp H xs.reverse vs.reverse
  | _, _, .nil => .nil
  | _, _, .cons r t => by
    rw [List.reverse_cons, List.reverse_cons]
    exact t.rev.append (.cons r .nil)
def mRevL (x : MV) (h : MH) : Res MV := match x with
  | .ref n => match h[n]? with | some (.lst xs) => .ok (.ref h.length) (h ++ [.lst xs.reverse]) | _ => .bad
  | _ => .bad
theorem se_revL {e : Expr} {m : ME} {k : Nat} {p1 p2 p3 pos : Pos} (hs : SE X cl W e m) : SE X cl W (.Subscript e (.Slice none none (some (.UnaryOp .USub (.Constant (.int 1) k p1) p2)) p3) pos) (eUn mRevL m) := by
  refine peW (pe_revL hs) fun σ H Q ⟨ρ, h, mp, rl, rs, g⟩ => ?_
  refine tM_bind rl rs g (fun _ _ z => z) fun x h1 V H1 mp1 f1 rl1 rs1 rv1 g1 => ?_
  unfold mRevL at g1
  cases rv1 with
  | @ref n a e1 =>
    dsimp only at g1
    split at g1
    · rename_i xs c1
      obtain ⟨vs, ha, q1⟩ := rl1.obj n _ a c1 e1
      refine ⟨a, vs, rfl, SqL.of ha, fun p hp => ?_⟩
      obtain ⟨f, rl'⟩ := newCell rl1 hp q1.rev
      exact g1 _ _ _ (f1.trans f) rl' (.ref Mp.put_same)
    · exact g1.elim
  | _ => exact g1.elim
def mExtend (x : MV) (xs : List MV) (h : MH) : Res MV := match x, xs with
  | .ref n, [.ref k] => match h[n]?, h[k]? with
    | some (.lst ys), some (.lst zs) => if szOk (ys.length + zs.length) then .ok .non (h.set n (.lst (ys ++ zs))) else .bad
    | _, _ => .bad
  | _, _ => .bad
theorem mExtend_noEx : NoExM mExtend := by
  intro x xs h e h' z
  unfold mExtend at z
  repeat' split at z
  all_goals cases z
theorem extendM : MtR X "list.extend" (rMM X.K cl mExtend) := by
  intro pins s σ H V Vs v us Q I rx rxs ⟨x, xs, h, mp, rl, r1, r2, g⟩
  unfold mExtend at g
  split at g
  · rename_i n k
    obtain ⟨Y, rfl, ry⟩ := rvs1 r2
    cases r1 with
    | @ref _ a e1 =>
      cases ry with
      | @ref _ b e2 =>
        split at g
        · rename_i ys zs c1 c2
          split at g
          · rename_i hz
            obtain ⟨vs, h1, q1⟩ := rl.obj n _ a c1 e1
            obtain ⟨ws, h2, q2⟩ := rl.obj k _ b c2 e2
            refine mt_extend pins s σ H _ _ v us Q I rx rxs ⟨a, b, vs, ws, rfl, rfl, h1, h2, by rw [← q1.length, ← q2.length]; exact hz.le, ?_⟩
            have f := Fut.set (o := .lst (vs ++ ws)) rl e1
            exact g _ _ mp f (rl.set e1 ⟨_, upd_same, (q1.append q2).fut f⟩) .non
          · exact False.elim g
        · exact False.elim g
  · exact False.elim g
theorem newDct {K : PySem.W.Frag} {mp : Mp} {h : MH} {H : Hp} {p : Addr} {kvs : List (Key × MV)} {vs : List (Key × V)} (rl : Rl K cl mp h H) (hp : H p = none) (rf : RFs K mp H kvs vs) :
    Fut K mp (Mp.put mp h.length p) H (upd H p (.dK vs)) ∧ Rl K cl (Mp.put mp h.length p) (h ++ [.dct kvs]) (upd H p (.dK vs)) := by
  refine ⟨(Fut.new (o := .dK vs) hp).toCell (rl.new hp) hp, (rl.new hp).toCell (fun n e => ?_) ⟨vs, upd_same, rf.fut (Fut.new hp)⟩⟩
  obtain ⟨u, _, ro⟩ := rl.cell e
  obtain ⟨z, hz, _⟩ := ro.some
  rw [hp] at hz
  cases hz
def mDictD (xs : List MV) (h : MH) : Res MV := match xs with
  | [.ref n] => match h[n]? with | some (.dct kvs) => .ok (.ref h.length) (h ++ [.dct kvs]) | _ => .bad
  | _ => .bad
theorem mDictD_noEx : NoEx1 mDictD := by
  intro xs h e h' z
  unfold mDictD at z
  repeat' split at z
  all_goals cases z
theorem dictDM : CallR X (.type "dict") (rMC X.K cl mDictD) := by
  intro pins s σ H Vs us Q I r ⟨xs, h, mp, rl, rv, g⟩
  unfold mDictD at g
  split at g
  · rename_i n
    obtain ⟨V, rfl, rx⟩ := rvs1 rv
    cases rx with
    | @ref _ a e1 =>
      split at g
      · rename_i kvs c1
        obtain ⟨vs, ha, rf⟩ := rl.obj n _ a c1 e1
        refine call_dictD pins s σ H _ us Q I r ⟨a, vs, rfl, .inl ha, fun p hp => ?_⟩
        obtain ⟨f, rl'⟩ := newDct rl hp rf
        exact g _ _ _ f rl' (.ref Mp.put_same)
      · exact False.elim g
  · exact False.elim g
end
end Sm

set_option Elab.async false
set_option linter.all false
set_option maxRecDepth 100000
set_option maxHeartbeats 4000000
/-! sorted(xs): ints, strs, or tuples of these -/
namespace Sm
open PySem L2 PyProof.Rows PySem.Spec PySem.W
def dX (x : MV) : PyData := match x with | .tup xs => .tuple (xs.map dA) | .int i => .int i | .str x => .str x | _ => .none
def tupN : MV → Bool | .tup (x :: xs) => (x :: xs).all atom | _ => false
def sOk (xs : List MV) : Bool := (xs.all atom || xs.all tupN) && (alB (xs.map dX) && decide (xs.length ≤ 1000000))
def sortM (xs : List MV) : List MV := xs.mergeSort (dataLe false dX)
theorem atom_dX : ∀ {x : MV}, atom x = true → dX x = dA x ∧ dX x ≠ .none ∧ (∀ ys, dX x ≠ .tuple ys) ∧ (dX x).depth ≤ 2 := fun {x} h => by
  cases x with
  | int i => exact ⟨rfl, (fun z => by cases z), (fun ys z => by cases z), by simp [dX, PyData.depth]⟩
  | str x => exact ⟨rfl, (fun z => by cases z), (fun ys z => by cases z), by simp [dX, PyData.depth]⟩
  | _ => cases h
theorem dA_dep (x : MV) : (dA x).depth ≤ 1 := by cases x <;> simp [dA, PyData.depth]
theorem dAs_dep : ∀ xs : List MV, PyData.depthAll (xs.map dA) ≤ 1
  | [] => by simp [PyData.depthAll]
  | x :: xs => by
    rw [List.map_cons, PyData.depthAll]
    have := dA_dep x
    have := dAs_dep xs
    omega
theorem tupN_dX : ∀ {x : MV}, tupN x = true → dX x = dT x ∧ tupA x = true ∧ (∃ y r, dX x = .tuple (y :: r)) ∧ (dX x).depth ≤ 2 := fun {x} h => by
  cases x with
  | tup xs =>
    cases xs with
    | nil => cases h
    | cons y r =>
      refine ⟨rfl, h, ⟨dA y, r.map dA, rfl⟩, ?_⟩
      show (PyData.tuple ((y :: r).map dA)).depth ≤ 2
      have := dAs_dep (y :: r)
      simp only [PyData.depth]
      omega
  | _ => cases h
theorem dX_dep {xs : List MV} (h : (xs.all atom || xs.all tupN) = true) : ∀ x, x ∈ xs → (dX x).depth ≤ 2 := fun x hx => by
  rw [Bool.or_eq_true] at h
  rcases h with h | h
  · exact (atom_dX (List.all_eq_true.mp h x hx)).2.2.2
  · exact (tupN_dX (List.all_eq_true.mp h x hx)).2.2.2
theorem dX_dp {K : PySem.W.Frag} {mp : Mp} {H : Hp} {xs : List MV} (h : (xs.all atom || xs.all tupN) = true) {x : MV} {V : L2.V} (hx : x ∈ xs) (r : RV K mp H x V) : Dp K H V (dX x) := by
  rw [Bool.or_eq_true] at h
  rcases h with h | h
  · have z := List.all_eq_true.mp h x hx
    rw [(atom_dX z).1]; exact dp_atom r z
  · have z := tupN_dX (List.all_eq_true.mp h x hx)
    rw [z.1]; exact dp_tup r z.2.1
theorem each_rel : ∀ {vs : List L2.V} {us : List Value} {xs : List MV}, Vals vs us → xs.length = vs.length → EachIs (fun v (b : MV × L2.V) => RelV b.2 v) us (xs.zip vs)
  | _, _, [], .nil, _ => .nil
  | _, _, x :: xs, .cons r t, h => .cons r (each_rel t (by simpa using h))
theorem each_rd {X : Cx} {pins : List (Addr × Obj)} {σ : L2.St} {H : Hp} {s : Shared} (I : Inv X pins σ H s) : ∀ {vs : List L2.V} {us : List Value} {xs : List MV}, Vals vs us → xs.length = vs.length → (∀ b, b ∈ xs.zip vs → Dp X.K H b.2 (dX b.1)) → EachIs (fun v (b : MV × L2.V) => ∃ as, Reads s.heap v (dX b.1) as) us (xs.zip vs)
  | _, _, [], .nil, _, _ => .nil
  | _, _, x :: xs, .cons r t, h, k => .cons (Dp.reads I _ _ _ (k _ (by simp)) r) (each_rd I t (by simpa using h) fun b hb => k b (by simp [hb]))
theorem vals_of_each : ∀ {bs : List (MV × L2.V)} {us : List Value}, EachIs (fun v (b : MV × L2.V) => RelV b.2 v) us bs → Vals (bs.map (·.2)) us
  | _, _, .nil => .nil
  | _, _, .cons r t => .cons r (vals_of_each t)
theorem rvs_pairs {K : PySem.W.Frag} {mp : Mp} {H : Hp} : ∀ {l : List (MV × L2.V)}, (∀ b, b ∈ l → RV K mp H b.1 b.2) → RVs K mp H (l.map (·.1)) (l.map (·.2))
  | [], _ => .nil
  | b :: l, h => .cons (h b (by simp)) (rvs_pairs fun c hc => h c (by simp [hc]))
theorem zip_rv {K : PySem.W.Frag} {mp : Mp} {H : Hp} : ∀ {xs : List MV} {vs : List L2.V}, RVs K mp H xs vs → ∀ b, b ∈ xs.zip vs → RV K mp H b.1 b.2 ∧ b.1 ∈ xs
  | _, _, .nil, b, hb => by simp at hb
  | _, _, .cons r t, b, hb => by
    rw [List.zip_cons_cons] at hb
    rcases List.mem_cons.mp hb with rfl | hb
    · exact ⟨r, by simp⟩
    · exact ⟨(zip_rv t b hb).1, List.mem_cons_of_mem _ (zip_rv t b hb).2⟩
def mSorted (xs : List MV) (h : MH) : Res MV := match xs with
  | [.ref n] => match h[n]? with
    | some (.lst ys) => if sOk ys = true then .ok (.ref h.length) (h ++ [.lst (sortM ys)]) else .bad
    | _ => .bad
  | _ => .bad
theorem mSorted_noEx : NoEx1 mSorted := by
  intro xs h e h' z
  unfold mSorted at z
  repeat' split at z
  all_goals cases z
theorem sortedM {X : Cx} {cl : Str → Option Addr} (hu : X.A.units + 64 < cLine) : CallR X (.builtin "sorted") (rMC X.K cl mSorted) := by
  intro pins s σ H Vs us Q I r ⟨xs, h, mp, rl, rv, g⟩
  unfold mSorted at g
  split at g
  · rename_i n
    obtain ⟨V, rfl, rx⟩ := rvs1 rv
    cases rx with
    | @ref _ a e1 =>
      split at g
      · rename_i ys c1
        split at g
        · rename_i hz
          obtain ⟨vs, ha, q1⟩ := rl.obj n _ a c1 e1
          unfold sOk at hz
          rw [Bool.and_eq_true, Bool.and_eq_true, decide_eq_true_eq] at hz
          obtain ⟨z1, z2, z3⟩ := hz
          obtain ⟨its, rvl, hl, _⟩ := I.list (SqL.of ha)
          rw [Vals.ref1 r]
          have ln := q1.length
          have zr := zip_rv q1
          have fst : (ys.zip vs).map (·.1) = ys := List.map_fst_zip (by omega)
          have em : ((ys.zip vs).map fun b => dX b.1) = ys.map dX := by
            conv => rhs; rw [← fst]
            rw [List.map_map]; rfl
          have al : AllAlike ((ys.zip vs).map fun b => dX b.1) := by
            rw [em]
            intro d hd d' hd'
            exact List.all_eq_true.mp (List.all_eq_true.mp z2 d hd) d' hd'
          have sb : Sortable ((ys.zip vs).map fun b => dX b.1) := by
            rw [em]
            rw [Bool.or_eq_true] at z1
            rcases z1 with z | z
            · refine .inr fun d hd => ?_
              obtain ⟨x, hx, rfl⟩ := List.mem_map.mp hd
              have := atom_dX (List.all_eq_true.mp z x hx)
              exact ⟨this.2.1, this.2.2.1⟩
            · refine .inl fun d hd => ?_
              obtain ⟨x, hx, rfl⟩ := List.mem_map.mp hd
              exact (tupN_dX (List.all_eq_true.mp z x hx)).2.2.1
          have lz : (ys.zip vs).length = ys.length := by rw [List.length_zip]; omega
          refine sorted_data (enc := fun b : MV × L2.V => dX b.1) (R := fun v (b : MV × L2.V) => RelV b.2 v) hl.isList (each_rel rvl (by omega)) (each_rd I rvl (by omega) fun b hb => dX_dp z1 (zr b hb).2 (zr b hb).1) al sb (by rw [lz]; exact Nat.le_trans z3 (by decide)) (fun b hb => by have := dX_dep z1 b.1 (zr b hb).2; omega) fun out hlen eo => ?_
          obtain ⟨ep, he'⟩ := PyProof.Rows.sortedAll_at s.heap its out.toArray
          obtain ⟨bs, hbs⟩ : ∃ bs, bs = (ys.zip vs).mergeSort (dataLe false fun b : MV × L2.V => dX b.1) := ⟨_, rfl⟩
          rw [← hbs] at eo
          have lb : bs.length = ys.length := by rw [hbs, List.length_mergeSort, lz]
          have e2 : bs.map (·.1) = sortM ys := by
            have mm := List.map_mergeSort (r := dataLe false fun b : MV × L2.V => dX b.1) (s := dataLe false dX) (f := fun b : MV × L2.V => b.1) (l := ys.zip vs) (fun a _ b _ => rfl)
            rw [hbs]
            exact mm.trans (by rw [fst]; rfl)
          have rvs := rvs_pairs (K := X.K) (mp := mp) (H := H) (l := bs) fun b hb => (zr b (by rw [hbs, List.mem_mergeSort] at hb; exact hb)).1
          rw [e2] at rvs
          have fr : H (s.heap.objs.size + 1) = none := I.hok.fresh (Nat.le_succ _)
          obtain ⟨f, rl'⟩ := newCell rl fr rvs
          exact ⟨.ref _, upd H (s.heap.objs.size + 1) (.lst (bs.map (·.2))), I.laid (t' := s.toks) (fun _ _ => PyProof.Rows.sortedAll_old) (Nat.le_succ _) ⟨by rw [List.length_map, lb]; exact Nat.le_trans z3 (by decide), out, ep, vals_of_each eo, he'⟩, rfl, g _ _ _ f rl' (.ref Mp.put_same)⟩
        · exact False.elim g
      · exact False.elim g
  · exact False.elim g
end Sm

set_option Elab.async false
set_option linter.all false
set_option maxRecDepth 100000
set_option maxHeartbeats 4000000
/-! dict(t) in the small machine -/
namespace Sm
open PySem L2 PyProof.Rows PySem.Spec
def prM : MV → Option (Key × MV)
  | .tup [k, v] => (Sm.keyOf k).map fun q => (q, v)
  | .tux [k, v] => (Sm.keyOf k).map fun q => (q, v)
  | _ => none
def mDictT (xs : List MV) (h : MH) : Res MV := match xs with
  | [.tux ys] => match ys.mapM prM with
    | some kvs => .ok (.fdc ((mergeM [] kvs).map (·.1)) ((mergeM [] kvs).map (·.2))) h
    | none => .bad
  | _ => .bad
theorem zip_fs {α β : Type} : ∀ xs : List (α × β), (xs.map (·.1)).zip (xs.map (·.2)) = xs
  | [] => rfl
  | x :: xs => by rw [List.map_cons, List.map_cons, List.zip_cons_cons, zip_fs xs]
theorem mDictT_noEx : NoEx1 mDictT := by
  intro xs h e h' z
  unfold mDictT at z
  repeat' split at z
  all_goals cases z
theorem prM_ok {K : PySem.W.Frag} {mp : Mp} {H : Hp} {x : MV} {v : V} {kv : Key × MV} (r : RV K mp H x v) (e : prM x = some kv) : ∃ (p : Addr) (w : V), v = .ref p ∧ SqT K H p [kV kv.1, w] ∧ RV K mp H kv.2 w := by
  have go : ∀ {a : Addr} {vs : List V} {k y : MV}, SqT K H a vs → RVs K mp H [k, y] vs → ((Sm.keyOf k).map fun q => (q, y)) = some kv → ∃ (p : Addr) (w : V), V.ref a = .ref p ∧ SqT K H p [kV kv.1, w] ∧ RV K mp H kv.2 w := by
    intro a vs k y ht rr e
    obtain ⟨q, e1, rfl⟩ := Option.map_eq_some_iff.mp e
    cases rr with
    | cons r1 r2 =>
      cases r2 with
      | cons r2 r3 =>
        cases r3
        have ek := keyOf_ok r1 e1
        subst ek
        exact ⟨a, _, rfl, ht, r2⟩
  unfold prM at e
  split at e
  · cases r with | tup ht rr => exact go ht rr e
  · cases r with | tux ht rr => exact go ht.tp rr e
  · cases e
theorem prsM_ok {K : PySem.W.Frag} {mp : Mp} {H : Hp} : ∀ {ys : List MV} {vs : List V} {kvs : List (Key × MV)}, RVs K mp H ys vs → ys.mapM prM = some kvs → ∃ (ps : List Addr) (ws : List (Key × V)), vs = ps.map V.ref ∧ Paired (fun p kv => SqT K H p [kV kv.1, kv.2]) ps ws ∧ RFs K mp H kvs ws
  | [], _, _, .nil, e => by cases e; exact ⟨[], [], rfl, .nil, rfl, .nil⟩
  | y :: ys, _, kvs, .cons r t, e => by
    obtain ⟨kv, kvs', e1, e2, rfl⟩ := mapM_cons e
    obtain ⟨p, w, rfl, hp, rw⟩ := prM_ok r e1
    obtain ⟨ps, ws, rfl, hps, rf⟩ := prsM_ok t e2
    exact ⟨p :: ps, (kv.1, w) :: ws, rfl, .cons hp hps, by simp [rf.1], .cons rw rf.2⟩
section
variable {X : Cx} {cl : Str → Option Addr}
theorem dictTM (hc : X.calm = true) : CallR X (.type "dict") (rMC X.K cl mDictT) := by
  intro pins s σ H Vs us Q I r ⟨xs, h, mp, rl, rv, g⟩
  unfold mDictT at g
  split at g
  · rename_i ys
    obtain ⟨V, rfl, rx⟩ := rvs1 rv
    cases rx with
    | @tux _ vs a ht rr =>
      split at g
      · rename_i kvs ek
        obtain ⟨ps, ws, rfl, hps, rf⟩ := prsM_ok rr ek
        refine call_dictF hc pins s σ H _ us Q I r ⟨a, ps, ws, rfl, ht, hps, fun p od hp => ?_⟩
        obtain ⟨m1, m2⟩ := merge_ok (fs := []) (vs := []) rf ⟨rfl, .nil⟩
        have f : Fut X.K mp mp H (upd H p (.frz od (.dK (mergeK [] ws)))) := Fut.new hp
        refine g _ _ mp f (rl.new hp) (.fdc (vs := (mergeK [] ws).map (·.2)) ⟨od, ?_, trivial⟩ ?_ (m2.fut f))
        · rw [m1, zip_fs]; exact upd_same
        · rw [m1, List.length_map, List.length_map]
      · exact g.elim
  · exact g.elim
end
end Sm

set_option Elab.async false
set_option linter.all false
set_option maxRecDepth 100000
set_option maxHeartbeats 4000000
/-! {e for t in xs if ..}, e ints -/
namespace Sm
open PySem L2 PyProof.Rows PySem.Spec PpSet
/-- the set of the ints that came -/
def obS (w : World) (D : Addr) (acc : List Int) : HO := SetO w D (fun j => decide (j ∈ acc)) (setI acc).length
theorem setI_snoc {acc : List Int} {k : Int} : (setI (acc ++ [k])).length = if decide (k ∈ acc) = true then (setI acc).length else (setI acc).length + 1 := by
  have n1 : (setI (acc ++ [k])).Nodup := (setI_up (ns := acc ++ [k])).imp fun h z => by omega
  have n2 : (setI acc).Nodup := (setI_up (ns := acc)).imp fun h z => by omega
  by_cases hk : k ∈ acc
  · rw [if_pos (by simpa using hk)]
    refine ((List.perm_ext_iff_of_nodup n1 n2).mpr fun j => ?_).length_eq
    rw [setI_mem, setI_mem, List.mem_append, List.mem_singleton]
    exact ⟨fun h => h.elim id fun e => e ▸ hk, .inl⟩
  · rw [if_neg (by simpa using hk)]
    have n3 : (k :: setI acc).Nodup := List.nodup_cons.mpr ⟨fun h => hk (setI_mem.mp h), n2⟩
    refine ((List.perm_ext_iff_of_nodup n1 n3).mpr fun j => ?_).length_eq.trans rfl
    rw [setI_mem, List.mem_cons, setI_mem, List.mem_append, List.mem_singleton]
    exact Or.comm
theorem obS_snoc {w : World} {D : Addr} {acc : List Int} {k : Int} : SetO w D (fun j => decide (j ∈ acc) || decide (j = k)) (if decide (k ∈ acc) = true then (setI acc).length else (setI acc).length + 1) = obS w D (acc ++ [k]) := by
  unfold obS
  rw [setI_snoc]
  congr 1
  funext j
  simp [List.mem_append]
theorem setI_len {acc : List Int} : (setI acc).length ≤ acc.length := by
  induction acc with
  | nil => exact Nat.le_refl _
  | cons k acc ih =>
    have go : ∀ l : List Int, (insS k l).length ≤ l.length + 1 := fun l => by
      induction l with
      | nil => exact Nat.le_refl _
      | cons x l ih =>
        unfold insS
        split
        · simp
        · split
          · simp
          · simp only [List.length_cons]; omega
    exact Nat.le_trans (go (setI acc)) (by simp only [List.length_cons]; omega)
section
variable {X : Cx}
/-- set.add of an int -/
theorem obS_add {pins : List (Addr × Obj)} {σ : L2.St} {H : Hp} {s : Shared} {E : Value → Shared → Prop} {D : Addr} {acc : List Int} {k : Int} {u : Value} {Q : Value → Shared → Prop} (I : Inv X pins σ H s) (hD : H D = some (obS X.w D acc)) (room : acc.length ≤ 1000) (ru : RelV (.int k) u)
    (h : ∀ s', Inv X pins σ (upd H D (obS X.w D (acc ++ [k]))) s' → Q .none s') : wpAny (model X.prog X.w) X.A (call (.builtin "set.add") [.ref D, u]) Q E s := by
  obtain ⟨tk, rfl⟩ := ru
  have R := setO_get I hD
  refine setR_add R (by have := setI_len (acc := acc); unfold scanBound; omega) fun g sb new => h _ ?_
  have ob := setO_new (P := X.prog) (H := upd H D (obS X.w D (acc ++ [k]))) new
  rw [obS_snoc] at ob
  obtain ⟨o, _, _, _, e, _⟩ := new
  exact I.write (e := D) (t' := s.toks + 1) (by rw [hD]; trivial) (.inl rfl) (fun b z hb hz => (sb.2 b hb).trans hz) ⟨o, e⟩ ob
end
end Sm

set_option Elab.async false
set_option linter.all false
set_option maxRecDepth 100000
set_option maxHeartbeats 4000000
/-! {e for t in xs if ..}, e ints: the block -/
namespace Sm
open PySem L2 PyProof.Rows PySem.Spec PpSet
section
variable {X : Cx}
def tSi (w : World) (wi : TI) (g : TG) (tt : TT) (te : TE) (vs : List Nat) : TE := fun σ H Q => wi σ H fun J H1 => ∀ D, H1 D = none → ∃ W : Nat → Nat → Hp → Prop, (∃ m, W 0 m (upd H1 D (obS w D []))) ∧ ∀ i m H, W i m H →
  (J.stop i H ∧ Q (.ref D) H) ∨ (J.go i H ∧ ∃ Nx : Hp → Prop, (∀ H', Nx H' → ∃ m', m' < m ∧ W (i + 1) m' H') ∧ ∀ x H', J.yld i H x H' → g x (wipe σ vs) H' fun σ2 H2 => wipe σ2 vs = wipe σ vs ∧ tt σ2 H2 fun b H3 =>
    if b = true then te σ2 H3 fun y H4 => ∃ (k : Int) (acc : List Int), y = .int k ∧ H4 D = some (obS w D acc) ∧ acc.length ≤ 1000 ∧ Nx (upd H4 D (obS w D (acc ++ [k]))) else Nx H3)
theorem pe_scI {elt tg iter : Expr} {ifs : List Expr} {scope : Scope} {own : List (PySem.Str × Nat)} {pos : Pos} {wi : TI} {g : TG} {tt : TT} {te : TE} (hc : X.calm = true) (hN : X.N.Nodup) (hi : PI X tg iter wi) (ok : BlkOk X.N X.env.scope scope own)
    (hg : ∀ (s : Shared) (H : Hp) (C : Addr) (cl : List (PySem.Str × Addr)) (fp : List Addr), PG (X.blk s H scope (compEnvC scope cl C X.env) fp) tg g) (ht : ∀ (s : Shared) (H : Hp) (C : Addr) (cl : List (PySem.Str × Addr)) (fp : List Addr), PTs (X.blk s H scope (compEnvC scope cl C X.env) fp) ifs tt)
    (he : ∀ (s : Shared) (H : Hp) (C : Addr) (cl : List (PySem.Str × Addr)) (fp : List Addr), PE (X.blk s H scope (compEnvC scope cl C X.env) fp) elt te) (hs : ∀ x, foldedSetIterable iter X.env x = pure x := by intro _; rfl) :
    PE X (.SetComp elt [⟨tg, iter, ifs, 0⟩] scope pos) (tSi X.w wi g tt te (own.map (·.2))) := by
  refine ⟨fun pins s σ H Q I h => ?_⟩
  rw [eval_SetComp]
  have frs : ∀ y ∈ scope.names, y.2 = .free → ∃ c, X.env.cells.lookup y.1 = some c := fun y hy e => (ok.free y hy e).elim (fun k => I.ok.has _ (.inl k)) fun k => I.ok.has _ (.inr k)
  refine wpAny_comprehension_free (use := none) rfl hs (closure_ok frs) ok.kind (fun y hy e => by rw [ok.uniq y hy, e]) (thn (hi.run pins s σ H _ I h) fun v0 s1 a1 => thn a1 fun v1 s2 a2 => ?_)
  obtain ⟨it, fp, tn, J, H2, rfl, I2, T, st2, f2, q⟩ := a2
  refine newSet_ok (newEnv_comp ?_)
  generalize hD : s2.heap.objs.size = D
  obtain ⟨W, ⟨m0, w0⟩, turn⟩ := q D (I2.hok.fresh (Nat.le_of_eq hD))
  generalize es : ({ s2 with heap := s2.heap.push (setObj X.w) } : Shared) = s3
  have k3 : ∀ b o, s2.heap.get? b = some o → s3.heap.get? b = some o := fun b o e => by rw [← es]; exact Heap.get?_push_of_some _ e
  have l3 : s3.heap.objs.size = s2.heap.objs.size + 1 := by rw [← es]; exact Heap.size_push ..
  generalize eH : upd H2 D (obS X.w D []) = H3 at w0
  have I3 : Inv X pins σ H3 s3 := by
    rw [← es, ← eH]
    refine I2.laid (t' := s2.toks) (fun b o e => Heap.get?_push_of_some _ e) (Nat.le_of_eq hD) ?_
    rw [← hD]
    exact setO_new (setR_new_at (ns := []) (Heap.get?_push_size _ rfl))
  have young : ∀ b ∈ fp, FpOk X pins H3 b ∧ b < s3.heap.objs.size := fun b hb => by
    obtain ⟨o, e, _⟩ := T.obj _ _ st2 b hb
    have lt := Heap.lt_size e
    have z := f2 b hb
    exact ⟨⟨by rw [← eH, upd_ne (by rw [← hD]; exact Nat.ne_of_lt lt)]; exact z.1, z.2⟩, by rw [l3]; exact Nat.lt_succ_of_lt lt⟩
  have st3 : tn 0 s3.heap := T.keep _ _ _ st2 fun b _ o e => k3 b o e
  have I4 := block_start I3 ok hN young
  have pg := hg s3 H3 s3.heap.objs.size (cellsFrom (s3.heap.objs.size + 1) scope.names (cloFrom X.env.cells scope.names [])) fp
  have pt := ht s3 H3 s3.heap.objs.size (cellsFrom (s3.heap.objs.size + 1) scope.names (cloFrom X.env.cells scope.names [])) fp
  have pe := he s3 H3 s3.heap.objs.size (cellsFrom (s3.heap.objs.size + 1) scope.names (cloFrom X.env.cells scope.names [])) fp
  have loc : (compEnvC scope (cellsFrom (s3.heap.objs.size + 1) scope.names (cloFrom X.env.cells scope.names [])) s3.heap.objs.size X.env).locals = s3.heap.objs.size := rfl
  show codeAny _ _ (.compStart (.SetComp elt [⟨tg, iter, ifs, 0⟩] scope pos) 0 (.ref it) (.ref D) (compEnvC scope (cellsFrom (s3.heap.objs.size + 1) scope.names (cloFrom X.env.cells scope.names [])) s3.heap.objs.size X.env)) (compPost (model X.prog X.w) X.A X.xe none (EP X pins σ Q) (.ref D) s3.heap.objs.size) { s3 with heap := pushCells (s3.heap.push { cls := .type "dict", data := .dict #[] }) scope.names }
  generalize hce : compEnvC scope (cellsFrom (s3.heap.objs.size + 1) scope.names (cloFrom X.env.cells scope.names [])) s3.heap.objs.size X.env = ce at I4 pg pt pe loc ⊢
  generalize es4 : ({ s3 with heap := pushCells (s3.heap.push { cls := .type "dict", data := .dict #[] }) scope.names } : Shared) = s4 at I4 ⊢
  have st4 : tn 0 s4.heap := T.keep _ _ _ st3 fun b _ o e => by rw [← es4]; exact pushCells_keeps _ _ _ _ (Heap.get?_push_of_some _ e)
  have fpk : ∀ {σ' : L2.St} {H' : Hp} {s' : Shared}, Inv (X.blk s3 H3 scope ce fp) [] σ' H' s' → (∀ b ∈ fp, H' b = none) → ∀ b ∈ fp, FpOk (X.blk s3 H3 scope ce fp) [] H' b := fun {σ' H' s'} J n b hb =>
    ⟨n b hb, (J.ok.exf b hb).1, J.ok.exfs b hb, .inl hb, fun x c e => (J.ok.exf b hb).2 x c e, fun p hp => absurd (show p ∈ ([] : List (Addr × Obj)) ++ [] from hp) (by simp)⟩
  have go : codeAny (model X.prog X.w) X.A (.compLoop (.SetComp elt [⟨tg, iter, ifs, 0⟩] scope pos) 0 (.ref it) (.ref D) ce) (compPost (model X.prog X.w) X.A X.xe none (EP X pins σ Q) (.ref D) s3.heap.objs.size) s4 := by
    refine compLoopS_any (fun n s' => ∃ i H', Inv (X.blk s3 H3 scope ce fp) [] (wipe σ (own.map (·.2))) H' s' ∧ tn i s'.heap ∧ (∀ b ∈ fp, H' b = none) ∧ W i n H') ?_ m0 ⟨0, H3, I4, st4, fun b hb => (young b hb).1.1, w0⟩
    rintro n s5 ⟨i, H5, I5, st5, n5, w5⟩
    rcases turn i n H5 w5 with ⟨stop, qq⟩ | ⟨more, Nx, less, step⟩
    · refine thnF (T.done (X.blk s3 H3 scope ce fp) rfl rfl rfl hc i [] s5 _ H5 (fun _ _ => False) I5 (fpk I5 n5) st5 stop) fun r s6 ⟨hr, I6⟩ => ?_
      subst hr
      have I7 : Inv X pins σ H5 s6 := I3.call' (ch := fp) I6.os I6.base I6.hok I6.bare fun b hb => let z := (young b hb).1; ⟨z.2.2.2.1, z.2.1, z.2.2.2.2.1, z.2.2.2.2.2⟩
      have nC : H5 s3.heap.objs.size = none := by
        have z : H5 ce.locals = none := I6.free
        rwa [loc] at z
      obtain ⟨m, hn, _⟩ := I6.loc
      have hn : s6.heap.Ns ce.locals m := hn
      rw [loc] at hn
      obtain ⟨y0, y1, _, y3, y4, y5⟩ : FpOk X pins H5 s3.heap.objs.size := I3.fpOk (Nat.le_refl _) nC
      exact ⟨m, hn, fun g sb => ⟨.ref D, H5, I7.turned (t' := s6.toks) (fun b o hb e => (sb.2 b hb).trans e) y0 y1 y3 y4 y5, rfl, qq⟩⟩
    · refine thnF (T.item (X.blk s3 H3 scope ce fp) rfl rfl rfl hc i [] s5 _ H5 (fun _ _ => False) I5 (fpk I5 n5) st5 more) fun r s6 ⟨u, hr, h6⟩ => ?_
      subst hr
      refine thnF h6 fun _ s7 ⟨x, H7, I7, r7, y7, st7, n7⟩ => ?_
      refine thnF (pg.run _ s7 _ H7 x u _ (I7.pinned (fpk I7 n7) (T.obj _ _ st7)) r7 (step x H7 y7)) fun _ s8 ⟨σ8, H8, I8, e8, q8⟩ => ?_
      refine thnF (pt.run _ s8 σ8 H8 _ I8 q8) fun b s9 ⟨H9, I9, q9⟩ => ?_
      have next : ∀ {s' : Shared} {H' : Hp}, Inv (X.blk s3 H3 scope ce fp) ([] ++ pinsAt fp s7.heap) σ8 H' s' → Nx H' → ∃ m, m < n ∧ ∃ i H', Inv (X.blk s3 H3 scope ce fp) [] (wipe σ (own.map (·.2))) H' s' ∧ tn i s'.heap ∧ (∀ b ∈ fp, H' b = none) ∧ W i m H' := fun {s' H'} J z => by
        obtain ⟨m', lt, w'⟩ := less H' z
        have held : ∀ b ∈ fp, ∀ o, s7.heap.get? b = some o → s'.heap.get? b = some o ∧ H' b = none := fun b hb o e => let z := J.pin (b, o) (List.mem_append_right _ (List.mem_append_right _ (mem_pinsAt hb e))); ⟨z.1, z.2.1⟩
        refine ⟨m', lt, i + 1, H', (J.unpinned (pins := [])).weak (by rw [← e8, wipe_length]) (fun j v e => (wipe_some (by rw [← e8] at e; exact e)).1), T.keep _ _ _ st7 fun b hb o e => (held b hb o e).1, fun b hb => ?_, w'⟩
        obtain ⟨o, e, _⟩ := T.obj _ _ st7 b hb
        exact (held b hb o e).2
      cases b with
      | false =>
        simp only [Bool.false_eq_true, if_false] at q9 ⊢
        exact next I9 q9
      | true =>
        simp only [if_true] at q9 ⊢
        refine thnF (pe.run _ s9 σ8 H9 _ I9 q9) fun z s10 ⟨yv, H10, I10, r10, k, acc, ey, hD10, hz10, nx⟩ => ?_
        subst ey
        exact obS_add (X := X.blk s3 H3 scope ce fp) I10 hD10 hz10 r10 fun s11 I11 => next I11 nx
  exact codeAny_compStart_set go (T.self X.A 0 _ _ _ st4 go)
end
end Sm

set_option Elab.async false
set_option linter.all false
set_option maxRecDepth 100000
set_option maxHeartbeats 4000000
/-! len({e for t in xs if ..}) in the small machine -/
namespace Sm
open PySem L2 PyProof.Rows PySem.Spec PpSet
theorem obS_code {w : World} {D : Addr} {acc : List Int} {q : Str} : obS w D acc ≠ LamX.CodeO D q := fun z => by
  unfold obS SetO LamX.CodeO at z
  have f := HO.ext.inj z
  have ge : Heap.get? { objs := Array.replicate (D + 1) (tblObj #[.none, .str q 0]) } D = some (tblObj #[.none, .str q 0]) := by
    unfold Heap.get?
    simp
  have y := (congrFun f { objs := Array.replicate (D + 1) (tblObj #[.none, .str q 0]) }).mpr ⟨_, _, 0, ge, rfl, rfl⟩
  obtain ⟨o, es, ep, t, e, _, d, _⟩ := y
  rw [ge] at e
  cases e
  cases d
section
variable {K : PySem.W.Frag} {cl : Str → Option Addr} {mp mp' : Mp} {H H' : Hp} {h : MH} {w : World} {D : Addr} {acc acc' : List Int}
theorem Fu.tmpS (hD : H D = some (obS w D acc)) : Fu K mp mp H (upd H D (obS w D acc')) := by
  have ne : ∀ {a : Addr} {u : HO}, H a = some u → (∀ f, u ≠ .ext f) → a ≠ D := fun e n z => by
    rw [z, hD] at e
    exact n _ (Option.some.inj e).symm
  refine ⟨fun _ _ h => h, TpA.set (fun xs q => ?_), fun a xs t => ?_, fun a xs ⟨u, t, c⟩ => ⟨u, by rw [upd_ne (ne t fun _ z => by cases z)]; exact t, c⟩, fun c q e n => ⟨?_, n⟩⟩
  · rcases q with q | ⟨o, q⟩ <;> rw [hD] at q <;> cases q
  · rcases t with ⟨u, t⟩ | t
    · exact .inl ⟨u, by rw [upd_ne (ne t fun _ z => by cases z)]; exact t⟩
    · exact .inr t
  · rw [upd_ne fun z => ?_]
    · exact e
    · rw [z, hD] at e
      exact obS_code (Option.some.inj e)
theorem Rl.tmpS (rl : Rl K cl mp h H) (hD : H D = some (obS w D acc)) (np : ∀ n, mp n ≠ some D) : Rl K cl mp h (upd H D (obS w D acc')) :=
  ⟨rl.dom, rl.has, rl.inj, fun n o a e q => (rl.obj n o a e q).fu (Fu.tmpS hD) (upd_ne fun z => np n (by rw [← z]; exact q))⟩
theorem Fut.tmpS {mp0 : Mp} {H0 : Hp} (f : Fut K mp0 mp H0 H) (h0 : H0 D = none) (hD : H D = some (obS w D acc)) : Fut K mp0 mp H0 (upd H D (obS w D acc')) :=
  ⟨f.le, fun a xs t => (Fu.tmpS (mp := mp) hD).tt a xs (f.tt a xs t), fun a xs t => (Fu.tmpS (mp := mp) hD).sf a xs (f.sf a xs t), fun a o e n => by
    obtain ⟨h1, h2⟩ := f.fr a o e n
    exact ⟨by rw [upd_ne (ne_of_none e h0)]; exact h1, h2⟩, fun a xs t => (Fu.tmpS (K := K) (mp := mp) hD).tx a xs (f.tx a xs t)⟩
end
open Classical in
noncomputable def scGo (gs : Gs) (t : Tg) (mt : MS → MH → Res Bool) (me : ME) (ρ : MS) : List Int → List MV → MH → Res (List Int)
  | acc, [], h => if gOk gs h then .ok acc h else .bad
  | acc, x :: xs, h => if gOk gs h then match t.set x ρ with
    | some ρ1 => (mt ρ1 h).nx.bind fun b h1 => if b = true then (me ρ1 h1).nx.bind fun y h2 => match y with
      | .int k => if acc.length ≤ 1000 then scGo gs t mt me ρ (acc ++ [k]) xs h2 else .bad
      | _ => .bad
      else scGo gs t mt me ρ acc xs h1
    | none => .bad
    else .bad
noncomputable def eLenSc (mi : MI) (t : Tg) (vs : List Nat) (mt : MS → MH → Res Bool) (me : ME) : ME := fun ρ h => (mi ρ h).bind fun xg h1 => if szOk xg.1.length then (scGo xg.2 t mt me (wipeM ρ vs) [] xg.1 h1).bind fun acc h2 => .ok (.int ((setI acc).length : Nat)) h2 else .bad
def rLenS (w : World) : List V → Hp → VK → Prop := fun xs H Q => ∃ (a : Addr) (acc : List Int), xs = [.ref a] ∧ H a = some (obS w a acc) ∧ Q (.int ((setI acc).length : Nat)) H
theorem cr_lenS {X : Cx} : CallR X (.builtin "len") (rLenS X.w) := by
  intro pins s σ H xs us Q I r ⟨a, acc, e, ha, q⟩
  subst e
  rw [Vals.ref1 r]
  obtain ⟨o, es, ep, t, ho, hx, hd, _, _, _, hb, hf, hn, _⟩ := setO_get I ha
  exact call_len_set ho hx hd hf (by unfold scanBound at hb; omega) ⟨.int ((setI acc).length : Nat), H, I.tok _, ⟨_, by rw [hn]⟩, q⟩
section
variable {X : Cx} {cl : Str → Option Addr} {W : Wsh} {tg iter elt c : Expr} {mi : MI} {t : Tg} {mt : MS → MH → Res Bool} {me : ME} {pos spos py : Pos} {ifs : List Expr} {scope : Scope} {own : List (Str × Nat)}
theorem sc_read {w : World} {K : PySem.W.Frag} {vs : List Nat} (hv : ∀ i, i ∈ t.slots → i ∈ vs) : ∀ σ H Q, tM K cl W (eLenSc mi t vs mt me) σ H Q → tSi w (tMI K cl W mi) (t.g K) (tMT K cl W0 mt) (tM K cl W0 me) vs σ H (fun x H1 => rLenS w [x] H1 Q) := fun σ H Q ⟨ρ, h, mp, rl, rs, g⟩ => by
  refine ⟨ρ, h, mp, rl, rs, (Good.bind.mp g).mono (fun xg h1 g1 J H1 mp1 f1 rl1 jok D hD => ?_) fun _ _ z => z⟩
  obtain ⟨xs, gs⟩ := xg
  dsimp only at g1 jok
  split at g1
  · rename_i hz
    have h0 : H D = none := f1.back rl1 hD
    have rs1 := rs_wipe (rs.fut f1) vs
    have np1 := rl1.np hD
    refine ⟨fun i m H' => m = xs.length - i ∧ i ≤ xs.length ∧ ∃ h' mp' acc, Fut K mp1 mp' H1 H' ∧ Rl K cl mp' h' H' ∧ (∀ n, mp' n ≠ some D) ∧ H' D = some (obS w D acc) ∧
      Good (scGo gs t mt me (wipeM ρ vs) acc (xs.drop i) h') (fun acc h'' => QV K cl mp H Q (.int ((setI acc).length : Nat)) h'') (EW K cl mp H W σ), ⟨_, rfl, Nat.zero_le _, h1, mp1, [], Fut.new hD, rl1.new hD, np1, upd_same, (Good.bind.mp g1)⟩, ?_⟩
    rintro i m H' ⟨rfl, hi, h', mp', acc, f', rl', np', hD', g'⟩
    by_cases hlt : i < xs.length
    · have hd : xs.drop i = xs[i] :: xs.drop (i + 1) := List.drop_eq_getElem_cons hlt
      rw [hd] at g'
      unfold scGo at g'
      split at g'
      · rename_i gok
        obtain ⟨go, yl⟩ := jok.step i xs[i] mp' h' H' f' rl' gok (by simp [hlt])
        refine .inr ⟨go, fun H3 => ∃ h3 mp3 acc3, Fut K mp1 mp3 H1 H3 ∧ Rl K cl mp3 h3 H3 ∧ (∀ n, mp3 n ≠ some D) ∧ H3 D = some (obS w D acc3) ∧
          Good (scGo gs t mt me (wipeM ρ vs) acc3 (xs.drop (i + 1)) h3) (fun acc h'' => QV K cl mp H Q (.int ((setI acc).length : Nat)) h'') (EW K cl mp H W σ), fun H3 z => ⟨xs.length - (i + 1), by omega, rfl, hlt, z⟩, fun V H'' y => ?_⟩
        obtain ⟨f2, rl2, rv2⟩ := yl V H'' y
        split at g'
        · rename_i ρ1 et
          obtain ⟨σ2, rs2, q2, w2⟩ := tg_ok et rv2 ((rs1.fut f').fut f2)
          obtain ⟨hD2, np2⟩ := f2.fr D _ hD' np'
          refine q2 _ ⟨(w2 vs hv).trans (wipe_wipe σ vs), ρ1, h', mp', rl2, rs2, ?_⟩
          refine Good.nx ((Good.bind.mp g').mono (fun b hb gb H3 mp3 f3 rl3 => ?_) fun _ _ z => z)
          obtain ⟨hD3, np3⟩ := f3.fr D _ hD2 np2
          cases b with
          | true =>
            rw [if_pos rfl] at gb
            refine ⟨ρ1, hb, mp3, rl3, rs2.fut f3, Good.nx ((Good.bind.mp gb).mono (fun y hy gy Y H4 mp4 f4 rl4 rv4 => ?_) fun _ _ z => z)⟩
            obtain ⟨hD4, np4⟩ := f4.fr D _ hD3 np3
            have f14 : Fut K mp1 mp4 H1 H4 := f'.trans (f2.trans (f3.trans f4))
            split at gy
            · rename_i k
              split at gy
              · rename_i ha
                cases rv4
                exact ⟨k, acc, rfl, hD4, ha, hy, mp4, acc ++ [k], f14.tmpS hD hD4, rl4.tmpS hD4 np4, np4, upd_same, gy⟩
              · exact False.elim gy
            · exact False.elim gy
          | false =>
            rw [if_neg (by decide)] at gb
            exact ⟨hb, mp3, acc, f'.trans (f2.trans f3), rl3, np3, hD3, gb⟩
        · exact False.elim g'
      · exact False.elim g'
    · have e : i = xs.length := by omega
      subst e
      rw [List.drop_length] at g'
      unfold scGo at g'
      split at g'
      · rename_i gok
        exact .inl ⟨jok.stop _ mp' h' H' f' rl' gok (Nat.le_refl _), D, acc, rfl, hD', g' _ H' mp' (f1.trans f') rl' (.int _)⟩
      · exact False.elim g'
  · exact False.elim g1
/-- len({e for t in xs if ..}) -/
theorem se_lenSc {p : Pos} (hv : ∀ i, i ∈ t.slots → i ∈ own.map (·.2) := by decide) (hgl : Gl X "len") (hml : X.mg "len" = none) (hc : X.calm = true) (hN : X.N.Nodup) (hi : SI X cl W tg iter mi) (ok : BlkOk X.N X.env.scope scope own)
    (hg : ∀ (s : Shared) (H : Hp) (C : Addr) (cl' : List (Str × Addr)) (fp : List Addr), PG (X.blk s H scope (compEnvC scope cl' C X.env) fp) tg (t.g X.K)) (ht : ∀ (s : Shared) (H : Hp) (C : Addr) (cl' : List (Str × Addr)) (fp : List Addr), STs (X.blk s H scope (compEnvC scope cl' C X.env) fp) cl W0 ifs mt)
    (he : ∀ (s : Shared) (H : Hp) (C : Addr) (cl' : List (Str × Addr)) (fp : List Addr), SE (X.blk s H scope (compEnvC scope cl' C X.env) fp) cl W0 elt me) (hs : ∀ x, foldedSetIterable iter X.env x = pure x := by intro _; rfl)
    (h1 : starEach [.SetComp elt [⟨tg, iter, ifs, 0⟩] scope pos] X.env = (false, eval (.SetComp elt [⟨tg, iter, ifs, 0⟩] scope pos) X.env) :: starEach [] X.env := by rfl) (h2 : (backTo spos (starEach [] X.env)).any (·.1) = false := by rfl) :
    SE X cl W (.Call (.Name "len" p) [.SetComp elt [⟨tg, iter, ifs, 0⟩] scope pos] [] spos) (eLenSc mi t (own.map (·.2)) mt me) :=
  peW (pe_callB cr_lenS hgl hml (by decide +kernel) (pa_cons (pe_scI hc hN hi ok hg ht he hs) pa_nil h1) (by decide) (by decide) h1 h2) fun σ H Q q => sc_read hv σ H Q q
end
end Sm

set_option Elab.async false
set_option linter.all false
set_option maxRecDepth 100000
set_option maxHeartbeats 4000000
/-! a dict's keys: list(d), for k in d (a dict that is never written) -/
namespace Sm
open PySem L2 PyProof.Rows PySem.Spec
def kM : Key → MV | .inl i => .int i | .inr z => .str z
theorem rv_kM {K : PySem.W.Frag} {mp : Mp} {H : Hp} : ∀ k : Key, RV K mp H (kM k) (kV k)
  | .inl i => .int i
  | .inr z => .str z
theorem rvs_kM {K : PySem.W.Frag} {mp : Mp} {H : Hp} : ∀ ks : List Key, RVs K mp H (ks.map kM) (ks.map kV)
  | [] => .nil
  | k :: ks => .cons (rv_kM k) (rvs_kM ks)
/-- the keys of a dict -/
def keysR (o : Option MO) : Option (List Key) := match o with | some (.dct kvs) => some (kvs.map (·.1)) | _ => none
def keysOf (x : MV) (h : MH) : Option (List Key) := match x with | .fdc ks _ => some ks | .ref n => keysR h[n]? | _ => none
def lOfD (m : ME) : MA := fun ρ h => (m ρ h).bind fun x h1 => match keysOf x h1 with | some ks => .ok (ks.map kM) h1 | none => .bad
def iKey (m : ME) : MI := fun ρ h => (m ρ h).bind fun x h1 => match x with | .fdc ks _ => .ok (ks.map kM, []) h1 | _ => .bad
theorem keys_ok {K : PySem.W.Frag} {cl : Str → Option Addr} {mp : Mp} {h : MH} {H : Hp} {x : MV} {V : L2.V} {ks : List Key} (rl : Rl K cl mp h H) (r : RV K mp H x V) (e : keysOf x h = some ks) : ∃ (a : Addr) (kvs : List (Key × L2.V)), V = .ref a ∧ Rd H a (.dK kvs) ∧ kvs.map (·.1) = ks := by
  cases r with
  | @fdc _ _ vs a h1 l q1 =>
    cases e
    obtain ⟨o, e, _⟩ := h1
    exact ⟨a, _, rfl, .inr ⟨o, e⟩, List.map_fst_zip (by omega)⟩
  | @ref n a e1 =>
    unfold keysOf keysR at e
    dsimp only at e
    split at e
    · rename_i kvs c
      cases e
      obtain ⟨vs, h1, q1⟩ := rl.obj n _ a c e1
      exact ⟨a, vs, rfl, .inl h1, q1.1.symm⟩
    · cases e
  | _ => cases e
section
variable {X : Cx} {cl : Str → Option Addr} {W : Wsh} {e tg : Expr} {m : ME}
theorem sl_ofD {p pos : Pos} (hc : X.calm = true) (hg : Gl X "list") (hm : X.mg "list" = none) (he : SE X cl W e m)
    (hst : starEach [e] X.env = [(false, eval e X.env)] := by rfl) : SL X cl W (.Call (.Name "list" p) [e] [] pos) (lOfD m) :=
  peW (pe_callTy (call_listD hc) hg hm (by decide +kernel) (pa_cons he pa_nil hst) (hn := by decide) (hdb := by decide) (he := hst) (hpl := rfl)) fun σ H Q ⟨ρ, h, mp, rl, rs, g⟩ =>
    tM_bind rl rs g (fun _ _ z => z) fun x h1 V H1 mp1 f1 rl1 rs1 rv1 g1 => by
      split at g1
      · rename_i ks ek
        obtain ⟨a, kvs, rfl, hd, e2⟩ := keys_ok rl1 rv1 ek
        refine ⟨a, kvs, rfl, hd, fun l hl => newList f1 rl1 ?_ hl g1⟩
        have e3 : (kvs.map fun kv => kV kv.1) = ks.map kV := by rw [← e2, List.map_map]; rfl
        rw [e3]
        exact rvs_kM ks
      · exact False.elim g1
theorem jok_keys {K : PySem.W.Frag} {mp0 : Mp} {H0 : Hp} {d : Addr} {o : Obj} {kvs : List (Key × L2.V)} (hd : H0 d = some (.frz o (.dK kvs))) : JOk K cl (Itk d o kvs) ((kvs.map (·.1)).map kM) [] mp0 H0 where
  step := fun i x mp h H f rl g e => by
    obtain ⟨o', q, e'⟩ := f.tx d (.dK kvs, fun z => z = o) ⟨o, hd, rfl⟩
    have e' : o' = o := e'
    subst e'
    rw [List.getElem?_map, List.getElem?_map] at e
    cases ek : kvs[i]? with
    | none => rw [ek] at e; cases e
    | some kv =>
      rw [ek] at e
      cases e
      refine ⟨⟨q, (List.getElem?_eq_some_iff.mp ek).1⟩, fun V H' ⟨e2, k, v, e3, e4⟩ => ?_⟩
      subst e2 e4
      rw [ek] at e3
      cases e3
      exact ⟨.refl, rl, rv_kM _⟩
  stop := fun i mp h H f rl g l => by
    obtain ⟨o', q, e'⟩ := f.tx d (.dK kvs, fun z => z = o) ⟨o, hd, rfl⟩
    have e' : o' = o := e'
    subst e'
    exact ⟨q, by simpa using l⟩
theorem si_key (he : SE X cl W e m) : SI X cl W tg e (iKey m) := piW (pi_keys he) fun σ H R ⟨ρ, h, mp, rl, rs, g⟩ =>
  tM_bind rl rs g (fun _ _ z => z) fun x h1 V H1 mp1 f1 rl1 rs1 rv1 g1 => by
    cases rv1 with
    | @fdc ks xs vs a h2 l q2 =>
      obtain ⟨o, e2, _⟩ := h2
      have J := jok_keys (cl := cl) (K := X.K) (mp0 := mp1) e2
      rw [List.map_fst_zip (by omega)] at J
      exact ⟨a, o, rfl, .inl ⟨_, e2, g1 _ H1 mp1 f1 rl1 J⟩⟩
    | _ => exact False.elim g1
theorem jok_zipL {K : PySem.W.Frag} {mp0 : Mp} {H0 : Hp} {n k : Nat} {a b : Addr} {xs ys : List MV} (e1 : mp0 n = some a) (e2 : mp0 k = some b) : JOk K cl (Itz K a b) (zipM xs ys) [(n, xs), (k, ys)] mp0 H0 where
  step := fun i x mp h H f rl g e => by
    obtain ⟨u, w, e3, e4, rfl⟩ := zipM_get e
    obtain ⟨vs, h1, q1⟩ := cell_list (xs := xs) e1 mp h H f rl (fun z hz => g z (by simp at hz; subst hz; simp))
    obtain ⟨ws, h2, q2⟩ := cell_list (xs := ys) e2 mp h H f rl (fun z hz => g z (by simp at hz; subst hz; simp))
    obtain ⟨U, e5, r5⟩ := q1.get e3
    obtain ⟨Z, e6, r6⟩ := q2.get e4
    refine ⟨⟨vs, ws, U, Z, h1, h2, e5, e6⟩, fun V H' ⟨T, x, y, e7, hT, e8, e9, e10⟩ => ?_⟩
    subst e7 e8
    have z1 := e9 vs h1
    rw [e5] at z1
    have z2 := e10 ws h2
    rw [e6] at z2
    have z1 := Option.some.inj z1
    have z2 := Option.some.inj z2
    subst z1 z2
    exact ⟨Fut.new hT, rl.new hT, .tup (SqT.of upd_same) (.cons (r5.fut (Fut.new hT)) (.cons (r6.fut (Fut.new hT)) .nil))⟩
  stop := fun i mp h H f rl g l => by
    obtain ⟨vs, h1, q1⟩ := cell_list (xs := xs) e1 mp h H f rl (fun z hz => g z (by simp at hz; subst hz; simp))
    obtain ⟨ws, h2, q2⟩ := cell_list (xs := ys) e2 mp h H f rl (fun z hz => g z (by simp at hz; subst hz; simp))
    refine ⟨vs, ws, h1, h2, ?_⟩
    have : min xs.length ys.length ≤ i := by simpa [zipM] using l
    rw [← q1.length, ← q2.length]
    omega
def zipR (o u : Option MO) (n k : Nat) (h : MH) : Res (List MV × Gs) := match o, u with | some (.lst xs), some (.lst ys) => .ok (zipM xs ys, [(n, xs), (k, ys)]) h | _, _ => .bad
def iZipG (ms : MA) : MI := fun ρ h => (ms ρ h).bind fun xs h1 => match xs with
  | [.tup xs, .tup ys] => .ok (zipM xs ys, []) h1
  | [.ref n, .ref k] => zipR h1[n]? h1[k]? n k h1
  | _ => .bad
theorem si_zipG {a b : Expr} {ms : MA} {p pos tpos : Pos} {elts : List Expr} {kk : Nat} (hg : Gl X "zip") (hm : X.mg "zip" = none) (ha : SA X cl W [a, b] ms) (hs : starEach [a, b] X.env = (false, eval a X.env) :: starEach [b] X.env := by rfl) (hpl : (backTo pos (starEach [b] X.env)).any (·.1) = false := by rfl) : SI X cl W (.Tuple elts kk tpos) (.Call (.Name "zip" p) [a, b] [] pos) (iZipG ms) :=
  piW (RZ.pi_zipA hg hm ha hs hpl) fun σ H R ⟨ρ, h, mp, rl, rs, g⟩ => tMA_bind rl rs g (fun _ _ z => z) fun xs h1 V H1 mp1 f1 rl1 rs1 rv1 g1 => by
    split at g1
    · obtain ⟨Z, Y, rfl, rz, ry⟩ := rvs2 rv1
      cases rz with
      | tup h1 q1 =>
        cases ry with
        | tup h2 q2 => exact ⟨_, _, _, _, rfl, .inr ⟨h1, h2, g1 _ H1 mp1 f1 rl1 (jok_zip h1 q1 h2 q2)⟩⟩
    · rename_i n k
      obtain ⟨Z, Y, rfl, rz, ry⟩ := rvs2 rv1
      unfold zipR at g1
      cases rz with
      | @ref _ a e1 =>
        cases ry with
        | @ref _ b e2 =>
          split at g1
          · rename_i xs ys c1 c2
            obtain ⟨vs, h1, _⟩ := rl1.obj n _ a c1 e1
            obtain ⟨ws, h2, _⟩ := rl1.obj k _ b c2 e2
            exact ⟨_, _, _, _, rfl, .inl ⟨SqL.of h1, SqL.of h2, g1 _ H1 mp1 f1 rl1 (jok_zipL e1 e2)⟩⟩
          · exact False.elim g1
    · exact False.elim g1
end
end Sm

set_option Elab.async false
set_option linter.all false
set_option maxRecDepth 100000
set_option maxHeartbeats 4000000
/-! a tuple display whose object is known; is, is not of truths -/
namespace Sm
open PySem L2 PyProof.Rows PySem.Spec
section
variable {X : Cx} {cl : Str → Option Addr} {W : Wsh} {a b e : Expr} {es : List Expr} {ms : MA} {ma mb : ME} {pos : Pos}
def tTupF (t : TA) : TE := fun σ H Q => t σ H fun xs H1 => xs.length ≤ sizeLine ∧ ∀ p (ob : Obj), H1 p = none → ob.cls = .type "tuple" → ob.dict = none → Q (.ref p) (upd H1 p (.frz ob (.tup xs)))
theorem pe_tupF {t : TA} {x1} (h : PA X es t) : PE X (.Tuple es x1 pos) (tTupF t) := by
  refine ⟨fun pins s σ H Q I hq => ?_⟩
  refine wpAny_Tuple_spliced (thn (h.run pos pins s σ H _ I hq) fun us s1 ⟨xs, H1, I1, r, z, q⟩ => ⟨by rw [← r.length]; exact z, ?_⟩)
  have hf : H1 s1.heap.objs.size = none := I1.hok.fresh (Nat.le_refl _)
  have I2 : Inv X pins σ (upd H1 s1.heap.objs.size (.frz { cls := .type "tuple", data := .seq us.toArray } (.tup xs))) { s1 with heap := s1.heap.push { cls := .type "tuple", data := .seq us.toArray } } :=
    I1.laid (t' := s1.toks) (fun b u e => Heap.get?_push_of_some _ e) (Nat.le_refl _) (show ObjOk X.prog X.w _ _ _ (.frz _ (.tup xs)) from ⟨Heap.get?_push_size _ rfl, z, us, r, IsTup.new _ _⟩)
  exact ⟨.ref s1.heap.objs.size, _, I2, rfl, q _ _ hf rfl rfl⟩
def eTupX (ms : MA) : ME := fun ρ h => (ms ρ h).bind fun xs h1 => if szOk xs.length then .ok (.tux xs) h1 else .bad
theorem se_tupX {x1} (hs : SA X cl W es ms) : SE X cl W (.Tuple es x1 pos) (eTupX ms) :=
  peW (pe_tupF hs) fun σ H Q ⟨ρ, h, mp, rl, rs, g⟩ => tMA_bind rl rs g (fun _ _ z => z) fun xs h1 V H1 mp1 f1 rl1 rs1 rv1 g1 => by
    split at g1
    · rename_i hz
      refine ⟨by rw [← rv1.length]; exact hz.le, fun p ob hp c1 c2 => ?_⟩
      exact g1 _ _ mp1 (f1.trans (Fut.new hp)) (rl1.new hp) (.tux ⟨ob, upd_same, c1, c2⟩ (rv1.fut (Fut.new hp)))
    · exact g1.elim
def mIsB (x y : MV) (h : MH) : Res MV := match x, y with | .bl a, .bl b => .ok (.bl (decide (a = b))) h | _, _ => .bad
def mIsNotB (x y : MV) (h : MH) : Res MV := match x, y with | .bl a, .bl b => .ok (.bl (!decide (a = b))) h | _, _ => .bad
theorem mIsB_noEx : NoEx2 mIsB := by
  intro x y h e h' z; unfold mIsB at z; (repeat' split at z); all_goals cases z
theorem mIsNotB_noEx : NoEx2 mIsNotB := by
  intro x y h e h' z; unfold mIsNotB at z; (repeat' split at z); all_goals cases z
theorem op_isBM : OpR X (compareOp .Is) (rM X.K cl mIsB) := by
  intro pins s σ H V Y v u Q I rx ry ⟨x, y, h, mp, rl, r1, r2, g⟩
  cases r1 with
  | bl a =>
    cases r2 with
    | bl b => exact op_isBl pins s σ H _ _ v u Q I rx ry ⟨a, b, rfl, rfl, g _ H mp .refl rl (.bl _)⟩
    | _ => exact g.elim
  | _ => cases r2 <;> exact g.elim
theorem op_notBM : OpR X (compareOp .IsNot) (rM X.K cl mIsNotB) := by
  intro pins s σ H V Y v u Q I rx ry ⟨x, y, h, mp, rl, r1, r2, g⟩
  cases r1 with
  | bl a =>
    cases r2 with
    | bl b => exact op_notBl pins s σ H _ _ v u Q I rx ry ⟨a, b, rfl, rfl, g _ H mp .refl rl (.bl _)⟩
    | _ => exact g.elim
  | _ => cases r2 <;> exact g.elim
theorem c_IsB (ha : SE X cl W a ma) (hb : SE X cl W b mb) : SE X cl W (.Compare a [.Is] [b] pos) (eBin mIsB ma mb) := se_cmp op_isBM rM_ok mIsB_noEx ha hb (nomark _)
theorem t_IsB (ha : SE X cl W a ma) (hb : SE X cl W b mb) : ST X cl W (.Compare a [.Is] [b] pos) (tOfE (eBin mIsB ma mb)) := st_cmp op_isBM rM_ok mIsB_noEx ha hb (nomark _)
theorem c_IsNotB (ha : SE X cl W a ma) (hb : SE X cl W b mb) : SE X cl W (.Compare a [.IsNot] [b] pos) (eBin mIsNotB ma mb) := se_cmp op_notBM rM_ok mIsNotB_noEx ha hb (nomark _)
theorem t_IsNotB (ha : SE X cl W a ma) (hb : SE X cl W b mb) : ST X cl W (.Compare a [.IsNot] [b] pos) (tOfE (eBin mIsNotB ma mb)) := st_cmp op_notBM rM_ok mIsNotB_noEx ha hb (nomark _)
end
end Sm

set_option Elab.async false
set_option linter.all false
set_option maxRecDepth 100000
namespace My
open PySem L2
/-! ### the text by places -/
def top (i : Nat) : Stmt := PySem.Challenge.pw_sendstead_k29_sweep_papers.main.body.getD i (.Pass ⟨0, 0, 0, 0⟩)
abbrev s_is_made_of : Stmt := top 5
abbrev N_is_made_of : List Str := ["text", "signs", "low", "high", "sign"]
theorem sc_is_made_of : FnScope N_is_made_of ["text", "signs", "low", "high"] (defScope s_is_made_of) := ⟨rfl, rfl, rfl, by decide +kernel, rfl, by decide +kernel, by decide +kernel⟩
abbrev s_is_kind_name : Stmt := top 6
abbrev N_is_kind_name : List Str := ["word"]
theorem sc_is_kind_name : FnScope N_is_kind_name ["word"] (defScope s_is_kind_name) := ⟨rfl, rfl, rfl, by decide +kernel, rfl, by decide +kernel, by decide +kernel⟩
abbrev s_is_text : Stmt := top 7
abbrev N_is_text : List Str := ["text"]
theorem sc_is_text : FnScope N_is_text ["text"] (defScope s_is_text) := ⟨rfl, rfl, rfl, by decide +kernel, rfl, by decide +kernel, by decide +kernel⟩
abbrev s_is_cell : Stmt := top 9
abbrev N_is_cell : List Str := ["worth"]
theorem sc_is_cell : FnScope N_is_cell ["worth"] (defScope s_is_cell) := ⟨rfl, rfl, rfl, by decide +kernel, rfl, by decide +kernel, by decide +kernel⟩
abbrev s_parts_of : Stmt := top 10
abbrev N_parts_of : List Str := ["cell"]
theorem sc_parts_of : FnScope N_parts_of ["cell"] (defScope s_parts_of) := ⟨rfl, rfl, rfl, by decide +kernel, rfl, by decide +kernel, by decide +kernel⟩
abbrev s_moved_worth : Stmt := top 11
abbrev N_moved_worth : List Str := ["worth", "moves"]
theorem sc_moved_worth : FnScope N_moved_worth ["worth", "moves"] (defScope s_moved_worth) := ⟨rfl, rfl, rfl, by decide +kernel, rfl, by decide +kernel, by decide +kernel⟩
abbrev s_moved_worths : Stmt := top 12
abbrev N_moved_worths : List Str := ["worths", "moves", "worth"]
theorem sc_moved_worths : FnScope N_moved_worths ["worths", "moves"] (defScope s_moved_worths) := ⟨rfl, rfl, rfl, by decide +kernel, rfl, by decide +kernel, by decide +kernel⟩
abbrev s_moved_cell : Stmt := top 13
abbrev N_moved_cell : List Str := ["cell", "moves"]
theorem sc_moved_cell : FnScope N_moved_cell ["cell", "moves"] (defScope s_moved_cell) := ⟨rfl, rfl, rfl, by decide +kernel, rfl, by decide +kernel, by decide +kernel⟩
abbrev s_is_whole : Stmt := top 18
abbrev N_is_whole : List Str := ["thing", "low"]
theorem sc_is_whole : FnScope N_is_whole ["thing", "low"] (defScope s_is_whole) := ⟨rfl, rfl, rfl, by decide +kernel, rfl, by decide +kernel, by decide +kernel⟩
abbrev s_is_address : Stmt := top 19
abbrev N_is_address : List Str := ["thing"]
theorem sc_is_address : FnScope N_is_address ["thing"] (defScope s_is_address) := ⟨rfl, rfl, rfl, by decide +kernel, rfl, by decide +kernel, by decide +kernel⟩
abbrev s_is_worth : Stmt := top 20
abbrev N_is_worth : List Str := ["thing"]
theorem sc_is_worth : FnScope N_is_worth ["thing"] (defScope s_is_worth) := ⟨rfl, rfl, rfl, by decide +kernel, rfl, by decide +kernel, by decide +kernel⟩
abbrev s_are_worths : Stmt := top 21
abbrev N_are_worths : List Str := ["thing", "most", "worth"]
theorem sc_are_worths : FnScope N_are_worths ["thing", "most"] (defScope s_are_worths) := ⟨rfl, rfl, rfl, by decide +kernel, rfl, by decide +kernel, by decide +kernel⟩
abbrev s_is_lot : Stmt := top 22
abbrev N_is_lot : List Str := ["thing"]
theorem sc_is_lot : FnScope N_is_lot ["thing"] (defScope s_is_lot) := ⟨rfl, rfl, rfl, by decide +kernel, rfl, by decide +kernel, by decide +kernel⟩
abbrev s_is_rising : Stmt := top 23
abbrev N_is_rising : List Str := ["numbers", "one", "other"]
theorem sc_is_rising : FnScope N_is_rising ["numbers"] (defScope s_is_rising) := ⟨rfl, rfl, rfl, by decide +kernel, rfl, by decide +kernel, by decide +kernel⟩
abbrev s_are_pairs : Stmt := top 24
abbrev N_are_pairs : List Str := ["thing", "pair"]
theorem sc_are_pairs : FnScope N_are_pairs ["thing"] (defScope s_are_pairs) := ⟨rfl, rfl, rfl, by decide +kernel, rfl, by decide +kernel, by decide +kernel⟩
abbrev s_are_lots : Stmt := top 25
abbrev N_are_lots : List Str := ["thing", "address", "cell"]
theorem sc_are_lots : FnScope N_are_lots ["thing"] (defScope s_are_lots) := ⟨rfl, rfl, rfl, by decide +kernel, rfl, by decide +kernel, by decide +kernel⟩
abbrev s_is_formed : Stmt := top 26
abbrev N_is_formed : List Str := ["thing", "root", "pair"]
theorem sc_is_formed : FnScope N_is_formed ["thing"] (defScope s_is_formed) := ⟨rfl, rfl, rfl, by decide +kernel, rfl, by decide +kernel, by decide +kernel⟩
abbrev s_are_moved : Stmt := top 27
abbrev N_are_moved : List Str := ["cell", "moves", "worth"]
theorem sc_are_moved : FnScope N_are_moved ["cell", "moves"] (defScope s_are_moved) := ⟨rfl, rfl, rfl, by decide +kernel, rfl, by decide +kernel, by decide +kernel⟩
abbrev s_sweep_stands : Stmt := top 28
abbrev N_sweep_stands : List Str := ["thing", "before", "roots", "pairs", "behind", "cells", "moves", "due", "address", "there", "root"]
theorem sc_sweep_stands : FnScope N_sweep_stands ["thing"] (defScope s_sweep_stands) := ⟨rfl, rfl, rfl, by decide +kernel, rfl, by decide +kernel, by decide +kernel⟩
abbrev s_law_deck : Stmt := top 30
abbrev N_law_deck : List Str := ["_law_script", "_law_digits", "_law_cells_here", "_law_cell_here", "_law_k"]
theorem sc_law_deck : FnScope N_law_deck ["_law_script"] (defScope s_law_deck) := ⟨rfl, rfl, rfl, by decide +kernel, rfl, by decide +kernel, by decide +kernel⟩
abbrev s_law_next : Stmt := top 31
abbrev N_law_next : List Str := ["_law_deck_here", "_law_below", "_law_at", "_law_primes", "_law_one", "_law_other", "_law_mixed"]
theorem sc_law_next : FnScope N_law_next ["_law_deck_here", "_law_below"] (defScope s_law_next) := ⟨rfl, rfl, rfl, by decide +kernel, rfl, by decide +kernel, by decide +kernel⟩
abbrev s_law_worth : Stmt := top 32
abbrev N_law_worth : List Str := ["_law_deck_here", "_law_some", "_law_plain"]
theorem sc_law_worth : FnScope N_law_worth ["_law_deck_here", "_law_some"] (defScope s_law_worth) := ⟨rfl, rfl, rfl, by decide +kernel, rfl, by decide +kernel, by decide +kernel⟩
abbrev s_law_worths : Stmt := top 33
abbrev N_law_worths : List Str := ["_law_deck_here", "_law_some", "_law_many", "_law_k"]
theorem sc_law_worths : FnScope N_law_worths ["_law_deck_here", "_law_some", "_law_many"] (defScope s_law_worths) := ⟨rfl, rfl, rfl, by decide +kernel, rfl, by decide +kernel, by decide +kernel⟩
abbrev s_law_cell : Stmt := top 34
abbrev N_law_cell : List Str := ["_law_deck_here", "_law_some", "_law_way", "_law_kind", "_law_mine", "_law_outer", "_law_many"]
theorem sc_law_cell : FnScope N_law_cell ["_law_deck_here", "_law_some"] (defScope s_law_cell) := ⟨rfl, rfl, rfl, by decide +kernel, rfl, by decide +kernel, by decide +kernel⟩
abbrev s_law_places : Stmt := top 35
abbrev N_law_places : List Str := ["_law_deck_here", "_law_many", "_law_found", "_law_last", "_law_k"]
theorem sc_law_places : FnScope N_law_places ["_law_deck_here", "_law_many"] (defScope s_law_places) := ⟨rfl, rfl, rfl, by decide +kernel, rfl, by decide +kernel, by decide +kernel⟩
abbrev s_law_parts : Stmt := top 36
abbrev N_law_parts : List Str := ["_law_cell_here"]
theorem sc_law_parts : FnScope N_law_parts ["_law_cell_here"] (defScope s_law_parts) := ⟨rfl, rfl, rfl, by decide +kernel, rfl, by decide +kernel, by decide +kernel⟩
abbrev s_law_closed : Stmt := top 37
abbrev N_law_closed : List Str := ["_law_cells_here", "_law_some", "_law_found", "_law_at", "_law_part"]
theorem sc_law_closed : FnScope N_law_closed ["_law_cells_here", "_law_some"] (defScope s_law_closed) := ⟨rfl, rfl, rfl, by decide +kernel, rfl, by decide +kernel, by decide +kernel⟩
abbrev s_law_moved : Stmt := top 38
abbrev N_law_moved : List Str := ["_law_worth_here", "_law_moves"]
theorem sc_law_moved : FnScope N_law_moved ["_law_worth_here", "_law_moves"] (defScope s_law_moved) := ⟨rfl, rfl, rfl, by decide +kernel, rfl, by decide +kernel, by decide +kernel⟩
abbrev s_law_moved_cell : Stmt := top 39
abbrev N_law_moved_cell : List Str := ["_law_cell_here", "_law_moves", "_law_part"]
theorem sc_law_moved_cell : FnScope N_law_moved_cell ["_law_cell_here", "_law_moves"] (defScope s_law_moved_cell) := ⟨rfl, rfl, rfl, by decide +kernel, rfl, by decide +kernel, by decide +kernel⟩
abbrev s_law_told : Stmt := top 40
abbrev N_law_told : List Str := ["_law_deck_here", "_law_cells_here", "_law_roots", "_law_kept", "_law_left", "_law_moves", "_law_address", "_law_behind", "_law_before"]
theorem sc_law_told : FnScope N_law_told ["_law_deck_here", "_law_cells_here", "_law_roots", "_law_kept"] (defScope s_law_told) := ⟨rfl, rfl, rfl, by decide +kernel, rfl, by decide +kernel, by decide +kernel⟩
abbrev s_law_cells : Stmt := top 41
abbrev N_law_cells : List Str := ["_law_deck_here", "_law_places_here", "_law_cells_here", "_law_address"]
theorem sc_law_cells : FnScope N_law_cells ["_law_deck_here"] (defScope s_law_cells) := ⟨rfl, rfl, rfl, by decide +kernel, rfl, by decide +kernel, by decide +kernel⟩
abbrev s_law_paper : Stmt := top 42
abbrev N_law_paper : List Str := ["_law_deck_here", "_law_cells_here", "_law_places_here", "_law_roots", "_law_more", "_law_address"]
theorem sc_law_paper : FnScope N_law_paper ["_law_deck_here"] (defScope s_law_paper) := ⟨rfl, rfl, rfl, by decide +kernel, rfl, by decide +kernel, by decide +kernel⟩
abbrev s_law_fewer : Stmt := top 43
abbrev N_law_fewer : List Str := ["_law_deck_here", "_law_paper_here", "_law_root"]
theorem sc_law_fewer : FnScope N_law_fewer ["_law_deck_here", "_law_paper_here"] (defScope s_law_fewer) := ⟨rfl, rfl, rfl, by decide +kernel, rfl, by decide +kernel, by decide +kernel⟩
abbrev s_law : Stmt := top 44
abbrev N_law : List Str := ["_law_script", "_law_deck_here", "_law_papers", "_law_turn", "_law_paper_here", "_law_cells_here", "_law_kept"]
theorem sc_law : FnScope N_law ["_law_script"] (defScope s_law) := ⟨rfl, rfl, rfl, by decide +kernel, rfl, by decide +kernel, by decide +kernel⟩
/-! ### what the top has left -/
structure DefT (K : PySem.W.Frag) (mg : Str → Option Value) (x qual : Str) (st : Stmt) (ps : List Str) where
  f : Addr
  fd : FuncData
  fn : Fun K x qual st f fd
  m : mg x = some (.ref f)
  b : Binds K fd ps []
theorem DefT.kp {K : PySem.W.Frag} {mg : Str → Option Value} {x qual : Str} {st : Stmt} {ps : List Str} (D : DefT K mg x qual st ps) : PySem.W.keepIn K (.ref D.f) = true := D.fn.kp
structure MetT (K : PySem.W.Frag) (C : Addr) (x qual : Str) (st : Stmt) (ps : List Str) where
  f : Addr
  fd : FuncData
  fn : Fun K x qual st f fd
  me : Meth K C x f
  b : Binds K fd ps []
structure InitT (K : PySem.W.Frag) (C : Addr) (x qual : Str) (st : Stmt) (ps : List Str) where
  f : Addr
  fd : FuncData
  fn : Fun K x qual st f fd
  mkk : Mk K C f
  b : Binds K fd ps []
/-- a method whose last parameter's default is an empty tuple at E -/
structure MetD (K : PySem.W.Frag) (C : Addr) (x qual : Str) (st : Stmt) (ps : List Str) where
  f : Addr
  fd : FuncData
  E : Addr
  e0 : ∀ H : Hp, SqT K H E []
  fn : FunD K x qual (defArgs st) (defBody st) (defScope st) [.ref E] [] f fd
  me : Meth K C x f
  b : Binds K fd ps []
  bd : Binds K fd ps [.ref E]
/-- a def whose last parameter's default is the int n -/
structure DefI (K : PySem.W.Frag) (mg : Str → Option Value) (x qual : Str) (st : Stmt) (ps : List Str) (n : Int) where
  f : Addr
  fd : FuncData
  fn : FunD K x qual (defArgs st) (defBody st) (defScope st) [.int n] [] f fd
  m : mg x = some (.ref f)
  b : Binds K fd ps []
  t : Tok
  bd : Binds K fd ps [.int n t]
theorem DefI.kp {K : PySem.W.Frag} {mg : Str → Option Value} {x qual : Str} {st : Stmt} {ps : List Str} {n : Int} (D : DefI K mg x qual st ps n) : PySem.W.keepIn K (.ref D.f) = true := D.fn.kp
/-- a constant tuple of texts -/
structure TupT (K : PySem.W.Frag) (mg : Str → Option Value) (x : Str) (xs : List V) where
  a : Addr
  m : mg x = some (.ref a)
  t : ∀ H : Hp, SqT K H a xs
structure Tx (K : PySem.W.Frag) (mg : Str → Option Value) where
  z_len : mg "len" = none
  z_range : mg "range" = none
  z_tuple : mg "tuple" = none
  z_list : mg "list" = none
  z_isinstance : mg "isinstance" = none
  z_abs : mg "abs" = none
  z_str : mg "str" = none
  z_int : mg "int" = none
  z_bool : mg "bool" = none
  z_zip : mg "zip" = none
  z_sorted : mg "sorted" = none
  z_dict : mg "dict" = none
  z_set : mg "set" = none
  z_repr : mg "repr" = none
  z_all : mg "all" = none
  t_BIG : Tok
  c_BIG : mg "BIG" = some (.int 1000000000000 t_BIG)
  t_SMALL : Tok
  c_SMALL : mg "SMALL" = some (.str "abcdefghijklmnopqrstuvwxyz" t_SMALL)
  t_GREAT : Tok
  c_GREAT : mg "GREAT" = some (.str "ABCDEFGHIJKLMNOPQRSTUVWXYZ" t_GREAT)
  t_FIGURES : Tok
  c_FIGURES : mg "FIGURES" = some (.str "0123456789" t_FIGURES)
  t_FIELDS : Tok
  c_FIELDS : mg "FIELDS" = some (.int 8 t_FIELDS)
  t_LONGEST : Tok
  c_LONGEST : mg "LONGEST" = some (.int 30 t_LONGEST)
  t_NAMES : Tok
  c_NAMES : mg "NAMES" = some (.int 12 t_NAMES)
  d_is_made_of : DefT K mg "is_made_of" "is_made_of" s_is_made_of ["text", "signs", "low", "high"]
  d_is_kind_name : DefT K mg "is_kind_name" "is_kind_name" s_is_kind_name ["word"]
  d_is_text : DefT K mg "is_text" "is_text" s_is_text ["text"]
  d_is_cell : DefT K mg "is_cell" "is_cell" s_is_cell ["worth"]
  d_parts_of : DefT K mg "parts_of" "parts_of" s_parts_of ["cell"]
  d_moved_worth : DefT K mg "moved_worth" "moved_worth" s_moved_worth ["worth", "moves"]
  d_moved_worths : DefT K mg "moved_worths" "moved_worths" s_moved_worths ["worths", "moves"]
  d_moved_cell : DefT K mg "moved_cell" "moved_cell" s_moved_cell ["cell", "moves"]
  d_is_whole : DefI K mg "is_whole" "is_whole" s_is_whole ["thing", "low"] 0
  d_is_address : DefT K mg "is_address" "is_address" s_is_address ["thing"]
  d_is_worth : DefT K mg "is_worth" "is_worth" s_is_worth ["thing"]
  d_are_worths : DefT K mg "are_worths" "are_worths" s_are_worths ["thing", "most"]
  d_is_lot : DefT K mg "is_lot" "is_lot" s_is_lot ["thing"]
  d_is_rising : DefT K mg "is_rising" "is_rising" s_is_rising ["numbers"]
  d_are_pairs : DefT K mg "are_pairs" "are_pairs" s_are_pairs ["thing"]
  d_are_lots : DefT K mg "are_lots" "are_lots" s_are_lots ["thing"]
  d_is_formed : DefT K mg "is_formed" "is_formed" s_is_formed ["thing"]
  d_are_moved : DefT K mg "are_moved" "are_moved" s_are_moved ["cell", "moves"]
  d_sweep_stands : DefT K mg "sweep_stands" "sweep_stands" s_sweep_stands ["thing"]
  d_law_deck : DefT K mg "_law_deck" "_law_deck" s_law_deck ["_law_script"]
  d_law_next : DefT K mg "_law_next" "_law_next" s_law_next ["_law_deck_here", "_law_below"]
  d_law_worth : DefT K mg "_law_worth" "_law_worth" s_law_worth ["_law_deck_here", "_law_some"]
  d_law_worths : DefT K mg "_law_worths" "_law_worths" s_law_worths ["_law_deck_here", "_law_some", "_law_many"]
  d_law_cell : DefT K mg "_law_cell" "_law_cell" s_law_cell ["_law_deck_here", "_law_some"]
  d_law_places : DefT K mg "_law_places" "_law_places" s_law_places ["_law_deck_here", "_law_many"]
  d_law_parts : DefT K mg "_law_parts" "_law_parts" s_law_parts ["_law_cell_here"]
  d_law_closed : DefT K mg "_law_closed" "_law_closed" s_law_closed ["_law_cells_here", "_law_some"]
  d_law_moved : DefT K mg "_law_moved" "_law_moved" s_law_moved ["_law_worth_here", "_law_moves"]
  d_law_moved_cell : DefT K mg "_law_moved_cell" "_law_moved_cell" s_law_moved_cell ["_law_cell_here", "_law_moves"]
  d_law_told : DefT K mg "_law_told" "_law_told" s_law_told ["_law_deck_here", "_law_cells_here", "_law_roots", "_law_kept"]
  d_law_cells : DefT K mg "_law_cells" "_law_cells" s_law_cells ["_law_deck_here"]
  d_law_paper : DefT K mg "_law_paper" "_law_paper" s_law_paper ["_law_deck_here"]
  d_law_fewer : DefT K mg "_law_fewer" "_law_fewer" s_law_fewer ["_law_deck_here", "_law_paper_here"]
  d_law : DefT K mg "law" "law" s_law ["_law_script"]
end My

set_option Elab.async false
set_option linter.all false
set_option maxRecDepth 100000
set_option maxHeartbeats 4000000
namespace My
open PySem L2 Sm
abbrev q_sweep_stands : Str := ("sweep_stands" ++ ".<locals>.") ++ "<lambda>"
abbrev q_law_told : Str := ("_law_told" ++ ".<locals>.") ++ "<lambda>"
abbrev c_BIG : MV := (.int 1000000000000)
abbrev c_SMALL : MV := (.str "abcdefghijklmnopqrstuvwxyz")
abbrev c_GREAT : MV := (.str "ABCDEFGHIJKLMNOPQRSTUVWXYZ")
abbrev c_FIGURES : MV := (.str "0123456789")
abbrev c_FIELDS : MV := (.int 8)
abbrev c_LONGEST : MV := (.int 30)
abbrev c_NAMES : MV := (.int 12)
@[irreducible] noncomputable def b_is_made_of : MSt :=
    (sRet (eAnd (eChain mLe mLe (eVar 2) (eCallB mLen (aCons (eVar 0) aNil)) (eVar 3)) (eCallB lAll (lComp (iOf (eVar 0)) (.one 4) [4] tYesM (eBin mIn (eVar 4) (eVar 1))))))
noncomputable def m_is_made_of : List MV → MH → Res MV := mfun 4 5 b_is_made_of
theorem ne_is_made_of : NoEx1 m_is_made_of := mfun_noEx
@[irreducible] noncomputable def b_is_kind_name : MSt :=
    (sRet (eAnd (eBin mIn (eSl (eVar 0) pNone (pSome (eC (.int 1)))) (eC c_GREAT)) (eCallD m_is_made_of [] (aCons (eVar 0) (aCons (eBin mAdd (eBin mAdd (eC c_SMALL) (eC c_GREAT)) (eC c_FIGURES)) (aCons (eC (.int 1)) (aCons (eC (.int 12)) aNil)))))))
noncomputable def m_is_kind_name : List MV → MH → Res MV := mfun 1 1 b_is_kind_name
theorem ne_is_kind_name : NoEx1 m_is_kind_name := mfun_noEx
@[irreducible] noncomputable def b_is_text : MSt :=
    (sRet (eCallD m_is_made_of [] (aCons (eVar 0) (aCons (eBin mAdd (eBin mAdd (eBin mAdd (eC c_SMALL) (eC c_GREAT)) (eC c_FIGURES)) (eC (.str "_"))) (aCons (eC (.int 0)) (aCons (eC (.int 40)) aNil))))))
noncomputable def m_is_text : List MV → MH → Res MV := mfun 1 1 b_is_text
theorem ne_is_text : NoEx1 m_is_text := mfun_noEx
@[irreducible] noncomputable def b_is_cell : MSt :=
    (sRet (eUn (mIsi "tuple") (eVar 0)))
noncomputable def m_is_cell : List MV → MH → Res MV := mfun 1 1 b_is_cell
theorem ne_is_cell : NoEx1 m_is_cell := mfun_noEx
@[irreducible] noncomputable def b_parts_of : MSt :=
    (sSeq (sIf (tOfE (eBin mEq (eBin mIx (eVar 0) (eC (.int 0))) (eC (.str "block"))))
    (sRet (eSl (eVar 0) (pSome (eC (.int 3))) pNone))
    sNil)
    (sSeq (sIf (tOfE (eBin mEq (eBin mIx (eVar 0) (eC (.int 0))) (eC (.str "names"))))
    (sRet (eBin mAdd (eBin mIx (eVar 0) (eC (.int 1))) (eTup (aCons (eBin mIx (eVar 0) (eC (.int 2))) aNil))))
    sNil)
    (sRet (eBin mIx (eVar 0) (eUn mNeg (eC (.int 1)))))))
noncomputable def m_parts_of : List MV → MH → Res MV := mfun 1 1 b_parts_of
theorem ne_parts_of : NoEx1 m_parts_of := mfun_noEx
@[irreducible] noncomputable def b_moved_worth : MSt :=
    (sSeq (sIf (tOfE (eCallD m_is_cell [] (aCons (eVar 0) aNil)))
    (sRet (eTup (aCons (eC (.str "cell")) (aCons (eBin mIx (eVar 1) (eBin mIx (eVar 0) (eC (.int 1)))) aNil))))
    sNil)
    (sRet (eVar 0)))
noncomputable def m_moved_worth : List MV → MH → Res MV := mfun 2 2 b_moved_worth
theorem ne_moved_worth : NoEx1 m_moved_worth := mfun_noEx
@[irreducible] noncomputable def b_moved_worths : MSt :=
    (sRet (eCallB lTuple (lComp (iOf (eVar 0)) (.one 2) [2] tYesM (eCallD m_moved_worth [] (aCons (eVar 2) (aCons (eVar 1) aNil))))))
noncomputable def m_moved_worths : List MV → MH → Res MV := mfun 2 3 b_moved_worths
theorem ne_moved_worths : NoEx1 m_moved_worths := mfun_noEx
@[irreducible] noncomputable def b_moved_cell : MSt :=
    (sSeq (sIf (tOfE (eBin mEq (eBin mIx (eVar 0) (eC (.int 0))) (eC (.str "block"))))
    (sRet (eBin mAdd (eSl (eVar 0) pNone (pSome (eC (.int 3)))) (eCallD m_moved_worths [] (aCons (eSl (eVar 0) (pSome (eC (.int 3))) pNone) (aCons (eVar 1) aNil)))))
    sNil)
    (sSeq (sIf (tOfE (eBin mEq (eBin mIx (eVar 0) (eC (.int 0))) (eC (.str "names"))))
    (sRet (eTup (aCons (eC (.str "names")) (aCons (eCallD m_moved_worths [] (aCons (eBin mIx (eVar 0) (eC (.int 1))) (aCons (eVar 1) aNil))) (aCons (eCallD m_moved_worth [] (aCons (eBin mIx (eVar 0) (eC (.int 2))) (aCons (eVar 1) aNil))) aNil)))))
    sNil)
    (sRet (eBin mAdd (eSl (eVar 0) pNone (pSome (eUn mNeg (eC (.int 1))))) (eTup (aCons (eCallD m_moved_worths [] (aCons (eBin mIx (eVar 0) (eUn mNeg (eC (.int 1)))) (aCons (eVar 1) aNil))) aNil))))))
noncomputable def m_moved_cell : List MV → MH → Res MV := mfun 2 2 b_moved_cell
theorem ne_moved_cell : NoEx1 m_moved_cell := mfun_noEx
@[irreducible] noncomputable def b_is_whole : MSt :=
    (sRet (eAnd (eUn (mIsi "int") (eVar 0)) (eAnd (eNot (eUn (mIsi "bool") (eVar 0))) (eBin mGe (eVar 0) (eVar 1)))))
noncomputable def m_is_whole : List MV → MH → Res MV := mfun 2 2 b_is_whole
theorem ne_is_whole : NoEx1 m_is_whole := mfun_noEx
@[irreducible] noncomputable def b_is_address : MSt :=
    (sRet (eAnd (eUn (mIsi "tuple") (eVar 0)) (eAnd (eBin mEq (eCallB mLen (aCons (eVar 0) aNil)) (eC (.int 2))) (eAnd (eBin mEq (eBin mIx (eVar 0) (eC (.int 0))) (eC (.str "cell"))) (eCallD m_is_whole [.int 0] (aCons (eBin mIx (eVar 0) (eC (.int 1))) aNil))))))
noncomputable def m_is_address : List MV → MH → Res MV := mfun 1 1 b_is_address
theorem ne_is_address : NoEx1 m_is_address := mfun_noEx
@[irreducible] noncomputable def b_is_worth : MSt :=
    (sSeq (sIf (tOrM (tOfE (eBin mIs (eVar 0) (eC .non))) (tOfE (eUn (mIsi "bool") (eVar 0))))
    (sRet (eC (.bl true)))
    sNil)
    (sSeq (sIf (tOfE (eUn (mIsi "int") (eVar 0)))
    (sRet (eChain mLt mLt (eUn mNeg (eC c_BIG)) (eVar 0) (eC c_BIG)))
    sNil)
    (sSeq (sIf (tOfE (eUn (mIsi "str") (eVar 0)))
    (sRet (eCallD m_is_text [] (aCons (eVar 0) aNil)))
    sNil)
    (sRet (eCallD m_is_address [] (aCons (eVar 0) aNil))))))
noncomputable def m_is_worth : List MV → MH → Res MV := mfun 1 1 b_is_worth
theorem ne_is_worth : NoEx1 m_is_worth := mfun_noEx
@[irreducible] noncomputable def b_are_worths : MSt :=
    (sRet (eAnd (eUn (mIsi "tuple") (eVar 0)) (eAnd (eBin mLe (eCallB mLen (aCons (eVar 0) aNil)) (eVar 1)) (eCallB lAll (lComp (iOf (eVar 0)) (.one 2) [2] tYesM (eCallD m_is_worth [] (aCons (eVar 2) aNil)))))))
noncomputable def m_are_worths : List MV → MH → Res MV := mfun 2 3 b_are_worths
theorem ne_are_worths : NoEx1 m_are_worths := mfun_noEx
@[irreducible] noncomputable def b_is_lot : MSt :=
    (sSeq (sIf (tOrM (tNotM (tOfE (eUn (mIsi "tuple") (eVar 0)))) (tOrM (tOfE (eBin mLt (eCallB mLen (aCons (eVar 0) aNil)) (eC (.int 2)))) (tNotM (tOfE (eUn (mIsi "str") (eBin mIx (eVar 0) (eC (.int 0))))))))
    (sRet (eC (.bl false)))
    sNil)
    (sSeq (sIf (tOfE (eBin mEq (eBin mIx (eVar 0) (eC (.int 0))) (eC (.str "thing"))))
    (sSeq (sIf (tOrM (tOfE (eBin mNe (eCallB mLen (aCons (eVar 0) aNil)) (eC (.int 3)))) (tOrM (tNotM (tOfE (eUn (mIsi "str") (eBin mIx (eVar 0) (eC (.int 1)))))) (tNotM (tOfE (eCallD m_is_kind_name [] (aCons (eBin mIx (eVar 0) (eC (.int 1))) aNil))))))
    (sRet (eC (.bl false)))
    sNil)
    (sRet (eCallD m_are_worths [] (aCons (eBin mIx (eVar 0) (eC (.int 2))) (aCons (eC c_FIELDS) aNil)))))
    sNil)
    (sSeq (sIf (tOfE (eBin mEq (eBin mIx (eVar 0) (eC (.int 0))) (eC (.str "list"))))
    (sRet (eAnd (eBin mEq (eCallB mLen (aCons (eVar 0) aNil)) (eC (.int 2))) (eCallD m_are_worths [] (aCons (eBin mIx (eVar 0) (eC (.int 1))) (aCons (eC c_LONGEST) aNil)))))
    sNil)
    (sSeq (sIf (tOfE (eBin mEq (eBin mIx (eVar 0) (eC (.int 0))) (eC (.str "names"))))
    (sSeq (sIf (tOrM (tOfE (eBin mNe (eCallB mLen (aCons (eVar 0) aNil)) (eC (.int 3)))) (tAndM (tOfE (eBin mIsNot (eBin mIx (eVar 0) (eC (.int 2))) (eC .non))) (tNotM (tOfE (eCallD m_is_address [] (aCons (eBin mIx (eVar 0) (eC (.int 2))) aNil))))))
    (sRet (eC (.bl false)))
    sNil)
    (sRet (eCallD m_are_worths [] (aCons (eBin mIx (eVar 0) (eC (.int 1))) (aCons (eC c_NAMES) aNil)))))
    sNil)
    (sSeq (sIf (tOrM (tOfE (eBin mNe (eBin mIx (eVar 0) (eC (.int 0))) (eC (.str "block")))) (tOrM (tOfE (eBin mNe (eCallB mLen (aCons (eVar 0) aNil)) (eC (.int 5)))) (tOrM (tNotM (tOfE (eCallD m_is_whole [.int 0] (aCons (eBin mIx (eVar 0) (eC (.int 1))) aNil)))) (tNotM (tOfE (eCallD m_is_whole [.int 0] (aCons (eBin mIx (eVar 0) (eC (.int 2))) aNil)))))))
    (sRet (eC (.bl false)))
    sNil)
    (sRet (eAnd (eCallD m_is_address [] (aCons (eBin mIx (eVar 0) (eC (.int 3))) aNil)) (eCallD m_is_address [] (aCons (eBin mIx (eVar 0) (eC (.int 4))) aNil)))))))))
noncomputable def m_is_lot : List MV → MH → Res MV := mfun 1 1 b_is_lot
theorem ne_is_lot : NoEx1 m_is_lot := mfun_noEx
@[irreducible] noncomputable def b_is_rising : MSt :=
    (sRet (eCallB lAll (lComp (iZipG (aCons (eVar 0) (aCons (eSl (eVar 0) (pSome (eC (.int 1))) pNone) aNil))) (.many [1, 2]) [1, 2] tYesM (eBin mLt (eVar 1) (eVar 2)))))
noncomputable def m_is_rising : List MV → MH → Res MV := mfun 1 3 b_is_rising
theorem ne_is_rising : NoEx1 m_is_rising := mfun_noEx
@[irreducible] noncomputable def b_are_pairs : MSt :=
    (sSeq (sIf (tNotM (tOfE (eUn (mIsi "tuple") (eWk (eVar 0)))))
    (sRet (eC (.bl false)))
    sNil)
    (sSeq (sFor (iOf (eWk (eVar 0))) (.one 1)
    (sIf (tOrM (tNotM (tOfE (eUn (mIsi "tuple") (eVar 1)))) (tOrM (tOfE (eBin mNe (eCallB mLen (aCons (eVar 1) aNil)) (eC (.int 2)))) (tNotM (tOfE (eCallD m_is_whole [.int 0] (aCons (eBin mIx (eVar 1) (eC (.int 0))) aNil))))))
    (sRet (eC (.bl false)))
    sNil))
    (sRet (eCallD m_is_rising [] (aCons (eNew (lComp (iOf (eWk (eVar 0))) (.one 1) [1] tYesM (eBin mIx (eVar 1) (eC (.int 0))))) aNil)))))
noncomputable def m_are_pairs : List MV → MH → Res MV := mfun 1 2 b_are_pairs
theorem ne_are_pairs : NoEx1 m_are_pairs := mfun_noEx
@[irreducible] noncomputable def b_are_lots : MSt :=
    (sRet (eAnd (eCallD m_are_pairs [] (aCons (eWk (eVar 0)) aNil)) (eCallB lAll (lComp (iOf (eWk (eVar 0))) (.many [1, 2]) [1, 2] tYesM (eCallD m_is_lot [] (aCons (eVar 2) aNil))))))
noncomputable def m_are_lots : List MV → MH → Res MV := mfun 1 3 b_are_lots
theorem ne_are_lots : NoEx1 m_are_lots := mfun_noEx
@[irreducible] noncomputable def b_is_formed : MSt :=
    (sSeq (sIf (tOrM (tNotM (tOfE (eUn (mIsi "tuple") (eVar 0)))) (tOrM (tOfE (eBin mNe (eCallB mLen (aCons (eVar 0) aNil)) (eC (.int 4)))) (tOrM (tNotM (tOfE (eCallD m_are_lots [] (aCons (eBin mIx (eVar 0) (eC (.int 0))) aNil)))) (tNotM (tOfE (eCallD m_are_lots [] (aCons (eBin mIx (eVar 0) (eC (.int 3))) aNil)))))))
    (sRet (eC (.bl false)))
    sNil)
    (sSeq (sIf (tOrM (tNotM (tOfE (eUn (mIsi "tuple") (eWk (eBin mIx (eVar 0) (eC (.int 1))))))) (tOrM (tNotM (tOfE (eCallB lAll (lComp (iOf (eWk (eBin mIx (eVar 0) (eC (.int 1))))) (.one 1) [1] tYesM (eCallD m_is_whole [.int 0] (aCons (eVar 1) aNil)))))) (tNotM (tOfE (eCallD m_is_rising [] (aCons (eWk (eBin mIx (eVar 0) (eC (.int 1)))) aNil))))))
    (sRet (eC (.bl false)))
    sNil)
    (sRet (eAnd (eCallD m_are_pairs [] (aCons (eWk (eBin mIx (eVar 0) (eC (.int 2)))) aNil)) (eCallB lAll (lComp (iOf (eWk (eBin mIx (eVar 0) (eC (.int 2))))) (.one 2) [2] tYesM (eCallD m_is_whole [.int 0] (aCons (eBin mIx (eVar 2) (eC (.int 1))) aNil))))))))
noncomputable def m_is_formed : List MV → MH → Res MV := mfun 1 3 b_is_formed
theorem ne_is_formed : NoEx1 m_is_formed := mfun_noEx
@[irreducible] noncomputable def b_are_moved : MSt :=
    (sRet (eCallB lAll (lComp (iOf (eCallD m_parts_of [] (aCons (eVar 0) aNil))) (.one 2) [2] (tOfE (eCallD m_is_cell [] (aCons (eVar 2) aNil))) (eBin mIn (eBin mIx (eVar 2) (eC (.int 1))) (eVar 1)))))
noncomputable def m_are_moved : List MV → MH → Res MV := mfun 2 3 b_are_moved
theorem ne_are_moved : NoEx1 m_are_moved := mfun_noEx
@[irreducible] noncomputable def b_sweep_stands : MSt :=
    (sSeq (sIf (tNotM (tOfE (eCallD m_is_formed [] (aCons (eVar 0) aNil))))
    (sRet (eC (.bl false)))
    sNil)
    (sSeq (sSetT (.many [1, 2, 3, 4]) (eVar 0))
    (sSeq (sSet 5 (eCallB mDictT (aCons (eVar 1) aNil)))
    (sSeq (sSet 6 (eCallB mDictT (aCons (eVar 3) aNil)))
    (sSeq (sIf (tOrM (tOfE (eBin mNe (eLenSc (iOf (eWk (eVar 3))) (.many [8, 9]) [8, 9] tYesM (eVar 9)) (eCallB mLen (aCons (eVar 6) aNil)))) (tNotM (tOfE (eCallB lAll (lComp (iOf (eWk (eVar 2))) (.one 10) [10] tYesM (eBin mIn (eVar 10) (eVar 6)))))))
    (sRet (eC (.bl false)))
    sNil)
    (sSeq (sIf (tNotM (tOfE (eCallB lAll (lComp (iKey (eVar 6)) (.one 8) [8] tYesM (eAnd (eBin mIn (eVar 8) (eVar 5)) (eCallD m_are_moved [] (aCons (eBin mIx (eVar 5) (eVar 8)) (aCons (eVar 6) aNil))))))))
    (sRet (eC (.bl false)))
    sNil)
    (sSeq (sSet 7 (eUn (mSortK 0 q_sweep_stands) (eNew (lComp (iOf (eWk (eVar 3))) (.many [8, 9]) [8, 9] tYesM (eTup (aCons (eVar 9) (aCons (eCallD m_moved_cell [] (aCons (eBin mIx (eVar 5) (eVar 8)) (aCons (eVar 6) aNil))) aNil)))))))
    (sRet (eBin mEq (eCallB mRepr (aCons (eCallB mTuple (aCons (eVar 7) aNil)) aNil)) (eCallB mRepr (aCons (eVar 4) aNil)))))))))))
noncomputable def m_sweep_stands : List MV → MH → Res MV := mfun 1 11 b_sweep_stands
theorem ne_sweep_stands : NoEx1 m_sweep_stands := mfun_noEx
@[irreducible] noncomputable def b_law_deck : MSt :=
    (sSeq (sSet 1 (eNew (lDisp aNil)))
    (sSeq (sSet 2 (eNew (lDisp (aCons (eCallB mLen (aCons (eVar 0) aNil)) aNil))))
    (sSeq (sFor (iOf (eSl (eVar 0) pNone (pSome (eC (.int 63))))) (.one 3)
    (sSeq (sSet 3 (eCallB mAbs (aCons (eVar 3) aNil)))
    (sSeq (sExpr (eBM "list" mAppend (eVar 2) (aCons (eBin mMod (eVar 3) (eC (.int 2147483629))) aNil)))
    (sIf (tOfE (eBin mGe (eVar 3) (eBin mPow (eC (.int 10)) (eC (.int 18)))))
    (sFor (iRange1 (aCons (eC (.int 400)) aNil)) (.one 4)
    (sIf (tOfE (eBin mGt (eVar 3) (eC (.int 0))))
    (sSeq (sExpr (eBM "list" mAppend (eVar 1) (aCons (eBin mMod (eVar 3) (eC (.int 1000))) aNil)))
    (sSet 3 (eBin mDiv (eVar 3) (eC (.int 1000)))))
    sNil))
    sNil))))
    (sRet (eNew (lDisp (aCons (eVar 1) (aCons (eVar 2) (aCons (eC (.int 0)) aNil)))))))))
noncomputable def m_law_deck : List MV → MH → Res MV := mfun 1 5 b_law_deck
theorem ne_law_deck : NoEx1 m_law_deck := mfun_noEx
@[irreducible] noncomputable def b_law_next : MSt :=
    (sSeq (sIf (tOfE (eBin mNe (eBin mIx (eVar 0) (eC (.int 0))) (eNew (lDisp aNil))))
    (sRet (eBin mMod (eBM "list" mPopAt (eBin mIx (eVar 0) (eC (.int 0))) (aCons (eC (.int 0)) aNil)) (eVar 1)))
    sNil)
    (sSeq (sSet 2 (eBin mIx (eVar 0) (eC (.int 2))))
    (sSeq (sSetI (eVar 0) (eC (.int 2)) (eBin mAdd (eVar 2) (eC (.int 1))))
    (sSeq (sSet 3 (eTup (aCons (eC (.int 48271)) (aCons (eC (.int 69621)) (aCons (eC (.int 16807)) (aCons (eC (.int 39373)) (aCons (eC (.int 30323)) (aCons (eC (.int 51749)) (aCons (eC (.int 44417)) (aCons (eC (.int 27449)) (aCons (eC (.int 63073)) (aCons (eC (.int 55001)) (aCons (eC (.int 33791)) (aCons (eC (.int 40009)) aNil))))))))))))))
    (sSeq (sSet 4 (eBin mIx (eBin mIx (eVar 0) (eC (.int 1))) (eBin mMod (eVar 2) (eCallB mLen (aCons (eBin mIx (eVar 0) (eC (.int 1))) aNil)))))
    (sSeq (sSet 5 (eBin mIx (eBin mIx (eVar 0) (eC (.int 1))) (eBin mMod (eBin mAdd (eBin mMul (eC (.int 3)) (eVar 2)) (eC (.int 1))) (eCallB mLen (aCons (eBin mIx (eVar 0) (eC (.int 1))) aNil)))))
    (sSeq (sSet 6 (eBin mAdd (eBin mPow (eBin mAdd (eVar 4) (eBin mMul (eBin mIx (eVar 3) (eBin mMod (eVar 2) (eC (.int 12)))) (eBin mAdd (eVar 2) (eC (.int 1))))) (eC (.int 3))) (eBin mMul (eBin mPow (eBin mAdd (eVar 5) (eBin mIx (eVar 3) (eBin mMod (eBin mAdd (eVar 2) (eC (.int 5))) (eC (.int 12))))) (eC (.int 2))) (eBin mAdd (eVar 2) (eC (.int 7))))))
    (sRet (eBin mMod (eBin mDiv (eBin mMod (eVar 6) (eC (.int 2147483629))) (eC (.int 11))) (eVar 1))))))))))
noncomputable def m_law_next : List MV → MH → Res MV := mfun 2 7 b_law_next
theorem ne_law_next : NoEx1 m_law_next := mfun_noEx
@[irreducible] noncomputable def b_law_worth : MSt :=
    (sSeq (sIf (tAndM (tOfE (eBin mLt (eCallD m_law_next [] (aCons (eVar 0) (aCons (eC (.int 12)) aNil))) (eC (.int 5)))) (tOfE (eBin mNe (eVar 1) (eNew (lDisp aNil)))))
    (sRet (eTup (aCons (eC (.str "cell")) (aCons (eBin mIx (eVar 1) (eCallD m_law_next [] (aCons (eVar 0) (aCons (eCallB mLen (aCons (eVar 1) aNil)) aNil)))) aNil))))
    sNil)
    (sSeq (sSet 2 (eNew (lDisp (aCons (eC .non) (aCons (eC (.bl true)) (aCons (eC (.bl false)) (aCons (eC (.int 0)) (aCons (eC (.int 1)) (aCons (eBin mSub (eC (.int 0)) (eC (.int 7))) (aCons (eBin mSub (eBin mPow (eC (.int 10)) (eC (.int 12))) (eC (.int 1))) (aCons (eBin mSub (eC (.int 1)) (eBin mPow (eC (.int 10)) (eC (.int 12)))) (aCons (eC (.str "")) (aCons (eC (.str "aB_9z")) (aCons (eBin mMul (eC (.str "x")) (eC (.int 40))) (aCons (eC (.int 30)) aNil)))))))))))))))
    (sRet (eBin mIx (eVar 2) (eCallD m_law_next [] (aCons (eVar 0) (aCons (eC (.int 12)) aNil)))))))
noncomputable def m_law_worth : List MV → MH → Res MV := mfun 2 3 b_law_worth
theorem ne_law_worth : NoEx1 m_law_worth := mfun_noEx
@[irreducible] noncomputable def b_law_worths : MSt :=
    (sRet (eCallB lTuple (lComp (iRange1 (aCons (eVar 2) aNil)) (.one 3) [3] tYesM (eCallD m_law_worth [] (aCons (eVar 0) (aCons (eVar 1) aNil))))))
noncomputable def m_law_worths : List MV → MH → Res MV := mfun 3 4 b_law_worths
theorem ne_law_worths : NoEx1 m_law_worths := mfun_noEx
@[irreducible] noncomputable def b_law_cell : MSt :=
    (sSeq (sSet 2 (eCallD m_law_next [] (aCons (eVar 0) (aCons (eC (.int 4)) aNil))))
    (sSeq (sIf (tOfE (eBin mEq (eVar 2) (eC (.int 0))))
    (sSeq (sSet 3 (eIxL (lDisp (aCons (eC (.str "Thing")) (aCons (eC (.str "Node")) (aCons (eC (.str "K")) (aCons (eC (.str "Abcdefgh9012")) (aCons (eC (.str "Z9z")) aNil)))))) (eCallD m_law_next [] (aCons (eVar 0) (aCons (eC (.int 5)) aNil)))))
    (sRet (eTup (aCons (eC (.str "thing")) (aCons (eVar 3) (aCons (eCallD m_law_worths [] (aCons (eVar 0) (aCons (eVar 1) (aCons (eIxL (lDisp (aCons (eC (.int 0)) (aCons (eC (.int 1)) (aCons (eC (.int 2)) (aCons (eC (.int 3)) (aCons (eC (.int 8)) aNil)))))) (eCallD m_law_next [] (aCons (eVar 0) (aCons (eC (.int 5)) aNil)))) aNil)))) aNil))))))
    sNil)
    (sSeq (sIf (tAndM (tOfE (eBin mEq (eVar 2) (eC (.int 1)))) (tOfE (eBin mNe (eVar 1) (eNew (lDisp aNil)))))
    (sSeq (sSet 4 (eTup (aCons (eC (.str "cell")) (aCons (eBin mIx (eVar 1) (eCallD m_law_next [] (aCons (eVar 0) (aCons (eCallB mLen (aCons (eVar 1) aNil)) aNil)))) aNil))))
    (sRet (eTup (aCons (eC (.str "block")) (aCons (eCallD m_law_next [] (aCons (eVar 0) (aCons (eC (.int 200)) aNil))) (aCons (eCallD m_law_next [] (aCons (eVar 0) (aCons (eC (.int 150)) aNil))) (aCons (eVar 4) (aCons (eTup (aCons (eC (.str "cell")) (aCons (eBin mIx (eVar 1) (eCallD m_law_next [] (aCons (eVar 0) (aCons (eCallB mLen (aCons (eVar 1) aNil)) aNil)))) aNil))) aNil))))))))
    sNil)
    (sSeq (sIf (tOfE (eBin mEq (eVar 2) (eC (.int 2))))
    (sSeq (sSet 5 (eC .non))
    (sSeq (sIf (tAndM (tOfE (eBin mNe (eVar 1) (eNew (lDisp aNil)))) (tOfE (eBin mEq (eCallD m_law_next [] (aCons (eVar 0) (aCons (eC (.int 2)) aNil))) (eC (.int 0)))))
    (sSet 5 (eTup (aCons (eC (.str "cell")) (aCons (eBin mIx (eVar 1) (eCallD m_law_next [] (aCons (eVar 0) (aCons (eCallB mLen (aCons (eVar 1) aNil)) aNil)))) aNil))))
    sNil)
    (sRet (eTup (aCons (eC (.str "names")) (aCons (eCallD m_law_worths [] (aCons (eVar 0) (aCons (eVar 1) (aCons (eIxL (lDisp (aCons (eC (.int 0)) (aCons (eC (.int 1)) (aCons (eC (.int 2)) (aCons (eC (.int 3)) (aCons (eC (.int 12)) aNil)))))) (eCallD m_law_next [] (aCons (eVar 0) (aCons (eC (.int 5)) aNil)))) aNil)))) (aCons (eVar 5) aNil)))))))
    sNil)
    (sSeq (sSet 6 (eIxL (lDisp (aCons (eC (.int 0)) (aCons (eC (.int 1)) (aCons (eC (.int 2)) (aCons (eC (.int 3)) (aCons (eC (.int 4)) (aCons (eC (.int 2)) (aCons (eC (.int 3)) (aCons (eC (.int 30)) aNil))))))))) (eCallD m_law_next [] (aCons (eVar 0) (aCons (eC (.int 8)) aNil)))))
    (sRet (eTup (aCons (eC (.str "list")) (aCons (eCallD m_law_worths [] (aCons (eVar 0) (aCons (eVar 1) (aCons (eVar 6) aNil)))) aNil)))))))))
noncomputable def m_law_cell : List MV → MH → Res MV := mfun 2 7 b_law_cell
theorem ne_law_cell : NoEx1 m_law_cell := mfun_noEx
@[irreducible] noncomputable def b_law_places : MSt :=
    (sSeq (sSet 2 (eNew (lDisp aNil)))
    (sSeq (sSet 3 (eBin mSub (eC (.int 0)) (eC (.int 1))))
    (sSeq (sFor (iRange1 (aCons (eVar 1) aNil)) (.one 4)
    (sSeq (sSet 3 (eBin mAdd (eBin mAdd (eVar 3) (eC (.int 1))) (eCallD m_law_next [] (aCons (eVar 0) (aCons (eC (.int 3)) aNil)))))
    (sSeq (sIf (tOfE (eBin mEq (eCallD m_law_next [] (aCons (eVar 0) (aCons (eC (.int 10)) aNil))) (eC (.int 0))))
    (sSet 3 (eBin mAdd (eVar 3) (eBin mPow (eC (.int 10)) (eC (.int 20)))))
    sNil)
    (sExpr (eBM "list" mAppend (eVar 2) (aCons (eVar 3) aNil))))))
    (sRet (eVar 2)))))
noncomputable def m_law_places : List MV → MH → Res MV := mfun 2 5 b_law_places
theorem ne_law_places : NoEx1 m_law_places := mfun_noEx
@[irreducible] noncomputable def b_law_parts : MSt :=
    (sSeq (sIf (tOfE (eBin mEq (eBin mIx (eVar 0) (eC (.int 0))) (eC (.str "block"))))
    (sRet (eNew (lOf (eSl (eVar 0) (pSome (eC (.int 3))) pNone))))
    sNil)
    (sSeq (sIf (tOfE (eBin mEq (eBin mIx (eVar 0) (eC (.int 0))) (eC (.str "names"))))
    (sRet (eNew (lCat (lOf (eBin mIx (eVar 0) (eC (.int 1)))) (lDisp (aCons (eBin mIx (eVar 0) (eC (.int 2))) aNil)))))
    sNil)
    (sRet (eNew (lOf (eBin mIx (eVar 0) (eUn mNeg (eC (.int 1)))))))))
noncomputable def m_law_parts : List MV → MH → Res MV := mfun 1 1 b_law_parts
theorem ne_law_parts : NoEx1 m_law_parts := mfun_noEx
@[irreducible] noncomputable def b_law_closed : MSt :=
    (sSeq (sSet 2 (eCallB mSortSet (aCons (eVar 1) aNil)))
    (sSeq (sSet 3 (eC (.int 0)))
    (sSeq (sWhile (tOfE (eBin mLt (eVar 3) (eCallB mLen (aCons (eVar 2) aNil))))
    (sSeq (sFor (iOf (eCallD m_law_parts [] (aCons (eBin mIx (eVar 0) (eBin mIx (eVar 2) (eVar 3))) aNil))) (.one 4)
    (sIf (tAndM (tOfE (eUn (mIsi "tuple") (eVar 4))) (tOfE (eBin mNotIn (eBin mIx (eVar 4) (eC (.int 1))) (eVar 2))))
    (sExpr (eBM "list" mAppend (eVar 2) (aCons (eBin mIx (eVar 4) (eC (.int 1))) aNil)))
    sNil))
    (sSet 3 (eBin mAdd (eVar 3) (eC (.int 1))))))
    (sRet (eCallB mSorted (aCons (eVar 2) aNil))))))
noncomputable def m_law_closed : List MV → MH → Res MV := mfun 2 5 b_law_closed
theorem ne_law_closed : NoEx1 m_law_closed := mfun_noEx
@[irreducible] noncomputable def b_law_moved : MSt :=
    (sSeq (sIf (tAndM (tOfE (eUn (mIsi "tuple") (eVar 0))) (tOfE (eBin mIn (eBin mIx (eVar 0) (eC (.int 1))) (eVar 1))))
    (sRet (eTup (aCons (eC (.str "cell")) (aCons (eBin mIx (eVar 1) (eBin mIx (eVar 0) (eC (.int 1)))) aNil))))
    sNil)
    (sRet (eVar 0)))
noncomputable def m_law_moved : List MV → MH → Res MV := mfun 2 2 b_law_moved
theorem ne_law_moved : NoEx1 m_law_moved := mfun_noEx
@[irreducible] noncomputable def b_law_moved_cell : MSt :=
    (sSeq (sIf (tOfE (eBin mEq (eBin mIx (eVar 0) (eC (.int 0))) (eC (.str "block"))))
    (sRet (eBin mAdd (eSl (eVar 0) pNone (pSome (eC (.int 3)))) (eCallB lTuple (lComp (iOf (eSl (eVar 0) (pSome (eC (.int 3))) pNone)) (.one 2) [2] tYesM (eCallD m_law_moved [] (aCons (eVar 2) (aCons (eVar 1) aNil)))))))
    sNil)
    (sSeq (sIf (tOfE (eBin mEq (eBin mIx (eVar 0) (eC (.int 0))) (eC (.str "names"))))
    (sRet (eTup (aCons (eC (.str "names")) (aCons (eCallB lTuple (lComp (iOf (eBin mIx (eVar 0) (eC (.int 1)))) (.one 2) [2] tYesM (eCallD m_law_moved [] (aCons (eVar 2) (aCons (eVar 1) aNil))))) (aCons (eCallD m_law_moved [] (aCons (eBin mIx (eVar 0) (eC (.int 2))) (aCons (eVar 1) aNil))) aNil)))))
    sNil)
    (sRet (eBin mAdd (eSl (eVar 0) pNone (pSome (eUn mNeg (eC (.int 1))))) (eTup (aCons (eCallB lTuple (lComp (iOf (eBin mIx (eVar 0) (eUn mNeg (eC (.int 1))))) (.one 2) [2] tYesM (eCallD m_law_moved [] (aCons (eVar 2) (aCons (eVar 1) aNil))))) aNil))))))
noncomputable def m_law_moved_cell : List MV → MH → Res MV := mfun 2 3 b_law_moved_cell
theorem ne_law_moved_cell : NoEx1 m_law_moved_cell := mfun_noEx
@[irreducible] noncomputable def b_law_told : MSt :=
    (sSeq (sSet 4 (eCallD m_law_places [] (aCons (eVar 0) (aCons (eCallB mLen (aCons (eVar 3) aNil)) aNil))))
    (sSeq (sSet 5 eDict0)
    (sSeq (sFor (iOf (eVar 3)) (.one 6)
    (sAsg (gIt (eVar 5) (eVar 6)) (eBM "list" mPopAt (eVar 4) (aCons (eCallD m_law_next [] (aCons (eVar 0) (aCons (eCallB mLen (aCons (eVar 4) aNil)) aNil))) aNil))))
    (sSeq (sSet 7 (eNew (lComp (iOf (eVar 3)) (.one 6) [6] tYesM (eTup (aCons (eBin mIx (eVar 5) (eVar 6)) (aCons (eCallD m_law_moved_cell [] (aCons (eBin mIx (eVar 1) (eVar 6)) (aCons (eVar 5) aNil))) aNil))))))
    (sSeq (sSet 7 (eUn (mSortK 1 q_law_told) (eVar 7)))
    (sSeq (sSet 8 (eCallB mTupX (aCons (eNew (lComp (iOf (eCallB mSorted (aCons (eNew (lOfD (eVar 1))) aNil))) (.one 6) [6] tYesM (eTup (aCons (eVar 6) (aCons (eBin mIx (eVar 1) (eVar 6)) aNil))))) aNil)))
    (sRet (eTup (aCons (eVar 8) (aCons (eCallB mTuple (aCons (eVar 2) aNil)) (aCons (eCallB mTupX (aCons (eNew (lComp (iOf (eVar 3)) (.one 6) [6] tYesM (eTup (aCons (eVar 6) (aCons (eBin mIx (eVar 5) (eVar 6)) aNil))))) aNil)) (aCons (eCallB mTuple (aCons (eVar 7) aNil)) aNil))))))))))))
noncomputable def m_law_told : List MV → MH → Res MV := mfun 4 9 b_law_told
theorem ne_law_told : NoEx1 m_law_told := mfun_noEx
@[irreducible] noncomputable def b_law_cells : MSt :=
    (sSeq (sSet 1 (eCallD m_law_places [] (aCons (eVar 0) (aCons (eCallD m_law_next [] (aCons (eVar 0) (aCons (eC (.int 9)) aNil))) aNil))))
    (sSeq (sSet 2 eDict0)
    (sSeq (sFor (iOf (eVar 1)) (.one 3)
    (sAsg (gIt (eVar 2) (eVar 3)) (eCallD m_law_cell [] (aCons (eVar 0) (aCons (eVar 1) aNil)))))
    (sRet (eVar 2)))))
noncomputable def m_law_cells : List MV → MH → Res MV := mfun 1 4 b_law_cells
theorem ne_law_cells : NoEx1 m_law_cells := mfun_noEx
@[irreducible] noncomputable def b_law_paper : MSt :=
    (sSeq (sSet 1 (eCallD m_law_cells [] (aCons (eVar 0) aNil)))
    (sSeq (sSet 2 (eCallB mSorted (aCons (eNew (lOfD (eVar 1))) aNil)))
    (sSeq (sSet 3 (eNew (lComp (iOf (eVar 2)) (.one 5) [5] (tOfE (eBin mEq (eCallD m_law_next [] (aCons (eVar 0) (aCons (eC (.int 4)) aNil))) (eC (.int 0)))) (eVar 5))))
    (sSeq (sSet 4 (eNew (lComp (iOf (eVar 2)) (.one 5) [5] (tOfE (eBin mEq (eCallD m_law_next [] (aCons (eVar 0) (aCons (eC (.int 6)) aNil))) (eC (.int 0)))) (eVar 5))))
    (sRet (eCallD m_law_told [] (aCons (eVar 0) (aCons (eVar 1) (aCons (eVar 3) (aCons (eCallD m_law_closed [] (aCons (eVar 1) (aCons (eBin mAdd (eVar 3) (eVar 4)) aNil))) aNil))))))))))
noncomputable def m_law_paper : List MV → MH → Res MV := mfun 1 6 b_law_paper
theorem ne_law_paper : NoEx1 m_law_paper := mfun_noEx
@[irreducible] noncomputable def b_law_fewer : MSt :=
    (sRet (eTup (aCons (eBin mIx (eVar 1) (eC (.int 0))) (aCons (eCallB lTuple (lComp (iOf (eBin mIx (eVar 1) (eC (.int 1)))) (.one 2) [2] (tOfE (eBin mEq (eCallD m_law_next [] (aCons (eVar 0) (aCons (eC (.int 2)) aNil))) (eC (.int 0)))) (eVar 2))) (aCons (eBin mIx (eVar 1) (eC (.int 2))) (aCons (eBin mIx (eVar 1) (eC (.int 3))) aNil))))))
noncomputable def m_law_fewer : List MV → MH → Res MV := mfun 2 3 b_law_fewer
theorem ne_law_fewer : NoEx1 m_law_fewer := mfun_noEx
@[irreducible] noncomputable def b_law : MSt :=
    (sSeq (sSet 1 (eCallD m_law_deck [] (aCons (eVar 0) aNil)))
    (sSeq (sSet 2 (eNew (lDisp (aCons (eTup (aCons (eTupX aNil) (aCons (eTupX aNil) (aCons (eTupX aNil) (aCons (eTupX aNil) aNil))))) aNil))))
    (sSeq (sFor (iRange1 (aCons (eC (.int 6)) aNil)) (.one 3)
    (sSeq (sSet 4 (eCallD m_law_paper [] (aCons (eVar 1) aNil)))
    (sSeq (sSet 5 (eCallB mDictT (aCons (eBin mIx (eVar 4) (eC (.int 0))) aNil)))
    (sSeq (sExpr (eBM "list" mAppend (eVar 2) (aCons (eVar 4) aNil)))
    (sSeq (sExpr (eBM "list" mAppend (eVar 2) (aCons (eCallD m_law_fewer [] (aCons (eVar 1) (aCons (eVar 4) aNil))) aNil)))
    (sExpr (eBM "list" mAppend (eVar 2) (aCons (eCallD m_law_told [] (aCons (eVar 1) (aCons (eVar 5) (aCons (eBin mIx (eVar 4) (eC (.int 1))) (aCons (eCallD m_law_closed [] (aCons (eVar 5) (aCons (eNew (lOf (eBin mIx (eVar 4) (eC (.int 1))))) aNil))) aNil))))) aNil))))))))
    (sSeq (sFor (iOf (eBin mAdd (eVar 2) (eSl (eVar 2) pNone (pSome (eC (.int 4)))))) (.one 4)
    (sSeq (sSet 6 (eCallB mRepr (aCons (eVar 4) aNil)))
    (sIf (tOrM (tOfE (eBin mIsNotB (eCallD m_sweep_stands [] (aCons (eVar 4) aNil)) (eC (.bl true)))) (tOfE (eBin mNe (eCallB mRepr (aCons (eVar 4) aNil)) (eVar 6))))
    (sRet (eC (.bl false)))
    sNil)))
    (sRet (eC (.bl true)))))))
noncomputable def m_law : List MV → MH → Res MV := mfun 1 7 b_law
theorem ne_law : NoEx1 m_law := mfun_noEx
end My

set_option Elab.async false
set_option linter.all false
set_option maxRecDepth 100000
set_option maxHeartbeats 4000000
namespace My
open PySem L2 Sm
def clOf {K : PySem.W.Frag} {mg : Str → Option Value} (T : Tx K mg) : Str → Option Addr := fun c => none
structure Tb {K : PySem.W.Frag} {mg : Str → Option Value} (T : Tx K mg) (base : Heap) where
  C_sweep_stands : Addr
  P_sweep_stands : Addr
  c_sweep_stands : T.d_sweep_stands.fd.code = .ref C_sweep_stands
  tb_sweep_stands : LamX.TabB base mg C_sweep_stands P_sweep_stands
  C_law_told : Addr
  P_law_told : Addr
  c_law_told : T.d_law_told.fd.code = .ref C_law_told
  tb_law_told : LamX.TabB base mg C_law_told P_law_told
def clZ {K : PySem.W.Frag} {mg : Str → Option Value} {T : Tx K mg} {base : Heap} (Z : Tb T base) : Str → Option Addr := fun c => if c = q_sweep_stands then some Z.P_sweep_stands else if c = q_law_told then some Z.P_law_told else none
theorem clZ_sweep_stands {K : PySem.W.Frag} {mg : Str → Option Value} {T : Tx K mg} {base : Heap} (Z : Tb T base) : clZ Z q_sweep_stands = some Z.P_sweep_stands := by
  unfold clZ; rw [if_pos rfl]
theorem clZ_law_told {K : PySem.W.Frag} {mg : Str → Option Value} {T : Tx K mg} {base : Heap} (Z : Tb T base) : clZ Z q_law_told = some Z.P_law_told := by
  unfold clZ; rw [if_neg (by decide +kernel), if_pos rfl]
section
variable {P : Program} {w : World} {K : PySem.W.Frag} {mg : Str → Option Value} {base : Heap}
theorem ok_is_made_of (T : Tx K mg) (Z : Tb T base) : FnOk P w K mg base CX0 1 T.d_is_made_of.f T.d_is_made_of.fd ["text", "signs", "low", "high"] (spM K (clZ Z) m_is_made_of) := by
  have nd := sc_is_made_of.nd
  unfold m_is_made_of b_is_made_of
  exact fnM (k := 0) T.d_is_made_of.fn sc_is_made_of fun cdv A outer s H E hr =>
    (sss_one (ss_ret (se_and (se_chain op_leM op_leM mLe_noEx mLe_noEx (se_var (pv 2)) (se_callB mLen_noEx lenM (by rfl) T.z_len (by decide +kernel) (sa_cons (se_var (pv 0)) sa_nil)) (se_var (pv 3))) (se_one (se_callBL lAll_ok lAll_noEx (cr_all rfl) (by rfl) T.z_all (by decide +kernel) (sl_comp (own := [("sign", 4)]) (t := (Tg.one 4)) (by decide) rfl nd (si_of (se_var (pv 0))) (blkOk_by (N := N_is_made_of) (sc := defScope s_is_made_of) (by decide +kernel)) (fun _ _ _ _ _ => (pg_name (i := 4) nd rfl (Or.inl rfl))) (fun _ _ _ _ _ => sts_nil) (fun _ _ _ _ _ => (c_In hr (se_var (pv 4)) (se_var (pv 1))))))))))
theorem ok_is_kind_name (T : Tx K mg) (Z : Tb T base) : FnOk P w K mg base CX0 2 T.d_is_kind_name.f T.d_is_kind_name.fd ["word"] (spM K (clZ Z) m_is_kind_name) := by
  have nd := sc_is_kind_name.nd
  unfold m_is_kind_name b_is_kind_name
  exact fnM (k := 1) T.d_is_kind_name.fn sc_is_kind_name fun cdv A outer s H E hr =>
    (sss_one (ss_ret (se_and (c_In hr (se_sl (se_var (pv 0)) sp_none (sp_some se_int)) (se_const (pe_glob (v := .str "ABCDEFGHIJKLMNOPQRSTUVWXYZ") rfl T.c_GREAT ⟨_, rfl⟩) fun _ _ => .str _)) (se_one (se_call ne_is_made_of (ok_is_made_of T Z) (hr.mono (by omega)) rfl T.d_is_made_of.m T.d_is_made_of.kp T.d_is_made_of.b (sa_cons (se_var (pv 0)) (sa_cons (b_Add (b_Add (se_const (pe_glob (v := .str "abcdefghijklmnopqrstuvwxyz") rfl T.c_SMALL ⟨_, rfl⟩) fun _ _ => .str _) (se_const (pe_glob (v := .str "ABCDEFGHIJKLMNOPQRSTUVWXYZ") rfl T.c_GREAT ⟨_, rfl⟩) fun _ _ => .str _)) (se_const (pe_glob (v := .str "0123456789") rfl T.c_FIGURES ⟨_, rfl⟩) fun _ _ => .str _)) (sa_cons se_int (sa_cons se_int sa_nil)))))))))
theorem ok_is_text (T : Tx K mg) (Z : Tb T base) : FnOk P w K mg base CX0 2 T.d_is_text.f T.d_is_text.fd ["text"] (spM K (clZ Z) m_is_text) := by
  have nd := sc_is_text.nd
  unfold m_is_text b_is_text
  exact fnM (k := 1) T.d_is_text.fn sc_is_text fun cdv A outer s H E hr =>
    (sss_one (ss_ret (se_call ne_is_made_of (ok_is_made_of T Z) (hr.mono (by omega)) rfl T.d_is_made_of.m T.d_is_made_of.kp T.d_is_made_of.b (sa_cons (se_var (pv 0)) (sa_cons (b_Add (b_Add (b_Add (se_const (pe_glob (v := .str "abcdefghijklmnopqrstuvwxyz") rfl T.c_SMALL ⟨_, rfl⟩) fun _ _ => .str _) (se_const (pe_glob (v := .str "ABCDEFGHIJKLMNOPQRSTUVWXYZ") rfl T.c_GREAT ⟨_, rfl⟩) fun _ _ => .str _)) (se_const (pe_glob (v := .str "0123456789") rfl T.c_FIGURES ⟨_, rfl⟩) fun _ _ => .str _)) se_str) (sa_cons se_int (sa_cons se_int sa_nil)))))))
theorem ok_is_cell (T : Tx K mg) (Z : Tb T base) : FnOk P w K mg base CX0 1 T.d_is_cell.f T.d_is_cell.fd ["worth"] (spM K (clZ Z) m_is_cell) := by
  have nd := sc_is_cell.nd
  unfold m_is_cell b_is_cell
  exact fnM (k := 0) T.d_is_cell.fn sc_is_cell fun cdv A outer s H E hr =>
    (sss_one (ss_ret (se_isi (T := "tuple") (by decide) (by rfl) T.z_isinstance (se_var (pv 0)) (pe_bltn (v := .ty "tuple") (by rfl) T.z_tuple (by decide +kernel) rfl))))
theorem ok_parts_of (T : Tx K mg) (Z : Tb T base) : FnOk P w K mg base CX0 1 T.d_parts_of.f T.d_parts_of.fd ["cell"] (spM K (clZ Z) m_parts_of) := by
  have nd := sc_parts_of.nd
  unfold m_parts_of b_parts_of
  exact fnM (k := 0) T.d_parts_of.fn sc_parts_of fun cdv A outer s H E hr =>
    (sss_cons (ss_if (t_Eq hr (x_ix hr (se_var (pv 0)) se_int (fun _ _ => rfl)) se_str)
    (sss_one (ss_ret (se_sl (se_var (pv 0)) (sp_some se_int) sp_none)))
    sss_nil)
    (sss_cons (ss_if (t_Eq hr (x_ix hr (se_var (pv 0)) se_int (fun _ _ => rfl)) se_str)
    (sss_one (ss_ret (b_Add (x_ix hr (se_var (pv 0)) se_int (fun _ _ => rfl)) (se_tup (sa_cons (x_ix hr (se_var (pv 0)) se_int (fun _ _ => rfl)) sa_nil)))))
    sss_nil)
    (sss_one (ss_ret (x_ix hr (se_var (pv 0)) (se_neg se_int) (fun _ _ => rfl))))))
theorem ok_moved_worth (T : Tx K mg) (Z : Tb T base) : FnOk P w K mg base CX0 2 T.d_moved_worth.f T.d_moved_worth.fd ["worth", "moves"] (spM K (clZ Z) m_moved_worth) := by
  have nd := sc_moved_worth.nd
  unfold m_moved_worth b_moved_worth
  exact fnM (k := 1) T.d_moved_worth.fn sc_moved_worth fun cdv A outer s H E hr =>
    (sss_cons (ss_if (st_val (se_call ne_is_cell (ok_is_cell T Z) (hr.mono (by omega)) rfl T.d_is_cell.m T.d_is_cell.kp T.d_is_cell.b (sa_cons (se_var (pv 0)) sa_nil)))
    (sss_one (ss_ret (se_tup (sa_cons se_str (sa_cons (x_ix hr (se_var (pv 1)) (x_ix hr (se_var (pv 0)) se_int (fun _ _ => rfl)) (fun _ _ => rfl)) sa_nil)))))
    sss_nil)
    (sss_one (ss_ret (se_var (pv 0)))))
theorem ok_moved_worths (T : Tx K mg) (Z : Tb T base) : FnOk P w K mg base CX0 3 T.d_moved_worths.f T.d_moved_worths.fd ["worths", "moves"] (spM K (clZ Z) m_moved_worths) := by
  have nd := sc_moved_worths.nd
  unfold m_moved_worths b_moved_worths
  exact fnM (k := 2) T.d_moved_worths.fn sc_moved_worths fun cdv A outer s H E hr =>
    (sss_one (ss_ret (se_callTyL lTuple_ok lTuple_noEx call_tuple_of (by rfl) T.z_tuple (by decide +kernel) (sl_comp (own := [("worth", 2)]) (t := (Tg.one 2)) (by decide) rfl nd (si_of (se_var (pv 0))) (blkOk_by (N := N_moved_worths) (sc := defScope s_moved_worths) (by decide +kernel)) (fun _ _ _ _ _ => (pg_name (i := 2) nd rfl (Or.inl rfl))) (fun _ _ _ _ _ => sts_nil) (fun _ _ _ _ _ => (se_call ne_moved_worth (ok_moved_worth T Z) (hr.mono (by omega)) rfl T.d_moved_worth.m T.d_moved_worth.kp T.d_moved_worth.b (sa_cons (se_var (pv 2)) (sa_cons (se_var (pv 1)) sa_nil))))))))
theorem ok_moved_cell (T : Tx K mg) (Z : Tb T base) : FnOk P w K mg base CX0 4 T.d_moved_cell.f T.d_moved_cell.fd ["cell", "moves"] (spM K (clZ Z) m_moved_cell) := by
  have nd := sc_moved_cell.nd
  unfold m_moved_cell b_moved_cell
  exact fnM (k := 3) T.d_moved_cell.fn sc_moved_cell fun cdv A outer s H E hr =>
    (sss_cons (ss_if (t_Eq hr (x_ix hr (se_var (pv 0)) se_int (fun _ _ => rfl)) se_str)
    (sss_one (ss_ret (b_Add (se_sl (se_var (pv 0)) sp_none (sp_some se_int)) (se_call ne_moved_worths (ok_moved_worths T Z) (hr.mono (by omega)) rfl T.d_moved_worths.m T.d_moved_worths.kp T.d_moved_worths.b (sa_cons (se_sl (se_var (pv 0)) (sp_some se_int) sp_none) (sa_cons (se_var (pv 1)) sa_nil))))))
    sss_nil)
    (sss_cons (ss_if (t_Eq hr (x_ix hr (se_var (pv 0)) se_int (fun _ _ => rfl)) se_str)
    (sss_one (ss_ret (se_tup (sa_cons se_str (sa_cons (se_call ne_moved_worths (ok_moved_worths T Z) (hr.mono (by omega)) rfl T.d_moved_worths.m T.d_moved_worths.kp T.d_moved_worths.b (sa_cons (x_ix hr (se_var (pv 0)) se_int (fun _ _ => rfl)) (sa_cons (se_var (pv 1)) sa_nil))) (sa_cons (se_call ne_moved_worth (ok_moved_worth T Z) (hr.mono (by omega)) rfl T.d_moved_worth.m T.d_moved_worth.kp T.d_moved_worth.b (sa_cons (x_ix hr (se_var (pv 0)) se_int (fun _ _ => rfl)) (sa_cons (se_var (pv 1)) sa_nil))) sa_nil))))))
    sss_nil)
    (sss_one (ss_ret (b_Add (se_sl (se_var (pv 0)) sp_none (sp_some (se_neg se_int))) (se_tup (sa_cons (se_call ne_moved_worths (ok_moved_worths T Z) (hr.mono (by omega)) rfl T.d_moved_worths.m T.d_moved_worths.kp T.d_moved_worths.b (sa_cons (x_ix hr (se_var (pv 0)) (se_neg se_int) (fun _ _ => rfl)) (sa_cons (se_var (pv 1)) sa_nil))) sa_nil)))))))
theorem ok_is_whole (T : Tx K mg) (Z : Tb T base) : FnOk P w K mg base CX0 1 T.d_is_whole.f T.d_is_whole.fd ["thing", "low"] (spM K (clZ Z) m_is_whole) := by
  have nd := sc_is_whole.nd
  unfold m_is_whole b_is_whole
  exact fnMD (k := 0) T.d_is_whole.fn sc_is_whole fun cdv A outer s H E hr =>
    (sss_one (ss_ret (se_and (se_isi (T := "int") (by decide) (by rfl) T.z_isinstance (se_var (pv 0)) (pe_bltn (v := .ty "int") (by rfl) T.z_int (by decide +kernel) rfl)) (se_and (se_not (se_isi (T := "bool") (by decide) (by rfl) T.z_isinstance (se_var (pv 0)) (pe_bltn (v := .ty "bool") (by rfl) T.z_bool (by decide +kernel) rfl))) (se_one (c_GtE (se_var (pv 0)) (se_var (pv 1))))))))
theorem ok_is_address (T : Tx K mg) (Z : Tb T base) : FnOk P w K mg base CX0 2 T.d_is_address.f T.d_is_address.fd ["thing"] (spM K (clZ Z) m_is_address) := by
  have nd := sc_is_address.nd
  unfold m_is_address b_is_address
  exact fnM (k := 1) T.d_is_address.fn sc_is_address fun cdv A outer s H E hr =>
    (sss_one (ss_ret (se_and (se_isi (T := "tuple") (by decide) (by rfl) T.z_isinstance (se_var (pv 0)) (pe_bltn (v := .ty "tuple") (by rfl) T.z_tuple (by decide +kernel) rfl)) (se_and (c_Eq hr (se_callB mLen_noEx lenM (by rfl) T.z_len (by decide +kernel) (sa_cons (se_var (pv 0)) sa_nil)) se_int) (se_and (c_Eq hr (x_ix hr (se_var (pv 0)) se_int (fun _ _ => rfl)) se_str) (se_one (se_callDf (dvs := [.int 0]) ne_is_whole (fun _ _ => .cons (.int _) .nil) (ok_is_whole T Z) (hr.mono (by omega)) rfl T.d_is_whole.m T.d_is_whole.kp T.d_is_whole.bd (.cons ⟨_, rfl⟩ .nil) (sa_cons (x_ix hr (se_var (pv 0)) se_int (fun _ _ => rfl)) sa_nil))))))))
theorem ok_is_worth (T : Tx K mg) (Z : Tb T base) : FnOk P w K mg base CX0 3 T.d_is_worth.f T.d_is_worth.fd ["thing"] (spM K (clZ Z) m_is_worth) := by
  have nd := sc_is_worth.nd
  unfold m_is_worth b_is_worth
  exact fnM (k := 2) T.d_is_worth.fn sc_is_worth fun cdv A outer s H E hr =>
    (sss_cons (ss_if (PW.pt (sw_or (t_Is (se_var (pv 0)) se_non) (sw_or1 (st_val (se_isi (T := "bool") (by decide) (by rfl) T.z_isinstance (se_var (pv 0)) (pe_bltn (v := .ty "bool") (by rfl) T.z_bool (by decide +kernel) rfl))))))
    (sss_one (ss_ret se_bl))
    sss_nil)
    (sss_cons (ss_if (st_val (se_isi (T := "int") (by decide) (by rfl) T.z_isinstance (se_var (pv 0)) (pe_bltn (v := .ty "int") (by rfl) T.z_int (by decide +kernel) rfl)))
    (sss_one (ss_ret (se_chain op_ltM op_ltM mLt_noEx mLt_noEx (se_neg (se_const (pe_glob (v := .int 1000000000000) rfl T.c_BIG ⟨_, rfl⟩) fun _ _ => .int _)) (se_var (pv 0)) (se_const (pe_glob (v := .int 1000000000000) rfl T.c_BIG ⟨_, rfl⟩) fun _ _ => .int _))))
    sss_nil)
    (sss_cons (ss_if (st_val (se_isi (T := "str") (by decide) (by rfl) T.z_isinstance (se_var (pv 0)) (pe_bltn (v := .ty "str") (by rfl) T.z_str (by decide +kernel) rfl)))
    (sss_one (ss_ret (se_call ne_is_text (ok_is_text T Z) (hr.mono (by omega)) rfl T.d_is_text.m T.d_is_text.kp T.d_is_text.b (sa_cons (se_var (pv 0)) sa_nil))))
    sss_nil)
    (sss_one (ss_ret (se_call ne_is_address (ok_is_address T Z) (hr.mono (by omega)) rfl T.d_is_address.m T.d_is_address.kp T.d_is_address.b (sa_cons (se_var (pv 0)) sa_nil)))))))
theorem ok_are_worths (T : Tx K mg) (Z : Tb T base) : FnOk P w K mg base CX0 4 T.d_are_worths.f T.d_are_worths.fd ["thing", "most"] (spM K (clZ Z) m_are_worths) := by
  have nd := sc_are_worths.nd
  unfold m_are_worths b_are_worths
  exact fnM (k := 3) T.d_are_worths.fn sc_are_worths fun cdv A outer s H E hr =>
    (sss_one (ss_ret (se_and (se_isi (T := "tuple") (by decide) (by rfl) T.z_isinstance (se_var (pv 0)) (pe_bltn (v := .ty "tuple") (by rfl) T.z_tuple (by decide +kernel) rfl)) (se_and (c_LtE (se_callB mLen_noEx lenM (by rfl) T.z_len (by decide +kernel) (sa_cons (se_var (pv 0)) sa_nil)) (se_var (pv 1))) (se_one (se_callBL lAll_ok lAll_noEx (cr_all rfl) (by rfl) T.z_all (by decide +kernel) (sl_comp (own := [("worth", 2)]) (t := (Tg.one 2)) (by decide) rfl nd (si_of (se_var (pv 0))) (blkOk_by (N := N_are_worths) (sc := defScope s_are_worths) (by decide +kernel)) (fun _ _ _ _ _ => (pg_name (i := 2) nd rfl (Or.inl rfl))) (fun _ _ _ _ _ => sts_nil) (fun _ _ _ _ _ => (se_call ne_is_worth (ok_is_worth T Z) (hr.mono (by omega)) rfl T.d_is_worth.m T.d_is_worth.kp T.d_is_worth.b (sa_cons (se_var (pv 2)) sa_nil))))))))))
theorem ok_is_lot (T : Tx K mg) (Z : Tb T base) : FnOk P w K mg base CX0 5 T.d_is_lot.f T.d_is_lot.fd ["thing"] (spM K (clZ Z) m_is_lot) := by
  have nd := sc_is_lot.nd
  unfold m_is_lot b_is_lot
  exact fnM (k := 4) T.d_is_lot.fn sc_is_lot fun cdv A outer s H E hr =>
    (sss_cons (ss_if (PW.pt (sw_or (st_not (st_val (se_isi (T := "tuple") (by decide) (by rfl) T.z_isinstance (se_var (pv 0)) (pe_bltn (v := .ty "tuple") (by rfl) T.z_tuple (by decide +kernel) rfl)))) (sw_or (t_Lt (se_callB mLen_noEx lenM (by rfl) T.z_len (by decide +kernel) (sa_cons (se_var (pv 0)) sa_nil)) se_int) (sw_or1 (st_not (st_val (se_isi (T := "str") (by decide) (by rfl) T.z_isinstance (x_ix hr (se_var (pv 0)) se_int (fun _ _ => rfl)) (pe_bltn (v := .ty "str") (by rfl) T.z_str (by decide +kernel) rfl))))))))
    (sss_one (ss_ret se_bl))
    sss_nil)
    (sss_cons (ss_if (t_Eq hr (x_ix hr (se_var (pv 0)) se_int (fun _ _ => rfl)) se_str)
    (sss_cons (ss_if (PW.pt (sw_or (t_NotEq hr (se_callB mLen_noEx lenM (by rfl) T.z_len (by decide +kernel) (sa_cons (se_var (pv 0)) sa_nil)) se_int) (sw_or (st_not (st_val (se_isi (T := "str") (by decide) (by rfl) T.z_isinstance (x_ix hr (se_var (pv 0)) se_int (fun _ _ => rfl)) (pe_bltn (v := .ty "str") (by rfl) T.z_str (by decide +kernel) rfl)))) (sw_or1 (st_not (st_val (se_call ne_is_kind_name (ok_is_kind_name T Z) (hr.mono (by omega)) rfl T.d_is_kind_name.m T.d_is_kind_name.kp T.d_is_kind_name.b (sa_cons (x_ix hr (se_var (pv 0)) se_int (fun _ _ => rfl)) sa_nil))))))))
    (sss_one (ss_ret se_bl))
    sss_nil)
    (sss_one (ss_ret (se_call ne_are_worths (ok_are_worths T Z) (hr.mono (by omega)) rfl T.d_are_worths.m T.d_are_worths.kp T.d_are_worths.b (sa_cons (x_ix hr (se_var (pv 0)) se_int (fun _ _ => rfl)) (sa_cons (se_const (pe_glob (v := .int 8) rfl T.c_FIELDS ⟨_, rfl⟩) fun _ _ => .int _) sa_nil))))))
    sss_nil)
    (sss_cons (ss_if (t_Eq hr (x_ix hr (se_var (pv 0)) se_int (fun _ _ => rfl)) se_str)
    (sss_one (ss_ret (se_and (c_Eq hr (se_callB mLen_noEx lenM (by rfl) T.z_len (by decide +kernel) (sa_cons (se_var (pv 0)) sa_nil)) se_int) (se_one (se_call ne_are_worths (ok_are_worths T Z) (hr.mono (by omega)) rfl T.d_are_worths.m T.d_are_worths.kp T.d_are_worths.b (sa_cons (x_ix hr (se_var (pv 0)) se_int (fun _ _ => rfl)) (sa_cons (se_const (pe_glob (v := .int 30) rfl T.c_LONGEST ⟨_, rfl⟩) fun _ _ => .int _) sa_nil)))))))
    sss_nil)
    (sss_cons (ss_if (t_Eq hr (x_ix hr (se_var (pv 0)) se_int (fun _ _ => rfl)) se_str)
    (sss_cons (ss_if (PW.pt (sw_or (t_NotEq hr (se_callB mLen_noEx lenM (by rfl) T.z_len (by decide +kernel) (sa_cons (se_var (pv 0)) sa_nil)) se_int) (sw_or1 (PW.pt (sw_and (t_IsNot (x_ix hr (se_var (pv 0)) se_int (fun _ _ => rfl)) se_non) (sw_and1 (st_not (st_val (se_call ne_is_address (ok_is_address T Z) (hr.mono (by omega)) rfl T.d_is_address.m T.d_is_address.kp T.d_is_address.b (sa_cons (x_ix hr (se_var (pv 0)) se_int (fun _ _ => rfl)) sa_nil))))))))))
    (sss_one (ss_ret se_bl))
    sss_nil)
    (sss_one (ss_ret (se_call ne_are_worths (ok_are_worths T Z) (hr.mono (by omega)) rfl T.d_are_worths.m T.d_are_worths.kp T.d_are_worths.b (sa_cons (x_ix hr (se_var (pv 0)) se_int (fun _ _ => rfl)) (sa_cons (se_const (pe_glob (v := .int 12) rfl T.c_NAMES ⟨_, rfl⟩) fun _ _ => .int _) sa_nil))))))
    sss_nil)
    (sss_cons (ss_if (PW.pt (sw_or (t_NotEq hr (x_ix hr (se_var (pv 0)) se_int (fun _ _ => rfl)) se_str) (sw_or (t_NotEq hr (se_callB mLen_noEx lenM (by rfl) T.z_len (by decide +kernel) (sa_cons (se_var (pv 0)) sa_nil)) se_int) (sw_or (st_not (st_val (se_callDf (dvs := [.int 0]) ne_is_whole (fun _ _ => .cons (.int _) .nil) (ok_is_whole T Z) (hr.mono (by omega)) rfl T.d_is_whole.m T.d_is_whole.kp T.d_is_whole.bd (.cons ⟨_, rfl⟩ .nil) (sa_cons (x_ix hr (se_var (pv 0)) se_int (fun _ _ => rfl)) sa_nil)))) (sw_or1 (st_not (st_val (se_callDf (dvs := [.int 0]) ne_is_whole (fun _ _ => .cons (.int _) .nil) (ok_is_whole T Z) (hr.mono (by omega)) rfl T.d_is_whole.m T.d_is_whole.kp T.d_is_whole.bd (.cons ⟨_, rfl⟩ .nil) (sa_cons (x_ix hr (se_var (pv 0)) se_int (fun _ _ => rfl)) sa_nil)))))))))
    (sss_one (ss_ret se_bl))
    sss_nil)
    (sss_one (ss_ret (se_and (se_call ne_is_address (ok_is_address T Z) (hr.mono (by omega)) rfl T.d_is_address.m T.d_is_address.kp T.d_is_address.b (sa_cons (x_ix hr (se_var (pv 0)) se_int (fun _ _ => rfl)) sa_nil)) (se_one (se_call ne_is_address (ok_is_address T Z) (hr.mono (by omega)) rfl T.d_is_address.m T.d_is_address.kp T.d_is_address.b (sa_cons (x_ix hr (se_var (pv 0)) se_int (fun _ _ => rfl)) sa_nil)))))))))))
theorem ok_is_rising (T : Tx K mg) (Z : Tb T base) : FnOk P w K mg base CX0 1 T.d_is_rising.f T.d_is_rising.fd ["numbers"] (spM K (clZ Z) m_is_rising) := by
  have nd := sc_is_rising.nd
  unfold m_is_rising b_is_rising
  exact fnM (k := 0) T.d_is_rising.fn sc_is_rising fun cdv A outer s H E hr =>
    (sss_one (ss_ret (se_callBL lAll_ok lAll_noEx (cr_all rfl) (by rfl) T.z_all (by decide +kernel) (sl_comp (own := [("one", 1), ("other", 2)]) (t := (Tg.many [1, 2])) (by decide) rfl nd (si_zipG (by rfl) T.z_zip (sa_cons (se_var (pv 0)) (sa_cons (se_sl (se_var (pv 0)) (sp_some se_int) sp_none) sa_nil))) (blkOk_by (N := N_is_rising) (sc := defScope s_is_rising) (by decide +kernel)) (fun _ _ _ _ _ => (pg_tup rfl (pgs_cons (pg_name (i := 1) nd rfl (Or.inl rfl)) (pgs_cons (pg_name (i := 2) nd rfl (Or.inl rfl)) pgs_nil)))) (fun _ _ _ _ _ => sts_nil) (fun _ _ _ _ _ => (c_Lt (se_var (pv 1)) (se_var (pv 2))))))))
theorem ok_are_pairs (T : Tx K mg) (Z : Tb T base) : FnOk P w K mg base CX0 2 T.d_are_pairs.f T.d_are_pairs.fd ["thing"] (spM K (clZ Z) m_are_pairs) := by
  have nd := sc_are_pairs.nd
  unfold m_are_pairs b_are_pairs
  exact fnM (k := 1) T.d_are_pairs.fn sc_are_pairs fun cdv A outer s H E hr =>
    (sss_cons (ss_if (st_not (st_val (se_isi (T := "tuple") (by decide) (by rfl) T.z_isinstance (se_wk (se_var (pv 0))) (pe_bltn (v := .ty "tuple") (by rfl) T.z_tuple (by decide +kernel) rfl))))
    (sss_one (ss_ret se_bl))
    sss_nil)
    (sss_cons (ss_for (t := (Tg.one 1)) PassesOwn.never rfl (si_of (se_wk (se_var (pv 0)))) (pg_name (i := 1) nd rfl (Or.inl rfl))
    (sss_one (ss_if (PW.pt (sw_or (st_not (st_val (se_isi (T := "tuple") (by decide) (by rfl) T.z_isinstance (se_var (pv 1)) (pe_bltn (v := .ty "tuple") (by rfl) T.z_tuple (by decide +kernel) rfl)))) (sw_or (t_NotEq hr (se_callB mLen_noEx lenM (by rfl) T.z_len (by decide +kernel) (sa_cons (se_var (pv 1)) sa_nil)) se_int) (sw_or1 (st_not (st_val (se_callDf (dvs := [.int 0]) ne_is_whole (fun _ _ => .cons (.int _) .nil) (ok_is_whole T Z) (hr.mono (by omega)) rfl T.d_is_whole.m T.d_is_whole.kp T.d_is_whole.bd (.cons ⟨_, rfl⟩ .nil) (sa_cons (x_ix hr (se_var (pv 1)) se_int (fun _ _ => rfl)) sa_nil))))))))
    (sss_one (ss_ret se_bl))
    sss_nil)))
    (sss_one (ss_ret (se_call ne_is_rising (ok_is_rising T Z) (hr.mono (by omega)) rfl T.d_is_rising.m T.d_is_rising.kp T.d_is_rising.b (sa_cons (se_new (sl_comp (own := [("pair", 1)]) (t := (Tg.one 1)) (by decide) rfl nd (si_of (se_wk (se_var (pv 0)))) (blkOk_by (N := N_are_pairs) (sc := defScope s_are_pairs) (by decide +kernel)) (fun _ _ _ _ _ => (pg_name (i := 1) nd rfl (Or.inl rfl))) (fun _ _ _ _ _ => sts_nil) (fun _ _ _ _ _ => (x_ix hr (se_var (pv 1)) se_int (fun _ _ => rfl))))) sa_nil))))))
theorem ok_are_lots (T : Tx K mg) (Z : Tb T base) : FnOk P w K mg base CX0 6 T.d_are_lots.f T.d_are_lots.fd ["thing"] (spM K (clZ Z) m_are_lots) := by
  have nd := sc_are_lots.nd
  unfold m_are_lots b_are_lots
  exact fnM (k := 5) T.d_are_lots.fn sc_are_lots fun cdv A outer s H E hr =>
    (sss_one (ss_ret (se_and (se_call ne_are_pairs (ok_are_pairs T Z) (hr.mono (by omega)) rfl T.d_are_pairs.m T.d_are_pairs.kp T.d_are_pairs.b (sa_cons (se_wk (se_var (pv 0))) sa_nil)) (se_one (se_callBL lAll_ok lAll_noEx (cr_all rfl) (by rfl) T.z_all (by decide +kernel) (sl_comp (own := [("address", 1), ("cell", 2)]) (t := (Tg.many [1, 2])) (by decide) rfl nd (si_of (se_wk (se_var (pv 0)))) (blkOk_by (N := N_are_lots) (sc := defScope s_are_lots) (by decide +kernel)) (fun _ _ _ _ _ => (pg_tup rfl (pgs_cons (pg_name (i := 1) nd rfl (Or.inl rfl)) (pgs_cons (pg_name (i := 2) nd rfl (Or.inl rfl)) pgs_nil)))) (fun _ _ _ _ _ => sts_nil) (fun _ _ _ _ _ => (se_call ne_is_lot (ok_is_lot T Z) (hr.mono (by omega)) rfl T.d_is_lot.m T.d_is_lot.kp T.d_is_lot.b (sa_cons (se_var (pv 2)) sa_nil)))))))))
theorem ok_is_formed (T : Tx K mg) (Z : Tb T base) : FnOk P w K mg base CX0 7 T.d_is_formed.f T.d_is_formed.fd ["thing"] (spM K (clZ Z) m_is_formed) := by
  have nd := sc_is_formed.nd
  unfold m_is_formed b_is_formed
  exact fnM (k := 6) T.d_is_formed.fn sc_is_formed fun cdv A outer s H E hr =>
    (sss_cons (ss_if (PW.pt (sw_or (st_not (st_val (se_isi (T := "tuple") (by decide) (by rfl) T.z_isinstance (se_var (pv 0)) (pe_bltn (v := .ty "tuple") (by rfl) T.z_tuple (by decide +kernel) rfl)))) (sw_or (t_NotEq hr (se_callB mLen_noEx lenM (by rfl) T.z_len (by decide +kernel) (sa_cons (se_var (pv 0)) sa_nil)) se_int) (sw_or (st_not (st_val (se_call ne_are_lots (ok_are_lots T Z) (hr.mono (by omega)) rfl T.d_are_lots.m T.d_are_lots.kp T.d_are_lots.b (sa_cons (x_ix hr (se_var (pv 0)) se_int (fun _ _ => rfl)) sa_nil)))) (sw_or1 (st_not (st_val (se_call ne_are_lots (ok_are_lots T Z) (hr.mono (by omega)) rfl T.d_are_lots.m T.d_are_lots.kp T.d_are_lots.b (sa_cons (x_ix hr (se_var (pv 0)) se_int (fun _ _ => rfl)) sa_nil)))))))))
    (sss_one (ss_ret se_bl))
    sss_nil)
    (sss_cons (ss_if (PW.pt (sw_or (st_not (st_val (se_isi (T := "tuple") (by decide) (by rfl) T.z_isinstance (se_wk (x_ix hr (se_var (pv 0)) se_int (fun _ _ => rfl))) (pe_bltn (v := .ty "tuple") (by rfl) T.z_tuple (by decide +kernel) rfl)))) (sw_or (st_not (st_val (se_callBL lAll_ok lAll_noEx (cr_all rfl) (by rfl) T.z_all (by decide +kernel) (sl_comp (own := [("root", 1)]) (t := (Tg.one 1)) (by decide) rfl nd (si_of (se_wk (x_ix hr (se_var (pv 0)) se_int (fun _ _ => rfl)))) (blkOk_by (N := N_is_formed) (sc := defScope s_is_formed) (by decide +kernel)) (fun _ _ _ _ _ => (pg_name (i := 1) nd rfl (Or.inl rfl))) (fun _ _ _ _ _ => sts_nil) (fun _ _ _ _ _ => (se_callDf (dvs := [.int 0]) ne_is_whole (fun _ _ => .cons (.int _) .nil) (ok_is_whole T Z) (hr.mono (by omega)) rfl T.d_is_whole.m T.d_is_whole.kp T.d_is_whole.bd (.cons ⟨_, rfl⟩ .nil) (sa_cons (se_var (pv 1)) sa_nil))))))) (sw_or1 (st_not (st_val (se_call ne_is_rising (ok_is_rising T Z) (hr.mono (by omega)) rfl T.d_is_rising.m T.d_is_rising.kp T.d_is_rising.b (sa_cons (se_wk (x_ix hr (se_var (pv 0)) se_int (fun _ _ => rfl))) sa_nil))))))))
    (sss_one (ss_ret se_bl))
    sss_nil)
    (sss_one (ss_ret (se_and (se_call ne_are_pairs (ok_are_pairs T Z) (hr.mono (by omega)) rfl T.d_are_pairs.m T.d_are_pairs.kp T.d_are_pairs.b (sa_cons (se_wk (x_ix hr (se_var (pv 0)) se_int (fun _ _ => rfl))) sa_nil)) (se_one (se_callBL lAll_ok lAll_noEx (cr_all rfl) (by rfl) T.z_all (by decide +kernel) (sl_comp (own := [("pair", 2)]) (t := (Tg.one 2)) (by decide) rfl nd (si_of (se_wk (x_ix hr (se_var (pv 0)) se_int (fun _ _ => rfl)))) (blkOk_by (N := N_is_formed) (sc := defScope s_is_formed) (by decide +kernel)) (fun _ _ _ _ _ => (pg_name (i := 2) nd rfl (Or.inl rfl))) (fun _ _ _ _ _ => sts_nil) (fun _ _ _ _ _ => (se_callDf (dvs := [.int 0]) ne_is_whole (fun _ _ => .cons (.int _) .nil) (ok_is_whole T Z) (hr.mono (by omega)) rfl T.d_is_whole.m T.d_is_whole.kp T.d_is_whole.bd (.cons ⟨_, rfl⟩ .nil) (sa_cons (x_ix hr (se_var (pv 2)) se_int (fun _ _ => rfl)) sa_nil)))))))))))
theorem ok_are_moved (T : Tx K mg) (Z : Tb T base) : FnOk P w K mg base CX0 2 T.d_are_moved.f T.d_are_moved.fd ["cell", "moves"] (spM K (clZ Z) m_are_moved) := by
  have nd := sc_are_moved.nd
  unfold m_are_moved b_are_moved
  exact fnM (k := 1) T.d_are_moved.fn sc_are_moved fun cdv A outer s H E hr =>
    (sss_one (ss_ret (se_callBL lAll_ok lAll_noEx (cr_all rfl) (by rfl) T.z_all (by decide +kernel) (sl_comp (own := [("worth", 2)]) (t := (Tg.one 2)) (by decide) rfl nd (si_of (se_call ne_parts_of (ok_parts_of T Z) (hr.mono (by omega)) rfl T.d_parts_of.m T.d_parts_of.kp T.d_parts_of.b (sa_cons (se_var (pv 0)) sa_nil))) (blkOk_by (N := N_are_moved) (sc := defScope s_are_moved) (by decide +kernel)) (fun _ _ _ _ _ => (pg_name (i := 2) nd rfl (Or.inl rfl))) (fun _ _ _ _ _ => (sts_one (st_val (se_call ne_is_cell (ok_is_cell T Z) (hr.mono (by omega)) rfl T.d_is_cell.m T.d_is_cell.kp T.d_is_cell.b (sa_cons (se_var (pv 2)) sa_nil))))) (fun _ _ _ _ _ => (c_In hr (x_ix hr (se_var (pv 2)) se_int (fun _ _ => rfl)) (se_var (pv 1))))))))
theorem ok_sweep_stands (T : Tx K mg) (Z : Tb T base) : FnG P w K mg base 8 T.d_sweep_stands.f T.d_sweep_stands.fd ["thing"] (spM K (clZ Z) m_sweep_stands) := by
  have nd := sc_sweep_stands.nd
  unfold m_sweep_stands b_sweep_stands
  exact fnMG (k := 7) T.d_sweep_stands.fn sc_sweep_stands fun cdv hcd A outer s H E hG hr =>
    (sss_cons (ss_if (st_not (st_val (se_call ne_is_formed (ok_is_formed T Z) (hr.mono (by omega)) rfl T.d_is_formed.m T.d_is_formed.kp T.d_is_formed.b (sa_cons (se_var (pv 0)) sa_nil))))
    (sss_one (ss_ret se_bl))
    sss_nil)
    (sss_cons (ss_setT (t := (Tg.many [1, 2, 3, 4])) (se_var (pv 0)) (pg_tup rfl (pgs_cons (pg_name (i := 1) nd rfl (Or.inl rfl)) (pgs_cons (pg_name (i := 2) nd rfl (Or.inl rfl)) (pgs_cons (pg_name (i := 3) nd rfl (Or.inl rfl)) (pgs_cons (pg_name (i := 4) nd rfl (Or.inl rfl)) pgs_nil))))))
    (sss_cons (ss_set (i := 5) nd rfl (Or.inr rfl) (se_callTy mDictT_noEx (dictTM rfl) (by rfl) T.z_dict (by decide +kernel) (sa_cons (se_var (pv 1)) sa_nil)))
    (sss_cons (ss_set (i := 6) nd rfl (Or.inr rfl) (se_callTy mDictT_noEx (dictTM rfl) (by rfl) T.z_dict (by decide +kernel) (sa_cons (se_var (pv 3)) sa_nil)))
    (sss_cons (ss_if (PW.pt (sw_or (t_NotEq hr (se_lenSc (own := [("address", 8), ("there", 9)]) (t := (Tg.many [8, 9])) (by decide) (by rfl) T.z_len rfl nd (si_of (se_wk (se_var (pv 3)))) (blkOk_by (N := N_sweep_stands) (sc := defScope s_sweep_stands) (by decide +kernel)) (fun _ _ _ _ _ => (pg_tup rfl (pgs_cons (pg_name (i := 8) nd rfl (Or.inl rfl)) (pgs_cons (pg_name (i := 9) nd rfl (Or.inl rfl)) pgs_nil)))) (fun _ _ _ _ _ => sts_nil) (fun _ _ _ _ _ => (se_var (pv 9)))) (se_callB mLen_noEx lenM (by rfl) T.z_len (by decide +kernel) (sa_cons (se_var (pv 6)) sa_nil))) (sw_or1 (st_not (st_val (se_callBL lAll_ok lAll_noEx (cr_all rfl) (by rfl) T.z_all (by decide +kernel) (sl_comp (own := [("root", 10)]) (t := (Tg.one 10)) (by decide) rfl nd (si_of (se_wk (se_var (pv 2)))) (blkOk_by (N := N_sweep_stands) (sc := defScope s_sweep_stands) (by decide +kernel)) (fun _ _ _ _ _ => (pg_name (i := 10) nd rfl (Or.inl rfl))) (fun _ _ _ _ _ => sts_nil) (fun _ _ _ _ _ => (c_In hr (se_var (pv 10)) (se_var (pv 6)))))))))))
    (sss_one (ss_ret se_bl))
    sss_nil)
    (sss_cons (ss_if (st_not (st_val (se_callBL lAll_ok lAll_noEx (cr_all rfl) (by rfl) T.z_all (by decide +kernel) (sl_comp (own := [("address", 8)]) (t := (Tg.one 8)) (by decide) rfl nd (si_key (se_var (pv 6))) (blkOk_by (N := N_sweep_stands) (sc := defScope s_sweep_stands) (by decide +kernel)) (fun _ _ _ _ _ => (pg_name (i := 8) nd rfl (Or.inl rfl))) (fun _ _ _ _ _ => sts_nil) (fun _ _ _ _ _ => (se_and (c_In hr (se_var (pv 8)) (se_var (pv 5))) (se_one (se_call ne_are_moved (ok_are_moved T Z) (hr.mono (by omega)) rfl T.d_are_moved.m T.d_are_moved.kp T.d_are_moved.b (sa_cons (x_ix hr (se_var (pv 5)) (se_var (pv 8)) (fun _ _ => rfl)) (sa_cons (se_var (pv 6)) sa_nil))))))))))
    (sss_one (ss_ret se_bl))
    sss_nil)
    (sss_cons (ss_set (i := 7) nd rfl (Or.inl rfl) (se_sortK (x := "pair") (i := 0) hr Z.tb_sweep_stands (hcd.symm.trans Z.c_sweep_stands) (clZ_sweep_stands Z) (by rfl) T.z_sorted (se_new (sl_comp (own := [("address", 8), ("there", 9)]) (t := (Tg.many [8, 9])) (by decide) rfl nd (si_of (se_wk (se_var (pv 3)))) (blkOk_by (N := N_sweep_stands) (sc := defScope s_sweep_stands) (by decide +kernel)) (fun _ _ _ _ _ => (pg_tup rfl (pgs_cons (pg_name (i := 8) nd rfl (Or.inl rfl)) (pgs_cons (pg_name (i := 9) nd rfl (Or.inl rfl)) pgs_nil)))) (fun _ _ _ _ _ => sts_nil) (fun _ _ _ _ _ => (se_tup (sa_cons (se_var (pv 9)) (sa_cons (se_call ne_moved_cell (ok_moved_cell T Z) (hr.mono (by omega)) rfl T.d_moved_cell.m T.d_moved_cell.kp T.d_moved_cell.b (sa_cons (x_ix hr (se_var (pv 5)) (se_var (pv 8)) (fun _ _ => rfl)) (sa_cons (se_var (pv 6)) sa_nil))) sa_nil)))))) (by rfl) (by decide +kernel) (by rfl) (fun _ _ _ _ _ => rfl) (by decide +kernel) rfl rfl rfl))
    (sss_one (ss_ret (c_Eq hr (se_callB mRepr_noEx (reprM hr.units hG) (by rfl) T.z_repr (by decide +kernel) (sa_cons (se_callTy mTuple_noEx tupleM (by rfl) T.z_tuple (by decide +kernel) (sa_cons (se_var (pv 7)) sa_nil)) sa_nil)) (se_callB mRepr_noEx (reprM hr.units hG) (by rfl) T.z_repr (by decide +kernel) (sa_cons (se_var (pv 4)) sa_nil))))))))))))
theorem ok_law_deck (T : Tx K mg) (Z : Tb T base) : FnOk P w K mg base CX0 1 T.d_law_deck.f T.d_law_deck.fd ["_law_script"] (spM K (clZ Z) m_law_deck) := by
  have nd := sc_law_deck.nd
  unfold m_law_deck b_law_deck
  exact fnM (k := 0) T.d_law_deck.fn sc_law_deck fun cdv A outer s H E hr =>
    (sss_cons (ss_set (i := 1) nd rfl (Or.inl rfl) (se_new (sl_disp sa_nil)))
    (sss_cons (ss_set (i := 2) nd rfl (Or.inl rfl) (se_new (sl_disp (sa_cons (se_callB mLen_noEx lenM (by rfl) T.z_len (by decide +kernel) (sa_cons (se_var (pv 0)) sa_nil)) sa_nil))))
    (sss_cons (ss_for (t := (Tg.one 3)) PassesOwn.never rfl (si_of (se_sl (se_var (pv 0)) sp_none (sp_some se_int))) (pg_name (i := 3) nd rfl (Or.inl rfl))
    (sss_cons (ss_set (i := 3) nd rfl (Or.inl rfl) (se_callB mAbs_noEx absM (by rfl) T.z_abs (by decide +kernel) (sa_cons (se_var (pv 3)) sa_nil)))
    (sss_cons (ss_expr (se_bm mAppend_noEx PySem.F.plainAttrs_list PySem.F.slot_list_append PySem.F.type_list_append appendM (se_var (pv 2)) (sa_cons (b_Mod (se_var (pv 3)) se_int) sa_nil)))
    (sss_one (ss_if (t_GtE (se_var (pv 3)) (b_Pow se_int se_int))
    (sss_one (ss_for (t := (Tg.one 4)) PassesOwn.never rfl (si_range1 (by rfl) T.z_range (sa_cons se_int sa_nil)) (pg_name (i := 4) nd rfl (Or.inl rfl))
    (sss_one (ss_if (t_Gt (se_var (pv 3)) se_int)
    (sss_cons (ss_expr (se_bm mAppend_noEx PySem.F.plainAttrs_list PySem.F.slot_list_append PySem.F.type_list_append appendM (se_var (pv 1)) (sa_cons (b_Mod (se_var (pv 3)) se_int) sa_nil)))
    (sss_one (ss_set (i := 3) nd rfl (Or.inl rfl) (b_FloorDiv (se_var (pv 3)) se_int))))
    sss_nil))))
    sss_nil)))))
    (sss_one (ss_ret (se_new (sl_disp (sa_cons (se_var (pv 1)) (sa_cons (se_var (pv 2)) (sa_cons se_int sa_nil))))))))))
theorem ok_law_next (T : Tx K mg) (Z : Tb T base) : FnOk P w K mg base CX0 1 T.d_law_next.f T.d_law_next.fd ["_law_deck_here", "_law_below"] (spM K (clZ Z) m_law_next) := by
  have nd := sc_law_next.nd
  unfold m_law_next b_law_next
  exact fnM (k := 0) T.d_law_next.fn sc_law_next fun cdv A outer s H E hr =>
    (sss_cons (ss_if (t_NotEq hr (x_ix hr (se_var (pv 0)) se_int (fun _ _ => rfl)) (se_new (sl_disp sa_nil)))
    (sss_one (ss_ret (b_Mod (se_bm mPopAt_noEx PySem.F.plainAttrs_list PySem.F.slot_list_pop PySem.F.type_list_pop popAtM (x_ix hr (se_var (pv 0)) se_int (fun _ _ => rfl)) (sa_cons se_int sa_nil)) (se_var (pv 1)))))
    sss_nil)
    (sss_cons (ss_set (i := 2) nd rfl (Or.inl rfl) (x_ix hr (se_var (pv 0)) se_int (fun _ _ => rfl)))
    (sss_cons (ss_setI (se_var (pv 0)) se_int (b_Add (se_var (pv 2)) se_int))
    (sss_cons (ss_set (i := 3) nd rfl (Or.inl rfl) (se_tup (sa_cons se_int (sa_cons se_int (sa_cons se_int (sa_cons se_int (sa_cons se_int (sa_cons se_int (sa_cons se_int (sa_cons se_int (sa_cons se_int (sa_cons se_int (sa_cons se_int (sa_cons se_int sa_nil))))))))))))))
    (sss_cons (ss_set (i := 4) nd rfl (Or.inl rfl) (x_ix hr (x_ix hr (se_var (pv 0)) se_int (fun _ _ => rfl)) (b_Mod (se_var (pv 2)) (se_callB mLen_noEx lenM (by rfl) T.z_len (by decide +kernel) (sa_cons (x_ix hr (se_var (pv 0)) se_int (fun _ _ => rfl)) sa_nil))) (fun _ _ => rfl)))
    (sss_cons (ss_set (i := 5) nd rfl (Or.inl rfl) (x_ix hr (x_ix hr (se_var (pv 0)) se_int (fun _ _ => rfl)) (b_Mod (b_Add (b_Mult se_int (se_var (pv 2))) se_int) (se_callB mLen_noEx lenM (by rfl) T.z_len (by decide +kernel) (sa_cons (x_ix hr (se_var (pv 0)) se_int (fun _ _ => rfl)) sa_nil))) (fun _ _ => rfl)))
    (sss_cons (ss_set (i := 6) nd rfl (Or.inl rfl) (b_Add (b_Pow (b_Add (se_var (pv 4)) (b_Mult (x_ix hr (se_var (pv 3)) (b_Mod (se_var (pv 2)) se_int) (fun _ _ => rfl)) (b_Add (se_var (pv 2)) se_int))) se_int) (b_Mult (b_Pow (b_Add (se_var (pv 5)) (x_ix hr (se_var (pv 3)) (b_Mod (b_Add (se_var (pv 2)) se_int) se_int) (fun _ _ => rfl))) se_int) (b_Add (se_var (pv 2)) se_int))))
    (sss_one (ss_ret (b_Mod (b_FloorDiv (b_Mod (se_var (pv 6)) se_int) se_int) (se_var (pv 1))))))))))))
theorem ok_law_worth (T : Tx K mg) (Z : Tb T base) : FnOk P w K mg base CX0 2 T.d_law_worth.f T.d_law_worth.fd ["_law_deck_here", "_law_some"] (spM K (clZ Z) m_law_worth) := by
  have nd := sc_law_worth.nd
  unfold m_law_worth b_law_worth
  exact fnM (k := 1) T.d_law_worth.fn sc_law_worth fun cdv A outer s H E hr =>
    (sss_cons (ss_if (PW.pt (sw_and (t_Lt (se_call ne_law_next (ok_law_next T Z) (hr.mono (by omega)) rfl T.d_law_next.m T.d_law_next.kp T.d_law_next.b (sa_cons (se_var (pv 0)) (sa_cons se_int sa_nil))) se_int) (sw_and1 (t_NotEq hr (se_var (pv 1)) (se_new (sl_disp sa_nil))))))
    (sss_one (ss_ret (se_tup (sa_cons se_str (sa_cons (x_ix hr (se_var (pv 1)) (se_call ne_law_next (ok_law_next T Z) (hr.mono (by omega)) rfl T.d_law_next.m T.d_law_next.kp T.d_law_next.b (sa_cons (se_var (pv 0)) (sa_cons (se_callB mLen_noEx lenM (by rfl) T.z_len (by decide +kernel) (sa_cons (se_var (pv 1)) sa_nil)) sa_nil))) (fun _ _ => rfl)) sa_nil)))))
    sss_nil)
    (sss_cons (ss_set (i := 2) nd rfl (Or.inl rfl) (se_new (sl_disp (sa_cons se_non (sa_cons se_bl (sa_cons se_bl (sa_cons se_int (sa_cons se_int (sa_cons (b_Sub se_int se_int) (sa_cons (b_Sub (b_Pow se_int se_int) se_int) (sa_cons (b_Sub se_int (b_Pow se_int se_int)) (sa_cons se_str (sa_cons se_str (sa_cons (b_Mult se_str se_int) (sa_cons se_int sa_nil)))))))))))))))
    (sss_one (ss_ret (x_ix hr (se_var (pv 2)) (se_call ne_law_next (ok_law_next T Z) (hr.mono (by omega)) rfl T.d_law_next.m T.d_law_next.kp T.d_law_next.b (sa_cons (se_var (pv 0)) (sa_cons se_int sa_nil))) (fun _ _ => rfl))))))
theorem ok_law_worths (T : Tx K mg) (Z : Tb T base) : FnOk P w K mg base CX0 3 T.d_law_worths.f T.d_law_worths.fd ["_law_deck_here", "_law_some", "_law_many"] (spM K (clZ Z) m_law_worths) := by
  have nd := sc_law_worths.nd
  unfold m_law_worths b_law_worths
  exact fnM (k := 2) T.d_law_worths.fn sc_law_worths fun cdv A outer s H E hr =>
    (sss_one (ss_ret (se_callTyL lTuple_ok lTuple_noEx call_tuple_of (by rfl) T.z_tuple (by decide +kernel) (sl_comp (own := [("_law_k", 3)]) (t := (Tg.one 3)) (by decide) rfl nd (si_range1 (by rfl) T.z_range (sa_cons (se_var (pv 2)) sa_nil)) (blkOk_by (N := N_law_worths) (sc := defScope s_law_worths) (by decide +kernel)) (fun _ _ _ _ _ => (pg_name (i := 3) nd rfl (Or.inl rfl))) (fun _ _ _ _ _ => sts_nil) (fun _ _ _ _ _ => (se_call ne_law_worth (ok_law_worth T Z) (hr.mono (by omega)) rfl T.d_law_worth.m T.d_law_worth.kp T.d_law_worth.b (sa_cons (se_var (pv 0)) (sa_cons (se_var (pv 1)) sa_nil))))))))
theorem ok_law_cell (T : Tx K mg) (Z : Tb T base) : FnOk P w K mg base CX0 4 T.d_law_cell.f T.d_law_cell.fd ["_law_deck_here", "_law_some"] (spM K (clZ Z) m_law_cell) := by
  have nd := sc_law_cell.nd
  unfold m_law_cell b_law_cell
  exact fnM (k := 3) T.d_law_cell.fn sc_law_cell fun cdv A outer s H E hr =>
    (sss_cons (ss_set (i := 2) nd rfl (Or.inl rfl) (se_call ne_law_next (ok_law_next T Z) (hr.mono (by omega)) rfl T.d_law_next.m T.d_law_next.kp T.d_law_next.b (sa_cons (se_var (pv 0)) (sa_cons se_int sa_nil))))
    (sss_cons (ss_if (t_Eq hr (se_var (pv 2)) se_int)
    (sss_cons (ss_set (i := 3) nd rfl (Or.inl rfl) (se_ixL (sl_disp (sa_cons se_str (sa_cons se_str (sa_cons se_str (sa_cons se_str (sa_cons se_str sa_nil)))))) (se_call ne_law_next (ok_law_next T Z) (hr.mono (by omega)) rfl T.d_law_next.m T.d_law_next.kp T.d_law_next.b (sa_cons (se_var (pv 0)) (sa_cons se_int sa_nil))) (fun _ _ => rfl)))
    (sss_one (ss_ret (se_tup (sa_cons se_str (sa_cons (se_var (pv 3)) (sa_cons (se_call ne_law_worths (ok_law_worths T Z) (hr.mono (by omega)) rfl T.d_law_worths.m T.d_law_worths.kp T.d_law_worths.b (sa_cons (se_var (pv 0)) (sa_cons (se_var (pv 1)) (sa_cons (se_ixL (sl_disp (sa_cons se_int (sa_cons se_int (sa_cons se_int (sa_cons se_int (sa_cons se_int sa_nil)))))) (se_call ne_law_next (ok_law_next T Z) (hr.mono (by omega)) rfl T.d_law_next.m T.d_law_next.kp T.d_law_next.b (sa_cons (se_var (pv 0)) (sa_cons se_int sa_nil))) (fun _ _ => rfl)) sa_nil)))) sa_nil)))))))
    sss_nil)
    (sss_cons (ss_if (PW.pt (sw_and (t_Eq hr (se_var (pv 2)) se_int) (sw_and1 (t_NotEq hr (se_var (pv 1)) (se_new (sl_disp sa_nil))))))
    (sss_cons (ss_set (i := 4) nd rfl (Or.inl rfl) (se_tup (sa_cons se_str (sa_cons (x_ix hr (se_var (pv 1)) (se_call ne_law_next (ok_law_next T Z) (hr.mono (by omega)) rfl T.d_law_next.m T.d_law_next.kp T.d_law_next.b (sa_cons (se_var (pv 0)) (sa_cons (se_callB mLen_noEx lenM (by rfl) T.z_len (by decide +kernel) (sa_cons (se_var (pv 1)) sa_nil)) sa_nil))) (fun _ _ => rfl)) sa_nil))))
    (sss_one (ss_ret (se_tup (sa_cons se_str (sa_cons (se_call ne_law_next (ok_law_next T Z) (hr.mono (by omega)) rfl T.d_law_next.m T.d_law_next.kp T.d_law_next.b (sa_cons (se_var (pv 0)) (sa_cons se_int sa_nil))) (sa_cons (se_call ne_law_next (ok_law_next T Z) (hr.mono (by omega)) rfl T.d_law_next.m T.d_law_next.kp T.d_law_next.b (sa_cons (se_var (pv 0)) (sa_cons se_int sa_nil))) (sa_cons (se_var (pv 4)) (sa_cons (se_tup (sa_cons se_str (sa_cons (x_ix hr (se_var (pv 1)) (se_call ne_law_next (ok_law_next T Z) (hr.mono (by omega)) rfl T.d_law_next.m T.d_law_next.kp T.d_law_next.b (sa_cons (se_var (pv 0)) (sa_cons (se_callB mLen_noEx lenM (by rfl) T.z_len (by decide +kernel) (sa_cons (se_var (pv 1)) sa_nil)) sa_nil))) (fun _ _ => rfl)) sa_nil))) sa_nil)))))))))
    sss_nil)
    (sss_cons (ss_if (t_Eq hr (se_var (pv 2)) se_int)
    (sss_cons (ss_set (i := 5) nd rfl (Or.inl rfl) se_non)
    (sss_cons (ss_if (PW.pt (sw_and (t_NotEq hr (se_var (pv 1)) (se_new (sl_disp sa_nil))) (sw_and1 (t_Eq hr (se_call ne_law_next (ok_law_next T Z) (hr.mono (by omega)) rfl T.d_law_next.m T.d_law_next.kp T.d_law_next.b (sa_cons (se_var (pv 0)) (sa_cons se_int sa_nil))) se_int))))
    (sss_one (ss_set (i := 5) nd rfl (Or.inl rfl) (se_tup (sa_cons se_str (sa_cons (x_ix hr (se_var (pv 1)) (se_call ne_law_next (ok_law_next T Z) (hr.mono (by omega)) rfl T.d_law_next.m T.d_law_next.kp T.d_law_next.b (sa_cons (se_var (pv 0)) (sa_cons (se_callB mLen_noEx lenM (by rfl) T.z_len (by decide +kernel) (sa_cons (se_var (pv 1)) sa_nil)) sa_nil))) (fun _ _ => rfl)) sa_nil)))))
    sss_nil)
    (sss_one (ss_ret (se_tup (sa_cons se_str (sa_cons (se_call ne_law_worths (ok_law_worths T Z) (hr.mono (by omega)) rfl T.d_law_worths.m T.d_law_worths.kp T.d_law_worths.b (sa_cons (se_var (pv 0)) (sa_cons (se_var (pv 1)) (sa_cons (se_ixL (sl_disp (sa_cons se_int (sa_cons se_int (sa_cons se_int (sa_cons se_int (sa_cons se_int sa_nil)))))) (se_call ne_law_next (ok_law_next T Z) (hr.mono (by omega)) rfl T.d_law_next.m T.d_law_next.kp T.d_law_next.b (sa_cons (se_var (pv 0)) (sa_cons se_int sa_nil))) (fun _ _ => rfl)) sa_nil)))) (sa_cons (se_var (pv 5)) sa_nil))))))))
    sss_nil)
    (sss_cons (ss_set (i := 6) nd rfl (Or.inl rfl) (se_ixL (sl_disp (sa_cons se_int (sa_cons se_int (sa_cons se_int (sa_cons se_int (sa_cons se_int (sa_cons se_int (sa_cons se_int (sa_cons se_int sa_nil))))))))) (se_call ne_law_next (ok_law_next T Z) (hr.mono (by omega)) rfl T.d_law_next.m T.d_law_next.kp T.d_law_next.b (sa_cons (se_var (pv 0)) (sa_cons se_int sa_nil))) (fun _ _ => rfl)))
    (sss_one (ss_ret (se_tup (sa_cons se_str (sa_cons (se_call ne_law_worths (ok_law_worths T Z) (hr.mono (by omega)) rfl T.d_law_worths.m T.d_law_worths.kp T.d_law_worths.b (sa_cons (se_var (pv 0)) (sa_cons (se_var (pv 1)) (sa_cons (se_var (pv 6)) sa_nil)))) sa_nil))))))))))
theorem ok_law_places (T : Tx K mg) (Z : Tb T base) : FnOk P w K mg base CX0 2 T.d_law_places.f T.d_law_places.fd ["_law_deck_here", "_law_many"] (spM K (clZ Z) m_law_places) := by
  have nd := sc_law_places.nd
  unfold m_law_places b_law_places
  exact fnM (k := 1) T.d_law_places.fn sc_law_places fun cdv A outer s H E hr =>
    (sss_cons (ss_set (i := 2) nd rfl (Or.inl rfl) (se_new (sl_disp sa_nil)))
    (sss_cons (ss_set (i := 3) nd rfl (Or.inl rfl) (b_Sub se_int se_int))
    (sss_cons (ss_for (t := (Tg.one 4)) PassesOwn.never rfl (si_range1 (by rfl) T.z_range (sa_cons (se_var (pv 1)) sa_nil)) (pg_name (i := 4) nd rfl (Or.inl rfl))
    (sss_cons (ss_set (i := 3) nd rfl (Or.inl rfl) (b_Add (b_Add (se_var (pv 3)) se_int) (se_call ne_law_next (ok_law_next T Z) (hr.mono (by omega)) rfl T.d_law_next.m T.d_law_next.kp T.d_law_next.b (sa_cons (se_var (pv 0)) (sa_cons se_int sa_nil)))))
    (sss_cons (ss_if (t_Eq hr (se_call ne_law_next (ok_law_next T Z) (hr.mono (by omega)) rfl T.d_law_next.m T.d_law_next.kp T.d_law_next.b (sa_cons (se_var (pv 0)) (sa_cons se_int sa_nil))) se_int)
    (sss_one (ss_set (i := 3) nd rfl (Or.inl rfl) (b_Add (se_var (pv 3)) (b_Pow se_int se_int))))
    sss_nil)
    (sss_one (ss_expr (se_bm mAppend_noEx PySem.F.plainAttrs_list PySem.F.slot_list_append PySem.F.type_list_append appendM (se_var (pv 2)) (sa_cons (se_var (pv 3)) sa_nil)))))))
    (sss_one (ss_ret (se_var (pv 2)))))))
theorem ok_law_parts (T : Tx K mg) (Z : Tb T base) : FnOk P w K mg base CX0 1 T.d_law_parts.f T.d_law_parts.fd ["_law_cell_here"] (spM K (clZ Z) m_law_parts) := by
  have nd := sc_law_parts.nd
  unfold m_law_parts b_law_parts
  exact fnM (k := 0) T.d_law_parts.fn sc_law_parts fun cdv A outer s H E hr =>
    (sss_cons (ss_if (t_Eq hr (x_ix hr (se_var (pv 0)) se_int (fun _ _ => rfl)) se_str)
    (sss_one (ss_ret (se_new (sl_of (x := "list") (by rfl) T.z_list (se_sl (se_var (pv 0)) (sp_some se_int) sp_none)))))
    sss_nil)
    (sss_cons (ss_if (t_Eq hr (x_ix hr (se_var (pv 0)) se_int (fun _ _ => rfl)) se_str)
    (sss_one (ss_ret (se_new (sl_cat (sl_of (x := "list") (by rfl) T.z_list (x_ix hr (se_var (pv 0)) se_int (fun _ _ => rfl))) (sl_disp (sa_cons (x_ix hr (se_var (pv 0)) se_int (fun _ _ => rfl)) sa_nil))))))
    sss_nil)
    (sss_one (ss_ret (se_new (sl_of (x := "list") (by rfl) T.z_list (x_ix hr (se_var (pv 0)) (se_neg se_int) (fun _ _ => rfl))))))))
theorem ok_law_closed (T : Tx K mg) (Z : Tb T base) : FnOk P w K mg base CX0 2 T.d_law_closed.f T.d_law_closed.fd ["_law_cells_here", "_law_some"] (spM K (clZ Z) m_law_closed) := by
  have nd := sc_law_closed.nd
  unfold m_law_closed b_law_closed
  exact fnM (k := 1) T.d_law_closed.fn sc_law_closed fun cdv A outer s H E hr =>
    (sss_cons (ss_set (i := 2) nd rfl (Or.inl rfl) (se_sortSet rfl (by rfl) T.z_sorted (by rfl) T.z_set (sa_cons (se_var (pv 1)) sa_nil)))
    (sss_cons (ss_set (i := 3) nd rfl (Or.inl rfl) se_int)
    (sss_cons (ss_while PassesOwn.never (t_Lt (se_var (pv 3)) (se_callB mLen_noEx lenM (by rfl) T.z_len (by decide +kernel) (sa_cons (se_var (pv 2)) sa_nil)))
    (sss_cons (ss_for (t := (Tg.one 4)) PassesOwn.never rfl (si_of (se_call ne_law_parts (ok_law_parts T Z) (hr.mono (by omega)) rfl T.d_law_parts.m T.d_law_parts.kp T.d_law_parts.b (sa_cons (x_ix hr (se_var (pv 0)) (x_ix hr (se_var (pv 2)) (se_var (pv 3)) (fun _ _ => rfl)) (fun _ _ => rfl)) sa_nil))) (pg_name (i := 4) nd rfl (Or.inl rfl))
    (sss_one (ss_if (PW.pt (sw_and (st_val (se_isi (T := "tuple") (by decide) (by rfl) T.z_isinstance (se_var (pv 4)) (pe_bltn (v := .ty "tuple") (by rfl) T.z_tuple (by decide +kernel) rfl))) (sw_and1 (t_NotIn hr (x_ix hr (se_var (pv 4)) se_int (fun _ _ => rfl)) (se_var (pv 2))))))
    (sss_one (ss_expr (se_bm mAppend_noEx PySem.F.plainAttrs_list PySem.F.slot_list_append PySem.F.type_list_append appendM (se_var (pv 2)) (sa_cons (x_ix hr (se_var (pv 4)) se_int (fun _ _ => rfl)) sa_nil))))
    sss_nil)))
    (sss_one (ss_set (i := 3) nd rfl (Or.inl rfl) (b_Add (se_var (pv 3)) se_int)))))
    (sss_one (ss_ret (se_callB mSorted_noEx (sortedM hr.units) (by rfl) T.z_sorted (by decide +kernel) (sa_cons (se_var (pv 2)) sa_nil)))))))
theorem ok_law_moved (T : Tx K mg) (Z : Tb T base) : FnOk P w K mg base CX0 1 T.d_law_moved.f T.d_law_moved.fd ["_law_worth_here", "_law_moves"] (spM K (clZ Z) m_law_moved) := by
  have nd := sc_law_moved.nd
  unfold m_law_moved b_law_moved
  exact fnM (k := 0) T.d_law_moved.fn sc_law_moved fun cdv A outer s H E hr =>
    (sss_cons (ss_if (PW.pt (sw_and (st_val (se_isi (T := "tuple") (by decide) (by rfl) T.z_isinstance (se_var (pv 0)) (pe_bltn (v := .ty "tuple") (by rfl) T.z_tuple (by decide +kernel) rfl))) (sw_and1 (t_In hr (x_ix hr (se_var (pv 0)) se_int (fun _ _ => rfl)) (se_var (pv 1))))))
    (sss_one (ss_ret (se_tup (sa_cons se_str (sa_cons (x_ix hr (se_var (pv 1)) (x_ix hr (se_var (pv 0)) se_int (fun _ _ => rfl)) (fun _ _ => rfl)) sa_nil)))))
    sss_nil)
    (sss_one (ss_ret (se_var (pv 0)))))
theorem ok_law_moved_cell (T : Tx K mg) (Z : Tb T base) : FnOk P w K mg base CX0 2 T.d_law_moved_cell.f T.d_law_moved_cell.fd ["_law_cell_here", "_law_moves"] (spM K (clZ Z) m_law_moved_cell) := by
  have nd := sc_law_moved_cell.nd
  unfold m_law_moved_cell b_law_moved_cell
  exact fnM (k := 1) T.d_law_moved_cell.fn sc_law_moved_cell fun cdv A outer s H E hr =>
    (sss_cons (ss_if (t_Eq hr (x_ix hr (se_var (pv 0)) se_int (fun _ _ => rfl)) se_str)
    (sss_one (ss_ret (b_Add (se_sl (se_var (pv 0)) sp_none (sp_some se_int)) (se_callTyL lTuple_ok lTuple_noEx call_tuple_of (by rfl) T.z_tuple (by decide +kernel) (sl_comp (own := [("_law_part", 2)]) (t := (Tg.one 2)) (by decide) rfl nd (si_of (se_sl (se_var (pv 0)) (sp_some se_int) sp_none)) (blkOk_by (N := N_law_moved_cell) (sc := defScope s_law_moved_cell) (by decide +kernel)) (fun _ _ _ _ _ => (pg_name (i := 2) nd rfl (Or.inl rfl))) (fun _ _ _ _ _ => sts_nil) (fun _ _ _ _ _ => (se_call ne_law_moved (ok_law_moved T Z) (hr.mono (by omega)) rfl T.d_law_moved.m T.d_law_moved.kp T.d_law_moved.b (sa_cons (se_var (pv 2)) (sa_cons (se_var (pv 1)) sa_nil)))))))))
    sss_nil)
    (sss_cons (ss_if (t_Eq hr (x_ix hr (se_var (pv 0)) se_int (fun _ _ => rfl)) se_str)
    (sss_one (ss_ret (se_tup (sa_cons se_str (sa_cons (se_callTyL lTuple_ok lTuple_noEx call_tuple_of (by rfl) T.z_tuple (by decide +kernel) (sl_comp (own := [("_law_part", 2)]) (t := (Tg.one 2)) (by decide) rfl nd (si_of (x_ix hr (se_var (pv 0)) se_int (fun _ _ => rfl))) (blkOk_by (N := N_law_moved_cell) (sc := defScope s_law_moved_cell) (by decide +kernel)) (fun _ _ _ _ _ => (pg_name (i := 2) nd rfl (Or.inl rfl))) (fun _ _ _ _ _ => sts_nil) (fun _ _ _ _ _ => (se_call ne_law_moved (ok_law_moved T Z) (hr.mono (by omega)) rfl T.d_law_moved.m T.d_law_moved.kp T.d_law_moved.b (sa_cons (se_var (pv 2)) (sa_cons (se_var (pv 1)) sa_nil)))))) (sa_cons (se_call ne_law_moved (ok_law_moved T Z) (hr.mono (by omega)) rfl T.d_law_moved.m T.d_law_moved.kp T.d_law_moved.b (sa_cons (x_ix hr (se_var (pv 0)) se_int (fun _ _ => rfl)) (sa_cons (se_var (pv 1)) sa_nil))) sa_nil))))))
    sss_nil)
    (sss_one (ss_ret (b_Add (se_sl (se_var (pv 0)) sp_none (sp_some (se_neg se_int))) (se_tup (sa_cons (se_callTyL lTuple_ok lTuple_noEx call_tuple_of (by rfl) T.z_tuple (by decide +kernel) (sl_comp (own := [("_law_part", 2)]) (t := (Tg.one 2)) (by decide) rfl nd (si_of (x_ix hr (se_var (pv 0)) (se_neg se_int) (fun _ _ => rfl))) (blkOk_by (N := N_law_moved_cell) (sc := defScope s_law_moved_cell) (by decide +kernel)) (fun _ _ _ _ _ => (pg_name (i := 2) nd rfl (Or.inl rfl))) (fun _ _ _ _ _ => sts_nil) (fun _ _ _ _ _ => (se_call ne_law_moved (ok_law_moved T Z) (hr.mono (by omega)) rfl T.d_law_moved.m T.d_law_moved.kp T.d_law_moved.b (sa_cons (se_var (pv 2)) (sa_cons (se_var (pv 1)) sa_nil)))))) sa_nil)))))))
theorem ok_law_told (T : Tx K mg) (Z : Tb T base) : FnOk P w K mg base CX0 3 T.d_law_told.f T.d_law_told.fd ["_law_deck_here", "_law_cells_here", "_law_roots", "_law_kept"] (spM K (clZ Z) m_law_told) := by
  have nd := sc_law_told.nd
  unfold m_law_told b_law_told
  exact fnMC (k := 2) T.d_law_told.fn sc_law_told fun cdv hcd A outer s H E hr =>
    (sss_cons (ss_set (i := 4) nd rfl (Or.inl rfl) (se_call ne_law_places (ok_law_places T Z) (hr.mono (by omega)) rfl T.d_law_places.m T.d_law_places.kp T.d_law_places.b (sa_cons (se_var (pv 0)) (sa_cons (se_callB mLen_noEx lenM (by rfl) T.z_len (by decide +kernel) (sa_cons (se_var (pv 3)) sa_nil)) sa_nil))))
    (sss_cons (ss_set (i := 5) nd rfl (Or.inr rfl) se_dict0)
    (sss_cons (ss_for (t := (Tg.one 6)) PassesOwn.never rfl (si_of (se_var (pv 3))) (pg_name (i := 6) nd rfl (Or.inl rfl))
    (sss_one (ss_asg (se_bm mPopAt_noEx PySem.F.plainAttrs_list PySem.F.slot_list_pop PySem.F.type_list_pop popAtM (se_var (pv 4)) (sa_cons (se_call ne_law_next (ok_law_next T Z) (hr.mono (by omega)) rfl T.d_law_next.m T.d_law_next.kp T.d_law_next.b (sa_cons (se_var (pv 0)) (sa_cons (se_callB mLen_noEx lenM (by rfl) T.z_len (by decide +kernel) (sa_cons (se_var (pv 4)) sa_nil)) sa_nil))) sa_nil)) (sg_it (hu_of hr) (se_var (pv 5)) (se_var (pv 6))))))
    (sss_cons (ss_setLc (i := 7) (own := [("_law_address", 6)]) (t := (Tg.one 6)) (by decide) rfl nd rfl rfl (sw_true rfl rfl rfl (by decide +kernel)) (si_of (se_var (pv 3))) (blkOk_by (N := N_law_told) (sc := defScope s_law_told) (by decide +kernel)) (fun _ _ _ _ _ => (pg_name (i := 6) nd rfl (Or.inl rfl))) (fun _ _ _ _ _ => sts_nil) (fun _ _ _ _ _ => (se_tup (sa_cons (x_ix hr (se_var (pv 5)) (se_var (pv 6)) (fun _ _ => rfl)) (sa_cons (se_call ne_law_moved_cell (ok_law_moved_cell T Z) (hr.mono (by omega)) rfl T.d_law_moved_cell.m T.d_law_moved_cell.kp T.d_law_moved_cell.b (sa_cons (x_ix hr (se_var (pv 1)) (se_var (pv 6)) (fun _ _ => rfl)) (sa_cons (se_var (pv 5)) sa_nil))) sa_nil)))))
    (sss_cons (ss_set (i := 7) nd rfl (Or.inl rfl) (se_sortK (x := "_law_pair") (i := 1) hr Z.tb_law_told (hcd.symm.trans Z.c_law_told) (clZ_law_told Z) (by rfl) T.z_sorted (se_var (pv 7)) (by rfl) (by decide +kernel) (by rfl) (fun _ _ _ _ _ => rfl) (by decide +kernel) rfl rfl rfl))
    (sss_cons (ss_set (i := 8) nd rfl (Or.inl rfl) (se_callTy mTupX_noEx tupXM (by rfl) T.z_tuple (by decide +kernel) (sa_cons (se_new (sl_comp (own := [("_law_address", 6)]) (t := (Tg.one 6)) (by decide) rfl nd (si_of (se_callB mSorted_noEx (sortedM hr.units) (by rfl) T.z_sorted (by decide +kernel) (sa_cons (se_new (sl_ofD rfl (by rfl) T.z_list (se_var (pv 1)))) sa_nil))) (blkOk_by (N := N_law_told) (sc := defScope s_law_told) (by decide +kernel)) (fun _ _ _ _ _ => (pg_name (i := 6) nd rfl (Or.inl rfl))) (fun _ _ _ _ _ => sts_nil) (fun _ _ _ _ _ => (se_tup (sa_cons (se_var (pv 6)) (sa_cons (x_ix hr (se_var (pv 1)) (se_var (pv 6)) (fun _ _ => rfl)) sa_nil)))))) sa_nil)))
    (sss_one (ss_ret (se_tup (sa_cons (se_var (pv 8)) (sa_cons (se_callTy mTuple_noEx tupleM (by rfl) T.z_tuple (by decide +kernel) (sa_cons (se_var (pv 2)) sa_nil)) (sa_cons (se_callTy mTupX_noEx tupXM (by rfl) T.z_tuple (by decide +kernel) (sa_cons (se_new (sl_comp (own := [("_law_address", 6)]) (t := (Tg.one 6)) (by decide) rfl nd (si_of (se_var (pv 3))) (blkOk_by (N := N_law_told) (sc := defScope s_law_told) (by decide +kernel)) (fun _ _ _ _ _ => (pg_name (i := 6) nd rfl (Or.inl rfl))) (fun _ _ _ _ _ => sts_nil) (fun _ _ _ _ _ => (se_tup (sa_cons (se_var (pv 6)) (sa_cons (x_ix hr (se_var (pv 5)) (se_var (pv 6)) (fun _ _ => rfl)) sa_nil)))))) sa_nil)) (sa_cons (se_callTy mTuple_noEx tupleM (by rfl) T.z_tuple (by decide +kernel) (sa_cons (se_var (pv 7)) sa_nil)) sa_nil)))))))))))))
theorem ok_law_cells (T : Tx K mg) (Z : Tb T base) : FnOk P w K mg base CX0 5 T.d_law_cells.f T.d_law_cells.fd ["_law_deck_here"] (spM K (clZ Z) m_law_cells) := by
  have nd := sc_law_cells.nd
  unfold m_law_cells b_law_cells
  exact fnM (k := 4) T.d_law_cells.fn sc_law_cells fun cdv A outer s H E hr =>
    (sss_cons (ss_set (i := 1) nd rfl (Or.inl rfl) (se_call ne_law_places (ok_law_places T Z) (hr.mono (by omega)) rfl T.d_law_places.m T.d_law_places.kp T.d_law_places.b (sa_cons (se_var (pv 0)) (sa_cons (se_call ne_law_next (ok_law_next T Z) (hr.mono (by omega)) rfl T.d_law_next.m T.d_law_next.kp T.d_law_next.b (sa_cons (se_var (pv 0)) (sa_cons se_int sa_nil))) sa_nil))))
    (sss_cons (ss_set (i := 2) nd rfl (Or.inl rfl) se_dict0)
    (sss_cons (ss_for (t := (Tg.one 3)) PassesOwn.never rfl (si_of (se_var (pv 1))) (pg_name (i := 3) nd rfl (Or.inl rfl))
    (sss_one (ss_asg (se_call ne_law_cell (ok_law_cell T Z) (hr.mono (by omega)) rfl T.d_law_cell.m T.d_law_cell.kp T.d_law_cell.b (sa_cons (se_var (pv 0)) (sa_cons (se_var (pv 1)) sa_nil))) (sg_it (hu_of hr) (se_var (pv 2)) (se_var (pv 3))))))
    (sss_one (ss_ret (se_var (pv 2)))))))
theorem ok_law_paper (T : Tx K mg) (Z : Tb T base) : FnOk P w K mg base CX0 6 T.d_law_paper.f T.d_law_paper.fd ["_law_deck_here"] (spM K (clZ Z) m_law_paper) := by
  have nd := sc_law_paper.nd
  unfold m_law_paper b_law_paper
  exact fnM (k := 5) T.d_law_paper.fn sc_law_paper fun cdv A outer s H E hr =>
    (sss_cons (ss_set (i := 1) nd rfl (Or.inl rfl) (se_call ne_law_cells (ok_law_cells T Z) (hr.mono (by omega)) rfl T.d_law_cells.m T.d_law_cells.kp T.d_law_cells.b (sa_cons (se_var (pv 0)) sa_nil)))
    (sss_cons (ss_set (i := 2) nd rfl (Or.inl rfl) (se_callB mSorted_noEx (sortedM hr.units) (by rfl) T.z_sorted (by decide +kernel) (sa_cons (se_new (sl_ofD rfl (by rfl) T.z_list (se_var (pv 1)))) sa_nil)))
    (sss_cons (ss_setLc (i := 3) (own := [("_law_address", 5)]) (t := (Tg.one 5)) (by decide) rfl nd rfl rfl (sw_true rfl rfl rfl (by decide +kernel)) (si_of (se_var (pv 2))) (blkOk_by (N := N_law_paper) (sc := defScope s_law_paper) (by decide +kernel)) (fun _ _ _ _ _ => (pg_name (i := 5) nd rfl (Or.inl rfl))) (fun _ _ _ _ _ => (sts_one (t_Eq hr (se_call ne_law_next (ok_law_next T Z) (hr.mono (by omega)) rfl T.d_law_next.m T.d_law_next.kp T.d_law_next.b (sa_cons (se_var (pv 0)) (sa_cons se_int sa_nil))) se_int))) (fun _ _ _ _ _ => (se_var (pv 5))))
    (sss_cons (ss_setLc (i := 4) (own := [("_law_address", 5)]) (t := (Tg.one 5)) (by decide) rfl nd rfl rfl (sw_true rfl rfl rfl (by decide +kernel)) (si_of (se_var (pv 2))) (blkOk_by (N := N_law_paper) (sc := defScope s_law_paper) (by decide +kernel)) (fun _ _ _ _ _ => (pg_name (i := 5) nd rfl (Or.inl rfl))) (fun _ _ _ _ _ => (sts_one (t_Eq hr (se_call ne_law_next (ok_law_next T Z) (hr.mono (by omega)) rfl T.d_law_next.m T.d_law_next.kp T.d_law_next.b (sa_cons (se_var (pv 0)) (sa_cons se_int sa_nil))) se_int))) (fun _ _ _ _ _ => (se_var (pv 5))))
    (sss_one (ss_ret (se_call ne_law_told (ok_law_told T Z) (hr.mono (by omega)) rfl T.d_law_told.m T.d_law_told.kp T.d_law_told.b (sa_cons (se_var (pv 0)) (sa_cons (se_var (pv 1)) (sa_cons (se_var (pv 3)) (sa_cons (se_call ne_law_closed (ok_law_closed T Z) (hr.mono (by omega)) rfl T.d_law_closed.m T.d_law_closed.kp T.d_law_closed.b (sa_cons (se_var (pv 1)) (sa_cons (b_Add (se_var (pv 3)) (se_var (pv 4))) sa_nil))) sa_nil)))))))))))
theorem ok_law_fewer (T : Tx K mg) (Z : Tb T base) : FnOk P w K mg base CX0 2 T.d_law_fewer.f T.d_law_fewer.fd ["_law_deck_here", "_law_paper_here"] (spM K (clZ Z) m_law_fewer) := by
  have nd := sc_law_fewer.nd
  unfold m_law_fewer b_law_fewer
  exact fnM (k := 1) T.d_law_fewer.fn sc_law_fewer fun cdv A outer s H E hr =>
    (sss_one (ss_ret (se_tup (sa_cons (x_ix hr (se_var (pv 1)) se_int (fun _ _ => rfl)) (sa_cons (se_callTyL lTuple_ok lTuple_noEx call_tuple_of (by rfl) T.z_tuple (by decide +kernel) (sl_comp (own := [("_law_root", 2)]) (t := (Tg.one 2)) (by decide) rfl nd (si_of (x_ix hr (se_var (pv 1)) se_int (fun _ _ => rfl))) (blkOk_by (N := N_law_fewer) (sc := defScope s_law_fewer) (by decide +kernel)) (fun _ _ _ _ _ => (pg_name (i := 2) nd rfl (Or.inl rfl))) (fun _ _ _ _ _ => (sts_one (t_Eq hr (se_call ne_law_next (ok_law_next T Z) (hr.mono (by omega)) rfl T.d_law_next.m T.d_law_next.kp T.d_law_next.b (sa_cons (se_var (pv 0)) (sa_cons se_int sa_nil))) se_int))) (fun _ _ _ _ _ => (se_var (pv 2))))) (sa_cons (x_ix hr (se_var (pv 1)) se_int (fun _ _ => rfl)) (sa_cons (x_ix hr (se_var (pv 1)) se_int (fun _ _ => rfl)) sa_nil)))))))
theorem ok_law (T : Tx K mg) (Z : Tb T base) : FnG P w K mg base 9 T.d_law.f T.d_law.fd ["_law_script"] (spM K (clZ Z) m_law) := by
  have nd := sc_law.nd
  unfold m_law b_law
  exact fnMG (k := 8) T.d_law.fn sc_law fun cdv hcd A outer s H E hG hr =>
    (sss_cons (ss_set (i := 1) nd rfl (Or.inl rfl) (se_call ne_law_deck (ok_law_deck T Z) (hr.mono (by omega)) rfl T.d_law_deck.m T.d_law_deck.kp T.d_law_deck.b (sa_cons (se_var (pv 0)) sa_nil)))
    (sss_cons (ss_set (i := 2) nd rfl (Or.inl rfl) (se_new (sl_disp (sa_cons (se_tup (sa_cons (se_tupX sa_nil) (sa_cons (se_tupX sa_nil) (sa_cons (se_tupX sa_nil) (sa_cons (se_tupX sa_nil) sa_nil))))) sa_nil))))
    (sss_cons (ss_for (t := (Tg.one 3)) PassesOwn.never rfl (si_range1 (by rfl) T.z_range (sa_cons se_int sa_nil)) (pg_name (i := 3) nd rfl (Or.inl rfl))
    (sss_cons (ss_set (i := 4) nd rfl (Or.inl rfl) (se_call ne_law_paper (ok_law_paper T Z) (hr.mono (by omega)) rfl T.d_law_paper.m T.d_law_paper.kp T.d_law_paper.b (sa_cons (se_var (pv 1)) sa_nil)))
    (sss_cons (ss_set (i := 5) nd rfl (Or.inl rfl) (se_callTy mDictT_noEx (dictTM rfl) (by rfl) T.z_dict (by decide +kernel) (sa_cons (x_ix hr (se_var (pv 4)) se_int (fun _ _ => rfl)) sa_nil)))
    (sss_cons (ss_expr (se_bm mAppend_noEx PySem.F.plainAttrs_list PySem.F.slot_list_append PySem.F.type_list_append appendM (se_var (pv 2)) (sa_cons (se_var (pv 4)) sa_nil)))
    (sss_cons (ss_expr (se_bm mAppend_noEx PySem.F.plainAttrs_list PySem.F.slot_list_append PySem.F.type_list_append appendM (se_var (pv 2)) (sa_cons (se_call ne_law_fewer (ok_law_fewer T Z) (hr.mono (by omega)) rfl T.d_law_fewer.m T.d_law_fewer.kp T.d_law_fewer.b (sa_cons (se_var (pv 1)) (sa_cons (se_var (pv 4)) sa_nil))) sa_nil)))
    (sss_one (ss_expr (se_bm mAppend_noEx PySem.F.plainAttrs_list PySem.F.slot_list_append PySem.F.type_list_append appendM (se_var (pv 2)) (sa_cons (se_call ne_law_told (ok_law_told T Z) (hr.mono (by omega)) rfl T.d_law_told.m T.d_law_told.kp T.d_law_told.b (sa_cons (se_var (pv 1)) (sa_cons (se_var (pv 5)) (sa_cons (x_ix hr (se_var (pv 4)) se_int (fun _ _ => rfl)) (sa_cons (se_call ne_law_closed (ok_law_closed T Z) (hr.mono (by omega)) rfl T.d_law_closed.m T.d_law_closed.kp T.d_law_closed.b (sa_cons (se_var (pv 5)) (sa_cons (se_new (sl_of (x := "list") (by rfl) T.z_list (x_ix hr (se_var (pv 4)) se_int (fun _ _ => rfl)))) sa_nil))) sa_nil))))) sa_nil)))))))))
    (sss_cons (ss_for (t := (Tg.one 4)) PassesOwn.never rfl (si_of (b_Add (se_var (pv 2)) (se_sl (se_var (pv 2)) sp_none (sp_some se_int)))) (pg_name (i := 4) nd rfl (Or.inl rfl))
    (sss_cons (ss_set (i := 6) nd rfl (Or.inl rfl) (se_callB mRepr_noEx (reprM hr.units hG) (by rfl) T.z_repr (by decide +kernel) (sa_cons (se_var (pv 4)) sa_nil)))
    (sss_one (ss_if (PW.pt (sw_or (t_IsNotB (se_callG hG ne_sweep_stands (ok_sweep_stands T Z) (hr.mono (by omega)) rfl T.d_sweep_stands.m T.d_sweep_stands.kp T.d_sweep_stands.b (sa_cons (se_var (pv 4)) sa_nil)) se_bl) (sw_or1 (t_NotEq hr (se_callB mRepr_noEx (reprM hr.units hG) (by rfl) T.z_repr (by decide +kernel) (sa_cons (se_var (pv 4)) sa_nil)) (se_var (pv 6))))))
    (sss_one (ss_ret se_bl))
    sss_nil))))
    (sss_one (ss_ret se_bl))))))
end
end My

set_option Elab.async false
set_option linter.all false
set_option maxRecDepth 100000
set_option maxHeartbeats 4000000
/-! the law's start and its walk, with tables of code objects -/
namespace Sm
open PySem L2 PyProof.Rows PySem.Spec
theorem law_readT {K : PySem.W.Frag} {cl : Str → Option Addr} {qs : List Str} {Ps : List Addr} {m : List MV → MH → Res MV} (hlen : qs.length = Ps.length) (hnd : Ps.Nodup) (hcl : ∀ (i : Nat) (q : Str) (P : Addr), qs[i]? = some q → Ps[i]? = some P → cl q = some P)
    {ns : List Int} (hm : ∃ h, m [.scr (ns.map MV.int)] (qs.map MO.tab) = .ok (.bl true) h) (H : Hp) (a : Addr) (hT : ∀ P ∈ Ps, H P = some (.tbl #[])) (hS : SqF K H a (ns.map L2.V.int)) :
    spM K cl m [.ref a] H (fun v _ => v = .bl true) fun _ _ _ => False := by
  obtain ⟨h', e⟩ := hm
  have rl : Rl K cl (fun n => Ps[n]?) (qs.map MO.tab) H := by
    refine ⟨fun n P z => ?_, fun n l => ?_, fun n k P z1 z2 => ?_, fun n o P z1 z2 => ?_⟩
    · rw [List.length_map, hlen]; exact (List.getElem?_eq_some_iff.mp z).1
    · rw [List.length_map, hlen] at l
      exact ⟨Ps[n], by simp [l]⟩
    · obtain ⟨l1, e1⟩ := List.getElem?_eq_some_iff.mp z1
      obtain ⟨l2, e2⟩ := List.getElem?_eq_some_iff.mp z2
      exact (List.getElem_inj hnd).mp (e1.trans e2.symm)
    · rw [List.getElem?_map, Option.map_eq_some_iff] at z1
      obtain ⟨q, z3, rfl⟩ := z1
      exact ⟨hcl n q P z3 z2, #[], hT P (List.mem_of_getElem? z2), True.intro, fun pos cv y => by
        have y : codeAmong pos [] = some cv := y
        simp [codeAmong] at y⟩
  refine ⟨[.scr (ns.map MV.int)], _, _, rl, .cons (.scr hS ints_rvs) .nil, ?_⟩
  rw [e]
  intro V H' mp' f rl' rv
  cases rv
  rfl
/-- what is known of each def's table at the head -/
def TabsAt (q : Program) (mg : Str → Option Value) (h : Heap) : Prop := ∀ e ∈ recsOf q, ∃ a o fd c P, mg e.name = some (.ref a) ∧ h.get? a = some o ∧ o.data = .func fd ∧ fd.code = .ref c ∧ h.IsCode c P #[] ∧ h.TableAt c P #[]
theorem walkT {l : PySem.W.OpenLaw} {n k : Nat} {q : Program} {loose : List Str} {XP : (Str → Option Value) → Heap → Prop} {YP : World → Heap → Prop} {d : DefRec} {K : Params → PySem.W.Frag} {x : Str}
    (hn : l.most = some n) (hn2 : n ≤ sizeLine) (hdf : d.params.defaults = []) (hr : Room k callerA) (hY : ∀ (w : World) (h : Heap), YP w h → (K w.params).In h)
    (F : ∀ (w : World) (mg : Str → Option Value) (fa : Addr) (h : Heap), (K w.params).In h → h.Ns mainGlobals mg → mg d.name = some (.ref fa) → TabsAt q mg h →
      ∃ (fd : FuncData) (cs : List (Addr × Addr)) (sp : Sp), (∀ p ∈ cs, h.get? p.2 = some (tblObj #[])) ∧ (∀ p ∈ cs, (K w.params).lookup p.2 = none) ∧ (∀ p ∈ cs, PySem.W.CodeHd h p.1 p.2) ∧ (∀ (s : Shared) (u : Value), BindsTo s fd ⟨[u], []⟩ [(x, u)]) ∧
        (∀ (H : Hp) (a : Addr) (ns : List Int), ns.length ≤ n → (∀ p ∈ cs, H p.2 = some (.tbl #[])) → SqF (K w.params) H a (ns.map V.int) → sp [.ref a] H (fun v _ => v = .bl true) fun _ _ _ => False) ∧
        ∀ base : Heap, (K w.params).In base → base.Ns mainGlobals mg → (∀ p ∈ cs, LamX.TabB base mg p.1 p.2) → FnG l.prog w (K w.params) mg base k fa fd [x] sp) :
    PySem.W.WalkO q loose XP YP l.row.toRowW d [] (fun f vs => PySem.call f vs) := by
  refine Att.attach_callB hn hdf fun w s₀ s₁ mg mb fa o pm cd doc a vs ns G Y ho hd hcd hmg hobj hints hlen hbits hg => ?_
  have KX := hY w _ Y
  obtain ⟨fd, cs, sp, hT, nT, C, hb, hsp, hF⟩ := F w mg fa _ KX G.T.g hmg G.T.tab
  exact top_call KX G.T.g G.T.b G.T.builtins G.T.nolimit hg hT nT C G.T.bmain hobj hints (Nat.le_trans hlen hn2) hr hF hb fun H h1 h2 => hsp H a ns hlen h1 h2
end Sm

set_option Elab.async false
set_option linter.all false
set_option maxRecDepth 100000
set_option maxHeartbeats 4000000
/-! a def's table of code objects, known by the frame; a def with an int default -/
namespace Sm
open PySem L2 PyProof.Rows PySem.Spec
/-- the table of the code object cd -/
def tabIn (K : PySem.W.Frag) (cd : Value) : Option Addr := match cd with
  | .ref c => (match K.lookup c with
    | some ⟨_, _, .fields vs, _⟩ => (match (vs : Array Value)[11]? with | some (Value.ref P) => some P | _ => none)
    | _ => none)
  | _ => none
theorem tabIn_ok {K : PySem.W.Frag} {cd : Value} {P : Addr} (e : tabIn K cd = some P) : ∃ (c : Addr) (a : Value) (b : Option Addr) (vs : Array Value) (sl : Array (Option Value)), cd = .ref c ∧ K.lookup c = some ⟨a, b, .fields vs, sl⟩ ∧ vs[11]? = some (.ref P) := by
  unfold tabIn at e
  split at e
  · split at e
    · split at e
      · cases e
        exact ⟨_, _, _, _, _, rfl, by assumption, by assumption⟩
      · cases e
    · cases e
  · cases e
theorem tabIn_of {K : PySem.W.Frag} {cd : Value} {c P : Addr} {a : Value} {b : Option Addr} {vs : Array Value} {sl : Array (Option Value)} (e1 : cd = .ref c) (e2 : K.lookup c = some ⟨a, b, .fields vs, sl⟩) (e3 : vs[11]? = some (.ref P)) : tabIn K cd = some P := by
  subst e1
  unfold tabIn
  dsimp only
  rw [e2]
  dsimp only
  rw [e3]
theorem tab_known {K : PySem.W.Frag} {mg : Str → Option Value} {h : Heap} {q : Program} {x : Str} {f P : Addr} {fd : FuncData} (KX : K.In h) (TA : TabsAt q mg h) (hrec : ((recsOf q).any fun e => e.name == x) = true) (hm : mg x = some (.ref f))
    (hl : ∃ (oc : Value) (od : Option Addr) (osl : Array (Option Value)), K.lookup f = some ⟨oc, od, .func fd, osl⟩) (ht : tabIn K fd.code = some P) : ∃ c, fd.code = .ref c ∧ PySem.W.CodeHd h c P ∧ h.get? P = some (tblObj #[]) := by
  obtain ⟨e, he, hn⟩ := List.any_eq_true.mp hrec
  have hn : e.name = x := beq_iff_eq.mp hn
  obtain ⟨f', o', fd', c', P', t1, t2, t3, t4, t5, t6⟩ := TA e he
  rw [hn, hm] at t1
  cases t1
  obtain ⟨oc, od, osl, kf⟩ := hl
  have g1 := KX _ _ kf
  rw [t2] at g1
  cases g1
  cases t3
  obtain ⟨c, a, b, vs, sl, e1, e2, e3⟩ := tabIn_ok ht
  rw [t4] at e1
  cases e1
  have g2 := KX _ _ e2
  have hd := PySem.W.CodeHd.of t5 t6
  obtain ⟨⟨oc2, vc, z1, z2, z3, z4⟩, hP⟩ := t6
  rw [g2] at z1
  cases z1
  cases z3
  rw [e3] at z4
  cases z4
  exact ⟨_, t4, hd, hP⟩
theorem cl1 {q1 : Str} {P1 : Addr} (i : Nat) (q : Str) (P : Addr) (e1 : [q1][i]? = some q) (e2 : [P1][i]? = some P) : (if q = q1 then some P1 else none) = some P := by
  match i, e1, e2 with
  | 0, e1, e2 => cases e1; cases e2; exact if_pos rfl
theorem cl2 {q1 q2 : Str} {P1 P2 : Addr} (n21 : q2 ≠ q1) (i : Nat) (q : Str) (P : Addr) (e1 : [q1, q2][i]? = some q) (e2 : [P1, P2][i]? = some P) : (if q = q1 then some P1 else if q = q2 then some P2 else none) = some P := by
  match i, e1, e2 with
  | 0, e1, e2 => cases e1; cases e2; exact if_pos rfl
  | 1, e1, e2 => cases e1; cases e2; rw [if_neg n21]; exact if_pos rfl
theorem cl3 {q1 q2 q3 : Str} {P1 P2 P3 : Addr} (n21 : q2 ≠ q1) (n31 : q3 ≠ q1) (n32 : q3 ≠ q2) (i : Nat) (q : Str) (P : Addr) (e1 : [q1, q2, q3][i]? = some q) (e2 : [P1, P2, P3][i]? = some P) :
    (if q = q1 then some P1 else if q = q2 then some P2 else if q = q3 then some P3 else none) = some P := by
  match i, e1, e2 with
  | 0, e1, e2 => cases e1; cases e2; exact if_pos rfl
  | 1, e1, e2 => cases e1; cases e2; rw [if_neg n21]; exact if_pos rfl
  | 2, e1, e2 => cases e1; cases e2; rw [if_neg n31, if_neg n32]; exact if_pos rfl
end Sm

set_option Elab.async false
set_option linter.all false
set_option maxRecDepth 100000
set_option maxHeartbeats 4000000
/-! running the small machine -/
namespace Sm
open PySem L2
@[simp] theorem ofString_inj {a b : String} : (Str.ofString a = Str.ofString b) = (a = b) := by
  apply propext
  constructor
  · intro h
    rw [Str.ofString_eq_toList, Str.ofString_eq_toList] at h
    have h1 : (a.toList.map Char.toNat) = (b.toList.map Char.toNat) := by
      have := congrArg (fun z => z.cps.toList) h
      simpa using this
    have h2 : a.toList = b.toList := by
      have inj : ∀ (xs ys : List Char), xs.map Char.toNat = ys.map Char.toNat → xs = ys := by
        intro xs
        induction xs with
        | nil => intro ys h; cases ys with | nil => rfl | cons _ _ => simp at h
        | cons x xs ih =>
          intro ys h
          cases ys with
          | nil => simp at h
          | cons y ys =>
            simp only [List.map_cons, List.cons.injEq] at h
            have : x = y := by
              have := h.1
              exact Char.toNat_inj.mp this
            rw [this, ih ys h.2]
      exact inj _ _ h1
    exact String.toList_inj.mp h2
  · rintro rfl; rfl
end Sm
namespace Sm
open PySem L2
theorem mfun_rt {np n : Nat} {body : MSt} {args : List MV} {h h' : MH} {v : MV} (hl : args.length = np) (e : body (args.map some ++ List.replicate (n - np) none) h = .rt v h') : mfun np n body args h = .ok v (gc h v h') := by
  unfold mfun; rw [if_pos hl, e]
theorem mfun_nx {np n : Nat} {body : MSt} {args : List MV} {h h' : MH} {ρ : MS} (hl : args.length = np) (e : body (args.map some ++ List.replicate (n - np) none) h = .nx ρ h') : mfun np n body args h = .ok .non (gc h .non h') := by
  unfold mfun; rw [if_pos hl, e]
/-- nothing was made -/
theorem gc_len {h h' : MH} {v : MV} (e : h'.length = h.length) : gc h v h' = h' := by
  unfold gc
  split
  · rw [← e, List.take_length]
  · rfl
/-- what was made goes: the old cells are as they were -/
theorem gc_ext {h h' : MH} {v : MV} (hv : bel h.length v = true) (e : ∀ i, i < h.length → h'[i]? = h[i]?) : gc h v h' = h := by
  unfold gc
  rw [if_pos ⟨hv, fun i hi => ⟨h[i], by rw [e i hi]; simp [hi], .inl (by simp [hi])⟩⟩]
  apply List.ext_getElem?
  intro k
  by_cases hk : k < h.length
  · rw [List.getElem?_take_of_lt hk, e k hk]
  · rw [List.getElem?_eq_none (by rw [List.length_take]; omega), List.getElem?_eq_none (by omega)]
theorem gc_app {h g : MH} {v : MV} (hv : bel h.length v = true) : gc h v (h ++ g) = h := gc_ext hv fun i hi => List.getElem?_append_left hi
/-- cells apart -/
theorem cells_ne {h : MH} {a b : Nat} {o u : MO} (ha : h[a]? = some o) (hb : h[b]? = some u) (d : o ≠ u) : a ≠ b := fun e => by
  subst e; rw [ha] at hb; exact d (Option.some.inj hb)
theorem lt_of_get {α : Type} {h : List α} {a : Nat} {o : α} (ha : h[a]? = some o) : a < h.length := (List.getElem?_eq_some_iff.mp ha).1
end Sm
namespace Sm
open PySem L2
theorem runs {np n : Nat} {body : MSt} {args : List MV} {h h' h2 : MH} {v : MV} (hl : args.length = np) (e : body (args.map some ++ List.replicate (n - np) none) h = .rt v h') (g : gc h v h' = h2) : mfun np n body args h = .ok v h2 := by
  rw [mfun_rt hl e, g]
theorem runsN {np n : Nat} {body : MSt} {args : List MV} {h h' h2 : MH} {ρ : MS} (hl : args.length = np) (e : body (args.map some ++ List.replicate (n - np) none) h = .nx ρ h') (g : gc h .non h' = h2) : mfun np n body args h = .ok .non h2 := by
  rw [mfun_nx hl e, g]
end Sm
namespace Sm
open PySem L2
theorem gss {h : MH} {a : Nat} {u o : MO} (ha : h[a]? = some u) : (h.set a o)[a]? = some o := List.getElem?_set_self (lt_of_get ha)
theorem gsn {h : MH} {a b : Nat} {o : MO} (n : a ≠ b) : (h.set b o)[a]? = h[a]? := List.getElem?_set_ne (Ne.symm n)
/-- a cell behind which others come -/
theorem gap {h g : MH} {a : Nat} {u : MO} (ha : h[a]? = some u) : (h ++ g)[a]? = some u := by rw [List.getElem?_append_left (lt_of_get ha)]; exact ha
theorem gnew {h : MH} {o : MO} : (h ++ [o])[h.length]? = some o := by simp
end Sm
namespace Sm
open PySem L2
theorem ixNat {α : Type} {xs : List α} {i : Nat} {x : α} (h : xs[i]? = some x) : atI xs (i : Int) = some x := by
  have l := lt_of_get h
  unfold atI ixN
  simp only [Int.natCast_nonneg, if_true, Int.ofNat_lt]
  rw [if_pos l]
  simpa using h
section
variable {α : Type} {x y z u v : α} {xs : List α}
theorem i0 : atI (x :: xs) 0 = some x := ixNat (i := 0) rfl
theorem i1 : atI (x :: y :: xs) 1 = some y := ixNat (i := 1) rfl
theorem i2 : atI (x :: y :: z :: xs) 2 = some z := ixNat (i := 2) rfl
theorem i3 : atI (x :: y :: z :: u :: xs) 3 = some u := ixNat (i := 3) rfl
theorem i4 : atI (x :: y :: z :: u :: v :: xs) 4 = some v := ixNat (i := 4) rfl
end
end Sm
namespace Sm
open PySem L2
theorem seq_nx {m1 m2 : MSt} {ρ ρ1 : MS} {h h1 : MH} (e : m1 ρ h = .nx ρ1 h1) : sSeq m1 m2 ρ h = m2 ρ1 h1 := by unfold sSeq; rw [e]
theorem seq_rt {m1 m2 : MSt} {ρ : MS} {h h1 : MH} {v : MV} (e : m1 ρ h = .rt v h1) : sSeq m1 m2 ρ h = .rt v h1 := by unfold sSeq; rw [e]
theorem set0 {h0 ks : MH} {o o' : MO} : (h0 ++ o :: ks).set h0.length o' = h0 ++ o' :: ks := by rw [List.set_append_right _ _ (Nat.le_refl _)]; simp
theorem get0 {h0 ks : MH} {o : MO} : (h0 ++ o :: ks)[h0.length]? = some o := by simp
end Sm

set_option Elab.async false
set_option linter.all false
set_option maxRecDepth 100000
set_option maxHeartbeats 4000000
/-! running the small machine by what is wanted behind -/
namespace Sm
open PySem L2
@[simp] theorem ofString_beq {a b : String} : (Str.ofString a == Str.ofString b) = decide (a = b) := by
  rw [Bool.eq_iff_iff, beq_iff_eq, decide_eq_true_iff, ofString_inj]
def Wp {α : Type} (r : Res α) (Q : α → MH → Prop) : Prop := match r with | .ok a h => Q a h | _ => False
@[simp] theorem Wp_ok {α : Type} {a : α} {h : MH} {Q : α → MH → Prop} : Wp (.ok a h) Q = Q a h := rfl
@[simp] theorem Wp_bad {α : Type} {Q : α → MH → Prop} : Wp .bad Q = False := rfl
@[simp] theorem Wp_bind {α β : Type} {r : Res α} {f : α → MH → Res β} {Q : β → MH → Prop} : Wp (r.bind f) Q = Wp r fun a h => Wp (f a h) Q := by cases r <;> rfl
@[simp] theorem Wp_nx {α : Type} {r : Res α} {Q : α → MH → Prop} : Wp r.nx Q = Wp r Q := by cases r <;> rfl
theorem Wp_ite {α : Type} {c : Prop} [Decidable c] {a b : Res α} {Q : α → MH → Prop} : Wp (if c then a else b) Q = if c then Wp a Q else Wp b Q := by split <;> rfl
theorem Wp.mono {α : Type} {r : Res α} {Q Q' : α → MH → Prop} (g : Wp r Q) (k : ∀ a h, Q a h → Q' a h) : Wp r Q' := by
  cases r with
  | ok a h => exact k a h g
  | ex e h => exact g
  | bad => exact g
theorem Wp.of {α : Type} {r : Res α} {a : α} {h : MH} {Q : α → MH → Prop} (e : r = .ok a h) (q : Q a h) : Wp r Q := by rw [e]; exact q
theorem Wp.ex {α : Type} {r : Res α} {Q : α → MH → Prop} (g : Wp r Q) : ∃ a h, r = .ok a h ∧ Q a h := by
  cases r with
  | ok a h => exact ⟨a, h, rfl, g⟩
  | ex e h => exact g.elim
  | bad => exact g.elim
structure Ks where
  n : MS → MH → Prop
  r : MV → MH → Prop := fun _ _ => False
  b : MS → MH → Prop := fun _ _ => False
  c : MS → MH → Prop := fun _ _ => False
def Ws (r : SRes) (D : Ks) : Prop := match r with | .nx ρ h => D.n ρ h | .rt v h => D.r v h | .bk ρ h => D.b ρ h | .ct ρ h => D.c ρ h | _ => False
@[simp] theorem Ws_nx {ρ : MS} {h : MH} {D : Ks} : Ws (.nx ρ h) D = D.n ρ h := rfl
@[simp] theorem Ws_rt {v : MV} {h : MH} {D : Ks} : Ws (.rt v h) D = D.r v h := rfl
@[simp] theorem Ws_bk {ρ : MS} {h : MH} {D : Ks} : Ws (.bk ρ h) D = D.b ρ h := rfl
@[simp] theorem Ws_ct {ρ : MS} {h : MH} {D : Ks} : Ws (.ct ρ h) D = D.c ρ h := rfl
@[simp] theorem Ws_bad {D : Ks} : Ws .bad D = False := rfl
@[simp] theorem Ws_st {α : Type} {r : Res α} {ρ : MS} {f : α → MH → SRes} {D : Ks} : Ws (r.st ρ f) D = Wp r fun a h => Ws (f a h) D := by cases r <;> rfl
theorem Ws_ite {c : Prop} [Decidable c] {a b : SRes} {D : Ks} : Ws (if c then a else b) D = if c then Ws a D else Ws b D := by split <;> rfl
theorem ws_seq {a b : MSt} {ρ : MS} {h : MH} {D : Ks} (g : Ws (a ρ h) { D with n := fun ρ h => Ws (b ρ h) D }) : Ws (sSeq a b ρ h) D := by
  unfold sSeq
  cases e : a ρ h with
  | nx ρ h => rw [e] at g; exact g
  | rt ρ h => rw [e] at g; exact g
  | bk ρ h => rw [e] at g; exact g
  | ct ρ h => rw [e] at g; exact g
  | ex v ρ h => rw [e] at g; exact g
  | bad => rw [e] at g; exact g
theorem Ws.mono {r : SRes} {D D' : Ks} (g : Ws r D) (kn : ∀ ρ h, D.n ρ h → D'.n ρ h) (kr : ∀ v h, D.r v h → D'.r v h) (kb : ∀ ρ h, D.b ρ h → D'.b ρ h := by intro _ _ z; exact z) (kc : ∀ ρ h, D.c ρ h → D'.c ρ h := by intro _ _ z; exact z) : Ws r D' := by
  cases r with
  | nx ρ h => exact kn _ _ g
  | rt ρ h => exact kr _ _ g
  | bk ρ h => exact kb _ _ g
  | ct ρ h => exact kc _ _ g
  | ex v ρ h => exact g
  | bad => exact g
/-- a def -/
theorem wp_fun {np n : Nat} {body : MSt} {args : List MV} {h : MH} {Q : MV → MH → Prop} (hl : args.length = np) (g : Ws (body (args.map some ++ List.replicate (n - np) none) h) { n := fun _ h' => Q .non (gc h .non h'), r := fun v h' => Q v (gc h v h') }) : Wp (mfun np n body args h) Q := by
  unfold mfun
  rw [if_pos hl]
  cases e : body (args.map some ++ List.replicate (n - np) none) h with
  | nx ρ h => rw [e] at g; exact g
  | rt ρ h => rw [e] at g; exact g
  | bk ρ h => rw [e] at g; exact g
  | ct ρ h => rw [e] at g; exact g
  | ex v ρ h => rw [e] at g; exact g
  | bad => rw [e] at g; exact g
/-- a walk: I holds ahead of each item -/
theorem ws_for {gs : Gs} {t : Tg} {body : MSt} {D : Ks} (I : List MV → MS → MH → Prop) (hg : ∀ xs ρ h, I xs ρ h → gOk gs h)
    (hs : ∀ x xs ρ h, I (x :: xs) ρ h → ∃ ρ1, t.set x ρ = some ρ1 ∧ Ws (body ρ1 h) { n := I xs, c := I xs, b := D.n, r := D.r }) (he : ∀ ρ h, I [] ρ h → D.n ρ h) : ∀ xs ρ h, I xs ρ h → Ws (forGo gs t body xs ρ h) D
  | [], ρ, h, i => by
    rw [forGo, if_pos (hg _ _ _ i)]
    exact he _ _ i
  | x :: xs, ρ, h, i => by
    obtain ⟨ρ1, e1, g⟩ := hs x xs ρ h i
    rw [forGo, if_pos (hg _ _ _ i), e1]
    dsimp only
    cases e : body ρ1 h with
    | nx ρ h => rw [e] at g; exact ws_for I hg hs he xs _ _ g
    | rt ρ h => rw [e] at g; exact g
    | bk ρ h => rw [e] at g; exact g
    | ct ρ h => rw [e] at g; exact ws_for I hg hs he xs _ _ g
    | ex v ρ h => rw [e] at g; exact g
    | bad => rw [e] at g; exact g
/-- a comprehension: I holds of what is made, what is left, the heap -/
theorem wp_comp {gs : Gs} {t : Tg} {mt : MS → MH → Res Bool} {me : ME} {ρ : MS} {Q : List MV → MH → Prop} (I : List MV → List MV → MH → Prop) (hg : ∀ ys xs h, I ys xs h → gOk gs h)
    (hs : ∀ ys x xs h, I ys (x :: xs) h → ∃ ρ1, t.set x ρ = some ρ1 ∧ Wp (mt ρ1 h) fun c h1 => if c = true then Wp (me ρ1 h1) fun y h2 => I (ys ++ [y]) xs h2 else I ys xs h1) (he : ∀ ys h, I ys [] h → Q ys h) :
    ∀ xs ys h, I ys xs h → Wp (compGo gs t mt me ρ xs h) fun zs h' => Q (ys ++ zs) h'
  | [], ys, h, i => by
    rw [compGo, if_pos (hg _ _ _ i)]
    simpa using he _ _ i
  | x :: xs, ys, h, i => by
    obtain ⟨ρ1, e1, g⟩ := hs ys x xs h i
    rw [compGo, if_pos (hg _ _ _ i), e1]
    dsimp only
    rw [Wp_bind, Wp_nx]
    refine g.mono fun c h1 q => ?_
    cases c with
    | true =>
      rw [if_pos rfl] at q ⊢
      rw [Wp_bind, Wp_nx]
      refine q.mono fun y h2 q2 => ?_
      rw [Wp_bind]
      refine (wp_comp I hg hs he xs (ys ++ [y]) h2 q2).mono fun zs h3 q3 => ?_
      rw [Wp_ok]
      simpa using q3
    | false =>
      rw [if_neg (by decide)] at q ⊢
      exact wp_comp I hg hs he xs ys h1 q
/-- what is made stays -/
theorem gc_new' {h h' : MH} {v : MV} (hv : bel h.length v = false) : gc h v h' = h' := by
  unfold gc
  rw [if_neg]
  intro z
  have z1 := z.1
  rw [hv] at z1
  exact absurd z1 (by decide)
theorem gc_ref {h h' : MH} {n : Nat} (hn : h.length ≤ n) : gc h (.ref n) h' = h' := gc_new' (by simp [bel]; omega)
/-- cells made go, others may have been written -/
theorem gc_cut {h h' g : MH} {v : MV} (hv : bel h.length v = true) (hl : h'.length = h.length) (hb : ∀ (i : Nat) (o : MO), h'[i]? = some o → h[i]? = some o ∨ belO h.length o = true) : gc h v (h' ++ g) = h' := by
  unfold gc
  rw [if_pos ?ok]
  case ok => refine ⟨hv, fun i hi => ?_⟩; have hi' : i < h'.length := by omega
             exact ⟨h'[i], by rw [List.getElem?_append_left hi']; simp [hi'], hb i _ (by simp [hi'])⟩
  rw [← hl]; exact List.take_left
theorem Wp.eq {α : Type} {r : Res α} {a : α} {h : MH} (g : Wp r fun v h' => v = a ∧ h' = h) : r = .ok a h := by
  cases r with
  | ok a h => obtain ⟨rfl, rfl⟩ := g; rfl
  | ex e h => exact g.elim
  | bad => exact g.elim
/-- a walk that folds: the slots are ρ0 of the loop's name, the heap is H of a state -/
theorem ws_fold {α S : Type} (vf : α → MV) (H : S → MH) (step : S → α → S) (P : S → List α → Prop) (ρ0 : Option MV → MS) {gs : Gs} {t : Tg} {B : MSt} {D : Ks} (hg : ∀ s, gOk gs (H s)) (ht : ∀ x y, t.set (vf x) (ρ0 y) = some (ρ0 (some (vf x))))
    (hB : ∀ s x xs, P s (x :: xs) → Ws (B (ρ0 (some (vf x))) (H s)) { n := fun ρ h => ρ = ρ0 (some (vf x)) ∧ h = H (step s x), c := fun ρ h => ρ = ρ0 (some (vf x)) ∧ h = H (step s x) } ∧ P (step s x) xs) :
    ∀ (xs : List α) (s : S) (y : Option MV), P s xs → (∀ y', P (xs.foldl step s) [] → D.n (ρ0 y') (H (xs.foldl step s))) → Ws (forGo gs t B (xs.map vf) (ρ0 y) (H s)) D
  | [], s, y, p, k => by
    rw [List.map_nil, forGo, if_pos (hg s)]
    exact k y p
  | x :: xs, s, y, p, k => by
    obtain ⟨g, p'⟩ := hB s x xs p
    rw [List.map_cons, forGo, if_pos (hg s), ht]
    dsimp only
    cases e : B (ρ0 (some (vf x))) (H s) with
    | nx ρ h => rw [e] at g; obtain ⟨rfl, rfl⟩ := g; exact ws_fold vf H step P ρ0 hg ht hB xs _ _ p' k
    | ct ρ h => rw [e] at g; obtain ⟨rfl, rfl⟩ := g; exact ws_fold vf H step P ρ0 hg ht hB xs _ _ p' k
    | rt ρ h => rw [e] at g; exact g.elim
    | bk ρ h => rw [e] at g; exact g.elim
    | ex v ρ h => rw [e] at g; exact g.elim
    | bad => rw [e] at g; exact g.elim
end Sm

set_option Elab.async false
set_option linter.all false
set_option maxRecDepth 100000
set_option maxHeartbeats 4000000
/-! running step by step (printed by sygen.py) -/
namespace Sm
open PySem L2
abbrev EK := MV → MH → Prop
variable {α β : Type} {Q : MV → MH → Prop} {QB : Bool → MH → Prop} {QA : List MV → MH → Prop} {E : EK} {D : SW4} {ρ : MS} {h : MH} {x y v : MV} {xs ys : List MV}
@[irreducible] def Gd (r : Res α) (Q : α → MH → Prop) (E : EK) : Prop := Good r Q E
theorem Gd_def {r : Res α} {Q : α → MH → Prop} : Gd r Q E = Good r Q E := by unfold Gd; rfl
theorem Gd.mono {r : Res α} {Q Q' : α → MH → Prop} {E' : EK} (g : Gd r Q E) (hq : ∀ a h, Q a h → Q' a h) (he : ∀ e h, E e h → E' e h) : Gd r Q' E' := by rw [Gd_def] at *; exact g.mono hq he
theorem Gd.of {r : Res α} {a : α} {Q : α → MH → Prop} (e : r = .ok a h) (q : Q a h) : Gd r Q E := by rw [e, Gd_def]; exact q
theorem Wp.gd {r : Res α} {Q Q' : α → MH → Prop} (g : Wp r Q) (k : ∀ a h, Q a h → Q' a h) : Gd r Q' E := by
  rw [Gd_def]
  cases r with
  | ok a h => exact k a h g
  | ex e h => exact g.elim
  | bad => exact g.elim
theorem Gd.wp {r : Res α} {Q : α → MH → Prop} (g : Gd r Q fun _ _ => False) : Wp r Q := by
  rw [Gd_def] at g
  cases r with
  | ok a h => exact g
  | ex e h => exact g.elim
  | bad => exact g.elim
theorem Gd_ok {a : α} {Q : α → MH → Prop} : Gd (.ok a h) Q E = Q a h := by rw [Gd_def]; rfl
theorem Gd_ex {Q : α → MH → Prop} : Gd (.ex x h) Q E = E x h := by rw [Gd_def]; rfl
theorem Gd_bad {Q : α → MH → Prop} : Gd .bad Q E = False := by rw [Gd_def]; rfl
theorem Gd_ite {c : Prop} [Decidable c] {r : Res α} {Q : α → MH → Prop} : Gd (if c then r else .bad) Q E = (c ∧ Gd r Q E) := by
  split
  · rename_i hc; simp [hc]
  · rename_i hc; simp [hc, Gd_bad]
theorem Gd_fun {r : Res α} {Q Q' : α → MH → Prop} (hq : ∀ a h, Q a h = Q' a h) : Gd r Q E = Gd r Q' E := by
  have : Q = Q' := by funext a h; exact hq a h
  rw [this]
theorem Gd_bind {r : Res α} {f : α → MH → Res β} {Q : β → MH → Prop} : Gd (r.bind f) Q E = Gd r (fun a h => Gd (f a h) Q E) E := by
  simp only [Gd_def]; exact propext Good.bind
@[irreducible] def Sd (r : SRes) (D : SW4) : Prop := SGood r D
theorem Sd_def {r : SRes} : Sd r D = SGood r D := by unfold Sd; rfl
theorem Sd_st {r : Res α} {f : α → MH → SRes} : Sd (r.st ρ f) D = Gd r (fun a h => Sd (f a h) D) (fun e h => D.e e ρ h) := by simp only [Gd_def, Sd_def]; exact propext SGood.st
theorem Sd_nx : Sd (.nx ρ h) D = D.n ρ h := by rw [Sd_def]; rfl
theorem Sd_rt : Sd (.rt v h) D = D.r v h := by rw [Sd_def]; rfl
theorem Sd_bk : Sd (.bk ρ h) D = D.b ρ h := by rw [Sd_def]; rfl
theorem Sd_ct : Sd (.ct ρ h) D = D.c ρ h := by rw [Sd_def]; rfl
theorem Sd_ex : Sd (.ex v ρ h) D = D.e v ρ h := by rw [Sd_def]; rfl
theorem Sd_bad : Sd .bad D = False := by rw [Sd_def]; rfl
theorem Sd.mono {r : SRes} {D D' : SW4} (g : Sd r D) (l : D.Le D') : Sd r D' := by rw [Sd_def] at *; exact g.mono l
def kE (ρ : MS) (D : SW4) : EK := fun e h => D.e e ρ h
def kNext (b : MSt) (D : SW4) : SW4 := { D with n := fun ρ h => Sd (b ρ h) D }
theorem kNext_n {b : MSt} : (kNext b D).n ρ h = Sd (b ρ h) D := (Eq.refl _).trans rfl
theorem kNext_r {b : MSt} : (kNext b D).r = D.r := (Eq.refl _).trans rfl
theorem kNext_b {b : MSt} : (kNext b D).b = D.b := (Eq.refl _).trans rfl
theorem kNext_c {b : MSt} : (kNext b D).c = D.c := (Eq.refl _).trans rfl
theorem kNext_e {b : MSt} : (kNext b D).e = D.e := (Eq.refl _).trans rfl
theorem kE_next {b : MSt} : kE ρ (kNext b D) = kE ρ D := (Eq.refl _).trans rfl
theorem kE_ap : kE ρ D v h = D.e v ρ h := (Eq.refl _).trans rfl
@[irreducible] def kIte (p a b : Prop) : Prop := (p → a) ∧ (¬ p → b)
theorem kIte_i {p a b : Prop} (h1 : p → a) (h2 : ¬ p → b) : kIte p a b := by unfold kIte; exact ⟨h1, h2⟩
theorem S_seq {a b : MSt} : Sd (sSeq a b ρ h) D = Sd (a ρ h) (kNext b D) := by
  unfold sSeq
  cases e : a ρ h <;> simp only [Sd_nx, Sd_rt, Sd_bk, Sd_ct, Sd_ex, Sd_bad] <;> rfl
/-- a def -/
def kFun (h : MH) (Q : MV → MH → Prop) : SW4 := ⟨fun _ h' => Q .non (gc h .non h'), fun v h' => Q v (gc h v h'), fun _ _ => False, fun _ _ => False, fun _ _ _ => False⟩
theorem kFun_n {h' : MH} : (kFun h Q).n ρ h' = Q .non (gc h .non h') := (Eq.refl _).trans rfl
theorem kFun_r {h' : MH} : (kFun h Q).r v h' = Q v (gc h v h') := (Eq.refl _).trans rfl
theorem g_fun {np n : Nat} {body : MSt} {args : List MV} {Q : MV → MH → Prop} (hl : args.length = np) (g : Sd (body (args.map some ++ List.replicate (n - np) none) h) (kFun h Q)) : Gd (mfun np n body args h) Q E := by
  unfold mfun
  rw [if_pos hl]
  cases e : body (args.map some ++ List.replicate (n - np) none) h <;> rw [e] at g <;> simp only [Sd_nx, Sd_rt, Sd_bk, Sd_ct, Sd_ex, Sd_bad] at g
  · dsimp only; rw [Gd_ok]; exact g
  · dsimp only; rw [Gd_ok]; exact g
  · exact False.elim g
  · exact False.elim g
  · exact False.elim g
theorem m_fun {np n : Nat} {body : MSt} {args : List MV} {Q : MV → MH → Prop} (hl : args.length = np) (g : Sd (body (args.map some ++ List.replicate (n - np) none) h) (kFun h Q)) : Wp (mfun np n body args h) Q := (g_fun hl g).wp
/-- an exact end -/
def Eq2 (v : α) (h' : MH) : α → MH → Prop := fun u h => u = v ∧ h = h'
theorem Eq2_ap {a b : α} {h' : MH} : Eq2 b h' a h = (a = b ∧ h = h') := rfl
theorem Gd.eq {r : Res α} {a : α} {h' : MH} (g : Gd r (Eq2 a h') fun _ _ => False) : r = .ok a h' := by
  rw [Gd_def] at g
  cases r with
  | ok a h => obtain ⟨rfl, rfl⟩ := g; rfl
  | ex e h => exact g.elim
  | bad => exact g.elim
theorem e_fun {np n : Nat} {body : MSt} {args : List MV} {h' : MH} (hl : args.length = np) (g : Sd (body (args.map some ++ List.replicate (n - np) none) h) (kFun h (Eq2 v h'))) : mfun np n body args h = .ok v h' := (g_fun hl g).eq
/-- a walk -/
def kI (I : List MV → MS → MH → Prop) (xs : List MV) (D : SW4) : SW4 := ⟨I xs, D.r, D.n, I xs, D.e⟩
theorem kI_n {I : List MV → MS → MH → Prop} : (kI I xs D).n ρ h = I xs ρ h := (Eq.refl _).trans rfl
theorem kI_r {I : List MV → MS → MH → Prop} : (kI I xs D).r = D.r := (Eq.refl _).trans rfl
theorem kI_b {I : List MV → MS → MH → Prop} : (kI I xs D).b ρ h = D.n ρ h := (Eq.refl _).trans rfl
theorem kI_c {I : List MV → MS → MH → Prop} : (kI I xs D).c ρ h = I xs ρ h := (Eq.refl _).trans rfl
theorem kI_e {I : List MV → MS → MH → Prop} : (kI I xs D).e = D.e := (Eq.refl _).trans rfl
theorem s_for {gs : Gs} {t : Tg} {body : MSt} (I : List MV → MS → MH → Prop) (hg : ∀ xs ρ h, I xs ρ h → gOk gs h)
    (hs : ∀ x xs ρ h, I (x :: xs) ρ h → ∃ ρ1, t.set x ρ = some ρ1 ∧ Sd (body ρ1 h) (kI I xs D)) (he : ∀ ρ h, I [] ρ h → D.n ρ h) : ∀ xs ρ h, I xs ρ h → Sd (forGo gs t body xs ρ h) D
  | [], ρ, h, i => by
    rw [forGo, if_pos (hg _ _ _ i), Sd_nx]
    exact he _ _ i
  | x :: xs, ρ, h, i => by
    obtain ⟨ρ1, e1, g⟩ := hs x xs ρ h i
    rw [forGo, if_pos (hg _ _ _ i), e1]
    dsimp only
    cases e : body ρ1 h <;> rw [e] at g <;> simp only [Sd_nx, Sd_rt, Sd_bk, Sd_ct, Sd_ex, Sd_bad, kI_n, kI_c, kI_b] at g <;> dsimp only
    · exact s_for I hg hs he xs _ _ g
    · rw [Sd_rt]; exact g
    · rw [Sd_nx]; exact g
    · exact s_for I hg hs he xs _ _ g
    · rw [Sd_ex]; exact g
/-- a while: I falls with n -/
def kW (I : Nat → MS → MH → Prop) (n : Nat) (D : SW4) : SW4 := ⟨fun ρ h => ∃ m, m < n ∧ I m ρ h, D.r, D.n, fun ρ h => ∃ m, m < n ∧ I m ρ h, D.e⟩
theorem kW_n {I : Nat → MS → MH → Prop} {n : Nat} : (kW I n D).n ρ h = ∃ m, m < n ∧ I m ρ h := (Eq.refl _).trans rfl
theorem kW_r {I : Nat → MS → MH → Prop} {n : Nat} : (kW I n D).r = D.r := (Eq.refl _).trans rfl
theorem kW_b {I : Nat → MS → MH → Prop} {n : Nat} : (kW I n D).b ρ h = D.n ρ h := (Eq.refl _).trans rfl
theorem kW_c {I : Nat → MS → MH → Prop} {n : Nat} : (kW I n D).c ρ h = ∃ m, m < n ∧ I m ρ h := (Eq.refl _).trans rfl
theorem kW_e {I : Nat → MS → MH → Prop} {n : Nat} : (kW I n D).e = D.e := (Eq.refl _).trans rfl
def kT2 (body : MSt) (D : SW4) (I : Nat → MS → MH → Prop) (n : Nat) (ρ : MS) : Bool → MH → Prop := fun c h => if c = true then Sd (body ρ h) (kW I n D) else D.n ρ h
theorem kT2_t {body : MSt} {I : Nat → MS → MH → Prop} {n : Nat} : kT2 body D I n ρ true h = Sd (body ρ h) (kW I n D) := (Eq.refl _).trans rfl
theorem kT2_f {body : MSt} {I : Nat → MS → MH → Prop} {n : Nat} : kT2 body D I n ρ false h = D.n ρ h := (Eq.refl _).trans rfl
theorem s_whileGo {mt : MS → MH → Res Bool} {body : MSt} (I : Nat → MS → MH → Prop) (hs : ∀ n ρ h, I n ρ h → Gd (mt ρ h) (kT2 body D I n ρ) (kE ρ D)) : ∀ k n ρ h, n < k → I n ρ h → Sd (whileGo mt body k ρ h) D
  | 0, n, ρ, h, l, i => absurd l (Nat.not_lt_zero _)
  | k + 1, n, ρ, h, l, i => by
    rw [whileGo, Sd_st]
    refine (hs n ρ h i).mono (fun c h1 q => ?_) fun e h z => z
    cases c with
    | true =>
      rw [kT2_t] at q
      rw [if_pos rfl]
      cases e : body ρ h1 <;> rw [e] at q <;> simp only [Sd_nx, Sd_rt, Sd_bk, Sd_ct, Sd_ex, Sd_bad, kW_n, kW_c, kW_b] at q <;> dsimp only
      · obtain ⟨m, lm, im⟩ := q; exact s_whileGo I hs k m _ _ (by omega) im
      · rw [Sd_rt]; exact q
      · rw [Sd_nx]; exact q
      · obtain ⟨m, lm, im⟩ := q; exact s_whileGo I hs k m _ _ (by omega) im
      · rw [Sd_ex]; exact q
    | false =>
      rw [kT2_f] at q
      rw [if_neg (by decide), Sd_nx]; exact q
theorem s_while {mt : MS → MH → Res Bool} {body : MSt} (I : Nat → MS → MH → Prop) (n : Nat) (hn : n < 1000000000) (i : I n ρ h) (hs : ∀ n ρ h, I n ρ h → Gd (mt ρ h) (kT2 body D I n ρ) (kE ρ D)) : Sd (sWhile mt body ρ h) D := s_whileGo I hs manyTurns n ρ h hn i
/-- a comprehension -/
def kC1 (I : List MV → List MV → MH → Prop) (ys xs : List MV) (me : ME) (ρ : MS) (E : EK) : Bool → MH → Prop := fun c h1 => if c = true then Gd (me ρ h1) (fun y h2 => I (ys ++ [y]) xs h2) E else I ys xs h1
def kC2 (I : List MV → List MV → MH → Prop) (ys xs : List MV) : MV → MH → Prop := fun y h => I (ys ++ [y]) xs h
theorem kC1_t {I : List MV → List MV → MH → Prop} {me : ME} : kC1 I ys xs me ρ E true h = Gd (me ρ h) (kC2 I ys xs) E := (Eq.refl _).trans rfl
theorem kC1_f {I : List MV → List MV → MH → Prop} {me : ME} : kC1 I ys xs me ρ E false h = I ys xs h := (Eq.refl _).trans rfl
theorem kC2_ap {I : List MV → List MV → MH → Prop} : kC2 I ys xs v h = I (ys ++ [v]) xs h := (Eq.refl _).trans rfl
theorem Gd_nx {r : Res α} {Q : α → MH → Prop} (g : Gd r Q fun _ _ => False) : Gd r.nx Q E := by
  rw [Gd_def] at *
  cases r with
  | ok a h => exact g
  | ex e h => exact g.elim
  | bad => exact g.elim
theorem s_compGo {gs : Gs} {t : Tg} {mt : MS → MH → Res Bool} {me : ME} {Q : List MV → MH → Prop} (I : List MV → List MV → MH → Prop) (hg : ∀ ys xs h, I ys xs h → gOk gs h)
    (hs : ∀ ys x xs h, I ys (x :: xs) h → ∃ ρ1, t.set x ρ = some ρ1 ∧ Gd (mt ρ1 h) (kC1 I ys xs me ρ1 fun _ _ => False) fun _ _ => False) :
    ∀ xs ys h, I ys xs h → (∀ zs h, I zs [] h → Q zs h) → Gd (compGo gs t mt me ρ xs h) (fun zs h' => Q (ys ++ zs) h') E
  | [], ys, h, i, he => by
    rw [compGo, if_pos (hg _ _ _ i), Gd_ok]
    simpa using he _ _ i
  | x :: xs, ys, h, i, he => by
    obtain ⟨ρ1, e1, g⟩ := hs ys x xs h i
    rw [compGo, if_pos (hg _ _ _ i), e1]
    dsimp only
    rw [Gd_bind]
    refine Gd_nx (g.mono (fun c h1 q => ?_) fun _ _ z => z)
    cases c with
    | true =>
      rw [kC1_t] at q
      rw [if_pos rfl, Gd_bind]
      refine Gd_nx (q.mono (fun y h2 q2 => ?_) fun _ _ z => z)
      rw [Gd_bind]
      refine (s_compGo I hg hs xs (ys ++ [y]) h2 q2 he).mono (fun zs h3 q3 => ?_) fun _ _ z => z
      rw [Gd_ok]
      simpa using q3
    | false =>
      rw [kC1_f] at q
      rw [if_neg (by decide)]
      exact s_compGo I hg hs xs ys h1 q he
theorem s_comp {gs : Gs} {t : Tg} {mt : MS → MH → Res Bool} {me : ME} {Q : List MV → MH → Prop} (I : List MV → List MV → MH → Prop) (hg : ∀ ys xs h, I ys xs h → gOk gs h) (i : I [] xs h)
    (hs : ∀ ys x xs h, I ys (x :: xs) h → ∃ ρ1, t.set x ρ = some ρ1 ∧ Gd (mt ρ1 h) (kC1 I ys xs me ρ1 fun _ _ => False) fun _ _ => False) (he : ∀ zs h, I zs [] h → Q zs h) : Gd (compGo gs t mt me ρ xs h) Q E := by
  have := s_compGo (E := E) (Q := Q) I hg hs xs [] h i he
  simpa using this
/-- a comprehension whose parts change nothing -/
theorem s_compE {gs : Gs} {t : Tg} {me : ME} {vf : β → MV} {ef : β → MV} {Q : List MV → MH → Prop} {us : List β} (hg : gOk gs h) (hs : ∀ u, u ∈ us → ∃ ρ1, t.set (vf u) ρ = some ρ1 ∧ me ρ1 h = .ok (ef u) h) (he : Q (us.map ef) h) : Gd (compGo gs t tYesM me ρ (us.map vf) h) Q E := by
  have : ∀ us : List β, (∀ u, u ∈ us → ∃ ρ1, t.set (vf u) ρ = some ρ1 ∧ me ρ1 h = .ok (ef u) h) → compGo gs t tYesM me ρ (us.map vf) h = .ok (us.map ef) h := by
    intro us
    induction us with
    | nil => intro _; rw [List.map_nil, compGo, if_pos hg]; rfl
    | cons u us ih =>
      intro hs
      obtain ⟨ρ1, e1, e2⟩ := hs u (by simp)
      rw [List.map_cons, compGo, if_pos hg, e1]
      simp only [tYesM, Res.nx, Res.bind_ok, if_true, e2]
      rw [ih fun z hz => hs z (by simp [hz])]
      rfl
  rw [this us hs, Gd_ok]; exact he

theorem S_nil  : Sd (sNil ρ h) D = D.n ρ h := by unfold sNil; rw [Sd_nx]
theorem S_ret {m : ME} : Sd (sRet m ρ h) D = Gd (m ρ h) D.r (kE ρ D) := by unfold sRet; rw [Sd_st]; simp only [Sd_rt]; rfl
theorem S_retN  : Sd (sRetN ρ h) D = D.r .non h := by unfold sRetN; rw [Sd_rt]
theorem S_break  : Sd (sBreak ρ h) D = D.b ρ h := by unfold sBreak; rw [Sd_bk]
theorem S_cont  : Sd (sCont ρ h) D = D.c ρ h := by unfold sCont; rw [Sd_ct]
def kExp (ρ : MS) (D : SW4) : MV → MH → Prop := fun a h => D.n ρ h
theorem kExp_ap  : kExp ρ D v h = D.n ρ h := (Eq.refl _).trans rfl
theorem S_expr {m : ME} : Sd (sExpr m ρ h) D = Gd (m ρ h) (kExp ρ D) (kE ρ D) := by unfold sExpr; rw [Sd_st]; simp only [Sd_nx]; rfl
def kIf (a b : MSt) (ρ : MS) (D : SW4) : Bool → MH → Prop := fun c h => if c = true then Sd (a ρ h) D else Sd (b ρ h) D
theorem kIf_t {a b : MSt} : kIf a b ρ D true h = Sd (a ρ h) D := (Eq.refl _).trans rfl
theorem kIf_f {a b : MSt} : kIf a b ρ D false h = Sd (b ρ h) D := (Eq.refl _).trans rfl
theorem kIf_d {a b : MSt} {p : Prop} [Decidable p] : kIf a b ρ D (decide p) h = kIte p (Sd (a ρ h) D) (Sd (b ρ h) D) := by
  unfold kIte; by_cases hp : p <;> simp [hp, kIf]
theorem S_if {mc : MS → MH → Res Bool} {a b : MSt} : Sd (sIf mc a b ρ h) D = Gd (mc ρ h) (kIf a b ρ D) (kE ρ D) := by
  unfold sIf; rw [Sd_st]
  have : (fun (c : Bool) (h1 : MH) => Sd (if c = true then a ρ h1 else b ρ h1) D) = kIf a b ρ D := by funext c h1; cases c <;> rfl
  rw [this]; rfl
def kSet (i : Nat) (ρ : MS) (D : SW4) : MV → MH → Prop := fun a h => D.n (ρ.set i (some a)) h
theorem kSet_ap {i : Nat} : kSet i ρ D v h = D.n (ρ.set i (some v)) h := (Eq.refl _).trans rfl
theorem S_set {i : Nat} {m : ME} : Sd (sSet i m ρ h) D = Gd (m ρ h) (kSet i ρ D) (kE ρ D) := by unfold sSet; rw [Sd_st]; simp only [Sd_nx]; rfl
def kH (o : Option MH) (ρ : MS) (D : SW4) : Prop := match o with | some h => D.n ρ h | none => False
theorem kH_s  : kH (some h) ρ D = D.n ρ h := (Eq.refl _).trans rfl
theorem kH_eq {o : Option MH} {f : MH → SRes} (hf : ∀ h, f h = .nx ρ h) : Sd (match o with | some h3 => f h3 | none => .bad) D = kH o ρ D := by cases o <;> simp only [hf, Sd_nx, Sd_bad] <;> rfl
def kSF2 (cs : List Str) (f : Str) (y : MV) (ρ : MS) (D : SW4) : MV → MH → Prop := fun a h => kH (mSetF cs f a y h) ρ D
theorem kSF2_ap {cs : List Str} {f : Str} : kSF2 cs f y ρ D x h = kH (mSetF cs f x y h) ρ D := (Eq.refl _).trans rfl
def kSF1 (cs : List Str) (f : Str) (mo : ME) (ρ : MS) (D : SW4) : MV → MH → Prop := fun a h => Gd (mo ρ h) (kSF2 cs f a ρ D) (kE ρ D)
theorem kSF1_ap {cs : List Str} {f : Str} {mo : ME} : kSF1 cs f mo ρ D y h = Gd (mo ρ h) (kSF2 cs f y ρ D) (kE ρ D) := (Eq.refl _).trans rfl
theorem S_setF {cs : List Str} {f : Str} {mo m : ME} : Sd (sSetF cs f mo m ρ h) D = Gd (m ρ h) (kSF1 cs f mo ρ D) (kE ρ D) := by
  unfold sSetF; rw [Sd_st]; refine Gd_fun fun y h1 => ?_; rw [Sd_st]; refine Gd_fun fun x h2 => ?_; exact kH_eq fun _ => rfl
def kSI3 (y x : MV) (ρ : MS) (D : SW4) : MV → MH → Prop := fun a h => kH (mSetI x a y h) ρ D
theorem kSI3_ap  : kSI3 y x ρ D v h = kH (mSetI x v y h) ρ D := (Eq.refl _).trans rfl
def kSI2 (mi : ME) (y : MV) (ρ : MS) (D : SW4) : MV → MH → Prop := fun a h => Gd (mi ρ h) (kSI3 y a ρ D) (kE ρ D)
theorem kSI2_ap {mi : ME} : kSI2 mi y ρ D x h = Gd (mi ρ h) (kSI3 y x ρ D) (kE ρ D) := (Eq.refl _).trans rfl
def kSI1 (mo mi : ME) (ρ : MS) (D : SW4) : MV → MH → Prop := fun a h => Gd (mo ρ h) (kSI2 mi a ρ D) (kE ρ D)
theorem kSI1_ap {mo mi : ME} : kSI1 mo mi ρ D y h = Gd (mo ρ h) (kSI2 mi y ρ D) (kE ρ D) := (Eq.refl _).trans rfl
theorem S_setI {mo mi m : ME} : Sd (sSetI mo mi m ρ h) D = Gd (m ρ h) (kSI1 mo mi ρ D) (kE ρ D) := by
  unfold sSetI; rw [Sd_st]; refine Gd_fun fun y h1 => ?_; rw [Sd_st]; refine Gd_fun fun x h2 => ?_; rw [Sd_st]; refine Gd_fun fun i h3 => ?_; exact kH_eq fun _ => rfl
def kAu1 (x : MV) (mo : MV → MV → MH → Res MV) (i : Nat) (ρ : MS) (D : SW4) : MV → MH → Prop := fun a h => Gd (mo x a h) (kSet i ρ D) (kE ρ D)
theorem kAu1_ap {mo : MV → MV → MH → Res MV} {i : Nat} : kAu1 x mo i ρ D y h = Gd (mo x y h) (kSet i ρ D) (kE ρ D) := (Eq.refl _).trans rfl
def kAu (o : Option (Option MV)) (i : Nat) (mo : MV → MV → MH → Res MV) (m : ME) (ρ : MS) (h : MH) (D : SW4) : Prop := match o with | some (some x) => Gd (m ρ h) (kAu1 x mo i ρ D) (kE ρ D) | _ => False
theorem kAu_s {mo : MV → MV → MH → Res MV} {m : ME} {i : Nat} : kAu (some (some x)) i mo m ρ h D = Gd (m ρ h) (kAu1 x mo i ρ D) (kE ρ D) := (Eq.refl _).trans rfl
theorem S_aug {i : Nat} {mo : MV → MV → MH → Res MV} {m : ME} : Sd (sAug i mo m ρ h) D = kAu ρ[i]? i mo m ρ h D := by
  unfold sAug kAu
  generalize ρ[i]? = o
  rcases o with _ | _ | x
  · exact Sd_bad
  · exact Sd_bad
  · dsimp only; rw [Sd_st]; refine Gd_fun fun y h1 => ?_; rw [Sd_st]; exact Gd_fun fun z h2 => Sd_nx
def kAF (cs : List Str) (f : Str) (op : MV → MV → MH → Res MV) (m : ME) (ρ : MS) (D : SW4) : MV → MH → Prop := fun a h => Sd (mAugF cs f op m ρ a h) D
theorem kAF_ap {cs : List Str} {f : Str} {op : MV → MV → MH → Res MV} {m : ME} : kAF cs f op m ρ D x h = Sd (mAugF cs f op m ρ x h) D := (Eq.refl _).trans rfl
theorem S_augF {cs : List Str} {f : Str} {op : MV → MV → MH → Res MV} {mo m : ME} : Sd (sAugF cs f op mo m ρ h) D = Gd (mo ρ h) (kAF cs f op m ρ D) (kE ρ D) := by unfold sAugF; rw [Sd_st]; rfl
def kT (o : Option MS) (h : MH) (D : SW4) : Prop := match o with | some ρ => D.n ρ h | none => False
theorem kT_s  : kT (some ρ) h D = D.n ρ h := (Eq.refl _).trans rfl
def kST (t : Tg) (ρ : MS) (D : SW4) : MV → MH → Prop := fun a h => kT (t.set a ρ) h D
theorem kST_ap {t : Tg} : kST t ρ D v h = kT (t.set v ρ) h D := (Eq.refl _).trans rfl
theorem S_setT {t : Tg} {m : ME} : Sd (sSetT t m ρ h) D = Gd (m ρ h) (kST t ρ D) (kE ρ D) := by
  unfold sSetT; rw [Sd_st]; refine Gd_fun fun x h1 => ?_; unfold kST kT; cases t.set x ρ
  · exact Sd_bad
  · exact Sd_nx
def kFo (t : Tg) (body : MSt) (ρ : MS) (D : SW4) : List MV × Gs → MH → Prop := fun a h => Sd (forGo a.2 t body a.1 ρ h) D
theorem kFo_ap {t : Tg} {body : MSt} {gs : Gs} : kFo t body ρ D (xs, gs) h = Sd (forGo gs t body xs ρ h) D := (Eq.refl _).trans rfl
theorem S_for {mi : MI} {t : Tg} {body : MSt} : Sd (sFor mi t body ρ h) D = Gd (mi ρ h) (kFo t body ρ D) (kE ρ D) := by unfold sFor; rw [Sd_st]; rfl
def kAs (g : MG) (ρ : MS) (D : SW4) : MV → MH → Prop := fun a h => Sd (onlyN (g a ρ h)) D
theorem kAs_ap {g : MG} : kAs g ρ D x h = Sd (onlyN (g x ρ h)) D := (Eq.refl _).trans rfl
theorem S_asg {g : MG} {m : ME} : Sd (sAsg g m ρ h) D = Gd (m ρ h) (kAs g ρ D) (kE ρ D) := by unfold sAsg; rw [Sd_st]; rfl
theorem E_c  : Gd (eC v ρ h) Q E = Q v h := by unfold eC; rw [Gd_ok]
def kV (o : Option (Option MV)) (h : MH) (Q : MV → MH → Prop) : Prop := match o with | some (some v) => Q v h | _ => False
theorem kV_s  : kV (some (some v)) h Q = Q v h := (Eq.refl _).trans rfl
theorem E_var {i : Nat} : Gd (eVar i ρ h) Q E = kV ρ[i]? h Q := by
  unfold eVar kV
  generalize ρ[i]? = o
  rcases o with _ | _ | v
  · exact Gd_bad
  · exact Gd_bad
  · exact Gd_ok
def kB2 (mo : MV → MV → MH → Res MV) (x : MV) (Q : MV → MH → Prop) (E : EK) : MV → MH → Prop := fun a h => Gd (mo x a h) Q E
theorem kB2_ap {mo : MV → MV → MH → Res MV} : kB2 mo x Q E y h = Gd (mo x y h) Q E := (Eq.refl _).trans rfl
def kB1 (mo : MV → MV → MH → Res MV) (mb : ME) (ρ : MS) (Q : MV → MH → Prop) (E : EK) : MV → MH → Prop := fun a h => Gd (mb ρ h) (kB2 mo a Q E) E
theorem kB1_ap {mo : MV → MV → MH → Res MV} {mb : ME} : kB1 mo mb ρ Q E x h = Gd (mb ρ h) (kB2 mo x Q E) E := (Eq.refl _).trans rfl
theorem E_bin {mo : MV → MV → MH → Res MV} {ma mb : ME} : Gd (eBin mo ma mb ρ h) Q E = Gd (ma ρ h) (kB1 mo mb ρ Q E) E := by unfold eBin; simp only [Gd_bind]; rfl
def kU (mo : MV → MH → Res MV) (Q : MV → MH → Prop) (E : EK) : MV → MH → Prop := fun a h => Gd (mo a h) Q E
theorem kU_ap {mo : MV → MH → Res MV} : kU mo Q E x h = Gd (mo x h) Q E := (Eq.refl _).trans rfl
theorem E_un {mo : MV → MH → Res MV} {ma : ME} : Gd (eUn mo ma ρ h) Q E = Gd (ma ρ h) (kU mo Q E) E := by unfold eUn; rw [Gd_bind]; rfl
def kAsB (Q : Bool → MH → Prop) (E : EK) : MV → MH → Prop := fun a h => Gd (asB a h) Q E
theorem kAsB_ap {b : Bool} : kAsB QB E (.bl b) h = QB b h := by unfold kAsB asB; rw [Gd_ok]
theorem E_tof {m : ME} : Gd (tOfE m ρ h) QB E = Gd (m ρ h) (kAsB QB E) E := by unfold tOfE; rw [Gd_bind]; rfl
def kTA (m : MS → MH → Res Bool) (ρ : MS) (Q : Bool → MH → Prop) (E : EK) : Bool → MH → Prop := fun c h => if c = true then Gd (m ρ h) Q E else Q false h
theorem kTA_t {m : MS → MH → Res Bool} : kTA m ρ QB E true h = Gd (m ρ h) QB E := (Eq.refl _).trans rfl
theorem kTA_f {m : MS → MH → Res Bool} : kTA m ρ QB E false h = QB false h := (Eq.refl _).trans rfl
theorem E_tand {m1 m2 : MS → MH → Res Bool} : Gd (tAndM m1 m2 ρ h) QB E = Gd (m1 ρ h) (kTA m2 ρ QB E) E := by
  unfold tAndM; rw [Gd_bind]
  congr; funext c h1; cases c
  · exact Gd_ok
  · rfl
def kTO (m : MS → MH → Res Bool) (ρ : MS) (Q : Bool → MH → Prop) (E : EK) : Bool → MH → Prop := fun c h => if c = true then Q true h else Gd (m ρ h) Q E
theorem kTO_t {m : MS → MH → Res Bool} : kTO m ρ QB E true h = QB true h := (Eq.refl _).trans rfl
theorem kTO_f {m : MS → MH → Res Bool} : kTO m ρ QB E false h = Gd (m ρ h) QB E := (Eq.refl _).trans rfl
theorem E_tor {m1 m2 : MS → MH → Res Bool} : Gd (tOrM m1 m2 ρ h) QB E = Gd (m1 ρ h) (kTO m2 ρ QB E) E := by
  unfold tOrM; rw [Gd_bind]
  congr; funext c h1; cases c
  · rfl
  · exact Gd_ok
def kTN (Q : Bool → MH → Prop) : Bool → MH → Prop := fun c h => Q (!c) h
theorem kTN_ap {b : Bool} : kTN QB b h = QB (!b) h := (Eq.refl _).trans rfl
theorem E_tnot {m1 : MS → MH → Res Bool} : Gd (tNotM m1 ρ h) QB E = Gd (m1 ρ h) (kTN QB) E := by
  unfold tNotM; rw [Gd_bind]; simp only [Gd_ok]; rfl
theorem E_tyes  : Gd (tYesM ρ h) QB E = QB true h := by unfold tYesM; rw [Gd_ok]
def kAnd (m : ME) (ρ : MS) (Q : MV → MH → Prop) (E : EK) : MV → MH → Prop := fun a h => match a with | .bl true => Gd (m ρ h) Q E | .bl false => Q (.bl false) h | _ => False
theorem kAnd_t {m : ME} : kAnd m ρ Q E (.bl true) h = Gd (m ρ h) Q E := (Eq.refl _).trans rfl
theorem kAnd_f {m : ME} : kAnd m ρ Q E (.bl false) h = Q (.bl false) h := (Eq.refl _).trans rfl
theorem E_and {ma mb : ME} : Gd (eAnd ma mb ρ h) Q E = Gd (ma ρ h) (kAnd mb ρ Q E) E := by
  unfold eAnd; rw [Gd_bind]
  congr; funext x h1; unfold kAnd; split <;> simp only [Gd_ok, Gd_bad]
def kOr (m : ME) (ρ : MS) (Q : MV → MH → Prop) (E : EK) : MV → MH → Prop := fun a h => match a with | .bl true => Q (.bl true) h | .bl false => Gd (m ρ h) Q E | _ => False
theorem kOr_t {m : ME} : kOr m ρ Q E (.bl true) h = Q (.bl true) h := (Eq.refl _).trans rfl
theorem kOr_f {m : ME} : kOr m ρ Q E (.bl false) h = Gd (m ρ h) Q E := (Eq.refl _).trans rfl
theorem E_or {ma mb : ME} : Gd (eOr ma mb ρ h) Q E = Gd (ma ρ h) (kOr mb ρ Q E) E := by
  unfold eOr; rw [Gd_bind]
  congr; funext x h1; unfold kOr; split <;> simp only [Gd_ok, Gd_bad]
def kNot (Q : MV → MH → Prop) : MV → MH → Prop := fun a h => match a with | .bl b => Q (.bl (!b)) h | _ => False
theorem kNot_ap {b : Bool} : kNot Q (.bl b) h = Q (.bl (!b)) h := (Eq.refl _).trans rfl
theorem E_not {ma : ME} : Gd (eNot ma ρ h) Q E = Gd (ma ρ h) (kNot Q) E := by
  unfold eNot; rw [Gd_bind]
  congr; funext x h1; unfold kNot; split <;> simp only [Gd_ok, Gd_bad]
def kEI (ma mb : ME) (ρ : MS) (Q : MV → MH → Prop) (E : EK) : Bool → MH → Prop := fun c h => if c = true then Gd (ma ρ h) Q E else Gd (mb ρ h) Q E
theorem kEI_t {ma mb : ME} : kEI ma mb ρ Q E true h = Gd (ma ρ h) Q E := (Eq.refl _).trans rfl
theorem kEI_f {ma mb : ME} : kEI ma mb ρ Q E false h = Gd (mb ρ h) Q E := (Eq.refl _).trans rfl
theorem E_if {mc : MS → MH → Res Bool} {ma mb : ME} : Gd (eIf mc ma mb ρ h) Q E = Gd (mc ρ h) (kEI ma mb ρ Q E) E := by
  unfold eIf; rw [Gd_bind]
  congr; funext c h1; cases c <;> rfl
theorem A_nil  : Gd (aNil ρ h) QA E = QA [] h := by unfold aNil; rw [Gd_ok]
def kA2 (x : MV) (Q : List MV → MH → Prop) : List MV → MH → Prop := fun a h => Q (x :: a) h
theorem kA2_ap  : kA2 x QA xs h = QA (x :: xs) h := (Eq.refl _).trans rfl
def kA1 (ms : MA) (ρ : MS) (Q : List MV → MH → Prop) (E : EK) : MV → MH → Prop := fun a h => Gd (ms ρ h) (kA2 a Q) E
theorem kA1_ap {ms : MA} : kA1 ms ρ QA E x h = Gd (ms ρ h) (kA2 x QA) E := (Eq.refl _).trans rfl
theorem A_cons {m : ME} {ms : MA} : Gd (aCons m ms ρ h) QA E = Gd (m ρ h) (kA1 ms ρ QA E) E := by unfold aCons; simp only [Gd_bind, Gd_ok]; rfl
def kTup (Q : MV → MH → Prop) : List MV → MH → Prop := fun a h => a.length ≤ 1000000 ∧ Q (.tup a) h
theorem kTup_ap  : kTup Q xs h = (xs.length ≤ 1000000 ∧ Q (.tup xs) h) := (Eq.refl _).trans rfl
theorem E_tup {ms : MA} : Gd (eTup ms ρ h) Q E = Gd (ms ρ h) (kTup Q) E := by unfold eTup; simp only [Gd_bind, Gd_ite, Gd_ok]; rfl
def kDis (Q : List MV → MH → Prop) : List MV → MH → Prop := fun a h => a.length ≤ 1000000 ∧ Q a h
theorem kDis_ap  : kDis QA xs h = (xs.length ≤ 1000000 ∧ QA xs h) := (Eq.refl _).trans rfl
theorem L_disp {ms : MA} : Gd (lDisp ms ρ h) QA E = Gd (ms ρ h) (kDis QA) E := by unfold lDisp; simp only [Gd_bind, Gd_ite, Gd_ok]; rfl
def kNew (Q : MV → MH → Prop) : List MV → MH → Prop := fun a h => Q (.ref h.length) (h ++ [.lst a])
theorem kNew_ap  : kNew Q xs h = Q (.ref h.length) (h ++ [.lst xs]) := (Eq.refl _).trans rfl
theorem E_new {ms : MA} : Gd (eNew ms ρ h) Q E = Gd (ms ρ h) (kNew Q) E := by unfold eNew; simp only [Gd_bind, Gd_ok]; rfl
theorem E_dict0  : Gd (eDict0 ρ h) Q E = Q (.ref h.length) (h ++ [.dct []]) := by unfold eDict0; rw [Gd_ok]
def kCB (mo : List MV → MH → Res MV) (Q : MV → MH → Prop) (E : EK) : List MV → MH → Prop := fun a h => Gd (mo a h) Q E
theorem kCB_ap {mo : List MV → MH → Res MV} : kCB mo Q E xs h = Gd (mo xs h) Q E := (Eq.refl _).trans rfl
theorem E_callB {mo : List MV → MH → Res MV} {ms : MA} : Gd (eCallB mo ms ρ h) Q E = Gd (ms ρ h) (kCB mo Q E) E := by unfold eCallB; rw [Gd_bind]; rfl
def kCD (mo : List MV → MH → Res MV) (dm : List MV) (Q : MV → MH → Prop) (E : EK) : List MV → MH → Prop := fun a h => Gd (mo (a ++ dm) h) Q E
theorem kCD_ap {mo : List MV → MH → Res MV} {dm : List MV} : kCD mo dm Q E xs h = Gd (mo (xs ++ dm) h) Q E := (Eq.refl _).trans rfl
theorem E_callD {mo : List MV → MH → Res MV} {dm : List MV} {ms : MA} : Gd (eCallD mo dm ms ρ h) Q E = Gd (ms ρ h) (kCD mo dm Q E) E := by unfold eCallD; rw [Gd_bind]; rfl
def kM2 (mt : MV → List MV → MH → Res MV) (x : MV) (Q : MV → MH → Prop) (E : EK) : List MV → MH → Prop := fun a h => Gd (mt x a h) Q E
theorem kM2_ap {mt : MV → List MV → MH → Res MV} : kM2 mt x Q E xs h = Gd (mt x xs h) Q E := (Eq.refl _).trans rfl
def kM1 (T : String) (mt : MV → List MV → MH → Res MV) (ms : MA) (ρ : MS) (Q : MV → MH → Prop) (E : EK) : MV → MH → Prop := fun a h => tyOk T a h = true ∧ Gd (ms ρ h) (kM2 mt a Q E) E
theorem kM1_ap {T : String} {mt : MV → List MV → MH → Res MV} {ms : MA} : kM1 T mt ms ρ Q E x h = (tyOk T x h = true ∧ Gd (ms ρ h) (kM2 mt x Q E) E) := (Eq.refl _).trans rfl
theorem E_bm {T : String} {mt : MV → List MV → MH → Res MV} {mo : ME} {ms : MA} : Gd (eBM T mt mo ms ρ h) Q E = Gd (mo ρ h) (kM1 T mt ms ρ Q E) E := by unfold eBM; simp only [Gd_bind, Gd_ite]; rfl
def kMe3 (mf : List MV → MH → Res MV) (dm : List MV) (x : MV) (Q : MV → MH → Prop) (E : EK) : List MV → MH → Prop := fun a h => Gd (mf (x :: (a ++ dm)) h) Q E
theorem kMe3_ap {mf : List MV → MH → Res MV} {dm : List MV} : kMe3 mf dm x Q E xs h = Gd (mf (x :: (xs ++ dm)) h) Q E := (Eq.refl _).trans rfl
def kMe2 (o : Option MO) (c m : Str) (mf : List MV → MH → Res MV) (dm : List MV) (x : MV) (ms : MA) (ρ : MS) (h : MH) (Q : MV → MH → Prop) (E : EK) : Prop := match o with | some (.ins c' fs) => (c' = c ∧ fs.lookup m = none) ∧ Gd (ms ρ h) (kMe3 mf dm x Q E) E | _ => False
theorem kMe2_s {c m c' : Str} {fs : List (Str × MV)} {mf : List MV → MH → Res MV} {dm : List MV} {ms : MA} : kMe2 (some (.ins c' fs)) c m mf dm x ms ρ h Q E = ((c' = c ∧ fs.lookup m = none) ∧ Gd (ms ρ h) (kMe3 mf dm x Q E) E) := (Eq.refl _).trans rfl
def kMe1 (c m : Str) (mf : List MV → MH → Res MV) (dm : List MV) (ms : MA) (ρ : MS) (Q : MV → MH → Prop) (E : EK) : MV → MH → Prop := fun a h => match a with | .ref n => kMe2 h[n]? c m mf dm (.ref n) ms ρ h Q E | _ => False
theorem kMe1_ap {c m : Str} {n : Nat} {mf : List MV → MH → Res MV} {dm : List MV} {ms : MA} : kMe1 c m mf dm ms ρ Q E (.ref n) h = kMe2 h[n]? c m mf dm (.ref n) ms ρ h Q E := (Eq.refl _).trans rfl
theorem E_meth {c m : Str} {mf : List MV → MH → Res MV} {dm : List MV} {mo : ME} {ms : MA} : Gd (eMeth c m mf dm mo ms ρ h) Q E = Gd (mo ρ h) (kMe1 c m mf dm ms ρ Q E) E := by
  unfold eMeth; rw [Gd_bind]
  refine Gd_fun fun x h1 => ?_
  unfold kMe1 kMe2
  cases x with
  | ref n =>
    dsimp only
    generalize h1[n]? = o
    rcases o with _ | ⟨_ | _ | _⟩ <;> dsimp only <;> first | exact Gd_bad | (rw [Gd_ite, Gd_bind]; rfl)
  | _ => exact Gd_bad
def kIL2 (xs : List MV) (Q : MV → MH → Prop) (E : EK) : MV → MH → Prop := fun a h => Gd (ixL xs a h) Q E
theorem kIL2_ap  : kIL2 xs Q E y h = Gd (ixL xs y h) Q E := (Eq.refl _).trans rfl
def kIL1 (mb : ME) (ρ : MS) (Q : MV → MH → Prop) (E : EK) : List MV → MH → Prop := fun a h => Gd (mb ρ h) (kIL2 a Q E) E
theorem kIL1_ap {mb : ME} : kIL1 mb ρ Q E xs h = Gd (mb ρ h) (kIL2 xs Q E) E := (Eq.refl _).trans rfl
theorem E_ixL {la : MA} {mb : ME} : Gd (eIxL la mb ρ h) Q E = Gd (la ρ h) (kIL1 mb ρ Q E) E := by unfold eIxL; simp only [Gd_bind]; rfl
def kO (o : Option β) (h : MH) (Q : β → MH → Prop) : Prop := match o with | some a => Q a h | none => False
theorem kO_s {b : β} {Q : β → MH → Prop} : kO (some b) h Q = Q b h := (Eq.refl _).trans rfl
theorem kO_eq {o : Option β} {f : β → MH → Res α} {Q : β → MH → Prop} {Q' : α → MH → Prop} (hf : ∀ b, Gd (f b h) Q' E = Q b h) : Gd (match o with | some b => f b h | none => .bad) Q' E = kO o h Q := by cases o <;> simp only [hf, Gd_bad] <;> rfl
def kLO (Q : List MV → MH → Prop) : MV → MH → Prop := fun a h => kO (itemsOf a h) h Q
theorem kLO_ap  : kLO QA x h = kO (itemsOf x h) h QA := (Eq.refl _).trans rfl
theorem L_of {m : ME} : Gd (lOf m ρ h) QA E = Gd (m ρ h) (kLO QA) E := by
  unfold lOf; rw [Gd_bind]
  congr; funext x h1; unfold kLO kO; cases itemsOf x h1 <;> simp only [Gd_ok, Gd_bad]
def kCa2 (xs : List MV) (Q : List MV → MH → Prop) : List MV → MH → Prop := fun a h => xs.length + a.length ≤ 1000000 ∧ Q (xs ++ a) h
theorem kCa2_ap  : kCa2 xs QA ys h = (xs.length + ys.length ≤ 1000000 ∧ QA (xs ++ ys) h) := (Eq.refl _).trans rfl
def kCa1 (lb : MA) (ρ : MS) (Q : List MV → MH → Prop) (E : EK) : List MV → MH → Prop := fun a h => Gd (lb ρ h) (kCa2 a Q) E
theorem kCa1_ap {lb : MA} : kCa1 lb ρ QA E xs h = Gd (lb ρ h) (kCa2 xs QA) E := (Eq.refl _).trans rfl
theorem L_cat {la lb : MA} : Gd (lCat la lb ρ h) QA E = Gd (la ρ h) (kCa1 lb ρ QA E) E := by unfold lCat; simp only [Gd_bind, Gd_ite, Gd_ok]; rfl
def kCE3 (o : Option (List MV)) (ys : List MV) (h : MH) (Q : List MV → MH → Prop) : Prop := match o with | some xs => xs.length + ys.length ≤ 1000000 ∧ Q (xs ++ ys) h | none => False
theorem kCE3_s  : kCE3 (some xs) ys h QA = (xs.length + ys.length ≤ 1000000 ∧ QA (xs ++ ys) h) := (Eq.refl _).trans rfl
def kCE2 (x : MV) (Q : List MV → MH → Prop) : List MV → MH → Prop := fun a h => kCE3 (lstAt x h) a h Q
theorem kCE2_ap  : kCE2 x QA ys h = kCE3 (lstAt x h) ys h QA := (Eq.refl _).trans rfl
def kCE1 (lb : MA) (ρ : MS) (Q : List MV → MH → Prop) (E : EK) : MV → MH → Prop := fun a h => Gd (lb ρ h) (kCE2 a Q) E
theorem kCE1_ap {lb : MA} : kCE1 lb ρ QA E x h = Gd (lb ρ h) (kCE2 x QA) E := (Eq.refl _).trans rfl
theorem L_catE {ma : ME} {lb : MA} : Gd (lCatE ma lb ρ h) QA E = Gd (ma ρ h) (kCE1 lb ρ QA E) E := by
  unfold lCatE; simp only [Gd_bind]
  congr; funext x h1; unfold kCE1; congr; funext ys h2; unfold kCE2 kCE3; cases lstAt x h2 <;> simp only [Gd_ok, Gd_bad, Gd_ite]; rfl
def kCL3 (o : Option (List MV)) (xs : List MV) (h : MH) (Q : List MV → MH → Prop) : Prop := match o with | some ys => xs.length + ys.length ≤ 1000000 ∧ Q (xs ++ ys) h | none => False
theorem kCL3_s  : kCL3 (some ys) xs h QA = (xs.length + ys.length ≤ 1000000 ∧ QA (xs ++ ys) h) := (Eq.refl _).trans rfl
def kCL2 (xs : List MV) (Q : List MV → MH → Prop) : MV → MH → Prop := fun a h => kCL3 (lstAt a h) xs h Q
theorem kCL2_ap  : kCL2 xs QA y h = kCL3 (lstAt y h) xs h QA := (Eq.refl _).trans rfl
def kCL1 (mb : ME) (ρ : MS) (Q : List MV → MH → Prop) (E : EK) : List MV → MH → Prop := fun a h => Gd (mb ρ h) (kCL2 a Q) E
theorem kCL1_ap {mb : ME} : kCL1 mb ρ QA E xs h = Gd (mb ρ h) (kCL2 xs QA) E := (Eq.refl _).trans rfl
theorem L_catL {la : MA} {mb : ME} : Gd (lCatL la mb ρ h) QA E = Gd (la ρ h) (kCL1 mb ρ QA E) E := by
  unfold lCatL; simp only [Gd_bind]
  congr; funext x h1; unfold kCL1; congr; funext ys h2; unfold kCL2 kCL3; cases lstAt ys h2 <;> simp only [Gd_ok, Gd_bad, Gd_ite]; rfl
def kCo (t : Tg) (vs : List Nat) (mt : MS → MH → Res Bool) (me : ME) (ρ : MS) (Q : List MV → MH → Prop) (E : EK) : List MV × Gs → MH → Prop := fun a h => a.1.length ≤ 1000000 ∧ Gd (compGo a.2 t mt me (wipeM ρ vs) a.1 h) Q E
theorem kCo_ap {t : Tg} {vs : List Nat} {mt : MS → MH → Res Bool} {me : ME} {gs : Gs} : kCo t vs mt me ρ QA E (xs, gs) h = (xs.length ≤ 1000000 ∧ Gd (compGo gs t mt me (wipeM ρ vs) xs h) QA E) := (Eq.refl _).trans rfl
theorem L_comp {mi : MI} {t : Tg} {vs : List Nat} {mt : MS → MH → Res Bool} {me : ME} : Gd (lComp mi t vs mt me ρ h) QA E = Gd (mi ρ h) (kCo t vs mt me ρ QA E) E := by unfold lComp; simp only [Gd_bind, Gd_ite]; rfl
theorem P_none {Q : Option Int → MH → Prop} : Gd (pNone ρ h) Q E = Q none h := by unfold pNone; rw [Gd_ok]
def kPS (Q : Option Int → MH → Prop) : MV → MH → Prop := fun a h => match a with | .int i => Q (some i) h | _ => False
theorem kPS_ap {Q : Option Int → MH → Prop} {i : Int} : kPS Q (.int i) h = Q (some i) h := (Eq.refl _).trans rfl
theorem P_some {m : ME} {Q : Option Int → MH → Prop} : Gd (pSome m ρ h) Q E = Gd (m ρ h) (kPS Q) E := by
  unfold pSome; rw [Gd_bind]
  congr; funext x h1; unfold kPS; split <;> simp only [Gd_ok, Gd_bad]
def kSl3 (x : MV) (l : Option Int) (Q : MV → MH → Prop) (E : EK) : Option Int → MH → Prop := fun a h => Gd (mSl x l a h) Q E
theorem kSl3_ap {l u : Option Int} : kSl3 x l Q E u h = Gd (mSl x l u h) Q E := (Eq.refl _).trans rfl
def kSl2 (mh : MP) (x : MV) (ρ : MS) (Q : MV → MH → Prop) (E : EK) : Option Int → MH → Prop := fun a h => Gd (mh ρ h) (kSl3 x a Q E) E
theorem kSl2_ap {mh : MP} {l : Option Int} : kSl2 mh x ρ Q E l h = Gd (mh ρ h) (kSl3 x l Q E) E := (Eq.refl _).trans rfl
def kSl1 (ml mh : MP) (ρ : MS) (Q : MV → MH → Prop) (E : EK) : MV → MH → Prop := fun a h => Gd (ml ρ h) (kSl2 mh a ρ Q E) E
theorem kSl1_ap {ml mh : MP} : kSl1 ml mh ρ Q E x h = Gd (ml ρ h) (kSl2 mh x ρ Q E) E := (Eq.refl _).trans rfl
theorem E_sl {m : ME} {ml mh : MP} : Gd (eSl m ml mh ρ h) Q E = Gd (m ρ h) (kSl1 ml mh ρ Q E) E := by unfold eSl; simp only [Gd_bind]; rfl
def kCh3 (mo' : MV → MV → MH → Res MV) (mc : ME) (y : MV) (ρ : MS) (Q : MV → MH → Prop) (E : EK) : MV → MH → Prop := fun a h => match a with | .bl true => Gd (mc ρ h) (kB2 mo' y Q E) E | .bl false => Q (.bl false) h | _ => False
theorem kCh3_t {mo' : MV → MV → MH → Res MV} {mc : ME} : kCh3 mo' mc y ρ Q E (.bl true) h = Gd (mc ρ h) (kB2 mo' y Q E) E := (Eq.refl _).trans rfl
theorem kCh3_f {mo' : MV → MV → MH → Res MV} {mc : ME} : kCh3 mo' mc y ρ Q E (.bl false) h = Q (.bl false) h := (Eq.refl _).trans rfl
def kCh2 (mo mo' : MV → MV → MH → Res MV) (mc : ME) (x : MV) (ρ : MS) (Q : MV → MH → Prop) (E : EK) : MV → MH → Prop := fun a h => Gd (mo x a h) (kCh3 mo' mc a ρ Q E) E
theorem kCh2_ap {mo mo' : MV → MV → MH → Res MV} {mc : ME} : kCh2 mo mo' mc x ρ Q E y h = Gd (mo x y h) (kCh3 mo' mc y ρ Q E) E := (Eq.refl _).trans rfl
def kCh1 (mo mo' : MV → MV → MH → Res MV) (mb mc : ME) (ρ : MS) (Q : MV → MH → Prop) (E : EK) : MV → MH → Prop := fun a h => Gd (mb ρ h) (kCh2 mo mo' mc a ρ Q E) E
theorem kCh1_ap {mo mo' : MV → MV → MH → Res MV} {mb mc : ME} : kCh1 mo mo' mb mc ρ Q E x h = Gd (mb ρ h) (kCh2 mo mo' mc x ρ Q E) E := (Eq.refl _).trans rfl
theorem E_chain {mo mo' : MV → MV → MH → Res MV} {ma mb mc : ME} : Gd (eChain mo mo' ma mb mc ρ h) Q E = Gd (ma ρ h) (kCh1 mo mo' mb mc ρ Q E) E := by
  unfold eChain; simp only [Gd_bind]
  congr; funext x h1; unfold kCh1; congr; funext y h2; unfold kCh2; congr; funext z h3; unfold kCh3; split <;> simp only [Gd_ok, Gd_bad, Gd_bind]; rfl
def kIO (Q : List MV × Gs → MH → Prop) : MV → MH → Prop := fun a h => kO (walkOf a h) h Q
theorem kIO_ap {QI : List MV × Gs → MH → Prop} : kIO QI x h = kO (walkOf x h) h QI := (Eq.refl _).trans rfl
theorem I_of {m : ME} {QI : List MV × Gs → MH → Prop} : Gd (iOf m ρ h) QI E = Gd (m ρ h) (kIO QI) E := by
  unfold iOf; rw [Gd_bind]
  congr; funext x h1; unfold kIO kO; cases walkOf x h1 <;> simp only [Gd_ok, Gd_bad]
def kIL (Q : List MV × Gs → MH → Prop) : List MV → MH → Prop := fun a h => Q (a, []) h
theorem kIL_ap {QI : List MV × Gs → MH → Prop} : kIL QI xs h = QI (xs, []) h := (Eq.refl _).trans rfl
theorem I_lst {la : MA} {QI : List MV × Gs → MH → Prop} : Gd (iLst la ρ h) QI E = Gd (la ρ h) (kIL QI) E := by unfold iLst; rw [Gd_bind]; simp only [Gd_ok]; rfl
def kR1 (Q : List MV × Gs → MH → Prop) : List MV → MH → Prop := fun a h => match a with | [.int j] => (-(2 ^ 62) ≤ j ∧ j < 2 ^ 62) ∧ Q (intR 0 j.toNat, []) h | _ => False
theorem kR1_ap {j : Int} {QI : List MV × Gs → MH → Prop} : kR1 QI [.int j] h = ((-(2 ^ 62) ≤ j ∧ j < 2 ^ 62) ∧ QI (intR 0 j.toNat, []) h) := (Eq.refl _).trans rfl
theorem I_range1 {ms : MA} {QI : List MV × Gs → MH → Prop} : Gd (iRange1 ms ρ h) QI E = Gd (ms ρ h) (kR1 QI) E := by
  unfold iRange1; rw [Gd_bind]
  congr; funext x h1; unfold kR1; split <;> simp only [Gd_ok, Gd_bad, Gd_ite]
def kR2 (Q : List MV × Gs → MH → Prop) : List MV → MH → Prop := fun a h => match a with | [.int i, .int j] => ((-(2 ^ 62) ≤ i ∧ i < 2 ^ 62) ∧ -(2 ^ 62) ≤ j ∧ j < 2 ^ 62) ∧ Q (intR i (j - i).toNat, []) h | _ => False
theorem kR2_ap {i j : Int} {QI : List MV × Gs → MH → Prop} : kR2 QI [.int i, .int j] h = (((-(2 ^ 62) ≤ i ∧ i < 2 ^ 62) ∧ -(2 ^ 62) ≤ j ∧ j < 2 ^ 62) ∧ QI (intR i (j - i).toNat, []) h) := (Eq.refl _).trans rfl
theorem I_range2 {ms : MA} {QI : List MV × Gs → MH → Prop} : Gd (iRange2 ms ρ h) QI E = Gd (ms ρ h) (kR2 QI) E := by
  unfold iRange2; rw [Gd_bind]
  congr; funext x h1; unfold kR2; split <;> simp only [Gd_ok, Gd_bad, Gd_ite]
def kEn2 (o : Option MO) (n : Nat) (h : MH) (Q : List MV × Gs → MH → Prop) : Prop := match o with | some (.lst xs) => Q (enumM xs, [(n, xs)]) h | _ => False
theorem kEn2_s {n : Nat} {QI : List MV × Gs → MH → Prop} : kEn2 (some (.lst xs)) n h QI = QI (enumM xs, [(n, xs)]) h := (Eq.refl _).trans rfl
def kEn (Q : List MV × Gs → MH → Prop) : MV → MH → Prop := fun a h => match a with | .ref n => kEn2 h[n]? n h Q | _ => False
theorem kEn_ap {n : Nat} {QI : List MV × Gs → MH → Prop} : kEn QI (.ref n) h = kEn2 h[n]? n h QI := (Eq.refl _).trans rfl
theorem I_enumE {m : ME} {QI : List MV × Gs → MH → Prop} : Gd (iEnumE m ρ h) QI E = Gd (m ρ h) (kEn QI) E := by
  unfold iEnumE; rw [Gd_bind]
  refine Gd_fun fun x h1 => ?_
  unfold kEn kEn2
  cases x with
  | ref n =>
    dsimp only
    generalize h1[n]? = o
    rcases o with _ | ⟨_ | _ | _⟩ <;> dsimp only <;> first | exact Gd_bad | exact Gd_ok
  | _ => exact Gd_bad
def kEA (Q : List MV × Gs → MH → Prop) : MV → MH → Prop := fun a h => match a with | .ref n => kEn2 h[n]? n h Q | .str z => Q (enumM (signs z), []) h | _ => False
theorem kEA_r {n : Nat} {QI : List MV × Gs → MH → Prop} : kEA QI (.ref n) h = kEn2 h[n]? n h QI := (Eq.refl _).trans rfl
theorem kEA_s {z : Str} {QI : List MV × Gs → MH → Prop} : kEA QI (.str z) h = QI (enumM (signs z), []) h := (Eq.refl _).trans rfl
theorem I_enumA {m : ME} {QI : List MV × Gs → MH → Prop} : Gd (iEnumA m ρ h) QI E = Gd (m ρ h) (kEA QI) E := by
  unfold iEnumA; rw [Gd_bind]
  refine Gd_fun fun x h1 => ?_
  unfold kEA kEn2
  cases x with
  | ref n =>
    dsimp only
    unfold enR
    generalize h1[n]? = o
    rcases o with _ | ⟨_ | _ | _⟩ <;> dsimp only <;> first | exact Gd_bad | exact Gd_ok
  | str z => exact Gd_ok
  | _ => exact Gd_bad
def kEnL (Q : List MV × Gs → MH → Prop) : List MV → MH → Prop := fun a h => Q (enumM a, []) h
theorem kEnL_ap {QI : List MV × Gs → MH → Prop} : kEnL QI xs h = QI (enumM xs, []) h := (Eq.refl _).trans rfl
theorem I_enumL {la : MA} {QI : List MV × Gs → MH → Prop} : Gd (iEnumL la ρ h) QI E = Gd (la ρ h) (kEnL QI) E := by unfold iEnumL; rw [Gd_bind]; simp only [Gd_ok]; rfl
def kZi (Q : List MV × Gs → MH → Prop) : List MV → MH → Prop := fun a h => match a with | [.tup xs, .tup ys] => Q (zipM xs ys, []) h | _ => False
theorem kZi_ap {QI : List MV × Gs → MH → Prop} : kZi QI [.tup xs, .tup ys] h = QI (zipM xs ys, []) h := (Eq.refl _).trans rfl
theorem I_zip2 {ms : MA} {QI : List MV × Gs → MH → Prop} : Gd (iZip2 ms ρ h) QI E = Gd (ms ρ h) (kZi QI) E := by
  unfold iZip2; rw [Gd_bind]
  congr; funext x h1; unfold kZi; split <;> simp only [Gd_ok, Gd_bad]
theorem P_pnil {QP : List (MV × MV) → MH → Prop} : Gd (pairsM [] ρ h) QP E = QP [] h := by rw [pairsM_nil, Gd_ok]
def kP3 (x y : MV) (Q : List (MV × MV) → MH → Prop) : List (MV × MV) → MH → Prop := fun a h => Q ((x, y) :: a) h
theorem kP3_ap {ps : List (MV × MV)} {QP : List (MV × MV) → MH → Prop} : kP3 x y QP ps h = QP ((x, y) :: ps) h := (Eq.refl _).trans rfl
def kP2 (r : List (ME × ME)) (ρ : MS) (x : MV) (Q : List (MV × MV) → MH → Prop) (E : EK) : MV → MH → Prop := fun a h => Gd (pairsM r ρ h) (kP3 x a Q) E
theorem kP2_ap {r : List (ME × ME)} {QP : List (MV × MV) → MH → Prop} : kP2 r ρ x QP E y h = Gd (pairsM r ρ h) (kP3 x y QP) E := (Eq.refl _).trans rfl
def kP1 (mv : ME) (r : List (ME × ME)) (ρ : MS) (Q : List (MV × MV) → MH → Prop) (E : EK) : MV → MH → Prop := fun a h => Gd (mv ρ h) (kP2 r ρ a Q E) E
theorem kP1_ap {mv : ME} {r : List (ME × ME)} {QP : List (MV × MV) → MH → Prop} : kP1 mv r ρ QP E x h = Gd (mv ρ h) (kP2 r ρ x QP E) E := (Eq.refl _).trans rfl
theorem P_pcons {mk mv : ME} {r : List (ME × ME)} {QP : List (MV × MV) → MH → Prop} : Gd (pairsM ((mk, mv) :: r) ρ h) QP E = Gd (mk ρ h) (kP1 mv r ρ QP E) E := by rw [pairsM_cons]; simp only [Gd_bind, Gd_ok]; rfl
def kDi2 (o : Option (List (Key × MV))) (h : MH) (Q : MV → MH → Prop) : Prop := match o with | some kvs => kvs.length ≤ 15 ∧ Q (.ref h.length) (h ++ [.dct (mergeM [] kvs)]) | none => False
theorem kDi2_s {kvs : List (Key × MV)} : kDi2 (some kvs) h Q = (kvs.length ≤ 15 ∧ Q (.ref h.length) (h ++ [.dct (mergeM [] kvs)])) := (Eq.refl _).trans rfl
def kDi (Q : MV → MH → Prop) : List (MV × MV) → MH → Prop := fun a h => kDi2 (keyed a) h Q
theorem kDi_ap {ps : List (MV × MV)} : kDi Q ps h = kDi2 (keyed ps) h Q := (Eq.refl _).trans rfl
theorem E_disp {prs : List (ME × ME)} : Gd (eDisp prs ρ h) Q E = Gd (pairsM prs ρ h) (kDi Q) E := by
  unfold eDisp; rw [Gd_bind]
  refine Gd_fun fun x h1 => ?_; unfold kDi kDi2; generalize keyed x = o; cases o
  · exact Gd_bad
  · dsimp only; rw [Gd_ite, Gd_ok]
theorem mAdd_ii {i j : Int} : mAdd (.int i) (.int j) h = .ok (.int (i + j)) h := (Eq.refl _).trans rfl
theorem mSub_ii {i j : Int} : mSub (.int i) (.int j) h = .ok (.int (i - j)) h := (Eq.refl _).trans rfl
theorem mIadd_ii {i j : Int} : mIadd (.int i) (.int j) h = .ok (.int (i + j)) h := (Eq.refl _).trans rfl
theorem mAdd_ss_0 {a b : Str} : mAdd (.str a) (.str b) h = if szOk (a.length + b.length) then .ok (.str (a ++ b)) h else .bad := rfl
theorem mAdd_ss {a b : Str} : Gd (mAdd (.str a) (.str b) h) Q E = (a.length + b.length ≤ 1000000 ∧ Q (.str (a ++ b)) h) := by
  rw [mAdd_ss_0, Gd_ite, Gd_ok]
  try rfl
theorem mIadd_ss_0 {a b : Str} : mIadd (.str a) (.str b) h = if szOk (a.length + b.length) then .ok (.str (a ++ b)) h else .bad := rfl
theorem mIadd_ss {a b : Str} : Gd (mIadd (.str a) (.str b) h) Q E = (a.length + b.length ≤ 1000000 ∧ Q (.str (a ++ b)) h) := by
  rw [mIadd_ss_0, Gd_ite, Gd_ok]
  try rfl
theorem mAdd_tt_0  : mAdd (.tup xs) (.tup ys) h = if szOk (xs.length + ys.length) then .ok (.tup (xs ++ ys)) h else .bad := rfl
theorem mAdd_tt  : Gd (mAdd (.tup xs) (.tup ys) h) Q E = (xs.length + ys.length ≤ 1000000 ∧ Q (.tup (xs ++ ys)) h) := by
  rw [mAdd_tt_0, Gd_ite, Gd_ok]
  try rfl
theorem mMod_ii_0 {i j : Int} : mMod (.int i) (.int j) h = if 0 < j then .ok (.int (i % j)) h else .bad := rfl
theorem mMod_ii {i j : Int} : Gd (mMod (.int i) (.int j) h) Q E = (0 < j ∧ Q (.int (i % j)) h) := by
  rw [mMod_ii_0, Gd_ite, Gd_ok]
  try rfl
theorem mDiv_ii_0 {i j : Int} : mDiv (.int i) (.int j) h = if 0 < j ∧ j < 1073741824 then .ok (.int (i / j)) h else .bad := rfl
theorem mDiv_ii {i j : Int} : Gd (mDiv (.int i) (.int j) h) Q E = ((0 < j ∧ j < 1073741824) ∧ Q (.int (i / j)) h) := by
  rw [mDiv_ii_0, Gd_ite, Gd_ok]
  try rfl
theorem mLt_ii {i j : Int} : mLt (.int i) (.int j) h = .ok (.bl (decide (i < j))) h := (Eq.refl _).trans rfl
theorem mLe_ii {i j : Int} : mLe (.int i) (.int j) h = .ok (.bl (decide (i ≤ j))) h := (Eq.refl _).trans rfl
theorem mGt_ii {i j : Int} : mGt (.int i) (.int j) h = .ok (.bl (decide (j < i))) h := (Eq.refl _).trans rfl
theorem mGe_ii {i j : Int} : mGe (.int i) (.int j) h = .ok (.bl (decide (j ≤ i))) h := (Eq.refl _).trans rfl
theorem mEq_ii {i j : Int} : mEq (.int i) (.int j) h = .ok (.bl (decide (i = j))) h := by simp [mEq, mEqB, scalM]
theorem mEq_ss {a b : Str} : mEq (.str a) (.str b) h = .ok (.bl (decide (a = b))) h := by simp [mEq, mEqB, scalM]
theorem mEq_bb {a b : Bool} : mEq (.bl a) (.bl b) h = .ok (.bl (decide (a = b))) h := by simp [mEq, mEqB, scalM]
theorem mNe_ii {i j : Int} : mNe (.int i) (.int j) h = .ok (.bl (!decide (i = j))) h := by simp [mNe, mEqB, scalM]
theorem mNe_ss {a b : Str} : mNe (.str a) (.str b) h = .ok (.bl (!decide (a = b))) h := by simp [mNe, mEqB, scalM]
theorem mNe_bb {a b : Bool} : mNe (.bl a) (.bl b) h = .ok (.bl (!decide (a = b))) h := by simp [mNe, mEqB, scalM]
theorem mIs_n  : mIs x .non h = .ok (.bl (noneM x)) h := (Eq.refl _).trans rfl
theorem mIsNot_n  : mIsNot x .non h = .ok (.bl (!noneM x)) h := (Eq.refl _).trans rfl
theorem noneM_n  : noneM .non = true := (Eq.refl _).trans rfl
theorem noneM_i {i : Int} : noneM (.int i) = false := (Eq.refl _).trans rfl
theorem noneM_s {a : Str} : noneM (.str a) = false := (Eq.refl _).trans rfl
theorem noneM_t  : noneM (.tup xs) = false := (Eq.refl _).trans rfl
theorem noneM_b {b : Bool} : noneM (.bl b) = false := (Eq.refl _).trans rfl
theorem noneM_r {n : Nat} : noneM (.ref n) = false := (Eq.refl _).trans rfl
def mIxR (o : Option MO) (y : MV) (h : MH) : Res MV := match o with | some (.lst xs) => ixL xs y h | some (.dct kvs) => ixD kvs y h | _ => .bad
theorem mIxR_l  : mIxR (some (.lst xs)) y h = ixL xs y h := (Eq.refl _).trans rfl
theorem mIxR_d {kvs : List (Key × MV)} : mIxR (some (.dct kvs)) y h = ixD kvs y h := (Eq.refl _).trans rfl
theorem mIx_r {n : Nat} : mIx (.ref n) y h = mIxR h[n]? y h := (Eq.refl _).trans rfl
theorem mIx_t  : mIx (.tup xs) y h = ixL xs y h := (Eq.refl _).trans rfl
theorem mIx_scr  : mIx (.scr xs) y h = ixL xs y h := (Eq.refl _).trans rfl
theorem mIx_s {z : Str} : mIx (.str z) y h = ixS z y h := (Eq.refl _).trans rfl
theorem ixL_i {i : Int} : ixL xs (.int i) h = optR (atI xs i) h := (Eq.refl _).trans rfl
theorem optR_s  : optR (some v) h = .ok v h := (Eq.refl _).trans rfl
def mLenR (o : Option MO) (h : MH) : Res MV := match o with | some (.lst xs) => .ok (.int xs.length) h | some (.dct kvs) => .ok (.int kvs.length) h | _ => .bad
def lstR (o : Option MO) : Option (List MV) := match o with | some (.lst xs) => some xs | _ => none
theorem lstR_l  : lstR (some (.lst xs)) = some xs := (Eq.refl _).trans rfl
theorem lstAt_r {n : Nat} : lstAt (.ref n) h = lstR h[n]? := by unfold lstAt lstR; rfl
def mAddR (o u : Option MO) (h : MH) : Res MV := match o, u with | some (.lst xs), some (.lst ys) => if szOk (xs.length + ys.length) then .ok (.ref h.length) (h ++ [.lst (xs ++ ys)]) else .bad | _, _ => .bad
theorem mAdd_rr {n k : Nat} : mAdd (.ref n) (.ref k) h = mAddR h[n]? h[k]? h := by unfold mAdd mAddR; rfl
theorem mAddR_l_0  : mAddR (some (.lst xs)) (some (.lst ys)) h = if szOk (xs.length + ys.length) then .ok (.ref h.length) (h ++ [.lst (xs ++ ys)]) else .bad := rfl
theorem mAddR_l  : Gd (mAddR (some (.lst xs)) (some (.lst ys)) h) Q E = (xs.length + ys.length ≤ 1000000 ∧ Q (.ref h.length) (h ++ [.lst (xs ++ ys)])) := by
  rw [mAddR_l_0, Gd_ite, Gd_ok]
  try rfl
def walkR (o : Option MO) (n : Nat) : Option (List MV × Gs) := match o with | some (.lst xs) => some (xs, [(n, xs)]) | _ => none
theorem walk_t  : walkOf (.tup xs) h = some (xs, []) := (Eq.refl _).trans rfl
theorem walk_scr  : walkOf (.scr xs) h = some (xs, []) := (Eq.refl _).trans rfl
theorem walk_s {z : Str} : walkOf (.str z) h = some (signs z, []) := (Eq.refl _).trans rfl
theorem walk_r {n : Nat} : walkOf (.ref n) h = walkR h[n]? n := by unfold walkOf walkR; rfl
theorem walkR_l {n : Nat} : walkR (some (.lst xs)) n = some (xs, [(n, xs)]) := (Eq.refl _).trans rfl
def mInR (o : Option MO) (x : MV) (h : MH) : Res MV := match o with | some (.lst ys) => (if (flatM x && ys.all flatM) = true then .ok (.bl (ys.any fun y => eqM y x)) h else .bad) | some (.dct kvs) => (match keyOf x with | some k => .ok (.bl (valM kvs k).isSome) h | none => .bad) | _ => .bad
theorem mIn_r {n : Nat} : mIn x (.ref n) h = mInR h[n]? x h := by
  unfold mIn mInB mInR
  dsimp only
  generalize h[n]? = o
  rcases o with _ | ⟨_ | _ | _⟩ <;> dsimp only
  · generalize (flatM x && List.all _ flatM) = q; cases q <;> rfl
  · generalize keyOf x = q; cases q <;> rfl
theorem mInR_l_0  : mInR (some (.lst ys)) x h = if (flatM x && ys.all flatM) = true then .ok (.bl (ys.any fun y => eqM y x)) h else .bad := rfl
theorem mInR_l  : Gd (mInR (some (.lst ys)) x h) Q E = ((flatM x && ys.all flatM) = true ∧ Q (.bl (ys.any fun y => eqM y x)) h) := by
  rw [mInR_l_0, Gd_ite, Gd_ok]
  try rfl
theorem mIn_t_0  : mIn x (.tup ys) h = if (flatM x && ys.all flatM) = true then .ok (.bl (ys.any fun y => eqM y x)) h else .bad := by
  unfold mIn mInB
  dsimp only
  generalize (flatM x && List.all _ flatM) = q; cases q <;> rfl
theorem mIn_t  : Gd (mIn x (.tup ys) h) Q E = ((flatM x && ys.all flatM) = true ∧ Q (.bl (ys.any fun y => eqM y x)) h) := by
  rw [mIn_t_0, Gd_ite, Gd_ok]
  try rfl
theorem mNotIn_t_0  : mNotIn x (.tup ys) h = if (flatM x && ys.all flatM) = true then .ok (.bl (!ys.any fun y => eqM y x)) h else .bad := by
  unfold mNotIn mInB
  dsimp only
  generalize (flatM x && List.all _ flatM) = q; cases q <;> rfl
theorem mNotIn_t  : Gd (mNotIn x (.tup ys) h) Q E = ((flatM x && ys.all flatM) = true ∧ Q (.bl (!ys.any fun y => eqM y x)) h) := by
  rw [mNotIn_t_0, Gd_ite, Gd_ok]
  try rfl
def mNotInR (o : Option MO) (x : MV) (h : MH) : Res MV := match o with | some (.lst ys) => (if (flatM x && ys.all flatM) = true then .ok (.bl (!ys.any fun y => eqM y x)) h else .bad) | some (.dct kvs) => (match keyOf x with | some k => .ok (.bl (!(valM kvs k).isSome)) h | none => .bad) | _ => .bad
theorem mNotIn_r {n : Nat} : mNotIn x (.ref n) h = mNotInR h[n]? x h := by
  unfold mNotIn mInB mNotInR
  dsimp only
  generalize h[n]? = o
  rcases o with _ | ⟨_ | _ | _⟩ <;> dsimp only
  · generalize (flatM x && List.all _ flatM) = q; cases q <;> rfl
  · generalize keyOf x = q; cases q <;> rfl
theorem mNotInR_l_0  : mNotInR (some (.lst ys)) x h = if (flatM x && ys.all flatM) = true then .ok (.bl (!ys.any fun y => eqM y x)) h else .bad := rfl
theorem mNotInR_l  : Gd (mNotInR (some (.lst ys)) x h) Q E = ((flatM x && ys.all flatM) = true ∧ Q (.bl (!ys.any fun y => eqM y x)) h) := by
  rw [mNotInR_l_0, Gd_ite, Gd_ok]
  try rfl
theorem flatM_s {s : Str} : flatM (.str s) = true := (Eq.refl _).trans rfl
theorem flatM_i {i : Int} : flatM (.int i) = true := (Eq.refl _).trans rfl
theorem flatM_b {b : Bool} : flatM (.bl b) = true := (Eq.refl _).trans rfl
theorem flatM_n  : flatM (.non) = true := (Eq.refl _).trans rfl
theorem eqM_ss {a b : Str} : eqM (.str a) (.str b) = decide (a = b) := by simp only [eqM]; exact Bool.beq_eq_decide_eq a b
theorem eqM_ii {a b : Int} : eqM (.int a) (.int b) = decide (a = b) := by simp only [eqM]; exact Bool.beq_eq_decide_eq a b
theorem mStr_s {a : Str} : mStr [.str a] h = .ok (.str a) h := (Eq.refl _).trans rfl
theorem mInt_b {b : Bool} : mInt [.bl b] h = .ok (.int (if b then 1 else 0)) h := (Eq.refl _).trans rfl
theorem mInt_i {i : Int} : mInt [.int i] h = .ok (.int i) h := (Eq.refl _).trans rfl
def mLenQ (o : Option MO) (h : MH) : Res MV := match o with | some (.lst xs) => .ok (.int xs.length) h | some (.dct kvs) => .ok (.int kvs.length) h | _ => .bad
theorem mLen_t  : mLen [.tup xs] h = .ok (.int xs.length) h := by simp [mLen]
theorem mLen_s_0 {z : Str} : mLen [.str z] h = if szOk z.length then .ok (.int z.length) h else .bad := by simp [mLen]
theorem mLen_s {z : Str} : Gd (mLen [.str z] h) Q E = (z.length ≤ 1000000 ∧ Q (.int z.length) h) := by
  rw [mLen_s_0, Gd_ite, Gd_ok]
  try rfl
theorem mLen_r {n : Nat} : mLen [.ref n] h = mLenQ h[n]? h := by
  unfold mLen mLenQ; rfl
theorem mLenQ_l  : mLenQ (some (.lst xs)) h = .ok (.int xs.length) h := (Eq.refl _).trans rfl
theorem tyOk_s {z : Str} : tyOk "str" (.str z) h = true := by simp [tyOk]
theorem sm_cons {i : Nat} {is : List Nat} : setMany ρ (i :: is) (x :: xs) = setMany (ρ.set i (some x)) is xs := (Eq.refl _).trans rfl
theorem sm_nil  : setMany ρ [] xs = ρ := by cases xs <;> rfl
theorem tg_m {is : List Nat} : Tg.set (.many is) (.tup xs) ρ = if xs.length = is.length then some (setMany ρ is xs) else none := (Eq.refl _).trans rfl
theorem tg1 {i : Nat} : Tg.set (.one i) x ρ = some (ρ.set i (some x)) := (Eq.refl _).trans rfl
theorem lTuple_e  : lTuple xs h = .ok (.tup xs) h := (Eq.refl _).trans rfl
theorem lLen_e  : lLen xs h = .ok (.int xs.length) h := (Eq.refl _).trans rfl
theorem SX1 : type_of% (And.intro @S_nil (And.intro @S_seq (And.intro @S_ret (And.intro @S_retN (And.intro @S_break (And.intro @S_cont (And.intro @S_expr (And.intro @S_if (And.intro @S_set (And.intro @S_setF (And.intro @S_setI (And.intro @S_aug (And.intro @S_augF (And.intro @S_setT (And.intro @S_for (And.intro @S_asg (And.intro @E_c (And.intro @E_var (And.intro @E_bin (And.intro @E_un (And.intro @E_tof (And.intro @E_tand (And.intro @E_tor (And.intro @E_tnot (And.intro @E_tyes (And.intro @E_and (And.intro @E_or (And.intro @E_not (And.intro @E_if (And.intro @A_nil (And.intro @A_cons (And.intro @E_tup (And.intro @L_disp (And.intro @E_new (And.intro @E_dict0 (And.intro @E_callB (And.intro @E_callD (And.intro @E_bm (And.intro @E_meth (And.intro @E_ixL (And.intro @L_of (And.intro @L_cat (And.intro @L_catE (And.intro @L_catL (And.intro @L_comp (And.intro @P_none (And.intro @P_some (And.intro @E_sl (And.intro @E_chain (And.intro @I_of (And.intro @I_lst (And.intro @I_range1 (And.intro @I_range2 (And.intro @I_enumE (And.intro @I_enumA (And.intro @I_enumL (And.intro @I_zip2 (And.intro @P_pnil (And.intro @P_pcons (@E_disp)))))))))))))))))))))))))))))))))))))))))))))))))))))))))))) := And.intro @S_nil (And.intro @S_seq (And.intro @S_ret (And.intro @S_retN (And.intro @S_break (And.intro @S_cont (And.intro @S_expr (And.intro @S_if (And.intro @S_set (And.intro @S_setF (And.intro @S_setI (And.intro @S_aug (And.intro @S_augF (And.intro @S_setT (And.intro @S_for (And.intro @S_asg (And.intro @E_c (And.intro @E_var (And.intro @E_bin (And.intro @E_un (And.intro @E_tof (And.intro @E_tand (And.intro @E_tor (And.intro @E_tnot (And.intro @E_tyes (And.intro @E_and (And.intro @E_or (And.intro @E_not (And.intro @E_if (And.intro @A_nil (And.intro @A_cons (And.intro @E_tup (And.intro @L_disp (And.intro @E_new (And.intro @E_dict0 (And.intro @E_callB (And.intro @E_callD (And.intro @E_bm (And.intro @E_meth (And.intro @E_ixL (And.intro @L_of (And.intro @L_cat (And.intro @L_catE (And.intro @L_catL (And.intro @L_comp (And.intro @P_none (And.intro @P_some (And.intro @E_sl (And.intro @E_chain (And.intro @I_of (And.intro @I_lst (And.intro @I_range1 (And.intro @I_range2 (And.intro @I_enumE (And.intro @I_enumA (And.intro @I_enumL (And.intro @I_zip2 (And.intro @P_pnil (And.intro @P_pcons (@E_disp)))))))))))))))))))))))))))))))))))))))))))))))))))))))))))
theorem SX2 : type_of% (And.intro @kExp_ap (And.intro @kIf_t (And.intro @kIf_f (And.intro @kSet_ap (And.intro @kH_s (And.intro @kSF2_ap (And.intro @kSF1_ap (And.intro @kSI3_ap (And.intro @kSI2_ap (And.intro @kSI1_ap (And.intro @kAu1_ap (And.intro @kAu_s (And.intro @kAF_ap (And.intro @kT_s (And.intro @kST_ap (And.intro @kFo_ap (And.intro @kAs_ap (And.intro @kV_s (And.intro @kB2_ap (And.intro @kB1_ap (And.intro @kU_ap (And.intro @kAsB_ap (And.intro @kTA_t (And.intro @kTA_f (And.intro @kTO_t (And.intro @kTO_f (And.intro @kTN_ap (And.intro @kAnd_t (And.intro @kAnd_f (And.intro @kOr_t (And.intro @kOr_f (And.intro @kNot_ap (And.intro @kEI_t (And.intro @kEI_f (And.intro @kA2_ap (And.intro @kA1_ap (And.intro @kTup_ap (And.intro @kDis_ap (And.intro @kNew_ap (And.intro @kCB_ap (And.intro @kCD_ap (And.intro @kM2_ap (And.intro @kM1_ap (And.intro @kMe3_ap (And.intro @kMe2_s (And.intro @kMe1_ap (And.intro @kIL2_ap (And.intro @kIL1_ap (And.intro @kO_s (And.intro @kLO_ap (And.intro @kCa2_ap (And.intro @kCa1_ap (And.intro @kCE3_s (And.intro @kCE2_ap (And.intro @kCE1_ap (And.intro @kCL3_s (And.intro @kCL2_ap (And.intro @kCL1_ap (And.intro @kCo_ap (And.intro @kPS_ap (And.intro @kSl3_ap (And.intro @kSl2_ap (And.intro @kSl1_ap (And.intro @kCh3_t (And.intro @kCh3_f (And.intro @kCh2_ap (And.intro @kCh1_ap (And.intro @kIO_ap (And.intro @kIL_ap (And.intro @kR1_ap (And.intro @kR2_ap (And.intro @kEn2_s (And.intro @kEn_ap (And.intro @kEA_r (And.intro @kEA_s (And.intro @kEnL_ap (And.intro @kZi_ap (And.intro @kP3_ap (And.intro @kP2_ap (And.intro @kP1_ap (And.intro @kDi2_s (And.intro @kDi_ap (And.intro @mAdd_ii (And.intro @mSub_ii (And.intro @mIadd_ii (And.intro @mAdd_ss (And.intro @mIadd_ss (And.intro @mAdd_tt (And.intro @mMod_ii (And.intro @mDiv_ii (And.intro @mLt_ii (And.intro @mLe_ii (And.intro @mGt_ii (And.intro @mGe_ii (And.intro @mEq_ii (And.intro @mEq_ss (And.intro @mEq_bb (And.intro @mNe_ii (And.intro @mNe_ss (And.intro @mNe_bb (And.intro @mIs_n (And.intro @mIsNot_n (And.intro @noneM_n (And.intro @noneM_i (And.intro @noneM_s (And.intro @noneM_t (And.intro @noneM_b (And.intro @noneM_r (And.intro @mIxR_l (And.intro @mIxR_d (And.intro @mIx_r (And.intro @mIx_t (And.intro @mIx_scr (And.intro @mIx_s (And.intro @ixL_i (And.intro @optR_s (And.intro @lstR_l (And.intro @lstAt_r (And.intro @mAdd_rr (And.intro @mAddR_l (And.intro @walk_t (And.intro @walk_scr (And.intro @walk_s (And.intro @walk_r (And.intro @walkR_l (And.intro @mIn_r (And.intro @mInR_l (And.intro @mIn_t (And.intro @mNotIn_t (And.intro @mNotIn_r (And.intro @mNotInR_l (And.intro @flatM_s (And.intro @flatM_i (And.intro @flatM_b (And.intro @flatM_n (And.intro @eqM_ss (And.intro @eqM_ii (And.intro @mStr_s (And.intro @mInt_b (And.intro @mInt_i (And.intro @mLen_t (And.intro @mLen_s (And.intro @mLen_r (And.intro @mLenQ_l (And.intro @tyOk_s (And.intro @sm_cons (And.intro @sm_nil (And.intro @tg_m (And.intro @tg1 (And.intro @lTuple_e (And.intro @lLen_e (And.intro @kNext_n (And.intro @kNext_r (And.intro @kNext_b (And.intro @kNext_c (And.intro @kNext_e (And.intro @kE_next (And.intro @kE_ap (And.intro @kI_n (And.intro @kI_r (And.intro @kI_b (And.intro @kI_c (And.intro @kI_e (And.intro @kW_n (And.intro @kW_r (And.intro @kW_b (And.intro @kW_c (And.intro @kW_e (And.intro @kT2_t (And.intro @kT2_f (And.intro @kC1_t (And.intro @kC1_f (And.intro @kC2_ap (And.intro @kFun_n (And.intro @kFun_r (And.intro @Gd_ok (And.intro @Gd_ex (And.intro @Gd_ite (And.intro @Sd_nx (@Sd_rt)))))))))))))))))))))))))))))))))))))))))))))))))))))))))))))))))))))))))))))))))))))))))))))))))))))))))))))))))))))))))))))))))))))))))))))))))))))))))))))))))))))))))))))))))))) := And.intro @kExp_ap (And.intro @kIf_t (And.intro @kIf_f (And.intro @kSet_ap (And.intro @kH_s (And.intro @kSF2_ap (And.intro @kSF1_ap (And.intro @kSI3_ap (And.intro @kSI2_ap (And.intro @kSI1_ap (And.intro @kAu1_ap (And.intro @kAu_s (And.intro @kAF_ap (And.intro @kT_s (And.intro @kST_ap (And.intro @kFo_ap (And.intro @kAs_ap (And.intro @kV_s (And.intro @kB2_ap (And.intro @kB1_ap (And.intro @kU_ap (And.intro @kAsB_ap (And.intro @kTA_t (And.intro @kTA_f (And.intro @kTO_t (And.intro @kTO_f (And.intro @kTN_ap (And.intro @kAnd_t (And.intro @kAnd_f (And.intro @kOr_t (And.intro @kOr_f (And.intro @kNot_ap (And.intro @kEI_t (And.intro @kEI_f (And.intro @kA2_ap (And.intro @kA1_ap (And.intro @kTup_ap (And.intro @kDis_ap (And.intro @kNew_ap (And.intro @kCB_ap (And.intro @kCD_ap (And.intro @kM2_ap (And.intro @kM1_ap (And.intro @kMe3_ap (And.intro @kMe2_s (And.intro @kMe1_ap (And.intro @kIL2_ap (And.intro @kIL1_ap (And.intro @kO_s (And.intro @kLO_ap (And.intro @kCa2_ap (And.intro @kCa1_ap (And.intro @kCE3_s (And.intro @kCE2_ap (And.intro @kCE1_ap (And.intro @kCL3_s (And.intro @kCL2_ap (And.intro @kCL1_ap (And.intro @kCo_ap (And.intro @kPS_ap (And.intro @kSl3_ap (And.intro @kSl2_ap (And.intro @kSl1_ap (And.intro @kCh3_t (And.intro @kCh3_f (And.intro @kCh2_ap (And.intro @kCh1_ap (And.intro @kIO_ap (And.intro @kIL_ap (And.intro @kR1_ap (And.intro @kR2_ap (And.intro @kEn2_s (And.intro @kEn_ap (And.intro @kEA_r (And.intro @kEA_s (And.intro @kEnL_ap (And.intro @kZi_ap (And.intro @kP3_ap (And.intro @kP2_ap (And.intro @kP1_ap (And.intro @kDi2_s (And.intro @kDi_ap (And.intro @mAdd_ii (And.intro @mSub_ii (And.intro @mIadd_ii (And.intro @mAdd_ss (And.intro @mIadd_ss (And.intro @mAdd_tt (And.intro @mMod_ii (And.intro @mDiv_ii (And.intro @mLt_ii (And.intro @mLe_ii (And.intro @mGt_ii (And.intro @mGe_ii (And.intro @mEq_ii (And.intro @mEq_ss (And.intro @mEq_bb (And.intro @mNe_ii (And.intro @mNe_ss (And.intro @mNe_bb (And.intro @mIs_n (And.intro @mIsNot_n (And.intro @noneM_n (And.intro @noneM_i (And.intro @noneM_s (And.intro @noneM_t (And.intro @noneM_b (And.intro @noneM_r (And.intro @mIxR_l (And.intro @mIxR_d (And.intro @mIx_r (And.intro @mIx_t (And.intro @mIx_scr (And.intro @mIx_s (And.intro @ixL_i (And.intro @optR_s (And.intro @lstR_l (And.intro @lstAt_r (And.intro @mAdd_rr (And.intro @mAddR_l (And.intro @walk_t (And.intro @walk_scr (And.intro @walk_s (And.intro @walk_r (And.intro @walkR_l (And.intro @mIn_r (And.intro @mInR_l (And.intro @mIn_t (And.intro @mNotIn_t (And.intro @mNotIn_r (And.intro @mNotInR_l (And.intro @flatM_s (And.intro @flatM_i (And.intro @flatM_b (And.intro @flatM_n (And.intro @eqM_ss (And.intro @eqM_ii (And.intro @mStr_s (And.intro @mInt_b (And.intro @mInt_i (And.intro @mLen_t (And.intro @mLen_s (And.intro @mLen_r (And.intro @mLenQ_l (And.intro @tyOk_s (And.intro @sm_cons (And.intro @sm_nil (And.intro @tg_m (And.intro @tg1 (And.intro @lTuple_e (And.intro @lLen_e (And.intro @kNext_n (And.intro @kNext_r (And.intro @kNext_b (And.intro @kNext_c (And.intro @kNext_e (And.intro @kE_next (And.intro @kE_ap (And.intro @kI_n (And.intro @kI_r (And.intro @kI_b (And.intro @kI_c (And.intro @kI_e (And.intro @kW_n (And.intro @kW_r (And.intro @kW_b (And.intro @kW_c (And.intro @kW_e (And.intro @kT2_t (And.intro @kT2_f (And.intro @kC1_t (And.intro @kC1_f (And.intro @kC2_ap (And.intro @kFun_n (And.intro @kFun_r (And.intro @Gd_ok (And.intro @Gd_ex (And.intro @Gd_ite (And.intro @Sd_nx (@Sd_rt)))))))))))))))))))))))))))))))))))))))))))))))))))))))))))))))))))))))))))))))))))))))))))))))))))))))))))))))))))))))))))))))))))))))))))))))))))))))))))))))))))))))))))))))))))
end Sm

set_option Elab.async false
set_option linter.all false
set_option maxRecDepth 100000
set_option maxHeartbeats 4000000
/-! rows for what the sweeps need -/
namespace Sm
open PySem L2
variable {α β : Type} {Q : MV → MH → Prop} {QB : Bool → MH → Prop} {QA : List MV → MH → Prop} {E : EK} {D : SW4} {ρ : MS} {h : MH} {x y v : MV} {xs ys : List MV}
def kWk (Q : MV → MH → Prop) : MV → MH → Prop := fun x h => Q (wkM x) h
theorem kWk_ap : kWk Q x h = Q (wkM x) h := (Eq.refl _).trans rfl
theorem E_wk {m : ME} : Gd (eWk m ρ h) Q E = Gd (m ρ h) (kWk Q) E := by unfold eWk; simp only [Gd_bind, Gd_ok]; rfl
theorem wk_tux : wkM (.tux xs) = .tup xs := (Eq.refl _).trans rfl
theorem wk_tup : wkM (.tup xs) = .tup xs := (Eq.refl _).trans rfl
theorem isi_tt : mIsi "tuple" (.tup xs) h = .ok (.bl true) h := by unfold mIsi; simp [tyName, isiB]
theorem isi_tx : mIsi "tuple" (.tux xs) h = .ok (.bl true) h := by unfold mIsi; simp [tyName, isiB]
theorem isi_ts {s : Str} : mIsi "tuple" (.str s) h = .ok (.bl false) h := by unfold mIsi; simp [tyName, isiB]
theorem isi_ti {i : Int} : mIsi "tuple" (.int i) h = .ok (.bl false) h := by unfold mIsi; simp [tyName, isiB]
theorem isi_tb {b : Bool} : mIsi "tuple" (.bl b) h = .ok (.bl false) h := by unfold mIsi; simp [tyName, isiB]
theorem isi_tn : mIsi "tuple" .non h = .ok (.bl false) h := by unfold mIsi; simp [tyName, isiB]
theorem isi_it : mIsi "int" (.tup xs) h = .ok (.bl false) h := by unfold mIsi; simp [tyName, isiB]
theorem isi_is {s : Str} : mIsi "int" (.str s) h = .ok (.bl false) h := by unfold mIsi; simp [tyName, isiB]
theorem isi_ii {i : Int} : mIsi "int" (.int i) h = .ok (.bl true) h := by unfold mIsi; simp [tyName, isiB]
theorem isi_ib {b : Bool} : mIsi "int" (.bl b) h = .ok (.bl true) h := by unfold mIsi; simp [tyName, isiB]
theorem isi_in : mIsi "int" .non h = .ok (.bl false) h := by unfold mIsi; simp [tyName, isiB]
theorem isi_bt : mIsi "bool" (.tup xs) h = .ok (.bl false) h := by unfold mIsi; simp [tyName, isiB]
theorem isi_bs {s : Str} : mIsi "bool" (.str s) h = .ok (.bl false) h := by unfold mIsi; simp [tyName, isiB]
theorem isi_bi {i : Int} : mIsi "bool" (.int i) h = .ok (.bl false) h := by unfold mIsi; simp [tyName, isiB]
theorem isi_bb {b : Bool} : mIsi "bool" (.bl b) h = .ok (.bl true) h := by unfold mIsi; simp [tyName, isiB]
theorem isi_bn : mIsi "bool" .non h = .ok (.bl false) h := by unfold mIsi; simp [tyName, isiB]
theorem isi_st : mIsi "str" (.tup xs) h = .ok (.bl false) h := by unfold mIsi; simp [tyName, isiB]
theorem isi_ss {s : Str} : mIsi "str" (.str s) h = .ok (.bl true) h := by unfold mIsi; simp [tyName, isiB]
theorem isi_si {i : Int} : mIsi "str" (.int i) h = .ok (.bl false) h := by unfold mIsi; simp [tyName, isiB]
theorem isi_sb {b : Bool} : mIsi "str" (.bl b) h = .ok (.bl false) h := by unfold mIsi; simp [tyName, isiB]
theorem isi_sn : mIsi "str" .non h = .ok (.bl false) h := by unfold mIsi; simp [tyName, isiB]
theorem mIx_f {ks : List Key} : mIx (.fdc ks xs) y h = ixD (ks.zip xs) y h := (Eq.refl _).trans rfl
theorem ixD_i {kvs : List (Key × MV)} {i : Int} : ixD kvs (.int i) h = optR (valM kvs (.inl i)) h := (Eq.refl _).trans rfl
theorem mIn_f {ks : List Key} {i : Int} : mIn (.int i) (.fdc ks xs) h = .ok (.bl (valM (ks.zip xs) (.inl i)).isSome) h := (Eq.refl _).trans rfl
theorem mNotIn_f {ks : List Key} {i : Int} : mNotIn (.int i) (.fdc ks xs) h = .ok (.bl (!(valM (ks.zip xs) (.inl i)).isSome)) h := (Eq.refl _).trans rfl
theorem mInR_d {kvs : List (Key × MV)} {i : Int} : mInR (some (.dct kvs)) (.int i) h = .ok (.bl (valM kvs (.inl i)).isSome) h := (Eq.refl _).trans rfl
theorem mLen_f {ks : List Key} : mLen [.fdc ks xs] h = .ok (.int ks.length) h := (Eq.refl _).trans rfl
theorem mLen_d {kvs : List (Key × MV)} : mLenQ (some (.dct kvs)) h = .ok (.int kvs.length) h := (Eq.refl _).trans rfl
def kKO (QA : List MV → MH → Prop) : MV → MH → Prop := fun x h => kO (keysOf x h) h fun ks h => QA (ks.map kM) h
theorem kKO_ap : kKO QA x h = kO (keysOf x h) h fun ks h => QA (ks.map kM) h := (Eq.refl _).trans rfl
theorem L_ofD {m : ME} : Gd (lOfD m ρ h) QA E = Gd (m ρ h) (kKO QA) E := by
  unfold lOfD
  rw [Gd_bind]
  congr
  funext x h1
  unfold kKO
  generalize keysOf x h1 = o
  cases o
  · simp only [Gd_bad]; rfl
  · simp only [Gd_ok]; rfl
theorem keysOf_r {n : Nat} : keysOf (.ref n) h = keysR h[n]? := (Eq.refl _).trans rfl
theorem keysOf_f {ks : List Key} : keysOf (.fdc ks xs) h = some ks := (Eq.refl _).trans rfl
theorem keysR_d {kvs : List (Key × MV)} : keysR (some (.dct kvs)) = some (kvs.map (·.1)) := (Eq.refl _).trans rfl
def kIK (QI : List MV × Gs → MH → Prop) : MV → MH → Prop := fun x h => match x with | .fdc ks _ => QI (ks.map kM, []) h | _ => False
theorem kIK_f {QI : List MV × Gs → MH → Prop} {ks : List Key} : kIK QI (.fdc ks xs) h = QI (ks.map kM, []) h := (Eq.refl _).trans rfl
theorem I_key {m : ME} {QI : List MV × Gs → MH → Prop} : Gd (iKey m ρ h) QI E = Gd (m ρ h) (kIK QI) E := by
  unfold iKey
  rw [Gd_bind]
  congr
  funext x h1
  unfold kIK
  split <;> simp only [Gd_ok, Gd_bad]
def kZG (QI : List MV × Gs → MH → Prop) (E : EK) : List MV → MH → Prop := fun xs h => match xs with
  | [.tup xs, .tup ys] => QI (zipM xs ys, []) h
  | [.ref n, .ref k] => Gd (zipR h[n]? h[k]? n k h) QI E
  | _ => False
theorem kZG_t {QI : List MV × Gs → MH → Prop} : kZG QI E [.tup xs, .tup ys] h = QI (zipM xs ys, []) h := (Eq.refl _).trans rfl
theorem kZG_r {QI : List MV × Gs → MH → Prop} {n k : Nat} : kZG QI E [.ref n, .ref k] h = Gd (zipR h[n]? h[k]? n k h) QI E := (Eq.refl _).trans rfl
theorem zipR_l {n k : Nat} : zipR (some (.lst xs)) (some (.lst ys)) n k h = .ok (zipM xs ys, [(n, xs), (k, ys)]) h := (Eq.refl _).trans rfl
theorem I_zipG {ms : MA} {QI : List MV × Gs → MH → Prop} : Gd (iZipG ms ρ h) QI E = Gd (ms ρ h) (kZG QI E) E := by
  unfold iZipG
  rw [Gd_bind]
  congr
  funext x h1
  unfold kZG
  split <;> simp only [Gd_ok, Gd_bad]
theorem mTupX_r {n : Nat} {h : MH} (e : h[n]? = some (.lst xs)) : mTupX [.ref n] h = .ok (.tux xs) h := by
  unfold mTupX lstAt; simp only [e]
theorem mTuple_r {n : Nat} {h : MH} (e : h[n]? = some (.lst xs)) : mTuple [.ref n] h = .ok (.tup xs) h := by
  unfold mTuple itemsOf; simp only [e]
theorem mSl_t {lo hi : Option Int} : mSl (.tup xs) lo hi h = .ok (.tup (cutM xs lo hi)) h := (Eq.refl _).trans rfl
theorem mSl_l {lo hi : Option Int} {n : Nat} (e : h[n]? = some (.lst xs)) : mSl (.ref n) lo hi h = .ok (.ref h.length) (h ++ [.lst (cutM xs lo hi)]) := by
  unfold mSl; simp only [e]
theorem mSl_scr {lo hi : Option Int} : mSl (.scr xs) lo hi h = .ok (.ref h.length) (h ++ [.lst (cutM xs lo hi)]) := (Eq.refl _).trans rfl
theorem lAll_b {us : List β} {f : β → Bool} : lAll (us.map fun u => .bl (f u)) h = .ok (.bl (us.all f)) h := by
  have e : (us.map fun u => MV.bl (f u)) = (us.map f).map MV.bl := by rw [List.map_map]; rfl
  unfold lAll
  rw [e, bools_map]
  simp [List.all_map, Function.comp_def]
theorem nc1 : ((1 : Nat) : Int) = 1 := (Eq.refl _).trans rfl
theorem nc2 : ((2 : Nat) : Int) = 2 := (Eq.refl _).trans rfl
theorem nc3 : ((3 : Nat) : Int) = 3 := (Eq.refl _).trans rfl
theorem nc4 : ((4 : Nat) : Int) = 4 := (Eq.refl _).trans rfl
theorem nc5 : ((5 : Nat) : Int) = 5 := (Eq.refl _).trans rfl
theorem nc6 : ((6 : Nat) : Int) = 6 := (Eq.refl _).trans rfl
theorem nc7 : ((7 : Nat) : Int) = 7 := (Eq.refl _).trans rfl
theorem nc8 : ((8 : Nat) : Int) = 8 := (Eq.refl _).trans rfl
theorem nc9 : ((9 : Nat) : Int) = 9 := (Eq.refl _).trans rfl
theorem nc12 : ((12 : Nat) : Int) = 12 := (Eq.refl _).trans rfl
theorem SV1 : type_of% (And.intro @E_wk (And.intro @L_ofD (And.intro @I_key @I_zipG))) := And.intro @E_wk (And.intro @L_ofD (And.intro @I_key @I_zipG))
theorem SV2 : type_of% (And.intro @kWk_ap (And.intro @wk_tux (And.intro @wk_tup (And.intro @isi_tt (And.intro @isi_tx (And.intro @isi_ts (And.intro @isi_ti (And.intro @isi_tb (And.intro @isi_tn (And.intro @isi_it (And.intro @isi_is (And.intro @isi_ii (And.intro @isi_ib (And.intro @isi_in (And.intro @isi_bt (And.intro @isi_bs (And.intro @isi_bi (And.intro @isi_bb (And.intro @isi_bn (And.intro @isi_st (And.intro @isi_ss (And.intro @isi_si (And.intro @isi_sb (And.intro @isi_sn (And.intro @mIx_f (And.intro @ixD_i (And.intro @mIn_f (And.intro @mNotIn_f (And.intro @mInR_d (And.intro @mLen_f (And.intro @mLen_d (And.intro @kKO_ap (And.intro @keysOf_r (And.intro @keysOf_f (And.intro @keysR_d (And.intro @kIK_f (And.intro @kZG_t (And.intro @kZG_r (And.intro @zipR_l (And.intro @mSl_t (And.intro @nc1 (And.intro @nc2 (And.intro @nc3 (And.intro @nc4 (And.intro @nc5 (And.intro @nc6 (And.intro @nc7 (And.intro @nc8 (And.intro @nc9 (@nc12)))))))))))))))))))))))))))))))))))))))))))))))))) := (And.intro @kWk_ap (And.intro @wk_tux (And.intro @wk_tup (And.intro @isi_tt (And.intro @isi_tx (And.intro @isi_ts (And.intro @isi_ti (And.intro @isi_tb (And.intro @isi_tn (And.intro @isi_it (And.intro @isi_is (And.intro @isi_ii (And.intro @isi_ib (And.intro @isi_in (And.intro @isi_bt (And.intro @isi_bs (And.intro @isi_bi (And.intro @isi_bb (And.intro @isi_bn (And.intro @isi_st (And.intro @isi_ss (And.intro @isi_si (And.intro @isi_sb (And.intro @isi_sn (And.intro @mIx_f (And.intro @ixD_i (And.intro @mIn_f (And.intro @mNotIn_f (And.intro @mInR_d (And.intro @mLen_f (And.intro @mLen_d (And.intro @kKO_ap (And.intro @keysOf_r (And.intro @keysOf_f (And.intro @keysR_d (And.intro @kIK_f (And.intro @kZG_t (And.intro @kZG_r (And.intro @zipR_l (And.intro @mSl_t (And.intro @nc1 (And.intro @nc2 (And.intro @nc3 (And.intro @nc4 (And.intro @nc5 (And.intro @nc6 (And.intro @nc7 (And.intro @nc8 (And.intro @nc9 (@nc12))))))))))))))))))))))))))))))))))))))))))))))))))
end Sm

set_option Elab.async false
set_option linter.all false
set_option maxRecDepth 100000
set_option maxHeartbeats 8000000
namespace My
open PySem L2 Sm
/-! ### worths, cells -/
inductive Wt where
  | cell (a : Int) | non | bl (b : Bool) | int (i : Int) | str (s : Str)
def Wt.mv : Wt → MV
  | .cell a => .tup [.str "cell", .int a]
  | .non => .non
  | .bl b => .bl b
  | .int i => .int i
  | .str s => .str s
def oW : Option Int → Wt | none => .non | some a => .cell a
def mvs (ws : List Wt) : MV := .tup (ws.map Wt.mv)
inductive Ce where
  | thing (k : Str) (ws : List Wt) | block (i j a b : Int) | names (ws : List Wt) (o : Option Int) | list (ws : List Wt)
def Ce.mv : Ce → MV
  | .thing k ws => .tup [.str "thing", .str k, mvs ws]
  | .block i j a b => .tup [.str "block", .int i, .int j, (Wt.cell a).mv, (Wt.cell b).mv]
  | .names ws o => .tup [.str "names", mvs ws, (oW o).mv]
  | .list ws => .tup [.str "list", mvs ws]
def Ce.parts : Ce → List Wt
  | .thing _ ws => ws
  | .block _ _ a b => [.cell a, .cell b]
  | .names ws o => ws ++ [oW o]
  | .list ws => ws
/-! ### what is looked at -/
def inSg (sg : Str) (c : Nat) : Bool := !(Builtin.Str.occurrences sg ⟨#[c]⟩ 0 sg.length 1).isEmpty
theorem mIn_sg {c : Nat} {sg : Str} {h : MH} : mIn (.str ⟨#[c]⟩) (.str sg) h = .ok (.bl (inSg sg c)) h := rfl
def madeOf (t sg : Str) (lo hi : Int) : Bool := decide (lo ≤ (t.length : Int)) && (decide ((t.length : Int) ≤ hi) && t.cps.toList.all (inSg sg))
theorem made_ok (t sg : Str) (lo hi : Int) (hz : t.length ≤ 1000000) (H : MH) : m_is_made_of [.str t, .str sg, .int lo, .int hi] H = .ok (.bl (madeOf t sg lo hi)) H := by
  unfold m_is_made_of
  refine e_fun rfl ?_
  unfold b_is_made_of madeOf
  by_cases h1 : lo ≤ (t.length : Int)
  · by_cases h2 : (t.length : Int) ≤ hi
    · simp only [↓SX1, SX2, ↓SV1, SV2, List.getElem?_cons_zero, List.getElem?_cons_succ, List.set_cons_zero, List.set_cons_succ, List.map_cons, List.map_nil, List.cons_append, List.nil_append, List.append_nil, List.replicate_succ, List.replicate_zero, List.length_cons, List.length_nil, if_true, if_false, true_and, and_true, and_self, Nat.zero_add, Int.natCast_zero, i0, i1, i2, i3, i4, decide_true, decide_false, Bool.not_true, Bool.not_false, ofString_inj, gt_iff_lt, List.all_cons, List.all_nil, List.any_cons, List.any_nil, Bool.and_true, Bool.true_and, Bool.and_self, Bool.or_false, Bool.false_or, Bool.or_true, Bool.true_or, szOk, mNeg, wipeM, ↓reduceIte, Nat.reduceAdd, Nat.reduceSub, Nat.reduceLeDiff, Int.reduceLT, Int.reduceLE, Int.reduceNeg, Int.reduceAdd, Int.reduceSub, Int.reducePow, Int.reduceEq, Int.reduceLT, Int.reduceMod, Int.reduceDiv, Int.reduceMul, Int.reduceToNat, String.reduceEq, reduceCtorEq, h1, h2, hz, walk_s]
      refine ⟨?_, ?_⟩
      · have : (signs t).length = t.length := by unfold signs; rw [List.length_map]; rfl
        omega
      · unfold signs
        refine s_compE (ef := fun c => .bl (inSg sg c)) (by simp) (fun c hc => ⟨_, rfl, ?_⟩) ?_
        · exact Gd.eq (by simp only [↓SX1, SX2, ↓SV1, SV2, List.getElem?_cons_zero, List.getElem?_cons_succ, List.set_cons_zero, List.set_cons_succ, List.map_cons, List.map_nil, List.cons_append, List.nil_append, List.append_nil, List.replicate_succ, List.replicate_zero, List.length_cons, List.length_nil, if_true, if_false, true_and, and_true, and_self, Nat.zero_add, Int.natCast_zero, i0, i1, i2, i3, i4, decide_true, decide_false, Bool.not_true, Bool.not_false, ofString_inj, gt_iff_lt, List.all_cons, List.all_nil, List.any_cons, List.any_nil, Bool.and_true, Bool.true_and, Bool.and_self, Bool.or_false, Bool.false_or, Bool.or_true, Bool.true_or, szOk, mNeg, wipeM, ↓reduceIte, Nat.reduceAdd, Nat.reduceSub, Nat.reduceLeDiff, Int.reduceLT, Int.reduceLE, Int.reduceNeg, Int.reduceAdd, Int.reduceSub, Int.reducePow, Int.reduceEq, Int.reduceLT, Int.reduceMod, Int.reduceDiv, Int.reduceMul, Int.reduceToNat, String.reduceEq, reduceCtorEq, mIn_sg]; exact ⟨rfl, rfl⟩)
        · simp only [↓SX1, SX2, ↓SV1, SV2, List.getElem?_cons_zero, List.getElem?_cons_succ, List.set_cons_zero, List.set_cons_succ, List.map_cons, List.map_nil, List.cons_append, List.nil_append, List.append_nil, List.replicate_succ, List.replicate_zero, List.length_cons, List.length_nil, if_true, if_false, true_and, and_true, and_self, Nat.zero_add, Int.natCast_zero, i0, i1, i2, i3, i4, decide_true, decide_false, Bool.not_true, Bool.not_false, ofString_inj, gt_iff_lt, List.all_cons, List.all_nil, List.any_cons, List.any_nil, Bool.and_true, Bool.true_and, Bool.and_self, Bool.or_false, Bool.false_or, Bool.or_true, Bool.true_or, szOk, mNeg, wipeM, ↓reduceIte, Nat.reduceAdd, Nat.reduceSub, Nat.reduceLeDiff, Int.reduceLT, Int.reduceLE, Int.reduceNeg, Int.reduceAdd, Int.reduceSub, Int.reducePow, Int.reduceEq, Int.reduceLT, Int.reduceMod, Int.reduceDiv, Int.reduceMul, Int.reduceToNat, String.reduceEq, reduceCtorEq, lAll_b]
          exact ⟨rfl, gc_len rfl⟩
    · simp only [↓SX1, SX2, ↓SV1, SV2, List.getElem?_cons_zero, List.getElem?_cons_succ, List.set_cons_zero, List.set_cons_succ, List.map_cons, List.map_nil, List.cons_append, List.nil_append, List.append_nil, List.replicate_succ, List.replicate_zero, List.length_cons, List.length_nil, if_true, if_false, true_and, and_true, and_self, Nat.zero_add, Int.natCast_zero, i0, i1, i2, i3, i4, decide_true, decide_false, Bool.not_true, Bool.not_false, ofString_inj, gt_iff_lt, List.all_cons, List.all_nil, List.any_cons, List.any_nil, Bool.and_true, Bool.true_and, Bool.and_self, Bool.or_false, Bool.false_or, Bool.or_true, Bool.true_or, szOk, mNeg, wipeM, ↓reduceIte, Nat.reduceAdd, Nat.reduceSub, Nat.reduceLeDiff, Int.reduceLT, Int.reduceLE, Int.reduceNeg, Int.reduceAdd, Int.reduceSub, Int.reducePow, Int.reduceEq, Int.reduceLT, Int.reduceMod, Int.reduceDiv, Int.reduceMul, Int.reduceToNat, String.reduceEq, reduceCtorEq, h1, h2, hz]
      exact ⟨rfl, gc_len rfl⟩
  · simp only [↓SX1, SX2, ↓SV1, SV2, List.getElem?_cons_zero, List.getElem?_cons_succ, List.set_cons_zero, List.set_cons_succ, List.map_cons, List.map_nil, List.cons_append, List.nil_append, List.append_nil, List.replicate_succ, List.replicate_zero, List.length_cons, List.length_nil, if_true, if_false, true_and, and_true, and_self, Nat.zero_add, Int.natCast_zero, i0, i1, i2, i3, i4, decide_true, decide_false, Bool.not_true, Bool.not_false, ofString_inj, gt_iff_lt, List.all_cons, List.all_nil, List.any_cons, List.any_nil, Bool.and_true, Bool.true_and, Bool.and_self, Bool.or_false, Bool.false_or, Bool.or_true, Bool.true_or, szOk, mNeg, wipeM, ↓reduceIte, Nat.reduceAdd, Nat.reduceSub, Nat.reduceLeDiff, Int.reduceLT, Int.reduceLE, Int.reduceNeg, Int.reduceAdd, Int.reduceSub, Int.reducePow, Int.reduceEq, Int.reduceLT, Int.reduceMod, Int.reduceDiv, Int.reduceMul, Int.reduceToNat, String.reduceEq, reduceCtorEq, h1, hz]
    exact ⟨rfl, gc_len rfl⟩
def sgK : Str := ("abcdefghijklmnopqrstuvwxyz" ++ "ABCDEFGHIJKLMNOPQRSTUVWXYZ") ++ "0123456789"
def sgT : Str := sgK ++ "_"
theorem ad1 {h : MH} : mAdd (.str "abcdefghijklmnopqrstuvwxyz") (.str "ABCDEFGHIJKLMNOPQRSTUVWXYZ") h = .ok (.str ("abcdefghijklmnopqrstuvwxyz" ++ "ABCDEFGHIJKLMNOPQRSTUVWXYZ")) h := by
  rw [mAdd_ss_0, if_pos (by decide +kernel)]
theorem ad2 {h : MH} : mAdd (.str ("abcdefghijklmnopqrstuvwxyz" ++ "ABCDEFGHIJKLMNOPQRSTUVWXYZ")) (.str "0123456789") h = .ok (.str sgK) h := by
  rw [mAdd_ss_0, if_pos (by decide +kernel)]; rfl
theorem ad3 {h : MH} : mAdd (.str sgK) (.str "_") h = .ok (.str sgT) h := by
  rw [mAdd_ss_0, if_pos (by decide +kernel)]; rfl
def textB (s : Str) : Bool := madeOf s sgT 0 40
theorem text_ok (s : Str) (hz : s.length ≤ 1000000) (H : MH) : m_is_text [.str s] H = .ok (.bl (textB s)) H := by
  unfold m_is_text
  refine e_fun rfl ?_
  unfold b_is_text
  simp only [↓SX1, SX2, ↓SV1, SV2, List.getElem?_cons_zero, List.getElem?_cons_succ, List.set_cons_zero, List.set_cons_succ, List.map_cons, List.map_nil, List.cons_append, List.nil_append, List.append_nil, List.replicate_succ, List.replicate_zero, List.length_cons, List.length_nil, if_true, if_false, true_and, and_true, and_self, Nat.zero_add, Int.natCast_zero, i0, i1, i2, i3, i4, decide_true, decide_false, Bool.not_true, Bool.not_false, ofString_inj, gt_iff_lt, List.all_cons, List.all_nil, List.any_cons, List.any_nil, Bool.and_true, Bool.true_and, Bool.and_self, Bool.or_false, Bool.false_or, Bool.or_true, Bool.true_or, szOk, mNeg, wipeM, ↓reduceIte, Nat.reduceAdd, Nat.reduceSub, Nat.reduceLeDiff, Int.reduceLT, Int.reduceLE, Int.reduceNeg, Int.reduceAdd, Int.reduceSub, Int.reducePow, Int.reduceEq, Int.reduceLT, Int.reduceMod, Int.reduceDiv, Int.reduceMul, Int.reduceToNat, String.reduceEq, reduceCtorEq, ad1, ad2, ad3, made_ok _ _ _ _ hz]
  exact ⟨rfl, gc_len rfl⟩
def kindB (s : Str) : Bool := inStr (cutS s none (some 1)) "ABCDEFGHIJKLMNOPQRSTUVWXYZ" && madeOf s sgK 1 12
where inStr (w z : Str) : Bool := !(Builtin.Str.occurrences z w 0 z.length 1).isEmpty
theorem kind_ok (s : Str) (hz : s.length ≤ 1000000) (H : MH) : m_is_kind_name [.str s] H = .ok (.bl (kindB s)) H := by
  unfold m_is_kind_name
  refine e_fun rfl ?_
  unfold b_is_kind_name
  have e1 : mSl (.str s) none (some 1) H = .ok (.str (cutS s none (some 1))) H := by
    unfold mSl; dsimp only; rw [if_pos (by unfold szOk; exact hz)]
  have e2 : mIn (.str (cutS s none (some 1))) (.str "ABCDEFGHIJKLMNOPQRSTUVWXYZ") H = .ok (.bl (kindB.inStr (cutS s none (some 1)) "ABCDEFGHIJKLMNOPQRSTUVWXYZ")) H := rfl
  unfold kindB
  cases hb : kindB.inStr (cutS s none (some 1)) "ABCDEFGHIJKLMNOPQRSTUVWXYZ"
  · rw [hb] at e2
    simp only [↓SX1, SX2, ↓SV1, SV2, List.getElem?_cons_zero, List.getElem?_cons_succ, List.set_cons_zero, List.set_cons_succ, List.map_cons, List.map_nil, List.cons_append, List.nil_append, List.append_nil, List.replicate_succ, List.replicate_zero, List.length_cons, List.length_nil, if_true, if_false, true_and, and_true, and_self, Nat.zero_add, Int.natCast_zero, i0, i1, i2, i3, i4, decide_true, decide_false, Bool.not_true, Bool.not_false, ofString_inj, gt_iff_lt, List.all_cons, List.all_nil, List.any_cons, List.any_nil, Bool.and_true, Bool.true_and, Bool.and_self, Bool.or_false, Bool.false_or, Bool.or_true, Bool.true_or, szOk, mNeg, wipeM, ↓reduceIte, Nat.reduceAdd, Nat.reduceSub, Nat.reduceLeDiff, Int.reduceLT, Int.reduceLE, Int.reduceNeg, Int.reduceAdd, Int.reduceSub, Int.reducePow, Int.reduceEq, Int.reduceLT, Int.reduceMod, Int.reduceDiv, Int.reduceMul, Int.reduceToNat, String.reduceEq, reduceCtorEq, e1, e2]
    exact ⟨rfl, gc_len rfl⟩
  · rw [hb] at e2
    simp only [↓SX1, SX2, ↓SV1, SV2, List.getElem?_cons_zero, List.getElem?_cons_succ, List.set_cons_zero, List.set_cons_succ, List.map_cons, List.map_nil, List.cons_append, List.nil_append, List.append_nil, List.replicate_succ, List.replicate_zero, List.length_cons, List.length_nil, if_true, if_false, true_and, and_true, and_self, Nat.zero_add, Int.natCast_zero, i0, i1, i2, i3, i4, decide_true, decide_false, Bool.not_true, Bool.not_false, ofString_inj, gt_iff_lt, List.all_cons, List.all_nil, List.any_cons, List.any_nil, Bool.and_true, Bool.true_and, Bool.and_self, Bool.or_false, Bool.false_or, Bool.or_true, Bool.true_or, szOk, mNeg, wipeM, ↓reduceIte, Nat.reduceAdd, Nat.reduceSub, Nat.reduceLeDiff, Int.reduceLT, Int.reduceLE, Int.reduceNeg, Int.reduceAdd, Int.reduceSub, Int.reducePow, Int.reduceEq, Int.reduceLT, Int.reduceMod, Int.reduceDiv, Int.reduceMul, Int.reduceToNat, String.reduceEq, reduceCtorEq, e1, e2, ad1, ad2, made_ok _ _ _ _ hz]
    exact ⟨rfl, gc_len rfl⟩
theorem whole_ok (i : Int) (H : MH) : m_is_whole [.int i, .int 0] H = .ok (.bl (decide (0 ≤ i))) H := by
  unfold m_is_whole
  refine e_fun rfl ?_
  unfold b_is_whole
  simp only [↓SX1, SX2, ↓SV1, SV2, List.getElem?_cons_zero, List.getElem?_cons_succ, List.set_cons_zero, List.set_cons_succ, List.map_cons, List.map_nil, List.cons_append, List.nil_append, List.append_nil, List.replicate_succ, List.replicate_zero, List.length_cons, List.length_nil, if_true, if_false, true_and, and_true, and_self, Nat.zero_add, Int.natCast_zero, i0, i1, i2, i3, i4, decide_true, decide_false, Bool.not_true, Bool.not_false, ofString_inj, gt_iff_lt, List.all_cons, List.all_nil, List.any_cons, List.any_nil, Bool.and_true, Bool.true_and, Bool.and_self, Bool.or_false, Bool.false_or, Bool.or_true, Bool.true_or, szOk, mNeg, wipeM, ↓reduceIte, Nat.reduceAdd, Nat.reduceSub, Nat.reduceLeDiff, Int.reduceLT, Int.reduceLE, Int.reduceNeg, Int.reduceAdd, Int.reduceSub, Int.reducePow, Int.reduceEq, Int.reduceLT, Int.reduceMod, Int.reduceDiv, Int.reduceMul, Int.reduceToNat, String.reduceEq, reduceCtorEq]
  exact ⟨rfl, gc_len rfl⟩
theorem addr_ok (a : Int) (H : MH) : m_is_address [(Wt.cell a).mv] H = .ok (.bl (decide (0 ≤ a))) H := by
  unfold m_is_address
  refine e_fun rfl ?_
  unfold b_is_address
  simp only [↓SX1, SX2, ↓SV1, SV2, List.getElem?_cons_zero, List.getElem?_cons_succ, List.set_cons_zero, List.set_cons_succ, List.map_cons, List.map_nil, List.cons_append, List.nil_append, List.append_nil, List.replicate_succ, List.replicate_zero, List.length_cons, List.length_nil, if_true, if_false, true_and, and_true, and_self, Nat.zero_add, Int.natCast_zero, i0, i1, i2, i3, i4, decide_true, decide_false, Bool.not_true, Bool.not_false, ofString_inj, gt_iff_lt, List.all_cons, List.all_nil, List.any_cons, List.any_nil, Bool.and_true, Bool.true_and, Bool.and_self, Bool.or_false, Bool.false_or, Bool.or_true, Bool.true_or, szOk, mNeg, wipeM, ↓reduceIte, Nat.reduceAdd, Nat.reduceSub, Nat.reduceLeDiff, Int.reduceLT, Int.reduceLE, Int.reduceNeg, Int.reduceAdd, Int.reduceSub, Int.reducePow, Int.reduceEq, Int.reduceLT, Int.reduceMod, Int.reduceDiv, Int.reduceMul, Int.reduceToNat, String.reduceEq, reduceCtorEq, Wt.mv, whole_ok]
  exact ⟨rfl, gc_len rfl⟩
/-- worths as they may be -/
def Wt.Ok : Wt → Prop
  | .cell a => 0 ≤ a
  | .non => True
  | .bl _ => True
  | .int i => -1000000000000 < i ∧ i < 1000000000000
  | .str s => s.length ≤ 1000000 ∧ textB s = true
theorem worth_ok {w : Wt} (ok : w.Ok) (H : MH) : m_is_worth [w.mv] H = .ok (.bl true) H := by
  unfold m_is_worth
  refine e_fun rfl ?_
  unfold b_is_worth
  cases w with
  | cell a =>
    have := addr_ok a H
    have ok : 0 ≤ a := ok
    simp only [Wt.mv] at this ⊢
    simp only [↓SX1, SX2, ↓SV1, SV2, List.getElem?_cons_zero, List.getElem?_cons_succ, List.set_cons_zero, List.set_cons_succ, List.map_cons, List.map_nil, List.cons_append, List.nil_append, List.append_nil, List.replicate_succ, List.replicate_zero, List.length_cons, List.length_nil, if_true, if_false, true_and, and_true, and_self, Nat.zero_add, Int.natCast_zero, i0, i1, i2, i3, i4, decide_true, decide_false, Bool.not_true, Bool.not_false, ofString_inj, gt_iff_lt, List.all_cons, List.all_nil, List.any_cons, List.any_nil, Bool.and_true, Bool.true_and, Bool.and_self, Bool.or_false, Bool.false_or, Bool.or_true, Bool.true_or, szOk, mNeg, wipeM, ↓reduceIte, Nat.reduceAdd, Nat.reduceSub, Nat.reduceLeDiff, Int.reduceLT, Int.reduceLE, Int.reduceNeg, Int.reduceAdd, Int.reduceSub, Int.reducePow, Int.reduceEq, Int.reduceLT, Int.reduceMod, Int.reduceDiv, Int.reduceMul, Int.reduceToNat, String.reduceEq, reduceCtorEq, this, ok]
    exact ⟨rfl, gc_len rfl⟩
  | non => simp only [↓SX1, SX2, ↓SV1, SV2, List.getElem?_cons_zero, List.getElem?_cons_succ, List.set_cons_zero, List.set_cons_succ, List.map_cons, List.map_nil, List.cons_append, List.nil_append, List.append_nil, List.replicate_succ, List.replicate_zero, List.length_cons, List.length_nil, if_true, if_false, true_and, and_true, and_self, Nat.zero_add, Int.natCast_zero, i0, i1, i2, i3, i4, decide_true, decide_false, Bool.not_true, Bool.not_false, ofString_inj, gt_iff_lt, List.all_cons, List.all_nil, List.any_cons, List.any_nil, Bool.and_true, Bool.true_and, Bool.and_self, Bool.or_false, Bool.false_or, Bool.or_true, Bool.true_or, szOk, mNeg, wipeM, ↓reduceIte, Nat.reduceAdd, Nat.reduceSub, Nat.reduceLeDiff, Int.reduceLT, Int.reduceLE, Int.reduceNeg, Int.reduceAdd, Int.reduceSub, Int.reducePow, Int.reduceEq, Int.reduceLT, Int.reduceMod, Int.reduceDiv, Int.reduceMul, Int.reduceToNat, String.reduceEq, reduceCtorEq, Wt.mv]; exact ⟨rfl, gc_len rfl⟩
  | bl b => simp only [↓SX1, SX2, ↓SV1, SV2, List.getElem?_cons_zero, List.getElem?_cons_succ, List.set_cons_zero, List.set_cons_succ, List.map_cons, List.map_nil, List.cons_append, List.nil_append, List.append_nil, List.replicate_succ, List.replicate_zero, List.length_cons, List.length_nil, if_true, if_false, true_and, and_true, and_self, Nat.zero_add, Int.natCast_zero, i0, i1, i2, i3, i4, decide_true, decide_false, Bool.not_true, Bool.not_false, ofString_inj, gt_iff_lt, List.all_cons, List.all_nil, List.any_cons, List.any_nil, Bool.and_true, Bool.true_and, Bool.and_self, Bool.or_false, Bool.false_or, Bool.or_true, Bool.true_or, szOk, mNeg, wipeM, ↓reduceIte, Nat.reduceAdd, Nat.reduceSub, Nat.reduceLeDiff, Int.reduceLT, Int.reduceLE, Int.reduceNeg, Int.reduceAdd, Int.reduceSub, Int.reducePow, Int.reduceEq, Int.reduceLT, Int.reduceMod, Int.reduceDiv, Int.reduceMul, Int.reduceToNat, String.reduceEq, reduceCtorEq, Wt.mv]; exact ⟨rfl, gc_len rfl⟩
  | int i =>
    obtain ⟨h1, h2⟩ := ok
    simp only [↓SX1, SX2, ↓SV1, SV2, List.getElem?_cons_zero, List.getElem?_cons_succ, List.set_cons_zero, List.set_cons_succ, List.map_cons, List.map_nil, List.cons_append, List.nil_append, List.append_nil, List.replicate_succ, List.replicate_zero, List.length_cons, List.length_nil, if_true, if_false, true_and, and_true, and_self, Nat.zero_add, Int.natCast_zero, i0, i1, i2, i3, i4, decide_true, decide_false, Bool.not_true, Bool.not_false, ofString_inj, gt_iff_lt, List.all_cons, List.all_nil, List.any_cons, List.any_nil, Bool.and_true, Bool.true_and, Bool.and_self, Bool.or_false, Bool.false_or, Bool.or_true, Bool.true_or, szOk, mNeg, wipeM, ↓reduceIte, Nat.reduceAdd, Nat.reduceSub, Nat.reduceLeDiff, Int.reduceLT, Int.reduceLE, Int.reduceNeg, Int.reduceAdd, Int.reduceSub, Int.reducePow, Int.reduceEq, Int.reduceLT, Int.reduceMod, Int.reduceDiv, Int.reduceMul, Int.reduceToNat, String.reduceEq, reduceCtorEq, Wt.mv, h1, h2]
    exact ⟨rfl, gc_len rfl⟩
  | str s =>
    obtain ⟨h1, h2⟩ := ok
    simp only [↓SX1, SX2, ↓SV1, SV2, List.getElem?_cons_zero, List.getElem?_cons_succ, List.set_cons_zero, List.set_cons_succ, List.map_cons, List.map_nil, List.cons_append, List.nil_append, List.append_nil, List.replicate_succ, List.replicate_zero, List.length_cons, List.length_nil, if_true, if_false, true_and, and_true, and_self, Nat.zero_add, Int.natCast_zero, i0, i1, i2, i3, i4, decide_true, decide_false, Bool.not_true, Bool.not_false, ofString_inj, gt_iff_lt, List.all_cons, List.all_nil, List.any_cons, List.any_nil, Bool.and_true, Bool.true_and, Bool.and_self, Bool.or_false, Bool.false_or, Bool.or_true, Bool.true_or, szOk, mNeg, wipeM, ↓reduceIte, Nat.reduceAdd, Nat.reduceSub, Nat.reduceLeDiff, Int.reduceLT, Int.reduceLE, Int.reduceNeg, Int.reduceAdd, Int.reduceSub, Int.reducePow, Int.reduceEq, Int.reduceLT, Int.reduceMod, Int.reduceDiv, Int.reduceMul, Int.reduceToNat, String.reduceEq, reduceCtorEq, Wt.mv, text_ok s h1, h2]
    exact ⟨rfl, gc_len rfl⟩
def WsOk (ws : List Wt) (n : Nat) : Prop := ws.length ≤ n ∧ ∀ w, w ∈ ws → w.Ok
theorem all_true {α : Type} (us : List α) : us.all (fun _ => true) = true := by simp
theorem worths_ok {ws : List Wt} {n : Nat} (ok : WsOk ws n) (hn : n ≤ 1000) (H : MH) : m_are_worths [mvs ws, .int n] H = .ok (.bl true) H := by
  unfold m_are_worths
  refine e_fun rfl ?_
  unfold b_are_worths mvs
  obtain ⟨h1, h2⟩ := ok
  have h3 : ((ws.map Wt.mv).length : Int) ≤ (n : Int) := by rw [List.length_map]; omega
  simp only [↓SX1, SX2, ↓SV1, SV2, List.getElem?_cons_zero, List.getElem?_cons_succ, List.set_cons_zero, List.set_cons_succ, List.map_cons, List.map_nil, List.cons_append, List.nil_append, List.append_nil, List.replicate_succ, List.replicate_zero, List.length_cons, List.length_nil, if_true, if_false, true_and, and_true, and_self, Nat.zero_add, Int.natCast_zero, i0, i1, i2, i3, i4, decide_true, decide_false, Bool.not_true, Bool.not_false, ofString_inj, gt_iff_lt, List.all_cons, List.all_nil, List.any_cons, List.any_nil, Bool.and_true, Bool.true_and, Bool.and_self, Bool.or_false, Bool.false_or, Bool.or_true, Bool.true_or, szOk, mNeg, wipeM, ↓reduceIte, Nat.reduceAdd, Nat.reduceSub, Nat.reduceLeDiff, Int.reduceLT, Int.reduceLE, Int.reduceNeg, Int.reduceAdd, Int.reduceSub, Int.reducePow, Int.reduceEq, Int.reduceLT, Int.reduceMod, Int.reduceDiv, Int.reduceMul, Int.reduceToNat, String.reduceEq, reduceCtorEq, h3]
  refine ⟨by rw [List.length_map]; omega, ?_⟩
  refine s_compE (ef := fun _ => .bl true) (by simp) (fun w hw => ⟨_, rfl, ?_⟩) ?_
  · exact Gd.eq (by simp only [↓SX1, SX2, ↓SV1, SV2, List.getElem?_cons_zero, List.getElem?_cons_succ, List.set_cons_zero, List.set_cons_succ, List.map_cons, List.map_nil, List.cons_append, List.nil_append, List.append_nil, List.replicate_succ, List.replicate_zero, List.length_cons, List.length_nil, if_true, if_false, true_and, and_true, and_self, Nat.zero_add, Int.natCast_zero, i0, i1, i2, i3, i4, decide_true, decide_false, Bool.not_true, Bool.not_false, ofString_inj, gt_iff_lt, List.all_cons, List.all_nil, List.any_cons, List.any_nil, Bool.and_true, Bool.true_and, Bool.and_self, Bool.or_false, Bool.false_or, Bool.or_true, Bool.true_or, szOk, mNeg, wipeM, ↓reduceIte, Nat.reduceAdd, Nat.reduceSub, Nat.reduceLeDiff, Int.reduceLT, Int.reduceLE, Int.reduceNeg, Int.reduceAdd, Int.reduceSub, Int.reducePow, Int.reduceEq, Int.reduceLT, Int.reduceMod, Int.reduceDiv, Int.reduceMul, Int.reduceToNat, String.reduceEq, reduceCtorEq, worth_ok (h2 w hw)]; exact ⟨rfl, rfl⟩)
  · simp only [↓SX1, SX2, ↓SV1, SV2, List.getElem?_cons_zero, List.getElem?_cons_succ, List.set_cons_zero, List.set_cons_succ, List.map_cons, List.map_nil, List.cons_append, List.nil_append, List.append_nil, List.replicate_succ, List.replicate_zero, List.length_cons, List.length_nil, if_true, if_false, true_and, and_true, and_self, Nat.zero_add, Int.natCast_zero, i0, i1, i2, i3, i4, decide_true, decide_false, Bool.not_true, Bool.not_false, ofString_inj, gt_iff_lt, List.all_cons, List.all_nil, List.any_cons, List.any_nil, Bool.and_true, Bool.true_and, Bool.and_self, Bool.or_false, Bool.false_or, Bool.or_true, Bool.true_or, szOk, mNeg, wipeM, ↓reduceIte, Nat.reduceAdd, Nat.reduceSub, Nat.reduceLeDiff, Int.reduceLT, Int.reduceLE, Int.reduceNeg, Int.reduceAdd, Int.reduceSub, Int.reducePow, Int.reduceEq, Int.reduceLT, Int.reduceMod, Int.reduceDiv, Int.reduceMul, Int.reduceToNat, String.reduceEq, reduceCtorEq, lAll_b, all_true]
    exact ⟨rfl, gc_len rfl⟩
/-- cells as they may be -/
def Ce.Ok : Ce → Prop
  | .thing k ws => k.length ≤ 1000 ∧ kindB k = true ∧ WsOk ws 8
  | .block i j a b => 0 ≤ i ∧ 0 ≤ j ∧ 0 ≤ a ∧ 0 ≤ b
  | .names ws o => WsOk ws 12 ∧ (oW o).Ok
  | .list ws => WsOk ws 30
theorem ne_str {a b : Str} (h : a ≠ b) : (a = b) = False := eq_false h
theorem lot_ok {c : Ce} (ok : c.Ok) (H : MH) : m_is_lot [c.mv] H = .ok (.bl true) H := by
  unfold m_is_lot
  refine e_fun rfl ?_
  unfold b_is_lot
  cases c with
  | thing k ws =>
    obtain ⟨h1, h2, h3⟩ := ok
    have w : m_are_worths [mvs ws, c_FIELDS] H = _ := worths_ok (n := 8) h3 (by omega) H
    simp only [↓SX1, SX2, ↓SV1, SV2, List.getElem?_cons_zero, List.getElem?_cons_succ, List.set_cons_zero, List.set_cons_succ, List.map_cons, List.map_nil, List.cons_append, List.nil_append, List.append_nil, List.replicate_succ, List.replicate_zero, List.length_cons, List.length_nil, if_true, if_false, true_and, and_true, and_self, Nat.zero_add, Int.natCast_zero, i0, i1, i2, i3, i4, decide_true, decide_false, Bool.not_true, Bool.not_false, ofString_inj, gt_iff_lt, List.all_cons, List.all_nil, List.any_cons, List.any_nil, Bool.and_true, Bool.true_and, Bool.and_self, Bool.or_false, Bool.false_or, Bool.or_true, Bool.true_or, szOk, mNeg, wipeM, ↓reduceIte, Nat.reduceAdd, Nat.reduceSub, Nat.reduceLeDiff, Int.reduceLT, Int.reduceLE, Int.reduceNeg, Int.reduceAdd, Int.reduceSub, Int.reducePow, Int.reduceEq, Int.reduceLT, Int.reduceMod, Int.reduceDiv, Int.reduceMul, Int.reduceToNat, String.reduceEq, reduceCtorEq, Ce.mv, kind_ok k (by omega), h2, w]
    exact ⟨rfl, gc_len rfl⟩
  | block i j a b =>
    obtain ⟨h1, h2, h3, h4⟩ := ok
    have e1 := addr_ok a H
    have e2 := addr_ok b H
    simp only [↓SX1, SX2, ↓SV1, SV2, List.getElem?_cons_zero, List.getElem?_cons_succ, List.set_cons_zero, List.set_cons_succ, List.map_cons, List.map_nil, List.cons_append, List.nil_append, List.append_nil, List.replicate_succ, List.replicate_zero, List.length_cons, List.length_nil, if_true, if_false, true_and, and_true, and_self, Nat.zero_add, Int.natCast_zero, i0, i1, i2, i3, i4, decide_true, decide_false, Bool.not_true, Bool.not_false, ofString_inj, gt_iff_lt, List.all_cons, List.all_nil, List.any_cons, List.any_nil, Bool.and_true, Bool.true_and, Bool.and_self, Bool.or_false, Bool.false_or, Bool.or_true, Bool.true_or, szOk, mNeg, wipeM, ↓reduceIte, Nat.reduceAdd, Nat.reduceSub, Nat.reduceLeDiff, Int.reduceLT, Int.reduceLE, Int.reduceNeg, Int.reduceAdd, Int.reduceSub, Int.reducePow, Int.reduceEq, Int.reduceLT, Int.reduceMod, Int.reduceDiv, Int.reduceMul, Int.reduceToNat, String.reduceEq, reduceCtorEq, Ce.mv, whole_ok, h1, h2, e1, e2, h3, h4]
    exact ⟨rfl, gc_len rfl⟩
  | names ws o =>
    obtain ⟨h1, h2⟩ := ok
    have w : m_are_worths [mvs ws, c_NAMES] H = _ := worths_ok (n := 12) h1 (by omega) H
    cases o with
    | none =>
      simp only [↓SX1, SX2, ↓SV1, SV2, List.getElem?_cons_zero, List.getElem?_cons_succ, List.set_cons_zero, List.set_cons_succ, List.map_cons, List.map_nil, List.cons_append, List.nil_append, List.append_nil, List.replicate_succ, List.replicate_zero, List.length_cons, List.length_nil, if_true, if_false, true_and, and_true, and_self, Nat.zero_add, Int.natCast_zero, i0, i1, i2, i3, i4, decide_true, decide_false, Bool.not_true, Bool.not_false, ofString_inj, gt_iff_lt, List.all_cons, List.all_nil, List.any_cons, List.any_nil, Bool.and_true, Bool.true_and, Bool.and_self, Bool.or_false, Bool.false_or, Bool.or_true, Bool.true_or, szOk, mNeg, wipeM, ↓reduceIte, Nat.reduceAdd, Nat.reduceSub, Nat.reduceLeDiff, Int.reduceLT, Int.reduceLE, Int.reduceNeg, Int.reduceAdd, Int.reduceSub, Int.reducePow, Int.reduceEq, Int.reduceLT, Int.reduceMod, Int.reduceDiv, Int.reduceMul, Int.reduceToNat, String.reduceEq, reduceCtorEq, Ce.mv, oW, Wt.mv, w]
      exact ⟨rfl, gc_len rfl⟩
    | some a =>
      have e1 := addr_ok a H
      have h2 : 0 ≤ a := h2
      have nn : noneM (Wt.cell a).mv = false := rfl
      simp only [↓SX1, SX2, ↓SV1, SV2, List.getElem?_cons_zero, List.getElem?_cons_succ, List.set_cons_zero, List.set_cons_succ, List.map_cons, List.map_nil, List.cons_append, List.nil_append, List.append_nil, List.replicate_succ, List.replicate_zero, List.length_cons, List.length_nil, if_true, if_false, true_and, and_true, and_self, Nat.zero_add, Int.natCast_zero, i0, i1, i2, i3, i4, decide_true, decide_false, Bool.not_true, Bool.not_false, ofString_inj, gt_iff_lt, List.all_cons, List.all_nil, List.any_cons, List.any_nil, Bool.and_true, Bool.true_and, Bool.and_self, Bool.or_false, Bool.false_or, Bool.or_true, Bool.true_or, szOk, mNeg, wipeM, ↓reduceIte, Nat.reduceAdd, Nat.reduceSub, Nat.reduceLeDiff, Int.reduceLT, Int.reduceLE, Int.reduceNeg, Int.reduceAdd, Int.reduceSub, Int.reducePow, Int.reduceEq, Int.reduceLT, Int.reduceMod, Int.reduceDiv, Int.reduceMul, Int.reduceToNat, String.reduceEq, reduceCtorEq, Ce.mv, oW, nn, e1, h2, w]
      exact ⟨rfl, gc_len rfl⟩
  | list ws =>
    have w : m_are_worths [mvs ws, c_LONGEST] H = _ := worths_ok (n := 30) ok (by omega) H
    simp only [↓SX1, SX2, ↓SV1, SV2, List.getElem?_cons_zero, List.getElem?_cons_succ, List.set_cons_zero, List.set_cons_succ, List.map_cons, List.map_nil, List.cons_append, List.nil_append, List.append_nil, List.replicate_succ, List.replicate_zero, List.length_cons, List.length_nil, if_true, if_false, true_and, and_true, and_self, Nat.zero_add, Int.natCast_zero, i0, i1, i2, i3, i4, decide_true, decide_false, Bool.not_true, Bool.not_false, ofString_inj, gt_iff_lt, List.all_cons, List.all_nil, List.any_cons, List.any_nil, Bool.and_true, Bool.true_and, Bool.and_self, Bool.or_false, Bool.false_or, Bool.or_true, Bool.true_or, szOk, mNeg, wipeM, ↓reduceIte, Nat.reduceAdd, Nat.reduceSub, Nat.reduceLeDiff, Int.reduceLT, Int.reduceLE, Int.reduceNeg, Int.reduceAdd, Int.reduceSub, Int.reducePow, Int.reduceEq, Int.reduceLT, Int.reduceMod, Int.reduceDiv, Int.reduceMul, Int.reduceToNat, String.reduceEq, reduceCtorEq, Ce.mv, w]
    exact ⟨rfl, gc_len rfl⟩
end My

set_option Elab.async false
set_option linter.all false
set_option maxRecDepth 100000
set_option maxHeartbeats 8000000
namespace My
open PySem L2 Sm
/-! ### rising numbers, pairs, the paper's form -/
def Up (ns : List Int) : Prop := ns.Pairwise (· < ·)
theorem cut1 {α : Type} (xs : List α) : cutM xs (some 1) none = xs.drop 1 := by
  unfold cutM HT.sIx
  cases xs with
  | nil => simp
  | cons x xs =>
    simp
theorem zip_up : ∀ {ns : List Int}, Up ns → ∀ p, p ∈ ns.zip (ns.drop 1) → p.1 < p.2
  | [], _, p, h => by simp at h
  | [n], _, p, h => by simp at h
  | n :: m :: ns, u, p, h => by
    have u1 := List.pairwise_cons.mp u
    simp only [List.drop_succ_cons, List.drop_zero, List.zip_cons_cons, List.mem_cons] at h
    rcases h with rfl | h
    · exact u1.1 m (by simp)
    · exact zip_up (ns := m :: ns) u1.2 p (by simpa using h)
theorem zipM_ints (ns ms : List Int) : zipM (ns.map MV.int) (ms.map MV.int) = (ns.zip ms).map fun p => MV.tup [.int p.1, .int p.2] := by
  unfold zipM
  rw [List.zip_map, List.map_map]
  rfl
theorem rising_t {ns : List Int} (u : Up ns) (hl : ns.length ≤ 1000) (H : MH) : m_is_rising [.tup (ns.map .int)] H = .ok (.bl true) H := by
  unfold m_is_rising
  refine e_fun rfl ?_
  unfold b_is_rising
  simp only [↓SX1, SX2, ↓SV1, SV2, List.getElem?_cons_zero, List.getElem?_cons_succ, List.set_cons_zero, List.set_cons_succ, List.map_cons, List.map_nil, List.cons_append, List.nil_append, List.append_nil, List.replicate_succ, List.replicate_zero, List.length_cons, List.length_nil, if_true, if_false, true_and, and_true, and_self, Nat.zero_add, Int.natCast_zero, i0, i1, i2, i3, i4, decide_true, decide_false, Bool.not_true, Bool.not_false, ofString_inj, gt_iff_lt, List.all_cons, List.all_nil, List.any_cons, List.any_nil, Bool.and_true, Bool.true_and, Bool.and_self, Bool.or_false, Bool.false_or, Bool.or_true, Bool.true_or, szOk, mNeg, wipeM, ↓reduceIte, Nat.reduceAdd, Nat.reduceSub, Nat.reduceLeDiff, Int.reduceLT, Int.reduceLE, Int.reduceNeg, Int.reduceAdd, Int.reduceSub, Int.reducePow, Int.reduceEq, Int.reduceLT, Int.reduceMod, Int.reduceDiv, Int.reduceMul, Int.reduceToNat, String.reduceEq, reduceCtorEq, cut1, ← List.map_drop, zipM_ints]
  refine ⟨by simp; omega, ?_⟩
  refine s_compE (vf := fun (p : Int × Int) => MV.tup [.int p.1, .int p.2]) (ef := fun _ => .bl true) (by simp) (fun p hp => ⟨_, rfl, ?_⟩) ?_
  · have := zip_up u p hp
    exact Gd.eq (by simp only [↓SX1, SX2, ↓SV1, SV2, List.getElem?_cons_zero, List.getElem?_cons_succ, List.set_cons_zero, List.set_cons_succ, List.map_cons, List.map_nil, List.cons_append, List.nil_append, List.append_nil, List.replicate_succ, List.replicate_zero, List.length_cons, List.length_nil, if_true, if_false, true_and, and_true, and_self, Nat.zero_add, Int.natCast_zero, i0, i1, i2, i3, i4, decide_true, decide_false, Bool.not_true, Bool.not_false, ofString_inj, gt_iff_lt, List.all_cons, List.all_nil, List.any_cons, List.any_nil, Bool.and_true, Bool.true_and, Bool.and_self, Bool.or_false, Bool.false_or, Bool.or_true, Bool.true_or, szOk, mNeg, wipeM, ↓reduceIte, Nat.reduceAdd, Nat.reduceSub, Nat.reduceLeDiff, Int.reduceLT, Int.reduceLE, Int.reduceNeg, Int.reduceAdd, Int.reduceSub, Int.reducePow, Int.reduceEq, Int.reduceLT, Int.reduceMod, Int.reduceDiv, Int.reduceMul, Int.reduceToNat, String.reduceEq, reduceCtorEq, this]; exact ⟨rfl, rfl⟩)
  · simp only [↓SX1, SX2, ↓SV1, SV2, List.getElem?_cons_zero, List.getElem?_cons_succ, List.set_cons_zero, List.set_cons_succ, List.map_cons, List.map_nil, List.cons_append, List.nil_append, List.append_nil, List.replicate_succ, List.replicate_zero, List.length_cons, List.length_nil, if_true, if_false, true_and, and_true, and_self, Nat.zero_add, Int.natCast_zero, i0, i1, i2, i3, i4, decide_true, decide_false, Bool.not_true, Bool.not_false, ofString_inj, gt_iff_lt, List.all_cons, List.all_nil, List.any_cons, List.any_nil, Bool.and_true, Bool.true_and, Bool.and_self, Bool.or_false, Bool.false_or, Bool.or_true, Bool.true_or, szOk, mNeg, wipeM, ↓reduceIte, Nat.reduceAdd, Nat.reduceSub, Nat.reduceLeDiff, Int.reduceLT, Int.reduceLE, Int.reduceNeg, Int.reduceAdd, Int.reduceSub, Int.reducePow, Int.reduceEq, Int.reduceLT, Int.reduceMod, Int.reduceDiv, Int.reduceMul, Int.reduceToNat, String.reduceEq, reduceCtorEq, lAll_b, all_true]
    exact ⟨rfl, gc_len rfl⟩
theorem rising_l {ns : List Int} {n : Nat} {H : MH} (e : H[n]? = some (.lst (ns.map .int))) (u : Up ns) (hl : ns.length ≤ 1000) : m_is_rising [.ref n] H = .ok (.bl true) H := by
  unfold m_is_rising
  refine e_fun rfl ?_
  unfold b_is_rising
  have e2 : (H ++ [MO.lst ((ns.drop 1).map MV.int)])[n]? = some (.lst (ns.map .int)) := gap e
  simp only [↓SX1, SX2, ↓SV1, SV2, List.getElem?_cons_zero, List.getElem?_cons_succ, List.set_cons_zero, List.set_cons_succ, List.map_cons, List.map_nil, List.cons_append, List.nil_append, List.append_nil, List.replicate_succ, List.replicate_zero, List.length_cons, List.length_nil, if_true, if_false, true_and, and_true, and_self, Nat.zero_add, Int.natCast_zero, i0, i1, i2, i3, i4, decide_true, decide_false, Bool.not_true, Bool.not_false, ofString_inj, gt_iff_lt, List.all_cons, List.all_nil, List.any_cons, List.any_nil, Bool.and_true, Bool.true_and, Bool.and_self, Bool.or_false, Bool.false_or, Bool.or_true, Bool.true_or, szOk, mNeg, wipeM, ↓reduceIte, Nat.reduceAdd, Nat.reduceSub, Nat.reduceLeDiff, Int.reduceLT, Int.reduceLE, Int.reduceNeg, Int.reduceAdd, Int.reduceSub, Int.reducePow, Int.reduceEq, Int.reduceLT, Int.reduceMod, Int.reduceDiv, Int.reduceMul, Int.reduceToNat, String.reduceEq, reduceCtorEq, mSl_l e, cut1, ← List.map_drop, e2, gnew, zipM_ints]
  refine ⟨by simp; omega, ?_⟩
  refine s_compE (vf := fun (p : Int × Int) => MV.tup [.int p.1, .int p.2]) (ef := fun _ => .bl true) ?_ (fun p hp => ⟨_, rfl, ?_⟩) ?_
  · intro g hg
    simp only [List.mem_cons, List.not_mem_nil, or_false] at hg
    rcases hg with rfl | rfl
    · exact e2
    · exact gnew
  · have := zip_up u p hp
    exact Gd.eq (by simp only [↓SX1, SX2, ↓SV1, SV2, List.getElem?_cons_zero, List.getElem?_cons_succ, List.set_cons_zero, List.set_cons_succ, List.map_cons, List.map_nil, List.cons_append, List.nil_append, List.append_nil, List.replicate_succ, List.replicate_zero, List.length_cons, List.length_nil, if_true, if_false, true_and, and_true, and_self, Nat.zero_add, Int.natCast_zero, i0, i1, i2, i3, i4, decide_true, decide_false, Bool.not_true, Bool.not_false, ofString_inj, gt_iff_lt, List.all_cons, List.all_nil, List.any_cons, List.any_nil, Bool.and_true, Bool.true_and, Bool.and_self, Bool.or_false, Bool.false_or, Bool.or_true, Bool.true_or, szOk, mNeg, wipeM, ↓reduceIte, Nat.reduceAdd, Nat.reduceSub, Nat.reduceLeDiff, Int.reduceLT, Int.reduceLE, Int.reduceNeg, Int.reduceAdd, Int.reduceSub, Int.reducePow, Int.reduceEq, Int.reduceLT, Int.reduceMod, Int.reduceDiv, Int.reduceMul, Int.reduceToNat, String.reduceEq, reduceCtorEq, this]; exact ⟨rfl, rfl⟩)
  · simp only [↓SX1, SX2, ↓SV1, SV2, List.getElem?_cons_zero, List.getElem?_cons_succ, List.set_cons_zero, List.set_cons_succ, List.map_cons, List.map_nil, List.cons_append, List.nil_append, List.append_nil, List.replicate_succ, List.replicate_zero, List.length_cons, List.length_nil, if_true, if_false, true_and, and_true, and_self, Nat.zero_add, Int.natCast_zero, i0, i1, i2, i3, i4, decide_true, decide_false, Bool.not_true, Bool.not_false, ofString_inj, gt_iff_lt, List.all_cons, List.all_nil, List.any_cons, List.any_nil, Bool.and_true, Bool.true_and, Bool.and_self, Bool.or_false, Bool.false_or, Bool.or_true, Bool.true_or, szOk, mNeg, wipeM, ↓reduceIte, Nat.reduceAdd, Nat.reduceSub, Nat.reduceLeDiff, Int.reduceLT, Int.reduceLE, Int.reduceNeg, Int.reduceAdd, Int.reduceSub, Int.reducePow, Int.reduceEq, Int.reduceLT, Int.reduceMod, Int.reduceDiv, Int.reduceMul, Int.reduceToNat, String.reduceEq, reduceCtorEq, lAll_b, all_true]
    exact ⟨rfl, gc_app (by simp [bel])⟩
section
variable {α : Type}
def prs (f : α → MV) (l : List (Int × α)) : List MV := l.map fun p => MV.tup [.int p.1, f p.2]
def PrOk (l : List (Int × α)) : Prop := Up (l.map (·.1)) ∧ (∀ p, p ∈ l → 0 ≤ p.1) ∧ l.length ≤ 1000
theorem pairs_go {f : α → MV} {l : List (Int × α)} (ok : PrOk l) (H : MH) (x : MV) (hx : wkM x = .tup (prs f l)) : m_are_pairs [x] H = .ok (.bl true) H := by
  unfold m_are_pairs
  refine e_fun rfl ?_
  unfold b_are_pairs
  obtain ⟨h1, h2, h3⟩ := ok
  simp only [↓SX1, SX2, ↓SV1, SV2, List.getElem?_cons_zero, List.getElem?_cons_succ, List.set_cons_zero, List.set_cons_succ, List.map_cons, List.map_nil, List.cons_append, List.nil_append, List.append_nil, List.replicate_succ, List.replicate_zero, List.length_cons, List.length_nil, if_true, if_false, true_and, and_true, and_self, Nat.zero_add, Int.natCast_zero, i0, i1, i2, i3, i4, decide_true, decide_false, Bool.not_true, Bool.not_false, ofString_inj, gt_iff_lt, List.all_cons, List.all_nil, List.any_cons, List.any_nil, Bool.and_true, Bool.true_and, Bool.and_self, Bool.or_false, Bool.false_or, Bool.or_true, Bool.true_or, szOk, mNeg, wipeM, ↓reduceIte, Nat.reduceAdd, Nat.reduceSub, Nat.reduceLeDiff, Int.reduceLT, Int.reduceLE, Int.reduceNeg, Int.reduceAdd, Int.reduceSub, Int.reducePow, Int.reduceEq, Int.reduceLT, Int.reduceMod, Int.reduceDiv, Int.reduceMul, Int.reduceToNat, String.reduceEq, reduceCtorEq, hx]
  refine s_for (fun xs ρ h => h = H ∧ (∃ y, ρ = [some x, y]) ∧ ∃ l', xs = prs f l' ∧ ∀ p, p ∈ l' → 0 ≤ p.1) (fun _ _ _ _ => by simp) (fun y xs ρ h i => ?_) (fun ρ h i => ?_) _ _ _ ⟨rfl, ⟨_, rfl⟩, l, rfl, h2⟩
  · obtain ⟨rfl, ⟨y', rfl⟩, l', e, hp⟩ := i
    cases l' with
    | nil => cases e
    | cons p l' =>
      simp only [prs, List.map_cons, List.cons.injEq] at e
      obtain ⟨rfl, rfl⟩ := e
      refine ⟨_, rfl, ?_⟩
      have p0 := hp p (by simp)
      simp only [↓SX1, SX2, ↓SV1, SV2, List.getElem?_cons_zero, List.getElem?_cons_succ, List.set_cons_zero, List.set_cons_succ, List.map_cons, List.map_nil, List.cons_append, List.nil_append, List.append_nil, List.replicate_succ, List.replicate_zero, List.length_cons, List.length_nil, if_true, if_false, true_and, and_true, and_self, Nat.zero_add, Int.natCast_zero, i0, i1, i2, i3, i4, decide_true, decide_false, Bool.not_true, Bool.not_false, ofString_inj, gt_iff_lt, List.all_cons, List.all_nil, List.any_cons, List.any_nil, Bool.and_true, Bool.true_and, Bool.and_self, Bool.or_false, Bool.false_or, Bool.or_true, Bool.true_or, szOk, mNeg, wipeM, ↓reduceIte, Nat.reduceAdd, Nat.reduceSub, Nat.reduceLeDiff, Int.reduceLT, Int.reduceLE, Int.reduceNeg, Int.reduceAdd, Int.reduceSub, Int.reducePow, Int.reduceEq, Int.reduceLT, Int.reduceMod, Int.reduceDiv, Int.reduceMul, Int.reduceToNat, String.reduceEq, reduceCtorEq, whole_ok, p0]
      exact ⟨⟨_, rfl⟩, l', rfl, fun q hq => hp q (by simp [hq])⟩
  · obtain ⟨rfl, ⟨y', rfl⟩, _⟩ := i
    have lp : (prs f l).length = l.length := by unfold prs; rw [List.length_map]
    simp only [↓SX1, SX2, ↓SV1, SV2, List.getElem?_cons_zero, List.getElem?_cons_succ, List.set_cons_zero, List.set_cons_succ, List.map_cons, List.map_nil, List.cons_append, List.nil_append, List.append_nil, List.replicate_succ, List.replicate_zero, List.length_cons, List.length_nil, if_true, if_false, true_and, and_true, and_self, Nat.zero_add, Int.natCast_zero, i0, i1, i2, i3, i4, decide_true, decide_false, Bool.not_true, Bool.not_false, ofString_inj, gt_iff_lt, List.all_cons, List.all_nil, List.any_cons, List.any_nil, Bool.and_true, Bool.true_and, Bool.and_self, Bool.or_false, Bool.false_or, Bool.or_true, Bool.true_or, szOk, mNeg, wipeM, ↓reduceIte, Nat.reduceAdd, Nat.reduceSub, Nat.reduceLeDiff, Int.reduceLT, Int.reduceLE, Int.reduceNeg, Int.reduceAdd, Int.reduceSub, Int.reducePow, Int.reduceEq, Int.reduceLT, Int.reduceMod, Int.reduceDiv, Int.reduceMul, Int.reduceToNat, String.reduceEq, reduceCtorEq, hx]
    refine ⟨by rw [lp]; omega, ?_⟩
    unfold prs
    refine s_compE (ef := fun p => .int p.1) (by simp) (fun p hp => ⟨_, rfl, ?_⟩) ?_
    · exact Gd.eq (by simp only [↓SX1, SX2, ↓SV1, SV2, List.getElem?_cons_zero, List.getElem?_cons_succ, List.set_cons_zero, List.set_cons_succ, List.map_cons, List.map_nil, List.cons_append, List.nil_append, List.append_nil, List.replicate_succ, List.replicate_zero, List.length_cons, List.length_nil, if_true, if_false, true_and, and_true, and_self, Nat.zero_add, Int.natCast_zero, i0, i1, i2, i3, i4, decide_true, decide_false, Bool.not_true, Bool.not_false, ofString_inj, gt_iff_lt, List.all_cons, List.all_nil, List.any_cons, List.any_nil, Bool.and_true, Bool.true_and, Bool.and_self, Bool.or_false, Bool.false_or, Bool.or_true, Bool.true_or, szOk, mNeg, wipeM, ↓reduceIte, Nat.reduceAdd, Nat.reduceSub, Nat.reduceLeDiff, Int.reduceLT, Int.reduceLE, Int.reduceNeg, Int.reduceAdd, Int.reduceSub, Int.reducePow, Int.reduceEq, Int.reduceLT, Int.reduceMod, Int.reduceDiv, Int.reduceMul, Int.reduceToNat, String.reduceEq, reduceCtorEq]; exact ⟨rfl, rfl⟩)
    · have em : (l.map fun p => MV.int p.1) = (l.map (·.1)).map MV.int := by rw [List.map_map]; rfl
      have e1 : (h ++ [MO.lst (l.map fun p => MV.int p.1)])[h.length]? = some (.lst ((l.map (·.1)).map MV.int)) := by rw [em]; exact gnew
      have r1 := rising_l e1 h1 (by rw [List.length_map]; omega)
      simp only [↓SX1, SX2, ↓SV1, SV2, List.getElem?_cons_zero, List.getElem?_cons_succ, List.set_cons_zero, List.set_cons_succ, List.map_cons, List.map_nil, List.cons_append, List.nil_append, List.append_nil, List.replicate_succ, List.replicate_zero, List.length_cons, List.length_nil, if_true, if_false, true_and, and_true, and_self, Nat.zero_add, Int.natCast_zero, i0, i1, i2, i3, i4, decide_true, decide_false, Bool.not_true, Bool.not_false, ofString_inj, gt_iff_lt, List.all_cons, List.all_nil, List.any_cons, List.any_nil, Bool.and_true, Bool.true_and, Bool.and_self, Bool.or_false, Bool.false_or, Bool.or_true, Bool.true_or, szOk, mNeg, wipeM, ↓reduceIte, Nat.reduceAdd, Nat.reduceSub, Nat.reduceLeDiff, Int.reduceLT, Int.reduceLE, Int.reduceNeg, Int.reduceAdd, Int.reduceSub, Int.reducePow, Int.reduceEq, Int.reduceLT, Int.reduceMod, Int.reduceDiv, Int.reduceMul, Int.reduceToNat, String.reduceEq, reduceCtorEq, r1]
      exact ⟨rfl, gc_app (by simp [bel])⟩
theorem pairs_x {f : α → MV} {l : List (Int × α)} (ok : PrOk l) (H : MH) : m_are_pairs [.tux (prs f l)] H = .ok (.bl true) H := pairs_go ok H _ rfl
theorem pairs_t {f : α → MV} {l : List (Int × α)} (ok : PrOk l) (H : MH) : m_are_pairs [.tup (prs f l)] H = .ok (.bl true) H := pairs_go ok H _ rfl
end
theorem lots_go {l : List (Int × Ce)} (ok : PrOk l) (oc : ∀ p, p ∈ l → p.2.Ok) (H : MH) (x : MV) (hx : wkM x = .tup (prs Ce.mv l)) : m_are_lots [x] H = .ok (.bl true) H := by
  unfold m_are_lots
  refine e_fun rfl ?_
  unfold b_are_lots
  have p1 := pairs_t (f := Ce.mv) ok H
  obtain ⟨h1, h2, h3⟩ := ok
  have lp : (prs Ce.mv l).length = l.length := by unfold prs; rw [List.length_map]
  simp only [↓SX1, SX2, ↓SV1, SV2, List.getElem?_cons_zero, List.getElem?_cons_succ, List.set_cons_zero, List.set_cons_succ, List.map_cons, List.map_nil, List.cons_append, List.nil_append, List.append_nil, List.replicate_succ, List.replicate_zero, List.length_cons, List.length_nil, if_true, if_false, true_and, and_true, and_self, Nat.zero_add, Int.natCast_zero, i0, i1, i2, i3, i4, decide_true, decide_false, Bool.not_true, Bool.not_false, ofString_inj, gt_iff_lt, List.all_cons, List.all_nil, List.any_cons, List.any_nil, Bool.and_true, Bool.true_and, Bool.and_self, Bool.or_false, Bool.false_or, Bool.or_true, Bool.true_or, szOk, mNeg, wipeM, ↓reduceIte, Nat.reduceAdd, Nat.reduceSub, Nat.reduceLeDiff, Int.reduceLT, Int.reduceLE, Int.reduceNeg, Int.reduceAdd, Int.reduceSub, Int.reducePow, Int.reduceEq, Int.reduceLT, Int.reduceMod, Int.reduceDiv, Int.reduceMul, Int.reduceToNat, String.reduceEq, reduceCtorEq, hx, p1]
  refine ⟨by rw [lp]; omega, ?_⟩
  unfold prs
  refine s_compE (ef := fun p => .bl true) (by simp) (fun p hp => ⟨_, rfl, ?_⟩) ?_
  · exact Gd.eq (by simp only [↓SX1, SX2, ↓SV1, SV2, List.getElem?_cons_zero, List.getElem?_cons_succ, List.set_cons_zero, List.set_cons_succ, List.map_cons, List.map_nil, List.cons_append, List.nil_append, List.append_nil, List.replicate_succ, List.replicate_zero, List.length_cons, List.length_nil, if_true, if_false, true_and, and_true, and_self, Nat.zero_add, Int.natCast_zero, i0, i1, i2, i3, i4, decide_true, decide_false, Bool.not_true, Bool.not_false, ofString_inj, gt_iff_lt, List.all_cons, List.all_nil, List.any_cons, List.any_nil, Bool.and_true, Bool.true_and, Bool.and_self, Bool.or_false, Bool.false_or, Bool.or_true, Bool.true_or, szOk, mNeg, wipeM, ↓reduceIte, Nat.reduceAdd, Nat.reduceSub, Nat.reduceLeDiff, Int.reduceLT, Int.reduceLE, Int.reduceNeg, Int.reduceAdd, Int.reduceSub, Int.reducePow, Int.reduceEq, Int.reduceLT, Int.reduceMod, Int.reduceDiv, Int.reduceMul, Int.reduceToNat, String.reduceEq, reduceCtorEq, lot_ok (oc p hp)]; exact ⟨rfl, rfl⟩)
  · simp only [↓SX1, SX2, ↓SV1, SV2, List.getElem?_cons_zero, List.getElem?_cons_succ, List.set_cons_zero, List.set_cons_succ, List.map_cons, List.map_nil, List.cons_append, List.nil_append, List.append_nil, List.replicate_succ, List.replicate_zero, List.length_cons, List.length_nil, if_true, if_false, true_and, and_true, and_self, Nat.zero_add, Int.natCast_zero, i0, i1, i2, i3, i4, decide_true, decide_false, Bool.not_true, Bool.not_false, ofString_inj, gt_iff_lt, List.all_cons, List.all_nil, List.any_cons, List.any_nil, Bool.and_true, Bool.true_and, Bool.and_self, Bool.or_false, Bool.false_or, Bool.or_true, Bool.true_or, szOk, mNeg, wipeM, ↓reduceIte, Nat.reduceAdd, Nat.reduceSub, Nat.reduceLeDiff, Int.reduceLT, Int.reduceLE, Int.reduceNeg, Int.reduceAdd, Int.reduceSub, Int.reducePow, Int.reduceEq, Int.reduceLT, Int.reduceMod, Int.reduceDiv, Int.reduceMul, Int.reduceToNat, String.reduceEq, reduceCtorEq, lAll_b, all_true]
    exact ⟨rfl, gc_len rfl⟩
theorem lots_x {l : List (Int × Ce)} (ok : PrOk l) (oc : ∀ p, p ∈ l → p.2.Ok) (H : MH) : m_are_lots [.tux (prs Ce.mv l)] H = .ok (.bl true) H := lots_go ok oc H _ rfl
theorem lots_t {l : List (Int × Ce)} (ok : PrOk l) (oc : ∀ p, p ∈ l → p.2.Ok) (H : MH) : m_are_lots [.tup (prs Ce.mv l)] H = .ok (.bl true) H := lots_go ok oc H _ rfl
/-- a sweep's paper as it's told -/
def pap (cs : List (Int × Ce)) (rs : List Int) (ms : List (Int × Int)) (bs : List (Int × Ce)) : MV := .tup [.tux (prs Ce.mv cs), .tup (rs.map .int), .tux (prs MV.int ms), .tup (prs Ce.mv bs)]
structure PaOk (cs : List (Int × Ce)) (rs : List Int) (ms : List (Int × Int)) (bs : List (Int × Ce)) : Prop where
  cp : PrOk cs
  co : ∀ p, p ∈ cs → p.2.Ok
  ru : Up rs
  r0 : ∀ r, r ∈ rs → 0 ≤ r
  rl : rs.length ≤ 1000
  mp : PrOk ms
  m0 : ∀ p, p ∈ ms → 0 ≤ p.2
  bp : PrOk bs
  bo : ∀ p, p ∈ bs → p.2.Ok
theorem formed_ok {cs : List (Int × Ce)} {rs : List Int} {ms : List (Int × Int)} {bs : List (Int × Ce)} (ok : PaOk cs rs ms bs) (H : MH) : m_is_formed [pap cs rs ms bs] H = .ok (.bl true) H := by
  unfold m_is_formed
  refine e_fun rfl ?_
  unfold b_is_formed pap
  simp only [↓SX1, SX2, ↓SV1, SV2, List.getElem?_cons_zero, List.getElem?_cons_succ, List.set_cons_zero, List.set_cons_succ, List.map_cons, List.map_nil, List.cons_append, List.nil_append, List.append_nil, List.replicate_succ, List.replicate_zero, List.length_cons, List.length_nil, if_true, if_false, true_and, and_true, and_self, Nat.zero_add, Int.natCast_zero, i0, i1, i2, i3, i4, decide_true, decide_false, Bool.not_true, Bool.not_false, ofString_inj, gt_iff_lt, List.all_cons, List.all_nil, List.any_cons, List.any_nil, Bool.and_true, Bool.true_and, Bool.and_self, Bool.or_false, Bool.false_or, Bool.or_true, Bool.true_or, szOk, mNeg, wipeM, ↓reduceIte, Nat.reduceAdd, Nat.reduceSub, Nat.reduceLeDiff, Int.reduceLT, Int.reduceLE, Int.reduceNeg, Int.reduceAdd, Int.reduceSub, Int.reducePow, Int.reduceEq, Int.reduceLT, Int.reduceMod, Int.reduceDiv, Int.reduceMul, Int.reduceToNat, String.reduceEq, reduceCtorEq, lots_x ok.cp ok.co, lots_t ok.bp ok.bo]
  have rl := ok.rl
  refine ⟨by rw [List.length_map]; omega, ?_⟩
  refine s_compE (ef := fun _ => .bl true) (by simp) (fun r hr => ⟨_, rfl, ?_⟩) ?_
  · exact Gd.eq (by simp only [↓SX1, SX2, ↓SV1, SV2, List.getElem?_cons_zero, List.getElem?_cons_succ, List.set_cons_zero, List.set_cons_succ, List.map_cons, List.map_nil, List.cons_append, List.nil_append, List.append_nil, List.replicate_succ, List.replicate_zero, List.length_cons, List.length_nil, if_true, if_false, true_and, and_true, and_self, Nat.zero_add, Int.natCast_zero, i0, i1, i2, i3, i4, decide_true, decide_false, Bool.not_true, Bool.not_false, ofString_inj, gt_iff_lt, List.all_cons, List.all_nil, List.any_cons, List.any_nil, Bool.and_true, Bool.true_and, Bool.and_self, Bool.or_false, Bool.false_or, Bool.or_true, Bool.true_or, szOk, mNeg, wipeM, ↓reduceIte, Nat.reduceAdd, Nat.reduceSub, Nat.reduceLeDiff, Int.reduceLT, Int.reduceLE, Int.reduceNeg, Int.reduceAdd, Int.reduceSub, Int.reducePow, Int.reduceEq, Int.reduceLT, Int.reduceMod, Int.reduceDiv, Int.reduceMul, Int.reduceToNat, String.reduceEq, reduceCtorEq, whole_ok, ok.r0 r hr]; exact ⟨rfl, rfl⟩)
  · simp only [↓SX1, SX2, ↓SV1, SV2, List.getElem?_cons_zero, List.getElem?_cons_succ, List.set_cons_zero, List.set_cons_succ, List.map_cons, List.map_nil, List.cons_append, List.nil_append, List.append_nil, List.replicate_succ, List.replicate_zero, List.length_cons, List.length_nil, if_true, if_false, true_and, and_true, and_self, Nat.zero_add, Int.natCast_zero, i0, i1, i2, i3, i4, decide_true, decide_false, Bool.not_true, Bool.not_false, ofString_inj, gt_iff_lt, List.all_cons, List.all_nil, List.any_cons, List.any_nil, Bool.and_true, Bool.true_and, Bool.and_self, Bool.or_false, Bool.false_or, Bool.or_true, Bool.true_or, szOk, mNeg, wipeM, ↓reduceIte, Nat.reduceAdd, Nat.reduceSub, Nat.reduceLeDiff, Int.reduceLT, Int.reduceLE, Int.reduceNeg, Int.reduceAdd, Int.reduceSub, Int.reducePow, Int.reduceEq, Int.reduceLT, Int.reduceMod, Int.reduceDiv, Int.reduceMul, Int.reduceToNat, String.reduceEq, reduceCtorEq, lAll_b, all_true, rising_t ok.ru rl, pairs_t ok.mp]
    have lp : (prs MV.int ms).length = ms.length := by unfold prs; rw [List.length_map]
    have ml := ok.mp.2.2
    refine ⟨by rw [lp]; omega, ?_⟩
    unfold prs
    refine s_compE (ef := fun _ => .bl true) (by simp) (fun p hp => ⟨_, rfl, ?_⟩) ?_
    · exact Gd.eq (by simp only [↓SX1, SX2, ↓SV1, SV2, List.getElem?_cons_zero, List.getElem?_cons_succ, List.set_cons_zero, List.set_cons_succ, List.map_cons, List.map_nil, List.cons_append, List.nil_append, List.append_nil, List.replicate_succ, List.replicate_zero, List.length_cons, List.length_nil, if_true, if_false, true_and, and_true, and_self, Nat.zero_add, Int.natCast_zero, i0, i1, i2, i3, i4, decide_true, decide_false, Bool.not_true, Bool.not_false, ofString_inj, gt_iff_lt, List.all_cons, List.all_nil, List.any_cons, List.any_nil, Bool.and_true, Bool.true_and, Bool.and_self, Bool.or_false, Bool.false_or, Bool.or_true, Bool.true_or, szOk, mNeg, wipeM, ↓reduceIte, Nat.reduceAdd, Nat.reduceSub, Nat.reduceLeDiff, Int.reduceLT, Int.reduceLE, Int.reduceNeg, Int.reduceAdd, Int.reduceSub, Int.reducePow, Int.reduceEq, Int.reduceLT, Int.reduceMod, Int.reduceDiv, Int.reduceMul, Int.reduceToNat, String.reduceEq, reduceCtorEq, whole_ok, ok.m0 p hp]; exact ⟨rfl, rfl⟩)
    · simp only [↓SX1, SX2, ↓SV1, SV2, List.getElem?_cons_zero, List.getElem?_cons_succ, List.set_cons_zero, List.set_cons_succ, List.map_cons, List.map_nil, List.cons_append, List.nil_append, List.append_nil, List.replicate_succ, List.replicate_zero, List.length_cons, List.length_nil, if_true, if_false, true_and, and_true, and_self, Nat.zero_add, Int.natCast_zero, i0, i1, i2, i3, i4, decide_true, decide_false, Bool.not_true, Bool.not_false, ofString_inj, gt_iff_lt, List.all_cons, List.all_nil, List.any_cons, List.any_nil, Bool.and_true, Bool.true_and, Bool.and_self, Bool.or_false, Bool.false_or, Bool.or_true, Bool.true_or, szOk, mNeg, wipeM, ↓reduceIte, Nat.reduceAdd, Nat.reduceSub, Nat.reduceLeDiff, Int.reduceLT, Int.reduceLE, Int.reduceNeg, Int.reduceAdd, Int.reduceSub, Int.reducePow, Int.reduceEq, Int.reduceLT, Int.reduceMod, Int.reduceDiv, Int.reduceMul, Int.reduceToNat, String.reduceEq, reduceCtorEq, lAll_b, all_true]
      exact ⟨rfl, gc_len rfl⟩
end My

set_option Elab.async false
set_option linter.all false
set_option maxRecDepth 100000
set_option maxHeartbeats 8000000
namespace My
open PySem L2 Sm
/-! ### dicts by numbers; parts; moved ones -/
section
variable {α : Type}
def look (l : List (Int × α)) (a : Int) : Option α := (l.find? fun p => decide (p.1 = a)).map (·.2)
def dctM (f : α → MV) (l : List (Int × α)) : List (Key × MV) := l.map fun p => ((Sum.inl p.1 : Key), f p.2)
theorem val_dct (f : α → MV) (l : List (Int × α)) (a : Int) : valM (dctM f l) (.inl a) = (look l a).map f := by
  unfold valM look dctM
  rw [List.find?_map]
  simp only [Option.map_map]
  have : ((fun kv : Key × MV => decide (kv.1 = Sum.inl a)) ∘ fun p : Int × α => ((Sum.inl p.1 : Key), f p.2)) = fun p => decide (p.1 = a) := by
    funext p
    simp [Sum.inl.injEq]
  rw [this]
  rfl
def ksM (l : List (Int × α)) : List Key := l.map fun p => Sum.inl p.1
def xsM (f : α → MV) (l : List (Int × α)) : List MV := l.map fun p => f p.2
def fdcM (f : α → MV) (l : List (Int × α)) : MV := .fdc (ksM l) (xsM f l)
theorem zip_fdc (f : α → MV) : ∀ l : List (Int × α), (ksM l).zip (xsM f l) = dctM f l
  | [] => rfl
  | p :: l => by
    have := zip_fdc f l
    unfold ksM xsM dctM at *
    rw [List.map_cons, List.map_cons, List.zip_cons_cons, this]
    rfl
theorem dct_fst (f : α → MV) (l : List (Int × α)) : (dctM f l).map (·.1) = ksM l := by unfold dctM ksM; rw [List.map_map]; rfl
theorem dct_snd (f : α → MV) (l : List (Int × α)) : (dctM f l).map (·.2) = xsM f l := by unfold dctM xsM; rw [List.map_map]; rfl
theorem kM_ks (l : List (Int × α)) : (ksM l).map kM = (l.map (·.1)).map .int := by unfold ksM; rw [List.map_map, List.map_map]; rfl
theorem look_mem {l : List (Int × α)} {a : Int} {x : α} (e : look l a = some x) : (a, x) ∈ l := by
  unfold look at e
  obtain ⟨p, e1, e2⟩ := Option.map_eq_some_iff.mp e
  have := List.find?_some e1
  have := of_decide_eq_true this
  have m := List.mem_of_find?_eq_some e1
  rw [← e2, ← this]
  exact m
theorem look_some {l : List (Int × α)} {a : Int} (h : a ∈ l.map (·.1)) : ∃ x, look l a = some x := by
  obtain ⟨p, hp, e⟩ := List.mem_map.mp h
  unfold look
  cases e1 : l.find? fun p => decide (p.1 = a) with
  | some q => exact ⟨_, rfl⟩
  | none =>
    have := List.find?_eq_none.mp e1 p hp
    simp [e] at this
theorem look_none {l : List (Int × α)} {a : Int} (h : ¬ a ∈ l.map (·.1)) : look l a = none := by
  cases e : look l a with
  | none => rfl
  | some x => exact absurd (List.mem_map.mpr ⟨_, look_mem e, rfl⟩) h
theorem look_iff {l : List (Int × α)} {a : Int} : (look l a).isSome = decide (a ∈ l.map (·.1)) := by
  by_cases h : a ∈ l.map (·.1)
  · obtain ⟨x, e⟩ := look_some h
    rw [e, decide_eq_true h]; rfl
  · rw [look_none h, decide_eq_false h]; rfl
theorem merge_nd (f : α → MV) : ∀ (l : List (Int × α)) (acc : List (Int × α)), ((acc ++ l).map (·.1)).Nodup → mergeM (dctM f acc) (dctM f l) = dctM f (acc ++ l)
  | [], acc, _ => by rw [List.append_nil]; rfl
  | p :: l, acc, h => by
    have np : ¬ p.1 ∈ acc.map (·.1) := by
      rw [List.map_append, List.map_cons, List.nodup_append] at h
      intro z
      exact h.2.2 _ z _ (by simp) rfl
    have st : putDM (dctM f acc) (Sum.inl p.1) (f p.2) = dctM f (acc ++ [p]) := by
      unfold putDM
      rw [if_neg]
      · unfold dctM; rw [List.map_append]; rfl
      · intro z
        obtain ⟨kv, h1, h2⟩ := List.any_eq_true.mp z
        unfold dctM at h1
        obtain ⟨q, hq, rfl⟩ := List.mem_map.mp h1
        have := of_decide_eq_true h2
        simp only [Sum.inl.injEq] at this
        exact np (List.mem_map.mpr ⟨q, hq, this⟩)
    have ih := merge_nd f l (acc ++ [p]) (by rw [List.append_assoc]; exact h)
    rw [List.append_assoc] at ih
    unfold mergeM at ih ⊢
    show List.foldl _ (putDM (dctM f acc) (Sum.inl p.1) (f p.2)) (dctM f l) = _
    rw [st]
    exact ih
theorem dictT_ok {f : α → MV} {l : List (Int × α)} (h : (l.map (·.1)).Nodup) (H : MH) : mDictT [.tux (prs f l)] H = .ok (fdcM f l) H := by
  have e : (prs f l).mapM prM = some (dctM f l) := by
    clear h
    induction l with
    | nil => rfl
    | cons p l ih =>
      unfold prs dctM at ih ⊢
      rw [List.map_cons, List.mapM_cons]
      simp only [ih]
      rfl
  unfold mDictT
  simp only [e]
  have m := merge_nd f l [] (by simpa using h)
  have m : mergeM [] (dctM f l) = dctM f l := m
  rw [m, dct_fst, dct_snd]
  rfl
end
def isC : Wt → Bool | .cell _ => true | _ => false
theorem cell_ok (w : Wt) (H : MH) : m_is_cell [w.mv] H = .ok (.bl (isC w)) H := by
  unfold m_is_cell
  refine e_fun rfl ?_
  unfold b_is_cell
  cases w <;> (simp only [↓SX1, SX2, ↓SV1, SV2, List.getElem?_cons_zero, List.getElem?_cons_succ, List.set_cons_zero, List.set_cons_succ, List.map_cons, List.map_nil, List.cons_append, List.nil_append, List.append_nil, List.replicate_succ, List.replicate_zero, List.length_cons, List.length_nil, if_true, if_false, true_and, and_true, and_self, Nat.zero_add, Int.natCast_zero, i0, i1, i2, i3, i4, decide_true, decide_false, Bool.not_true, Bool.not_false, ofString_inj, gt_iff_lt, List.all_cons, List.all_nil, List.any_cons, List.any_nil, Bool.and_true, Bool.true_and, Bool.and_self, Bool.or_false, Bool.false_or, Bool.or_true, Bool.true_or, szOk, mNeg, wipeM, ↓reduceIte, Nat.reduceAdd, Nat.reduceSub, Nat.reduceLeDiff, Int.reduceLT, Int.reduceLE, Int.reduceNeg, Int.reduceAdd, Int.reduceSub, Int.reducePow, Int.reduceEq, Int.reduceLT, Int.reduceMod, Int.reduceDiv, Int.reduceMul, Int.reduceToNat, String.reduceEq, reduceCtorEq, Wt.mv]; exact ⟨rfl, gc_len rfl⟩)
theorem it_t {xs : List MV} {h : MH} : itemsOf (.tup xs) h = some xs := rfl
theorem at3 {a b c : MV} : atI [a, b, c] (-1) = some c := rfl
theorem at2 {a b : MV} : atI [a, b] (-1) = some b := rfl
theorem cu5 {a b c d e : MV} : cutM [a, b, c, d, e] (some 3) none = [d, e] := rfl
theorem cv5 {a b c d e : MV} : cutM [a, b, c, d, e] none (some 3) = [a, b, c] := rfl
theorem cw3 {a b c : MV} : cutM [a, b, c] none (some (-1)) = [a, b] := rfl
theorem cw2 {a b : MV} : cutM [a, b] none (some (-1)) = [a] := rfl
def Ce.Sz (c : Ce) : Prop := c.parts.length ≤ 100
theorem parts_ok {c : Ce} (sz : c.Sz) (H : MH) : m_parts_of [c.mv] H = .ok (mvs c.parts) H := by
  unfold m_parts_of
  refine e_fun rfl ?_
  unfold b_parts_of
  cases c with
  | thing k ws => simp only [↓SX1, SX2, ↓SV1, SV2, List.getElem?_cons_zero, List.getElem?_cons_succ, List.set_cons_zero, List.set_cons_succ, List.map_cons, List.map_nil, List.cons_append, List.nil_append, List.append_nil, List.replicate_succ, List.replicate_zero, List.length_cons, List.length_nil, if_true, if_false, true_and, and_true, and_self, Nat.zero_add, Int.natCast_zero, i0, i1, i2, i3, i4, decide_true, decide_false, Bool.not_true, Bool.not_false, ofString_inj, gt_iff_lt, List.all_cons, List.all_nil, List.any_cons, List.any_nil, Bool.and_true, Bool.true_and, Bool.and_self, Bool.or_false, Bool.false_or, Bool.or_true, Bool.true_or, szOk, mNeg, wipeM, ↓reduceIte, Nat.reduceAdd, Nat.reduceSub, Nat.reduceLeDiff, Int.reduceLT, Int.reduceLE, Int.reduceNeg, Int.reduceAdd, Int.reduceSub, Int.reducePow, Int.reduceEq, Int.reduceLT, Int.reduceMod, Int.reduceDiv, Int.reduceMul, Int.reduceToNat, String.reduceEq, reduceCtorEq, Ce.mv, at3]; exact ⟨rfl, gc_len rfl⟩
  | block i j a b => simp only [↓SX1, SX2, ↓SV1, SV2, List.getElem?_cons_zero, List.getElem?_cons_succ, List.set_cons_zero, List.set_cons_succ, List.map_cons, List.map_nil, List.cons_append, List.nil_append, List.append_nil, List.replicate_succ, List.replicate_zero, List.length_cons, List.length_nil, if_true, if_false, true_and, and_true, and_self, Nat.zero_add, Int.natCast_zero, i0, i1, i2, i3, i4, decide_true, decide_false, Bool.not_true, Bool.not_false, ofString_inj, gt_iff_lt, List.all_cons, List.all_nil, List.any_cons, List.any_nil, Bool.and_true, Bool.true_and, Bool.and_self, Bool.or_false, Bool.false_or, Bool.or_true, Bool.true_or, szOk, mNeg, wipeM, ↓reduceIte, Nat.reduceAdd, Nat.reduceSub, Nat.reduceLeDiff, Int.reduceLT, Int.reduceLE, Int.reduceNeg, Int.reduceAdd, Int.reduceSub, Int.reducePow, Int.reduceEq, Int.reduceLT, Int.reduceMod, Int.reduceDiv, Int.reduceMul, Int.reduceToNat, String.reduceEq, reduceCtorEq, Ce.mv, cu5]; exact ⟨rfl, gc_len rfl⟩
  | names ws o =>
    unfold Ce.Sz Ce.parts at sz
    rw [List.length_append, List.length_singleton] at sz
    simp only [↓SX1, SX2, ↓SV1, SV2, List.getElem?_cons_zero, List.getElem?_cons_succ, List.set_cons_zero, List.set_cons_succ, List.map_cons, List.map_nil, List.cons_append, List.nil_append, List.append_nil, List.replicate_succ, List.replicate_zero, List.length_cons, List.length_nil, if_true, if_false, true_and, and_true, and_self, Nat.zero_add, Int.natCast_zero, i0, i1, i2, i3, i4, decide_true, decide_false, Bool.not_true, Bool.not_false, ofString_inj, gt_iff_lt, List.all_cons, List.all_nil, List.any_cons, List.any_nil, Bool.and_true, Bool.true_and, Bool.and_self, Bool.or_false, Bool.false_or, Bool.or_true, Bool.true_or, szOk, mNeg, wipeM, ↓reduceIte, Nat.reduceAdd, Nat.reduceSub, Nat.reduceLeDiff, Int.reduceLT, Int.reduceLE, Int.reduceNeg, Int.reduceAdd, Int.reduceSub, Int.reducePow, Int.reduceEq, Int.reduceLT, Int.reduceMod, Int.reduceDiv, Int.reduceMul, Int.reduceToNat, String.reduceEq, reduceCtorEq, Ce.mv, mvs, mAdd_tt]
    refine ⟨by rw [List.length_map]; omega, ?_⟩
    refine ⟨by simp only [mvs, Ce.parts, List.map_append, List.map_cons, List.map_nil], gc_len rfl⟩
  | list ws => simp only [↓SX1, SX2, ↓SV1, SV2, List.getElem?_cons_zero, List.getElem?_cons_succ, List.set_cons_zero, List.set_cons_succ, List.map_cons, List.map_nil, List.cons_append, List.nil_append, List.append_nil, List.replicate_succ, List.replicate_zero, List.length_cons, List.length_nil, if_true, if_false, true_and, and_true, and_self, Nat.zero_add, Int.natCast_zero, i0, i1, i2, i3, i4, decide_true, decide_false, Bool.not_true, Bool.not_false, ofString_inj, gt_iff_lt, List.all_cons, List.all_nil, List.any_cons, List.any_nil, Bool.and_true, Bool.true_and, Bool.and_self, Bool.or_false, Bool.false_or, Bool.or_true, Bool.true_or, szOk, mNeg, wipeM, ↓reduceIte, Nat.reduceAdd, Nat.reduceSub, Nat.reduceLeDiff, Int.reduceLT, Int.reduceLE, Int.reduceNeg, Int.reduceAdd, Int.reduceSub, Int.reducePow, Int.reduceEq, Int.reduceLT, Int.reduceMod, Int.reduceDiv, Int.reduceMul, Int.reduceToNat, String.reduceEq, reduceCtorEq, Ce.mv, at2]; exact ⟨rfl, gc_len rfl⟩
section
variable (ms : List (Int × Int))
def inm : Wt → Bool | .cell a => (look ms a).isSome | _ => true
def movedB (c : Ce) : Bool := c.parts.all (inm ms)
def mvA (a : Int) : Int := (look ms a).getD a
def movW : Wt → Wt | .cell a => .cell (mvA ms a) | w => w
def movC : Ce → Ce
  | .thing k ws => .thing k (ws.map (movW ms))
  | .block i j a b => .block i j (mvA ms a) (mvA ms b)
  | .names ws o => .names (ws.map (movW ms)) (o.map (mvA ms))
  | .list ws => .list (ws.map (movW ms))
end
section
variable {ms : List (Int × Int)}
theorem moved_ok {c : Ce} (sz : c.Sz) (H : MH) : m_are_moved [c.mv, fdcM .int ms] H = .ok (.bl (movedB ms c)) H := by
  unfold m_are_moved
  refine e_fun rfl ?_
  unfold b_are_moved
  simp only [↓SX1, SX2, ↓SV1, SV2, List.getElem?_cons_zero, List.getElem?_cons_succ, List.set_cons_zero, List.set_cons_succ, List.map_cons, List.map_nil, List.cons_append, List.nil_append, List.append_nil, List.replicate_succ, List.replicate_zero, List.length_cons, List.length_nil, if_true, if_false, true_and, and_true, and_self, Nat.zero_add, Int.natCast_zero, i0, i1, i2, i3, i4, decide_true, decide_false, Bool.not_true, Bool.not_false, ofString_inj, gt_iff_lt, List.all_cons, List.all_nil, List.any_cons, List.any_nil, Bool.and_true, Bool.true_and, Bool.and_self, Bool.or_false, Bool.false_or, Bool.or_true, Bool.true_or, szOk, mNeg, wipeM, ↓reduceIte, Nat.reduceAdd, Nat.reduceSub, Nat.reduceLeDiff, Int.reduceLT, Int.reduceLE, Int.reduceNeg, Int.reduceAdd, Int.reduceSub, Int.reducePow, Int.reduceEq, Int.reduceLT, Int.reduceMod, Int.reduceDiv, Int.reduceMul, Int.reduceToNat, String.reduceEq, reduceCtorEq, parts_ok sz, mvs]
  refine ⟨by rw [List.length_map]; unfold Ce.Sz at sz; omega, ?_⟩
  refine s_comp (fun ys xs h => h = H ∧ ∃ (bs : List Bool) (ps : List Wt), ys = bs.map MV.bl ∧ xs = ps.map Wt.mv ∧ (bs.all id && ps.all (inm ms)) = movedB ms c) (fun _ _ _ _ => by simp) ⟨rfl, [], _, rfl, rfl, rfl⟩ (fun ys x xs h i => ?_) (fun zs h i => ?_)
  · obtain ⟨rfl, bs, ps, rfl, e, hb⟩ := i
    cases ps with
    | nil => cases e
    | cons p ps =>
      simp only [List.map_cons, List.cons.injEq] at e
      obtain ⟨rfl, rfl⟩ := e
      refine ⟨_, rfl, ?_⟩
      have hb' : (bs.all id && (inm ms p && ps.all (inm ms))) = movedB ms c := hb
      have e1 := cell_ok p h
      cases p with
      | cell a =>
        simp only [↓SX1, SX2, ↓SV1, SV2, List.getElem?_cons_zero, List.getElem?_cons_succ, List.set_cons_zero, List.set_cons_succ, List.map_cons, List.map_nil, List.cons_append, List.nil_append, List.append_nil, List.replicate_succ, List.replicate_zero, List.length_cons, List.length_nil, if_true, if_false, true_and, and_true, and_self, Nat.zero_add, Int.natCast_zero, i0, i1, i2, i3, i4, decide_true, decide_false, Bool.not_true, Bool.not_false, ofString_inj, gt_iff_lt, List.all_cons, List.all_nil, List.any_cons, List.any_nil, Bool.and_true, Bool.true_and, Bool.and_self, Bool.or_false, Bool.false_or, Bool.or_true, Bool.true_or, szOk, mNeg, wipeM, ↓reduceIte, Nat.reduceAdd, Nat.reduceSub, Nat.reduceLeDiff, Int.reduceLT, Int.reduceLE, Int.reduceNeg, Int.reduceAdd, Int.reduceSub, Int.reducePow, Int.reduceEq, Int.reduceLT, Int.reduceMod, Int.reduceDiv, Int.reduceMul, Int.reduceToNat, String.reduceEq, reduceCtorEq, e1, isC]
        simp only [↓SX1, SX2, ↓SV1, SV2, List.getElem?_cons_zero, List.getElem?_cons_succ, List.set_cons_zero, List.set_cons_succ, List.map_cons, List.map_nil, List.cons_append, List.nil_append, List.append_nil, List.replicate_succ, List.replicate_zero, List.length_cons, List.length_nil, if_true, if_false, true_and, and_true, and_self, Nat.zero_add, Int.natCast_zero, i0, i1, i2, i3, i4, decide_true, decide_false, Bool.not_true, Bool.not_false, ofString_inj, gt_iff_lt, List.all_cons, List.all_nil, List.any_cons, List.any_nil, Bool.and_true, Bool.true_and, Bool.and_self, Bool.or_false, Bool.false_or, Bool.or_true, Bool.true_or, szOk, mNeg, wipeM, ↓reduceIte, Nat.reduceAdd, Nat.reduceSub, Nat.reduceLeDiff, Int.reduceLT, Int.reduceLE, Int.reduceNeg, Int.reduceAdd, Int.reduceSub, Int.reducePow, Int.reduceEq, Int.reduceLT, Int.reduceMod, Int.reduceDiv, Int.reduceMul, Int.reduceToNat, String.reduceEq, reduceCtorEq, Wt.mv, fdcM, zip_fdc, val_dct]
        refine ⟨bs ++ [(look ms a).isSome], ps, by simp, rfl, ?_⟩
        rw [List.all_append, ← hb', Bool.and_assoc]
        simp [inm]
      | _ =>
        simp only [↓SX1, SX2, ↓SV1, SV2, List.getElem?_cons_zero, List.getElem?_cons_succ, List.set_cons_zero, List.set_cons_succ, List.map_cons, List.map_nil, List.cons_append, List.nil_append, List.append_nil, List.replicate_succ, List.replicate_zero, List.length_cons, List.length_nil, if_true, if_false, true_and, and_true, and_self, Nat.zero_add, Int.natCast_zero, i0, i1, i2, i3, i4, decide_true, decide_false, Bool.not_true, Bool.not_false, ofString_inj, gt_iff_lt, List.all_cons, List.all_nil, List.any_cons, List.any_nil, Bool.and_true, Bool.true_and, Bool.and_self, Bool.or_false, Bool.false_or, Bool.or_true, Bool.true_or, szOk, mNeg, wipeM, ↓reduceIte, Nat.reduceAdd, Nat.reduceSub, Nat.reduceLeDiff, Int.reduceLT, Int.reduceLE, Int.reduceNeg, Int.reduceAdd, Int.reduceSub, Int.reducePow, Int.reduceEq, Int.reduceLT, Int.reduceMod, Int.reduceDiv, Int.reduceMul, Int.reduceToNat, String.reduceEq, reduceCtorEq, e1, isC]
        exact ⟨bs, ps, rfl, rfl, by rw [← hb']; simp [inm]⟩
  · obtain ⟨rfl, bs, ps, rfl, e, hb⟩ := i
    have : ps = [] := by cases ps with | nil => rfl | cons _ _ => cases e
    subst this
    have e2 := lAll_b (h := h) (us := bs) (f := id)
    have e3 : (bs.map fun u => MV.bl (id u)) = bs.map MV.bl := rfl
    rw [e3] at e2
    simp only [↓SX1, SX2, ↓SV1, SV2, List.getElem?_cons_zero, List.getElem?_cons_succ, List.set_cons_zero, List.set_cons_succ, List.map_cons, List.map_nil, List.cons_append, List.nil_append, List.append_nil, List.replicate_succ, List.replicate_zero, List.length_cons, List.length_nil, if_true, if_false, true_and, and_true, and_self, Nat.zero_add, Int.natCast_zero, i0, i1, i2, i3, i4, decide_true, decide_false, Bool.not_true, Bool.not_false, ofString_inj, gt_iff_lt, List.all_cons, List.all_nil, List.any_cons, List.any_nil, Bool.and_true, Bool.true_and, Bool.and_self, Bool.or_false, Bool.false_or, Bool.or_true, Bool.true_or, szOk, mNeg, wipeM, ↓reduceIte, Nat.reduceAdd, Nat.reduceSub, Nat.reduceLeDiff, Int.reduceLT, Int.reduceLE, Int.reduceNeg, Int.reduceAdd, Int.reduceSub, Int.reducePow, Int.reduceEq, Int.reduceLT, Int.reduceMod, Int.reduceDiv, Int.reduceMul, Int.reduceToNat, String.reduceEq, reduceCtorEq, e2]
    exact ⟨by rw [← hb]; simp, gc_len rfl⟩
theorem mworth_ok {w : Wt} (h : inm ms w = true) (H : MH) : m_moved_worth [w.mv, fdcM .int ms] H = .ok (movW ms w).mv H := by
  unfold m_moved_worth
  refine e_fun rfl ?_
  unfold b_moved_worth
  have e1 := cell_ok w H
  cases w with
  | cell a =>
    unfold inm at h
    obtain ⟨b, hb⟩ := Option.isSome_iff_exists.mp h
    simp only [↓SX1, SX2, ↓SV1, SV2, List.getElem?_cons_zero, List.getElem?_cons_succ, List.set_cons_zero, List.set_cons_succ, List.map_cons, List.map_nil, List.cons_append, List.nil_append, List.append_nil, List.replicate_succ, List.replicate_zero, List.length_cons, List.length_nil, if_true, if_false, true_and, and_true, and_self, Nat.zero_add, Int.natCast_zero, i0, i1, i2, i3, i4, decide_true, decide_false, Bool.not_true, Bool.not_false, ofString_inj, gt_iff_lt, List.all_cons, List.all_nil, List.any_cons, List.any_nil, Bool.and_true, Bool.true_and, Bool.and_self, Bool.or_false, Bool.false_or, Bool.or_true, Bool.true_or, szOk, mNeg, wipeM, ↓reduceIte, Nat.reduceAdd, Nat.reduceSub, Nat.reduceLeDiff, Int.reduceLT, Int.reduceLE, Int.reduceNeg, Int.reduceAdd, Int.reduceSub, Int.reducePow, Int.reduceEq, Int.reduceLT, Int.reduceMod, Int.reduceDiv, Int.reduceMul, Int.reduceToNat, String.reduceEq, reduceCtorEq, e1, isC]
    simp only [↓SX1, SX2, ↓SV1, SV2, List.getElem?_cons_zero, List.getElem?_cons_succ, List.set_cons_zero, List.set_cons_succ, List.map_cons, List.map_nil, List.cons_append, List.nil_append, List.append_nil, List.replicate_succ, List.replicate_zero, List.length_cons, List.length_nil, if_true, if_false, true_and, and_true, and_self, Nat.zero_add, Int.natCast_zero, i0, i1, i2, i3, i4, decide_true, decide_false, Bool.not_true, Bool.not_false, ofString_inj, gt_iff_lt, List.all_cons, List.all_nil, List.any_cons, List.any_nil, Bool.and_true, Bool.true_and, Bool.and_self, Bool.or_false, Bool.false_or, Bool.or_true, Bool.true_or, szOk, mNeg, wipeM, ↓reduceIte, Nat.reduceAdd, Nat.reduceSub, Nat.reduceLeDiff, Int.reduceLT, Int.reduceLE, Int.reduceNeg, Int.reduceAdd, Int.reduceSub, Int.reducePow, Int.reduceEq, Int.reduceLT, Int.reduceMod, Int.reduceDiv, Int.reduceMul, Int.reduceToNat, String.reduceEq, reduceCtorEq, Wt.mv, fdcM, zip_fdc, val_dct, hb, Option.map_some]
    exact ⟨by simp only [movW, mvA, hb, Wt.mv, Option.getD_some], gc_len rfl⟩
  | _ =>
    simp only [↓SX1, SX2, ↓SV1, SV2, List.getElem?_cons_zero, List.getElem?_cons_succ, List.set_cons_zero, List.set_cons_succ, List.map_cons, List.map_nil, List.cons_append, List.nil_append, List.append_nil, List.replicate_succ, List.replicate_zero, List.length_cons, List.length_nil, if_true, if_false, true_and, and_true, and_self, Nat.zero_add, Int.natCast_zero, i0, i1, i2, i3, i4, decide_true, decide_false, Bool.not_true, Bool.not_false, ofString_inj, gt_iff_lt, List.all_cons, List.all_nil, List.any_cons, List.any_nil, Bool.and_true, Bool.true_and, Bool.and_self, Bool.or_false, Bool.false_or, Bool.or_true, Bool.true_or, szOk, mNeg, wipeM, ↓reduceIte, Nat.reduceAdd, Nat.reduceSub, Nat.reduceLeDiff, Int.reduceLT, Int.reduceLE, Int.reduceNeg, Int.reduceAdd, Int.reduceSub, Int.reducePow, Int.reduceEq, Int.reduceLT, Int.reduceMod, Int.reduceDiv, Int.reduceMul, Int.reduceToNat, String.reduceEq, reduceCtorEq, e1, isC]
    exact ⟨rfl, gc_len rfl⟩
theorem mworths_ok {ws : List Wt} (h : ∀ w, w ∈ ws → inm ms w = true) (hl : ws.length ≤ 1000) (H : MH) : m_moved_worths [mvs ws, fdcM .int ms] H = .ok (mvs (ws.map (movW ms))) H := by
  unfold m_moved_worths
  refine e_fun rfl ?_
  unfold b_moved_worths mvs
  simp only [↓SX1, SX2, ↓SV1, SV2, List.getElem?_cons_zero, List.getElem?_cons_succ, List.set_cons_zero, List.set_cons_succ, List.map_cons, List.map_nil, List.cons_append, List.nil_append, List.append_nil, List.replicate_succ, List.replicate_zero, List.length_cons, List.length_nil, if_true, if_false, true_and, and_true, and_self, Nat.zero_add, Int.natCast_zero, i0, i1, i2, i3, i4, decide_true, decide_false, Bool.not_true, Bool.not_false, ofString_inj, gt_iff_lt, List.all_cons, List.all_nil, List.any_cons, List.any_nil, Bool.and_true, Bool.true_and, Bool.and_self, Bool.or_false, Bool.false_or, Bool.or_true, Bool.true_or, szOk, mNeg, wipeM, ↓reduceIte, Nat.reduceAdd, Nat.reduceSub, Nat.reduceLeDiff, Int.reduceLT, Int.reduceLE, Int.reduceNeg, Int.reduceAdd, Int.reduceSub, Int.reducePow, Int.reduceEq, Int.reduceLT, Int.reduceMod, Int.reduceDiv, Int.reduceMul, Int.reduceToNat, String.reduceEq, reduceCtorEq]
  refine ⟨by rw [List.length_map]; omega, ?_⟩
  refine s_compE (ef := fun w => (movW ms w).mv) (by simp) (fun w hw => ⟨_, rfl, ?_⟩) ?_
  · exact Gd.eq (by simp only [↓SX1, SX2, ↓SV1, SV2, List.getElem?_cons_zero, List.getElem?_cons_succ, List.set_cons_zero, List.set_cons_succ, List.map_cons, List.map_nil, List.cons_append, List.nil_append, List.append_nil, List.replicate_succ, List.replicate_zero, List.length_cons, List.length_nil, if_true, if_false, true_and, and_true, and_self, Nat.zero_add, Int.natCast_zero, i0, i1, i2, i3, i4, decide_true, decide_false, Bool.not_true, Bool.not_false, ofString_inj, gt_iff_lt, List.all_cons, List.all_nil, List.any_cons, List.any_nil, Bool.and_true, Bool.true_and, Bool.and_self, Bool.or_false, Bool.false_or, Bool.or_true, Bool.true_or, szOk, mNeg, wipeM, ↓reduceIte, Nat.reduceAdd, Nat.reduceSub, Nat.reduceLeDiff, Int.reduceLT, Int.reduceLE, Int.reduceNeg, Int.reduceAdd, Int.reduceSub, Int.reducePow, Int.reduceEq, Int.reduceLT, Int.reduceMod, Int.reduceDiv, Int.reduceMul, Int.reduceToNat, String.reduceEq, reduceCtorEq, mworth_ok (h w hw)]; exact ⟨rfl, rfl⟩)
  · simp only [↓SX1, SX2, ↓SV1, SV2, List.getElem?_cons_zero, List.getElem?_cons_succ, List.set_cons_zero, List.set_cons_succ, List.map_cons, List.map_nil, List.cons_append, List.nil_append, List.append_nil, List.replicate_succ, List.replicate_zero, List.length_cons, List.length_nil, if_true, if_false, true_and, and_true, and_self, Nat.zero_add, Int.natCast_zero, i0, i1, i2, i3, i4, decide_true, decide_false, Bool.not_true, Bool.not_false, ofString_inj, gt_iff_lt, List.all_cons, List.all_nil, List.any_cons, List.any_nil, Bool.and_true, Bool.true_and, Bool.and_self, Bool.or_false, Bool.false_or, Bool.or_true, Bool.true_or, szOk, mNeg, wipeM, ↓reduceIte, Nat.reduceAdd, Nat.reduceSub, Nat.reduceLeDiff, Int.reduceLT, Int.reduceLE, Int.reduceNeg, Int.reduceAdd, Int.reduceSub, Int.reducePow, Int.reduceEq, Int.reduceLT, Int.reduceMod, Int.reduceDiv, Int.reduceMul, Int.reduceToNat, String.reduceEq, reduceCtorEq]
    exact ⟨by rw [List.map_map]; rfl, gc_len rfl⟩
theorem mcell_ok {c : Ce} (sz : c.Sz) (h : movedB ms c = true) (H : MH) : m_moved_cell [c.mv, fdcM .int ms] H = .ok (movC ms c).mv H := by
  unfold m_moved_cell
  refine e_fun rfl ?_
  unfold b_moved_cell
  have ha : ∀ w, w ∈ c.parts → inm ms w = true := List.all_eq_true.mp h
  unfold Ce.Sz at sz
  cases c with
  | thing k ws =>
    have e1 := mworths_ok (ws := ws) ha (Nat.le_trans sz (by omega)) H
    simp only [↓SX1, SX2, ↓SV1, SV2, List.getElem?_cons_zero, List.getElem?_cons_succ, List.set_cons_zero, List.set_cons_succ, List.map_cons, List.map_nil, List.cons_append, List.nil_append, List.append_nil, List.replicate_succ, List.replicate_zero, List.length_cons, List.length_nil, if_true, if_false, true_and, and_true, and_self, Nat.zero_add, Int.natCast_zero, i0, i1, i2, i3, i4, decide_true, decide_false, Bool.not_true, Bool.not_false, ofString_inj, gt_iff_lt, List.all_cons, List.all_nil, List.any_cons, List.any_nil, Bool.and_true, Bool.true_and, Bool.and_self, Bool.or_false, Bool.false_or, Bool.or_true, Bool.true_or, szOk, mNeg, wipeM, ↓reduceIte, Nat.reduceAdd, Nat.reduceSub, Nat.reduceLeDiff, Int.reduceLT, Int.reduceLE, Int.reduceNeg, Int.reduceAdd, Int.reduceSub, Int.reducePow, Int.reduceEq, Int.reduceLT, Int.reduceMod, Int.reduceDiv, Int.reduceMul, Int.reduceToNat, String.reduceEq, reduceCtorEq, Ce.mv, at3, cw3, e1, mAdd_tt]
    exact ⟨rfl, gc_len rfl⟩
  | block i j a b =>
    have e1 := mworths_ok (ws := [.cell a, .cell b]) ha (by simp) H
    have e2 : mvs [.cell a, .cell b] = .tup [(Wt.cell a).mv, (Wt.cell b).mv] := rfl
    rw [e2] at e1
    simp only [↓SX1, SX2, ↓SV1, SV2, List.getElem?_cons_zero, List.getElem?_cons_succ, List.set_cons_zero, List.set_cons_succ, List.map_cons, List.map_nil, List.cons_append, List.nil_append, List.append_nil, List.replicate_succ, List.replicate_zero, List.length_cons, List.length_nil, if_true, if_false, true_and, and_true, and_self, Nat.zero_add, Int.natCast_zero, i0, i1, i2, i3, i4, decide_true, decide_false, Bool.not_true, Bool.not_false, ofString_inj, gt_iff_lt, List.all_cons, List.all_nil, List.any_cons, List.any_nil, Bool.and_true, Bool.true_and, Bool.and_self, Bool.or_false, Bool.false_or, Bool.or_true, Bool.true_or, szOk, mNeg, wipeM, ↓reduceIte, Nat.reduceAdd, Nat.reduceSub, Nat.reduceLeDiff, Int.reduceLT, Int.reduceLE, Int.reduceNeg, Int.reduceAdd, Int.reduceSub, Int.reducePow, Int.reduceEq, Int.reduceLT, Int.reduceMod, Int.reduceDiv, Int.reduceMul, Int.reduceToNat, String.reduceEq, reduceCtorEq, Ce.mv, cu5, cv5, e1]
    simp only [↓SX1, SX2, ↓SV1, SV2, List.getElem?_cons_zero, List.getElem?_cons_succ, List.set_cons_zero, List.set_cons_succ, List.map_cons, List.map_nil, List.cons_append, List.nil_append, List.append_nil, List.replicate_succ, List.replicate_zero, List.length_cons, List.length_nil, if_true, if_false, true_and, and_true, and_self, Nat.zero_add, Int.natCast_zero, i0, i1, i2, i3, i4, decide_true, decide_false, Bool.not_true, Bool.not_false, ofString_inj, gt_iff_lt, List.all_cons, List.all_nil, List.any_cons, List.any_nil, Bool.and_true, Bool.true_and, Bool.and_self, Bool.or_false, Bool.false_or, Bool.or_true, Bool.true_or, szOk, mNeg, wipeM, ↓reduceIte, Nat.reduceAdd, Nat.reduceSub, Nat.reduceLeDiff, Int.reduceLT, Int.reduceLE, Int.reduceNeg, Int.reduceAdd, Int.reduceSub, Int.reducePow, Int.reduceEq, Int.reduceLT, Int.reduceMod, Int.reduceDiv, Int.reduceMul, Int.reduceToNat, String.reduceEq, reduceCtorEq, mvs, mAdd_tt]
    exact ⟨rfl, gc_len rfl⟩
  | names ws o =>
    have e1 := mworths_ok (ws := ws) (fun w hw => ha w (by simp [Ce.parts, hw])) (by simp only [Ce.parts, List.length_append, List.length_singleton] at sz; omega) H
    have e2 := mworth_ok (w := oW o) (ha _ (by simp [Ce.parts])) H
    simp only [↓SX1, SX2, ↓SV1, SV2, List.getElem?_cons_zero, List.getElem?_cons_succ, List.set_cons_zero, List.set_cons_succ, List.map_cons, List.map_nil, List.cons_append, List.nil_append, List.append_nil, List.replicate_succ, List.replicate_zero, List.length_cons, List.length_nil, if_true, if_false, true_and, and_true, and_self, Nat.zero_add, Int.natCast_zero, i0, i1, i2, i3, i4, decide_true, decide_false, Bool.not_true, Bool.not_false, ofString_inj, gt_iff_lt, List.all_cons, List.all_nil, List.any_cons, List.any_nil, Bool.and_true, Bool.true_and, Bool.and_self, Bool.or_false, Bool.false_or, Bool.or_true, Bool.true_or, szOk, mNeg, wipeM, ↓reduceIte, Nat.reduceAdd, Nat.reduceSub, Nat.reduceLeDiff, Int.reduceLT, Int.reduceLE, Int.reduceNeg, Int.reduceAdd, Int.reduceSub, Int.reducePow, Int.reduceEq, Int.reduceLT, Int.reduceMod, Int.reduceDiv, Int.reduceMul, Int.reduceToNat, String.reduceEq, reduceCtorEq, Ce.mv, e1, e2]
    exact ⟨by cases o <;> rfl, gc_len rfl⟩
  | list ws =>
    have e1 := mworths_ok (ws := ws) ha (Nat.le_trans sz (by omega)) H
    simp only [↓SX1, SX2, ↓SV1, SV2, List.getElem?_cons_zero, List.getElem?_cons_succ, List.set_cons_zero, List.set_cons_succ, List.map_cons, List.map_nil, List.cons_append, List.nil_append, List.append_nil, List.replicate_succ, List.replicate_zero, List.length_cons, List.length_nil, if_true, if_false, true_and, and_true, and_self, Nat.zero_add, Int.natCast_zero, i0, i1, i2, i3, i4, decide_true, decide_false, Bool.not_true, Bool.not_false, ofString_inj, gt_iff_lt, List.all_cons, List.all_nil, List.any_cons, List.any_nil, Bool.and_true, Bool.true_and, Bool.and_self, Bool.or_false, Bool.false_or, Bool.or_true, Bool.true_or, szOk, mNeg, wipeM, ↓reduceIte, Nat.reduceAdd, Nat.reduceSub, Nat.reduceLeDiff, Int.reduceLT, Int.reduceLE, Int.reduceNeg, Int.reduceAdd, Int.reduceSub, Int.reducePow, Int.reduceEq, Int.reduceLT, Int.reduceMod, Int.reduceDiv, Int.reduceMul, Int.reduceToNat, String.reduceEq, reduceCtorEq, Ce.mv, at2, cw2, e1, mAdd_tt]
    exact ⟨rfl, gc_len rfl⟩
/-! the law's own -/
theorem lparts_ok {c : Ce} (sz : c.Sz) (H : MH) : m_law_parts [c.mv] H = .ok (.ref H.length) (H ++ [.lst (c.parts.map Wt.mv)]) := by
  unfold m_law_parts
  refine e_fun rfl ?_
  unfold b_law_parts
  unfold Ce.Sz at sz
  cases c with
  | thing k ws => simp only [↓SX1, SX2, ↓SV1, SV2, List.getElem?_cons_zero, List.getElem?_cons_succ, List.set_cons_zero, List.set_cons_succ, List.map_cons, List.map_nil, List.cons_append, List.nil_append, List.append_nil, List.replicate_succ, List.replicate_zero, List.length_cons, List.length_nil, if_true, if_false, true_and, and_true, and_self, Nat.zero_add, Int.natCast_zero, i0, i1, i2, i3, i4, decide_true, decide_false, Bool.not_true, Bool.not_false, ofString_inj, gt_iff_lt, List.all_cons, List.all_nil, List.any_cons, List.any_nil, Bool.and_true, Bool.true_and, Bool.and_self, Bool.or_false, Bool.false_or, Bool.or_true, Bool.true_or, szOk, mNeg, wipeM, ↓reduceIte, Nat.reduceAdd, Nat.reduceSub, Nat.reduceLeDiff, Int.reduceLT, Int.reduceLE, Int.reduceNeg, Int.reduceAdd, Int.reduceSub, Int.reducePow, Int.reduceEq, Int.reduceLT, Int.reduceMod, Int.reduceDiv, Int.reduceMul, Int.reduceToNat, String.reduceEq, reduceCtorEq, Ce.mv, at3, mvs, it_t]; exact ⟨rfl, gc_ref (by omega)⟩
  | block i j a b => simp only [↓SX1, SX2, ↓SV1, SV2, List.getElem?_cons_zero, List.getElem?_cons_succ, List.set_cons_zero, List.set_cons_succ, List.map_cons, List.map_nil, List.cons_append, List.nil_append, List.append_nil, List.replicate_succ, List.replicate_zero, List.length_cons, List.length_nil, if_true, if_false, true_and, and_true, and_self, Nat.zero_add, Int.natCast_zero, i0, i1, i2, i3, i4, decide_true, decide_false, Bool.not_true, Bool.not_false, ofString_inj, gt_iff_lt, List.all_cons, List.all_nil, List.any_cons, List.any_nil, Bool.and_true, Bool.true_and, Bool.and_self, Bool.or_false, Bool.false_or, Bool.or_true, Bool.true_or, szOk, mNeg, wipeM, ↓reduceIte, Nat.reduceAdd, Nat.reduceSub, Nat.reduceLeDiff, Int.reduceLT, Int.reduceLE, Int.reduceNeg, Int.reduceAdd, Int.reduceSub, Int.reducePow, Int.reduceEq, Int.reduceLT, Int.reduceMod, Int.reduceDiv, Int.reduceMul, Int.reduceToNat, String.reduceEq, reduceCtorEq, Ce.mv, cu5, it_t]; exact ⟨rfl, gc_ref (by omega)⟩
  | names ws o =>
    simp only [Ce.parts, List.length_append, List.length_singleton] at sz
    simp only [↓SX1, SX2, ↓SV1, SV2, List.getElem?_cons_zero, List.getElem?_cons_succ, List.set_cons_zero, List.set_cons_succ, List.map_cons, List.map_nil, List.cons_append, List.nil_append, List.append_nil, List.replicate_succ, List.replicate_zero, List.length_cons, List.length_nil, if_true, if_false, true_and, and_true, and_self, Nat.zero_add, Int.natCast_zero, i0, i1, i2, i3, i4, decide_true, decide_false, Bool.not_true, Bool.not_false, ofString_inj, gt_iff_lt, List.all_cons, List.all_nil, List.any_cons, List.any_nil, Bool.and_true, Bool.true_and, Bool.and_self, Bool.or_false, Bool.false_or, Bool.or_true, Bool.true_or, szOk, mNeg, wipeM, ↓reduceIte, Nat.reduceAdd, Nat.reduceSub, Nat.reduceLeDiff, Int.reduceLT, Int.reduceLE, Int.reduceNeg, Int.reduceAdd, Int.reduceSub, Int.reducePow, Int.reduceEq, Int.reduceLT, Int.reduceMod, Int.reduceDiv, Int.reduceMul, Int.reduceToNat, String.reduceEq, reduceCtorEq, Ce.mv, mvs, it_t]
    refine ⟨by rw [List.length_map]; omega, ?_⟩
    refine ⟨rfl, ?_⟩
    rw [gc_ref (by omega)]
    simp [Ce.parts]
  | list ws => simp only [↓SX1, SX2, ↓SV1, SV2, List.getElem?_cons_zero, List.getElem?_cons_succ, List.set_cons_zero, List.set_cons_succ, List.map_cons, List.map_nil, List.cons_append, List.nil_append, List.append_nil, List.replicate_succ, List.replicate_zero, List.length_cons, List.length_nil, if_true, if_false, true_and, and_true, and_self, Nat.zero_add, Int.natCast_zero, i0, i1, i2, i3, i4, decide_true, decide_false, Bool.not_true, Bool.not_false, ofString_inj, gt_iff_lt, List.all_cons, List.all_nil, List.any_cons, List.any_nil, Bool.and_true, Bool.true_and, Bool.and_self, Bool.or_false, Bool.false_or, Bool.or_true, Bool.true_or, szOk, mNeg, wipeM, ↓reduceIte, Nat.reduceAdd, Nat.reduceSub, Nat.reduceLeDiff, Int.reduceLT, Int.reduceLE, Int.reduceNeg, Int.reduceAdd, Int.reduceSub, Int.reducePow, Int.reduceEq, Int.reduceLT, Int.reduceMod, Int.reduceDiv, Int.reduceMul, Int.reduceToNat, String.reduceEq, reduceCtorEq, Ce.mv, at2, mvs, it_t]; exact ⟨rfl, gc_ref (by omega)⟩
theorem lmoved_ok {w : Wt} {n : Nat} {H : MH} (e : H[n]? = some (.dct (dctM .int ms))) : m_law_moved [w.mv, .ref n] H = .ok (movW ms w).mv H := by
  unfold m_law_moved
  refine e_fun rfl ?_
  unfold b_law_moved
  cases w with
  | cell a =>
    cases hb : look ms a with
    | none =>
      simp only [↓SX1, SX2, ↓SV1, SV2, List.getElem?_cons_zero, List.getElem?_cons_succ, List.set_cons_zero, List.set_cons_succ, List.map_cons, List.map_nil, List.cons_append, List.nil_append, List.append_nil, List.replicate_succ, List.replicate_zero, List.length_cons, List.length_nil, if_true, if_false, true_and, and_true, and_self, Nat.zero_add, Int.natCast_zero, i0, i1, i2, i3, i4, decide_true, decide_false, Bool.not_true, Bool.not_false, ofString_inj, gt_iff_lt, List.all_cons, List.all_nil, List.any_cons, List.any_nil, Bool.and_true, Bool.true_and, Bool.and_self, Bool.or_false, Bool.false_or, Bool.or_true, Bool.true_or, szOk, mNeg, wipeM, ↓reduceIte, Nat.reduceAdd, Nat.reduceSub, Nat.reduceLeDiff, Int.reduceLT, Int.reduceLE, Int.reduceNeg, Int.reduceAdd, Int.reduceSub, Int.reducePow, Int.reduceEq, Int.reduceLT, Int.reduceMod, Int.reduceDiv, Int.reduceMul, Int.reduceToNat, String.reduceEq, reduceCtorEq, Wt.mv, e, val_dct, hb, Option.map_none, Option.isSome_none]
      exact ⟨by simp only [movW, mvA, hb, Wt.mv, Option.getD_none], gc_len rfl⟩
    | some b =>
      simp only [↓SX1, SX2, ↓SV1, SV2, List.getElem?_cons_zero, List.getElem?_cons_succ, List.set_cons_zero, List.set_cons_succ, List.map_cons, List.map_nil, List.cons_append, List.nil_append, List.append_nil, List.replicate_succ, List.replicate_zero, List.length_cons, List.length_nil, if_true, if_false, true_and, and_true, and_self, Nat.zero_add, Int.natCast_zero, i0, i1, i2, i3, i4, decide_true, decide_false, Bool.not_true, Bool.not_false, ofString_inj, gt_iff_lt, List.all_cons, List.all_nil, List.any_cons, List.any_nil, Bool.and_true, Bool.true_and, Bool.and_self, Bool.or_false, Bool.false_or, Bool.or_true, Bool.true_or, szOk, mNeg, wipeM, ↓reduceIte, Nat.reduceAdd, Nat.reduceSub, Nat.reduceLeDiff, Int.reduceLT, Int.reduceLE, Int.reduceNeg, Int.reduceAdd, Int.reduceSub, Int.reducePow, Int.reduceEq, Int.reduceLT, Int.reduceMod, Int.reduceDiv, Int.reduceMul, Int.reduceToNat, String.reduceEq, reduceCtorEq, Wt.mv, e, val_dct, hb, Option.map_some, Option.isSome_some]
      exact ⟨by simp only [movW, mvA, hb, Wt.mv, Option.getD_some], gc_len rfl⟩
  | _ =>
    simp only [↓SX1, SX2, ↓SV1, SV2, List.getElem?_cons_zero, List.getElem?_cons_succ, List.set_cons_zero, List.set_cons_succ, List.map_cons, List.map_nil, List.cons_append, List.nil_append, List.append_nil, List.replicate_succ, List.replicate_zero, List.length_cons, List.length_nil, if_true, if_false, true_and, and_true, and_self, Nat.zero_add, Int.natCast_zero, i0, i1, i2, i3, i4, decide_true, decide_false, Bool.not_true, Bool.not_false, ofString_inj, gt_iff_lt, List.all_cons, List.all_nil, List.any_cons, List.any_nil, Bool.and_true, Bool.true_and, Bool.and_self, Bool.or_false, Bool.false_or, Bool.or_true, Bool.true_or, szOk, mNeg, wipeM, ↓reduceIte, Nat.reduceAdd, Nat.reduceSub, Nat.reduceLeDiff, Int.reduceLT, Int.reduceLE, Int.reduceNeg, Int.reduceAdd, Int.reduceSub, Int.reducePow, Int.reduceEq, Int.reduceLT, Int.reduceMod, Int.reduceDiv, Int.reduceMul, Int.reduceToNat, String.reduceEq, reduceCtorEq, Wt.mv]
    exact ⟨rfl, gc_len rfl⟩
theorem lmcell_ok {c : Ce} {n : Nat} {H : MH} (sz : c.Sz) (e : H[n]? = some (.dct (dctM .int ms))) : m_law_moved_cell [c.mv, .ref n] H = .ok (movC ms c).mv H := by
  unfold m_law_moved_cell
  refine e_fun rfl ?_
  unfold b_law_moved_cell
  unfold Ce.Sz at sz
  have go : ∀ (ρ : MS) (ws : List Wt) (k : Nat) (D : MV → MH → Prop) (E : EK), ρ[k]? = some (some (.ref n)) → k ≠ 2 → 2 < ρ.length → D (mvs (ws.map (movW ms))) H → Gd (compGo [] (.one 2) tYesM (eCallD m_law_moved [] (aCons (eVar 2) (aCons (eVar k) aNil))) ρ (ws.map Wt.mv) H) (kCB lTuple D E) E := by
    intro ρ ws k D E h1 h2 h3 h4
    refine s_compE (ef := fun w => (movW ms w).mv) (by simp) (fun w hw => ⟨_, rfl, ?_⟩) ?_
    · have q1 : (ρ.set 2 (some w.mv))[2]? = some (some w.mv) := List.getElem?_set_self h3
      have q2 : (ρ.set 2 (some w.mv))[k]? = some (some (.ref n)) := by rw [List.getElem?_set_ne (Ne.symm h2)]; exact h1
      exact Gd.eq (by simp only [↓SX1, SX2, ↓SV1, SV2, List.getElem?_cons_zero, List.getElem?_cons_succ, List.set_cons_zero, List.set_cons_succ, List.map_cons, List.map_nil, List.cons_append, List.nil_append, List.append_nil, List.replicate_succ, List.replicate_zero, List.length_cons, List.length_nil, if_true, if_false, true_and, and_true, and_self, Nat.zero_add, Int.natCast_zero, i0, i1, i2, i3, i4, decide_true, decide_false, Bool.not_true, Bool.not_false, ofString_inj, gt_iff_lt, List.all_cons, List.all_nil, List.any_cons, List.any_nil, Bool.and_true, Bool.true_and, Bool.and_self, Bool.or_false, Bool.false_or, Bool.or_true, Bool.true_or, szOk, mNeg, wipeM, ↓reduceIte, Nat.reduceAdd, Nat.reduceSub, Nat.reduceLeDiff, Int.reduceLT, Int.reduceLE, Int.reduceNeg, Int.reduceAdd, Int.reduceSub, Int.reducePow, Int.reduceEq, Int.reduceLT, Int.reduceMod, Int.reduceDiv, Int.reduceMul, Int.reduceToNat, String.reduceEq, reduceCtorEq, q1, q2, lmoved_ok e]; exact ⟨rfl, rfl⟩)
    · simp only [↓SX1, SX2, ↓SV1, SV2, List.getElem?_cons_zero, List.getElem?_cons_succ, List.set_cons_zero, List.set_cons_succ, List.map_cons, List.map_nil, List.cons_append, List.nil_append, List.append_nil, List.replicate_succ, List.replicate_zero, List.length_cons, List.length_nil, if_true, if_false, true_and, and_true, and_self, Nat.zero_add, Int.natCast_zero, i0, i1, i2, i3, i4, decide_true, decide_false, Bool.not_true, Bool.not_false, ofString_inj, gt_iff_lt, List.all_cons, List.all_nil, List.any_cons, List.any_nil, Bool.and_true, Bool.true_and, Bool.and_self, Bool.or_false, Bool.false_or, Bool.or_true, Bool.true_or, szOk, mNeg, wipeM, ↓reduceIte, Nat.reduceAdd, Nat.reduceSub, Nat.reduceLeDiff, Int.reduceLT, Int.reduceLE, Int.reduceNeg, Int.reduceAdd, Int.reduceSub, Int.reducePow, Int.reduceEq, Int.reduceLT, Int.reduceMod, Int.reduceDiv, Int.reduceMul, Int.reduceToNat, String.reduceEq, reduceCtorEq]
      have : (ws.map fun w => (movW ms w).mv) = (ws.map (movW ms)).map Wt.mv := by rw [List.map_map]; rfl
      rw [this]
      exact h4
  cases c with
  | thing k ws =>
    simp only [↓SX1, SX2, ↓SV1, SV2, List.getElem?_cons_zero, List.getElem?_cons_succ, List.set_cons_zero, List.set_cons_succ, List.map_cons, List.map_nil, List.cons_append, List.nil_append, List.append_nil, List.replicate_succ, List.replicate_zero, List.length_cons, List.length_nil, if_true, if_false, true_and, and_true, and_self, Nat.zero_add, Int.natCast_zero, i0, i1, i2, i3, i4, decide_true, decide_false, Bool.not_true, Bool.not_false, ofString_inj, gt_iff_lt, List.all_cons, List.all_nil, List.any_cons, List.any_nil, Bool.and_true, Bool.true_and, Bool.and_self, Bool.or_false, Bool.false_or, Bool.or_true, Bool.true_or, szOk, mNeg, wipeM, ↓reduceIte, Nat.reduceAdd, Nat.reduceSub, Nat.reduceLeDiff, Int.reduceLT, Int.reduceLE, Int.reduceNeg, Int.reduceAdd, Int.reduceSub, Int.reducePow, Int.reduceEq, Int.reduceLT, Int.reduceMod, Int.reduceDiv, Int.reduceMul, Int.reduceToNat, String.reduceEq, reduceCtorEq, Ce.mv, at3, cw3, mvs]
    refine ⟨by rw [List.length_map]; exact Nat.le_trans sz (by omega), ?_⟩
    refine go _ ws 1 _ _ rfl (by decide) (by simp) ?_
    simp only [↓SX1, SX2, ↓SV1, SV2, List.getElem?_cons_zero, List.getElem?_cons_succ, List.set_cons_zero, List.set_cons_succ, List.map_cons, List.map_nil, List.cons_append, List.nil_append, List.append_nil, List.replicate_succ, List.replicate_zero, List.length_cons, List.length_nil, if_true, if_false, true_and, and_true, and_self, Nat.zero_add, Int.natCast_zero, i0, i1, i2, i3, i4, decide_true, decide_false, Bool.not_true, Bool.not_false, ofString_inj, gt_iff_lt, List.all_cons, List.all_nil, List.any_cons, List.any_nil, Bool.and_true, Bool.true_and, Bool.and_self, Bool.or_false, Bool.false_or, Bool.or_true, Bool.true_or, szOk, mNeg, wipeM, ↓reduceIte, Nat.reduceAdd, Nat.reduceSub, Nat.reduceLeDiff, Int.reduceLT, Int.reduceLE, Int.reduceNeg, Int.reduceAdd, Int.reduceSub, Int.reducePow, Int.reduceEq, Int.reduceLT, Int.reduceMod, Int.reduceDiv, Int.reduceMul, Int.reduceToNat, String.reduceEq, reduceCtorEq, mAdd_tt]
    exact ⟨rfl, gc_len rfl⟩
  | block i j a b =>
    simp only [↓SX1, SX2, ↓SV1, SV2, List.getElem?_cons_zero, List.getElem?_cons_succ, List.set_cons_zero, List.set_cons_succ, List.map_cons, List.map_nil, List.cons_append, List.nil_append, List.append_nil, List.replicate_succ, List.replicate_zero, List.length_cons, List.length_nil, if_true, if_false, true_and, and_true, and_self, Nat.zero_add, Int.natCast_zero, i0, i1, i2, i3, i4, decide_true, decide_false, Bool.not_true, Bool.not_false, ofString_inj, gt_iff_lt, List.all_cons, List.all_nil, List.any_cons, List.any_nil, Bool.and_true, Bool.true_and, Bool.and_self, Bool.or_false, Bool.false_or, Bool.or_true, Bool.true_or, szOk, mNeg, wipeM, ↓reduceIte, Nat.reduceAdd, Nat.reduceSub, Nat.reduceLeDiff, Int.reduceLT, Int.reduceLE, Int.reduceNeg, Int.reduceAdd, Int.reduceSub, Int.reducePow, Int.reduceEq, Int.reduceLT, Int.reduceMod, Int.reduceDiv, Int.reduceMul, Int.reduceToNat, String.reduceEq, reduceCtorEq, Ce.mv, cu5, cv5]
    refine go _ [.cell a, .cell b] 1 _ _ rfl (by decide) (by simp) ?_
    simp only [↓SX1, SX2, ↓SV1, SV2, List.getElem?_cons_zero, List.getElem?_cons_succ, List.set_cons_zero, List.set_cons_succ, List.map_cons, List.map_nil, List.cons_append, List.nil_append, List.append_nil, List.replicate_succ, List.replicate_zero, List.length_cons, List.length_nil, if_true, if_false, true_and, and_true, and_self, Nat.zero_add, Int.natCast_zero, i0, i1, i2, i3, i4, decide_true, decide_false, Bool.not_true, Bool.not_false, ofString_inj, gt_iff_lt, List.all_cons, List.all_nil, List.any_cons, List.any_nil, Bool.and_true, Bool.true_and, Bool.and_self, Bool.or_false, Bool.false_or, Bool.or_true, Bool.true_or, szOk, mNeg, wipeM, ↓reduceIte, Nat.reduceAdd, Nat.reduceSub, Nat.reduceLeDiff, Int.reduceLT, Int.reduceLE, Int.reduceNeg, Int.reduceAdd, Int.reduceSub, Int.reducePow, Int.reduceEq, Int.reduceLT, Int.reduceMod, Int.reduceDiv, Int.reduceMul, Int.reduceToNat, String.reduceEq, reduceCtorEq, mvs, mAdd_tt]
    exact ⟨rfl, gc_len rfl⟩
  | names ws o =>
    simp only [Ce.parts, List.length_append, List.length_singleton] at sz
    simp only [↓SX1, SX2, ↓SV1, SV2, List.getElem?_cons_zero, List.getElem?_cons_succ, List.set_cons_zero, List.set_cons_succ, List.map_cons, List.map_nil, List.cons_append, List.nil_append, List.append_nil, List.replicate_succ, List.replicate_zero, List.length_cons, List.length_nil, if_true, if_false, true_and, and_true, and_self, Nat.zero_add, Int.natCast_zero, i0, i1, i2, i3, i4, decide_true, decide_false, Bool.not_true, Bool.not_false, ofString_inj, gt_iff_lt, List.all_cons, List.all_nil, List.any_cons, List.any_nil, Bool.and_true, Bool.true_and, Bool.and_self, Bool.or_false, Bool.false_or, Bool.or_true, Bool.true_or, szOk, mNeg, wipeM, ↓reduceIte, Nat.reduceAdd, Nat.reduceSub, Nat.reduceLeDiff, Int.reduceLT, Int.reduceLE, Int.reduceNeg, Int.reduceAdd, Int.reduceSub, Int.reducePow, Int.reduceEq, Int.reduceLT, Int.reduceMod, Int.reduceDiv, Int.reduceMul, Int.reduceToNat, String.reduceEq, reduceCtorEq, Ce.mv, mvs]
    refine ⟨by rw [List.length_map]; omega, ?_⟩
    refine go _ ws 1 _ _ rfl (by decide) (by simp) ?_
    simp only [↓SX1, SX2, ↓SV1, SV2, List.getElem?_cons_zero, List.getElem?_cons_succ, List.set_cons_zero, List.set_cons_succ, List.map_cons, List.map_nil, List.cons_append, List.nil_append, List.append_nil, List.replicate_succ, List.replicate_zero, List.length_cons, List.length_nil, if_true, if_false, true_and, and_true, and_self, Nat.zero_add, Int.natCast_zero, i0, i1, i2, i3, i4, decide_true, decide_false, Bool.not_true, Bool.not_false, ofString_inj, gt_iff_lt, List.all_cons, List.all_nil, List.any_cons, List.any_nil, Bool.and_true, Bool.true_and, Bool.and_self, Bool.or_false, Bool.false_or, Bool.or_true, Bool.true_or, szOk, mNeg, wipeM, ↓reduceIte, Nat.reduceAdd, Nat.reduceSub, Nat.reduceLeDiff, Int.reduceLT, Int.reduceLE, Int.reduceNeg, Int.reduceAdd, Int.reduceSub, Int.reducePow, Int.reduceEq, Int.reduceLT, Int.reduceMod, Int.reduceDiv, Int.reduceMul, Int.reduceToNat, String.reduceEq, reduceCtorEq, lmoved_ok e]
    exact ⟨by cases o <;> rfl, gc_len rfl⟩
  | list ws =>
    simp only [↓SX1, SX2, ↓SV1, SV2, List.getElem?_cons_zero, List.getElem?_cons_succ, List.set_cons_zero, List.set_cons_succ, List.map_cons, List.map_nil, List.cons_append, List.nil_append, List.append_nil, List.replicate_succ, List.replicate_zero, List.length_cons, List.length_nil, if_true, if_false, true_and, and_true, and_self, Nat.zero_add, Int.natCast_zero, i0, i1, i2, i3, i4, decide_true, decide_false, Bool.not_true, Bool.not_false, ofString_inj, gt_iff_lt, List.all_cons, List.all_nil, List.any_cons, List.any_nil, Bool.and_true, Bool.true_and, Bool.and_self, Bool.or_false, Bool.false_or, Bool.or_true, Bool.true_or, szOk, mNeg, wipeM, ↓reduceIte, Nat.reduceAdd, Nat.reduceSub, Nat.reduceLeDiff, Int.reduceLT, Int.reduceLE, Int.reduceNeg, Int.reduceAdd, Int.reduceSub, Int.reducePow, Int.reduceEq, Int.reduceLT, Int.reduceMod, Int.reduceDiv, Int.reduceMul, Int.reduceToNat, String.reduceEq, reduceCtorEq, Ce.mv, at2, cw2, mvs]
    refine ⟨by rw [List.length_map]; exact Nat.le_trans sz (by omega), ?_⟩
    refine go _ ws 1 _ _ rfl (by decide) (by simp) ?_
    simp only [↓SX1, SX2, ↓SV1, SV2, List.getElem?_cons_zero, List.getElem?_cons_succ, List.set_cons_zero, List.set_cons_succ, List.map_cons, List.map_nil, List.cons_append, List.nil_append, List.append_nil, List.replicate_succ, List.replicate_zero, List.length_cons, List.length_nil, if_true, if_false, true_and, and_true, and_self, Nat.zero_add, Int.natCast_zero, i0, i1, i2, i3, i4, decide_true, decide_false, Bool.not_true, Bool.not_false, ofString_inj, gt_iff_lt, List.all_cons, List.all_nil, List.any_cons, List.any_nil, Bool.and_true, Bool.true_and, Bool.and_self, Bool.or_false, Bool.false_or, Bool.or_true, Bool.true_or, szOk, mNeg, wipeM, ↓reduceIte, Nat.reduceAdd, Nat.reduceSub, Nat.reduceLeDiff, Int.reduceLT, Int.reduceLE, Int.reduceNeg, Int.reduceAdd, Int.reduceSub, Int.reducePow, Int.reduceEq, Int.reduceLT, Int.reduceMod, Int.reduceDiv, Int.reduceMul, Int.reduceToNat, String.reduceEq, reduceCtorEq, mAdd_tt]
    exact ⟨rfl, gc_len rfl⟩
end
end My

set_option Elab.async false
set_option linter.all false
set_option maxRecDepth 100000
set_option maxHeartbeats 8000000
namespace My
open PySem L2 Sm
/-! ### repr of told cells -/
def Wt.dat : Wt → PyData
  | .cell a => .tuple [.str "cell", .int a]
  | .non => .none
  | .bl b => .bool b
  | .int i => .int i
  | .str s => .str s
def dats (ws : List Wt) : PyData := .tuple (ws.map Wt.dat)
def Ce.dat : Ce → PyData
  | .thing k ws => .tuple [.str "thing", .str k, dats ws]
  | .block i j a b => .tuple [.str "block", .int i, .int j, (Wt.cell a).dat, (Wt.cell b).dat]
  | .names ws o => .tuple [.str "names", dats ws, (oW o).dat]
  | .list ws => .tuple [.str "list", dats ws]
def bDat (bs : List (Int × Ce)) : PyData := .tuple (bs.map fun p => .tuple [.int p.1, p.2.dat])
theorem mapM_map {α : Type} {f : MV → Option PyData} {g : α → MV} {d : α → PyData} : ∀ {us : List α}, (∀ u, u ∈ us → f (g u) = some (d u)) → (us.map g).mapM f = some (us.map d)
  | [], _ => rfl
  | u :: us, h => by
    rw [List.map_cons, List.mapM_cons, h u (by simp), mapM_map fun v hv => h v (by simp [hv])]
    rfl
section
variable {h : MH} {n : Nat}
theorem dat_w (w : Wt) : datM h (n + 2) w.mv = some w.dat := by
  cases w <;> rfl
theorem dat_ws (ws : List Wt) : datM h (n + 3) (mvs ws) = some (dats ws) := by
  have e := mapM_map (f := datM h (n + 2)) (g := Wt.mv) (d := Wt.dat) (us := ws) fun w _ => dat_w w
  show ((ws.map Wt.mv).mapM (datM h (n + 2))).map PyData.tuple = _
  rw [e]; rfl
theorem dat_s (s : Str) : datM h (n + 1) (.str s) = some (.str s) := rfl
theorem dat_i (i : Int) : datM h (n + 1) (.int i) = some (.int i) := rfl
theorem dat_l {xs : List MV} {ds : List PyData} (e : xs.mapM (datM h n) = some ds) : datM h (n + 1) (.tup xs) = some (.tuple ds) := by
  show (xs.mapM (datM h n)).map PyData.tuple = _
  rw [e]; rfl
theorem mM2 {f : MV → Option PyData} {x y : MV} {a b : PyData} (e1 : f x = some a) (e2 : f y = some b) : [x, y].mapM f = some [a, b] := by
  simp [List.mapM_cons, e1, e2]
theorem mM3 {f : MV → Option PyData} {x y z : MV} {a b c : PyData} (e1 : f x = some a) (e2 : f y = some b) (e3 : f z = some c) : [x, y, z].mapM f = some [a, b, c] := by
  simp [List.mapM_cons, e1, e2, e3]
theorem mM5 {f : MV → Option PyData} {x y z u v : MV} {a b c d e : PyData} (e1 : f x = some a) (e2 : f y = some b) (e3 : f z = some c) (e4 : f u = some d) (e5 : f v = some e) : [x, y, z, u, v].mapM f = some [a, b, c, d, e] := by
  simp [List.mapM_cons, e1, e2, e3, e4, e5]
theorem dat_c (c : Ce) : datM h (n + 4) c.mv = some c.dat := by
  cases c with
  | thing k ws => exact dat_l (mM3 (dat_s _) (dat_s _) (dat_ws ws))
  | block i j a b => exact dat_l (mM5 (dat_s _) (dat_i _) (dat_i _) (dat_w _) (dat_w _))
  | names ws o => exact dat_l (mM3 (dat_s _) (dat_ws ws) (dat_w _))
  | list ws => exact dat_l (mM2 (dat_s _) (dat_ws ws))
theorem dat_b (bs : List (Int × Ce)) : datM h 20 (.tup (prs Ce.mv bs)) = some (bDat bs) := by
  refine dat_l (n := 19) ?_
  unfold prs
  exact mapM_map fun p _ => dat_l (n := 18) (mM2 (dat_i _) (dat_c (n := 14) _))
end
/-! how long it is -/
def NOk (i : Int) : Prop := i.natAbs.log2 < 80
def SOk8 (s : Str) : Prop := s.cps.size ≤ 40 ∧ (s.cps.toList.all fun c => decide (c < 16 ^ 8)) = true
def Wt.Rp : Wt → Prop
  | .cell a => NOk a
  | .int i => NOk i
  | .str s => SOk8 s
  | _ => True
def Ce.Rp (c : Ce) : Prop := c.parts.length ≤ 31 ∧ (∀ w, w ∈ c.parts → w.Rp) ∧ match c with
  | .thing k _ => SOk8 k
  | .block i j _ _ => NOk i ∧ NOk j
  | _ => True
/-- short, and not heavy -/
def Lt (d : PyData) (n : Nat) : Prop := d.showable = true ∧ d.leavesShort 90 = true ∧ d.weight ≤ n
theorem lt_i {i : Int} (h : NOk i) : Lt (.int i) 81 := by
  unfold NOk at h
  refine ⟨?_, ?_, ?_⟩
  · simp only [PyData.showable]; exact decide_eq_true (by omega)
  · simp only [PyData.leavesShort]
    refine decide_eq_true ?_
    have e := int_text_length_le (a := i) (by decide) h
    have e2 : (PyData.shown (.int i)).length = (toString i).length := by
      simp only [PyData.shown]
      exact PySem.ofString_length _
    omega
  · simp only [PyData.weight]
    split <;> omega
theorem lt_s {s : Str} (h : SOk8 s) : Lt (.str s) 40 := ⟨rfl, by simp only [PyData.leavesShort]; exact h.2, h.1⟩
theorem lt_b {b : Bool} : Lt (.bool b) 0 := ⟨rfl, rfl, Nat.le_refl _⟩
theorem lt_n : Lt .none 0 := ⟨rfl, rfl, Nat.le_refl _⟩
def Lts (ds : List PyData) (n : Nat) : Prop := PyData.showableAll ds = true ∧ PyData.leavesShortAll 90 ds = true ∧ PyData.weightAll ds ≤ n
theorem lts_nil : Lts [] 0 := ⟨rfl, rfl, Nat.le_refl _⟩
theorem lts_cons {d : PyData} {ds : List PyData} {n m : Nat} (a : Lt d n) (b : Lts ds m) : Lts (d :: ds) (n + 1 + m) := by
  obtain ⟨a1, a2, a3⟩ := a
  obtain ⟨b1, b2, b3⟩ := b
  refine ⟨by simp only [PyData.showableAll, a1, b1, Bool.and_self], by simp only [PyData.leavesShortAll, a2, b2, Bool.and_self], ?_⟩
  simp only [PyData.weightAll]; omega
theorem lt_t {ds : List PyData} {n : Nat} (h : Lts ds n) : Lt (.tuple ds) n := by
  obtain ⟨a, b, c⟩ := h
  exact ⟨by simp only [PyData.showable]; exact a, by simp only [PyData.leavesShort]; exact b, by simp only [PyData.weight]; exact c⟩
theorem Lt.up {d : PyData} {n m : Nat} (h : Lt d n) (hm : n ≤ m) : Lt d m := ⟨h.1, h.2.1, Nat.le_trans h.2.2 hm⟩
theorem lts_map {α : Type} {f : α → PyData} {n : Nat} : ∀ {us : List α}, (∀ u, u ∈ us → Lt (f u) n) → Lts (us.map f) (us.length * (n + 1))
  | [], _ => by simpa using lts_nil
  | u :: us, h => by
    have := lts_cons (h u (by simp)) (lts_map (us := us) fun v hv => h v (by simp [hv]))
    rw [List.map_cons, List.length_cons, Nat.add_mul, Nat.one_mul, Nat.add_comm]
    exact this
theorem lt_c {s : Str} {n : Nat} (h1 : s.cps.size ≤ n) (h2 : (s.cps.toList.all fun c => decide (c < 16 ^ 8)) = true) : Lt (.str s) n := ⟨rfl, by simp only [PyData.leavesShort]; exact h2, h1⟩
theorem lt_w {w : Wt} (h : w.Rp) : Lt w.dat 90 := by
  cases w with
  | cell a => exact (lt_t (lts_cons (lt_c (n := 5) (by decide +kernel) (by decide +kernel)) (lts_cons (lt_i h) lts_nil))).up (by omega)
  | non => exact lt_n.up (by omega)
  | bl b => exact lt_b.up (by omega)
  | int i => exact (lt_i h).up (by omega)
  | str s => exact (lt_s h).up (by omega)
theorem lt_ws {ws : List Wt} (h : ∀ w, w ∈ ws → w.Rp) (hl : ws.length ≤ 31) : Lt (dats ws) 2821 := by
  refine (lt_t (lts_map (f := Wt.dat) (n := 90) fun w hw => lt_w (h w hw))).up ?_
  have := Nat.mul_le_mul_right 91 hl
  omega
theorem lt_ce {c : Ce} (h : c.Rp) : Lt c.dat 3000 := by
  obtain ⟨h1, h2, h3⟩ := h
  cases c with
  | thing k ws => exact (lt_t (lts_cons (lt_c (n := 5) (by decide +kernel) (by decide +kernel)) (lts_cons (lt_s h3) (lts_cons (lt_ws h2 h1) lts_nil)))).up (by omega)
  | block i j a b => exact (lt_t (lts_cons (lt_c (n := 5) (by decide +kernel) (by decide +kernel)) (lts_cons (lt_i h3.1) (lts_cons (lt_i h3.2) (lts_cons (lt_w (h2 (.cell a) (by simp [Ce.parts]))) (lts_cons (lt_w (h2 (.cell b) (by simp [Ce.parts]))) lts_nil)))))).up (by omega)
  | names ws o =>
    simp only [Ce.parts, List.length_append, List.length_singleton] at h1
    exact (lt_t (lts_cons (lt_c (n := 5) (by decide +kernel) (by decide +kernel)) (lts_cons (lt_ws (fun w hw => h2 w (by simp [Ce.parts, hw])) (by omega)) (lts_cons (lt_w (h2 (oW o) (by simp [Ce.parts]))) lts_nil)))).up (by omega)
  | list ws => exact (lt_t (lts_cons (lt_c (n := 5) (by decide +kernel) (by decide +kernel)) (lts_cons (lt_ws h2 h1) lts_nil))).up (by omega)
def BRp (bs : List (Int × Ce)) : Prop := bs.length ≤ 10 ∧ ∀ p, p ∈ bs → NOk p.1 ∧ p.2.Rp
theorem lt_bs {bs : List (Int × Ce)} (h : BRp bs) : Lt (bDat bs) 31000 := by
  refine (lt_t (lts_map (f := fun (p : Int × Ce) => .tuple [.int p.1, p.2.dat]) (n := 3083) fun p hp => ?_)).up ?_
  · obtain ⟨a, b⟩ := h.2 p hp
    exact (lt_t (lts_cons (lt_i a) (lts_cons (lt_ce b) lts_nil))).up (by omega)
  · have := Nat.mul_le_mul_right 3084 h.1
    omega
theorem repr_ok {bs : List (Int × Ce)} (hb : BRp bs) (H : MH) : mRepr [.tup (prs Ce.mv bs)] H = .ok (.str (bDat bs).shown) H := by
  obtain ⟨a, b, c⟩ := lt_bs hb
  have e := PyData.shown_le 90 (by decide) _ b
  have m := Nat.mul_le_mul_left 92 c
  have sh : shOk (bDat bs) = true := by
    unfold shOk
    rw [a, Bool.true_and]
    exact decide_eq_true (by omega)
  unfold mRepr
  simp only [dat_b, sh, if_true]
end My

set_option Elab.async false
set_option linter.all false
set_option maxRecDepth 100000
set_option maxHeartbeats 8000000
namespace My
open PySem L2 Sm
/-! ### the judge -/
def kLS (t : Tg) (vs : List Nat) (mt : MS → MH → Res Bool) (me : ME) (ρ : MS) (Q : MV → MH → Prop) (E : EK) : List MV × Gs → MH → Prop := fun xg h1 => xg.1.length ≤ 1000000 ∧ Gd (scGo xg.2 t mt me (wipeM ρ vs) [] xg.1 h1) (fun acc h2 => Q (.int ((setI acc).length : Nat)) h2) E
theorem E_lenSc {mi : MI} {t : Tg} {vs : List Nat} {mt : MS → MH → Res Bool} {me : ME} {ρ : MS} {h : MH} {Q : MV → MH → Prop} {E : EK} : Gd (eLenSc mi t vs mt me ρ h) Q E = Gd (mi ρ h) (kLS t vs mt me ρ Q E) E := by
  unfold eLenSc
  rw [Gd_bind]
  congr
  funext xg h1
  unfold kLS
  rw [Gd_ite, Gd_bind]
  simp only [Gd_ok]
  rfl
theorem kLS_ap {t : Tg} {vs : List Nat} {mt : MS → MH → Res Bool} {me : ME} {ρ : MS} {h : MH} {Q : MV → MH → Prop} {E : EK} {xs : List MV} {gs : Gs} : kLS t vs mt me ρ Q E (xs, gs) h = (xs.length ≤ 1000000 ∧ Gd (scGo gs t mt me (wipeM ρ vs) [] xs h) (fun acc h2 => Q (.int ((setI acc).length : Nat)) h2) E) := rfl
theorem sc_pairs {ρ : MS} {h : MH} (hl : 9 < ρ.length) : ∀ (ms : List (Int × Int)) (acc : List Int), acc.length + ms.length ≤ 1000 → scGo [] (.many [8, 9]) tYesM (eVar 9) ρ acc (prs MV.int ms) h = .ok (acc ++ ms.map (·.2)) h
  | [], acc, _ => by simp [prs, scGo]
  | p :: ms, acc, hs => by
    rw [List.length_cons] at hs
    have ih := sc_pairs (ρ := ρ) (h := h) hl ms (acc ++ [p.2]) (by rw [List.length_append, List.length_singleton]; omega)
    have e1 : prs MV.int (p :: ms) = .tup [.int p.1, .int p.2] :: prs MV.int ms := rfl
    have t1 : Tg.set (.many [8, 9]) (.tup [.int p.1, .int p.2]) ρ = some ((ρ.set 8 (some (.int p.1))).set 9 (some (.int p.2))) := rfl
    have v1 : eVar 9 ((ρ.set 8 (some (.int p.1))).set 9 (some (.int p.2))) h = .ok (.int p.2) h := by
      have : ((ρ.set 8 (some (MV.int p.1))).set 9 (some (.int p.2)))[9]? = some (some (.int p.2)) := List.getElem?_set_self (by rw [List.length_set]; exact hl)
      simp only [eVar, this]
    rw [e1, scGo, if_pos (by simp), t1]
    dsimp only
    rw [show (tYesM ((ρ.set 8 (some (MV.int p.1))).set 9 (some (.int p.2))) h).nx = Res.ok true h from rfl, Res.bind_ok, if_pos rfl, v1]
    rw [show (Res.ok (MV.int p.2) h).nx = Res.ok (MV.int p.2) h from rfl, Res.bind_ok]
    dsimp only
    rw [if_pos (by omega), ih, List.map_cons, List.append_assoc]
    rfl
theorem insS_len {k : Int} : ∀ {xs : List Int}, ¬ k ∈ xs → (insS k xs).length = xs.length + 1
  | [], _ => rfl
  | x :: xs, h => by
    have h1 : ¬ k = x := fun e => h (by simp [e])
    have h2 : ¬ k ∈ xs := fun e => h (by simp [e])
    unfold insS
    split
    · rfl
    · rw [List.length_cons, insS_len h2, List.length_cons]
theorem setI_len : ∀ {ns : List Int}, ns.Nodup → (setI ns).length = ns.length
  | [], _ => rfl
  | n :: ns, h => by
    obtain ⟨h1, h2⟩ := List.nodup_cons.mp h
    show (insS n (setI ns)).length = _
    rw [insS_len (by rw [setI_mem]; exact h1), setI_len h2, List.length_cons]
section
variable (cs : List (Int × Ce)) (rs : List Int) (ms : List (Int × Int))
def ceOf (a : Int) : Ce := (look cs a).getD (.list [])
def dueL : List (Int × Ce) := ms.map fun p => (p.2, movC ms (ceOf cs p.1))
def standB : Bool := rs.all (fun r => (look ms r).isSome) && ms.all fun p => movedB ms (ceOf cs p.1)
end
theorem sortK_all {α : Type} (f : α → MV) (l : List (Int × α)) : (prs f l).all (fun x => (keyI x).isSome) = true := by
  unfold prs
  rw [List.all_map]
  exact List.all_eq_true.mpr fun p _ => rfl
theorem sortk_ok {α : Type} {f : α → MV} {l : List (Int × α)} {i n : Nat} {q : Str} {H : MH} (e1 : H[n]? = some (.lst (prs f l))) (e2 : H[i]? = some (.tab q)) : mSortK i q (.ref n) H = .ok (.ref H.length) (H ++ [.lst (sortK (prs f l))]) := by
  unfold mSortK
  simp only [e1, e2]
  rw [if_pos ⟨trivial, sortK_all f l⟩]
theorem stands_ok {cs : List (Int × Ce)} {rs : List Int} {ms : List (Int × Int)} {bs : List (Int × Ce)} (ok : PaOk cs rs ms bs) (hsub : ∀ p, p ∈ ms → (look cs p.1).isSome = true) (hnd : (ms.map (·.2)).Nodup) (hsz : ∀ p, p ∈ cs → p.2.Sz)
    (hb : sortK (prs Ce.mv (dueL cs ms)) = prs Ce.mv bs) (hr : BRp bs) {H : MH} (e0 : H[0]? = some (.tab q_sweep_stands)) : m_sweep_stands [pap cs rs ms bs] H = .ok (.bl (standB cs rs ms)) H := by
  unfold m_sweep_stands
  refine e_fun rfl ?_
  unfold b_sweep_stands
  have ml := ok.mp.2.2
  have rl := ok.rl
  have cnd : (cs.map (·.1)).Nodup := ok.cp.1.imp fun h z => by omega
  have mnd : (ms.map (·.1)).Nodup := ok.mp.1.imp fun h z => by omega
  have lp : (prs MV.int ms).length = ms.length := by unfold prs; rw [List.length_map]
  have szc : ∀ p, p ∈ ms → (ceOf cs p.1).Sz := fun p hp => by
    obtain ⟨c, hc⟩ := Option.isSome_iff_exists.mp (hsub p hp)
    unfold ceOf; rw [hc]; exact hsz _ (look_mem hc)
  have kl : (ksM ms).length = ms.length := by unfold ksM; rw [List.length_map]
  have sl : (setI (ms.map (·.2))).length = ms.length := by rw [setI_len hnd, List.length_map]
  have hF := formed_ok ok H
  simp only [↓SX1, SX2, ↓SV1, SV2, List.getElem?_cons_zero, List.getElem?_cons_succ, List.set_cons_zero, List.set_cons_succ, List.map_cons, List.map_nil, List.cons_append, List.nil_append, List.append_nil, List.replicate_succ, List.replicate_zero, List.length_cons, List.length_nil, if_true, if_false, true_and, and_true, and_self, Nat.zero_add, Int.natCast_zero, i0, i1, i2, i3, i4, decide_true, decide_false, Bool.not_true, Bool.not_false, ofString_inj, gt_iff_lt, List.all_cons, List.all_nil, List.any_cons, List.any_nil, Bool.and_true, Bool.true_and, Bool.and_self, Bool.or_false, Bool.false_or, Bool.or_true, Bool.true_or, szOk, mNeg, wipeM, ↓reduceIte, Nat.reduceAdd, Nat.reduceSub, Nat.reduceLeDiff, Int.reduceLT, Int.reduceLE, Int.reduceNeg, Int.reduceAdd, Int.reduceSub, Int.reducePow, Int.reduceEq, Int.reduceLT, Int.reduceMod, Int.reduceDiv, Int.reduceMul, Int.reduceToNat, String.reduceEq, reduceCtorEq, hF]
  simp only [↓SX1, SX2, ↓SV1, SV2, List.getElem?_cons_zero, List.getElem?_cons_succ, List.set_cons_zero, List.set_cons_succ, List.map_cons, List.map_nil, List.cons_append, List.nil_append, List.append_nil, List.replicate_succ, List.replicate_zero, List.length_cons, List.length_nil, if_true, if_false, true_and, and_true, and_self, Nat.zero_add, Int.natCast_zero, i0, i1, i2, i3, i4, decide_true, decide_false, Bool.not_true, Bool.not_false, ofString_inj, gt_iff_lt, List.all_cons, List.all_nil, List.any_cons, List.any_nil, Bool.and_true, Bool.true_and, Bool.and_self, Bool.or_false, Bool.false_or, Bool.or_true, Bool.true_or, szOk, mNeg, wipeM, ↓reduceIte, Nat.reduceAdd, Nat.reduceSub, Nat.reduceLeDiff, Int.reduceLT, Int.reduceLE, Int.reduceNeg, Int.reduceAdd, Int.reduceSub, Int.reducePow, Int.reduceEq, Int.reduceLT, Int.reduceMod, Int.reduceDiv, Int.reduceMul, Int.reduceToNat, String.reduceEq, reduceCtorEq, pap, dictT_ok cnd, dictT_ok mnd, E_lenSc, kLS_ap]
  refine ⟨by rw [lp]; omega, ?_⟩
  rw [sc_pairs (by simp) ms [] (by simp; omega)]
  simp only [↓SX1, SX2, ↓SV1, SV2, List.getElem?_cons_zero, List.getElem?_cons_succ, List.set_cons_zero, List.set_cons_succ, List.map_cons, List.map_nil, List.cons_append, List.nil_append, List.append_nil, List.replicate_succ, List.replicate_zero, List.length_cons, List.length_nil, if_true, if_false, true_and, and_true, and_self, Nat.zero_add, Int.natCast_zero, i0, i1, i2, i3, i4, decide_true, decide_false, Bool.not_true, Bool.not_false, ofString_inj, gt_iff_lt, List.all_cons, List.all_nil, List.any_cons, List.any_nil, Bool.and_true, Bool.true_and, Bool.and_self, Bool.or_false, Bool.false_or, Bool.or_true, Bool.true_or, szOk, mNeg, wipeM, ↓reduceIte, Nat.reduceAdd, Nat.reduceSub, Nat.reduceLeDiff, Int.reduceLT, Int.reduceLE, Int.reduceNeg, Int.reduceAdd, Int.reduceSub, Int.reducePow, Int.reduceEq, Int.reduceLT, Int.reduceMod, Int.reduceDiv, Int.reduceMul, Int.reduceToNat, String.reduceEq, reduceCtorEq, sl, fdcM, kl]
  refine ⟨by rw [List.length_map]; omega, ?_⟩
  refine s_compE (vf := MV.int) (ef := fun r => .bl (look ms r).isSome) (by simp) (fun r hr => ⟨_, rfl, ?_⟩) ?_
  · exact Gd.eq (by simp only [↓SX1, SX2, ↓SV1, SV2, List.getElem?_cons_zero, List.getElem?_cons_succ, List.set_cons_zero, List.set_cons_succ, List.map_cons, List.map_nil, List.cons_append, List.nil_append, List.append_nil, List.replicate_succ, List.replicate_zero, List.length_cons, List.length_nil, if_true, if_false, true_and, and_true, and_self, Nat.zero_add, Int.natCast_zero, i0, i1, i2, i3, i4, decide_true, decide_false, Bool.not_true, Bool.not_false, ofString_inj, gt_iff_lt, List.all_cons, List.all_nil, List.any_cons, List.any_nil, Bool.and_true, Bool.true_and, Bool.and_self, Bool.or_false, Bool.false_or, Bool.or_true, Bool.true_or, szOk, mNeg, wipeM, ↓reduceIte, Nat.reduceAdd, Nat.reduceSub, Nat.reduceLeDiff, Int.reduceLT, Int.reduceLE, Int.reduceNeg, Int.reduceAdd, Int.reduceSub, Int.reducePow, Int.reduceEq, Int.reduceLT, Int.reduceMod, Int.reduceDiv, Int.reduceMul, Int.reduceToNat, String.reduceEq, reduceCtorEq, zip_fdc, val_dct, Option.isSome_map]; exact ⟨rfl, rfl⟩)
  · simp only [↓SX1, SX2, ↓SV1, SV2, List.getElem?_cons_zero, List.getElem?_cons_succ, List.set_cons_zero, List.set_cons_succ, List.map_cons, List.map_nil, List.cons_append, List.nil_append, List.append_nil, List.replicate_succ, List.replicate_zero, List.length_cons, List.length_nil, if_true, if_false, true_and, and_true, and_self, Nat.zero_add, Int.natCast_zero, i0, i1, i2, i3, i4, decide_true, decide_false, Bool.not_true, Bool.not_false, ofString_inj, gt_iff_lt, List.all_cons, List.all_nil, List.any_cons, List.any_nil, Bool.and_true, Bool.true_and, Bool.and_self, Bool.or_false, Bool.false_or, Bool.or_true, Bool.true_or, szOk, mNeg, wipeM, ↓reduceIte, Nat.reduceAdd, Nat.reduceSub, Nat.reduceLeDiff, Int.reduceLT, Int.reduceLE, Int.reduceNeg, Int.reduceAdd, Int.reduceSub, Int.reducePow, Int.reduceEq, Int.reduceLT, Int.reduceMod, Int.reduceDiv, Int.reduceMul, Int.reduceToNat, String.reduceEq, reduceCtorEq, lAll_b]
    unfold standB
    cases hrs : rs.all fun r => (look ms r).isSome
    · simp only [↓SX1, SX2, ↓SV1, SV2, List.getElem?_cons_zero, List.getElem?_cons_succ, List.set_cons_zero, List.set_cons_succ, List.map_cons, List.map_nil, List.cons_append, List.nil_append, List.append_nil, List.replicate_succ, List.replicate_zero, List.length_cons, List.length_nil, if_true, if_false, true_and, and_true, and_self, Nat.zero_add, Int.natCast_zero, i0, i1, i2, i3, i4, decide_true, decide_false, Bool.not_true, Bool.not_false, ofString_inj, gt_iff_lt, List.all_cons, List.all_nil, List.any_cons, List.any_nil, Bool.and_true, Bool.true_and, Bool.and_self, Bool.or_false, Bool.false_or, Bool.or_true, Bool.true_or, szOk, mNeg, wipeM, ↓reduceIte, Nat.reduceAdd, Nat.reduceSub, Nat.reduceLeDiff, Int.reduceLT, Int.reduceLE, Int.reduceNeg, Int.reduceAdd, Int.reduceSub, Int.reducePow, Int.reduceEq, Int.reduceLT, Int.reduceMod, Int.reduceDiv, Int.reduceMul, Int.reduceToNat, String.reduceEq, reduceCtorEq]
      exact ⟨rfl, gc_len rfl⟩
    · simp only [↓SX1, SX2, ↓SV1, SV2, List.getElem?_cons_zero, List.getElem?_cons_succ, List.set_cons_zero, List.set_cons_succ, List.map_cons, List.map_nil, List.cons_append, List.nil_append, List.append_nil, List.replicate_succ, List.replicate_zero, List.length_cons, List.length_nil, if_true, if_false, true_and, and_true, and_self, Nat.zero_add, Int.natCast_zero, i0, i1, i2, i3, i4, decide_true, decide_false, Bool.not_true, Bool.not_false, ofString_inj, gt_iff_lt, List.all_cons, List.all_nil, List.any_cons, List.any_nil, Bool.and_true, Bool.true_and, Bool.and_self, Bool.or_false, Bool.false_or, Bool.or_true, Bool.true_or, szOk, mNeg, wipeM, ↓reduceIte, Nat.reduceAdd, Nat.reduceSub, Nat.reduceLeDiff, Int.reduceLT, Int.reduceLE, Int.reduceNeg, Int.reduceAdd, Int.reduceSub, Int.reducePow, Int.reduceEq, Int.reduceLT, Int.reduceMod, Int.reduceDiv, Int.reduceMul, Int.reduceToNat, String.reduceEq, reduceCtorEq, kM_ks]
      refine ⟨by rw [List.length_map, List.length_map]; omega, ?_⟩
      have em : (ms.map (·.1)).map MV.int = ms.map fun p => MV.int p.1 := by rw [List.map_map]; rfl
      rw [em]
      refine s_compE (us := ms) (vf := fun (p : Int × Int) => MV.int p.1) (ef := fun (p : Int × Int) => .bl (movedB ms (ceOf cs p.1))) (by simp) (fun p hp => ⟨_, rfl, ?_⟩) ?_
      · obtain ⟨c, hc⟩ := Option.isSome_iff_exists.mp (hsub p hp)
        have ec : ceOf cs p.1 = c := by unfold ceOf; rw [hc]; rfl
        have z := szc p hp
        rw [ec] at z
        have mo := moved_ok (ms := ms) z H
        unfold fdcM at mo
        refine Gd.eq ?_
        simp only [↓SX1, SX2, ↓SV1, SV2, List.getElem?_cons_zero, List.getElem?_cons_succ, List.set_cons_zero, List.set_cons_succ, List.map_cons, List.map_nil, List.cons_append, List.nil_append, List.append_nil, List.replicate_succ, List.replicate_zero, List.length_cons, List.length_nil, if_true, if_false, true_and, and_true, and_self, Nat.zero_add, Int.natCast_zero, i0, i1, i2, i3, i4, decide_true, decide_false, Bool.not_true, Bool.not_false, ofString_inj, gt_iff_lt, List.all_cons, List.all_nil, List.any_cons, List.any_nil, Bool.and_true, Bool.true_and, Bool.and_self, Bool.or_false, Bool.false_or, Bool.or_true, Bool.true_or, szOk, mNeg, wipeM, ↓reduceIte, Nat.reduceAdd, Nat.reduceSub, Nat.reduceLeDiff, Int.reduceLT, Int.reduceLE, Int.reduceNeg, Int.reduceAdd, Int.reduceSub, Int.reducePow, Int.reduceEq, Int.reduceLT, Int.reduceMod, Int.reduceDiv, Int.reduceMul, Int.reduceToNat, String.reduceEq, reduceCtorEq, zip_fdc, val_dct, hc, Option.map_some, Option.isSome_some, mo]
        exact ⟨by rw [ec], rfl⟩
      · simp only [↓SX1, SX2, ↓SV1, SV2, List.getElem?_cons_zero, List.getElem?_cons_succ, List.set_cons_zero, List.set_cons_succ, List.map_cons, List.map_nil, List.cons_append, List.nil_append, List.append_nil, List.replicate_succ, List.replicate_zero, List.length_cons, List.length_nil, if_true, if_false, true_and, and_true, and_self, Nat.zero_add, Int.natCast_zero, i0, i1, i2, i3, i4, decide_true, decide_false, Bool.not_true, Bool.not_false, ofString_inj, gt_iff_lt, List.all_cons, List.all_nil, List.any_cons, List.any_nil, Bool.and_true, Bool.true_and, Bool.and_self, Bool.or_false, Bool.false_or, Bool.or_true, Bool.true_or, szOk, mNeg, wipeM, ↓reduceIte, Nat.reduceAdd, Nat.reduceSub, Nat.reduceLeDiff, Int.reduceLT, Int.reduceLE, Int.reduceNeg, Int.reduceAdd, Int.reduceSub, Int.reducePow, Int.reduceEq, Int.reduceLT, Int.reduceMod, Int.reduceDiv, Int.reduceMul, Int.reduceToNat, String.reduceEq, reduceCtorEq, lAll_b]
        cases hms : ms.all fun p => movedB ms (ceOf cs p.1)
        · simp only [↓SX1, SX2, ↓SV1, SV2, List.getElem?_cons_zero, List.getElem?_cons_succ, List.set_cons_zero, List.set_cons_succ, List.map_cons, List.map_nil, List.cons_append, List.nil_append, List.append_nil, List.replicate_succ, List.replicate_zero, List.length_cons, List.length_nil, if_true, if_false, true_and, and_true, and_self, Nat.zero_add, Int.natCast_zero, i0, i1, i2, i3, i4, decide_true, decide_false, Bool.not_true, Bool.not_false, ofString_inj, gt_iff_lt, List.all_cons, List.all_nil, List.any_cons, List.any_nil, Bool.and_true, Bool.true_and, Bool.and_self, Bool.or_false, Bool.false_or, Bool.or_true, Bool.true_or, szOk, mNeg, wipeM, ↓reduceIte, Nat.reduceAdd, Nat.reduceSub, Nat.reduceLeDiff, Int.reduceLT, Int.reduceLE, Int.reduceNeg, Int.reduceAdd, Int.reduceSub, Int.reducePow, Int.reduceEq, Int.reduceLT, Int.reduceMod, Int.reduceDiv, Int.reduceMul, Int.reduceToNat, String.reduceEq, reduceCtorEq]
          exact ⟨rfl, gc_len rfl⟩
        · have hmv : ∀ p, p ∈ ms → movedB ms (ceOf cs p.1) = true := List.all_eq_true.mp hms
          simp only [↓SX1, SX2, ↓SV1, SV2, List.getElem?_cons_zero, List.getElem?_cons_succ, List.set_cons_zero, List.set_cons_succ, List.map_cons, List.map_nil, List.cons_append, List.nil_append, List.append_nil, List.replicate_succ, List.replicate_zero, List.length_cons, List.length_nil, if_true, if_false, true_and, and_true, and_self, Nat.zero_add, Int.natCast_zero, i0, i1, i2, i3, i4, decide_true, decide_false, Bool.not_true, Bool.not_false, ofString_inj, gt_iff_lt, List.all_cons, List.all_nil, List.any_cons, List.any_nil, Bool.and_true, Bool.true_and, Bool.and_self, Bool.or_false, Bool.false_or, Bool.or_true, Bool.true_or, szOk, mNeg, wipeM, ↓reduceIte, Nat.reduceAdd, Nat.reduceSub, Nat.reduceLeDiff, Int.reduceLT, Int.reduceLE, Int.reduceNeg, Int.reduceAdd, Int.reduceSub, Int.reducePow, Int.reduceEq, Int.reduceLT, Int.reduceMod, Int.reduceDiv, Int.reduceMul, Int.reduceToNat, String.reduceEq, reduceCtorEq]
          refine ⟨by rw [lp]; omega, ?_⟩
          unfold prs
          refine s_compE (us := ms) (vf := fun (p : Int × Int) => MV.tup [.int p.1, .int p.2]) (ef := fun (p : Int × Int) => .tup [.int p.2, (movC ms (ceOf cs p.1)).mv]) (by simp) (fun p hp => ⟨_, rfl, ?_⟩) ?_
          · obtain ⟨c, hc⟩ := Option.isSome_iff_exists.mp (hsub p hp)
            have ec : ceOf cs p.1 = c := by unfold ceOf; rw [hc]; rfl
            have z := szc p hp
            have y := hmv p hp
            rw [ec] at z y
            have mo := mcell_ok (ms := ms) z y H
            unfold fdcM at mo
            refine Gd.eq ?_
            simp only [↓SX1, SX2, ↓SV1, SV2, List.getElem?_cons_zero, List.getElem?_cons_succ, List.set_cons_zero, List.set_cons_succ, List.map_cons, List.map_nil, List.cons_append, List.nil_append, List.append_nil, List.replicate_succ, List.replicate_zero, List.length_cons, List.length_nil, if_true, if_false, true_and, and_true, and_self, Nat.zero_add, Int.natCast_zero, i0, i1, i2, i3, i4, decide_true, decide_false, Bool.not_true, Bool.not_false, ofString_inj, gt_iff_lt, List.all_cons, List.all_nil, List.any_cons, List.any_nil, Bool.and_true, Bool.true_and, Bool.and_self, Bool.or_false, Bool.false_or, Bool.or_true, Bool.true_or, szOk, mNeg, wipeM, ↓reduceIte, Nat.reduceAdd, Nat.reduceSub, Nat.reduceLeDiff, Int.reduceLT, Int.reduceLE, Int.reduceNeg, Int.reduceAdd, Int.reduceSub, Int.reducePow, Int.reduceEq, Int.reduceLT, Int.reduceMod, Int.reduceDiv, Int.reduceMul, Int.reduceToNat, String.reduceEq, reduceCtorEq, zip_fdc, val_dct, hc, Option.map_some, mo]
            exact ⟨by rw [ec], rfl⟩
          · have ed : (ms.map fun p => MV.tup [.int p.2, (movC ms (ceOf cs p.1)).mv]) = prs Ce.mv (dueL cs ms) := by unfold prs dueL; rw [List.map_map]; rfl
            rw [ed]
            obtain ⟨H1, hH1⟩ : ∃ H1, H1 = H ++ [MO.lst (prs Ce.mv (dueL cs ms))] := ⟨_, rfl⟩
            have g1 : H1[H.length]? = some (.lst (prs Ce.mv (dueL cs ms))) := by rw [hH1]; exact gnew
            have g0 : H1[0]? = some (.tab q_sweep_stands) := by rw [hH1]; exact gap e0
            have so := sortk_ok g1 g0
            rw [hb] at so
            obtain ⟨H2, hH2⟩ : ∃ H2, H2 = H1 ++ [MO.lst (prs Ce.mv bs)] := ⟨_, rfl⟩
            have g2 : H2[H1.length]? = some (.lst (prs Ce.mv bs)) := by rw [hH2]; exact gnew
            have tu := mTuple_r g2
            have re := repr_ok hr H2
            unfold prs at re tu so
            simp only [↓SX1, SX2, ↓SV1, SV2, List.getElem?_cons_zero, List.getElem?_cons_succ, List.set_cons_zero, List.set_cons_succ, List.map_cons, List.map_nil, List.cons_append, List.nil_append, List.append_nil, List.replicate_succ, List.replicate_zero, List.length_cons, List.length_nil, if_true, if_false, true_and, and_true, and_self, Nat.zero_add, Int.natCast_zero, i0, i1, i2, i3, i4, decide_true, decide_false, Bool.not_true, Bool.not_false, ofString_inj, gt_iff_lt, List.all_cons, List.all_nil, List.any_cons, List.any_nil, Bool.and_true, Bool.true_and, Bool.and_self, Bool.or_false, Bool.false_or, Bool.or_true, Bool.true_or, szOk, mNeg, wipeM, ↓reduceIte, Nat.reduceAdd, Nat.reduceSub, Nat.reduceLeDiff, Int.reduceLT, Int.reduceLE, Int.reduceNeg, Int.reduceAdd, Int.reduceSub, Int.reducePow, Int.reduceEq, Int.reduceLT, Int.reduceMod, Int.reduceDiv, Int.reduceMul, Int.reduceToNat, String.reduceEq, reduceCtorEq]
            rw [← hH1]
            simp only [↓SX1, SX2, ↓SV1, SV2, List.getElem?_cons_zero, List.getElem?_cons_succ, List.set_cons_zero, List.set_cons_succ, List.map_cons, List.map_nil, List.cons_append, List.nil_append, List.append_nil, List.replicate_succ, List.replicate_zero, List.length_cons, List.length_nil, if_true, if_false, true_and, and_true, and_self, Nat.zero_add, Int.natCast_zero, i0, i1, i2, i3, i4, decide_true, decide_false, Bool.not_true, Bool.not_false, ofString_inj, gt_iff_lt, List.all_cons, List.all_nil, List.any_cons, List.any_nil, Bool.and_true, Bool.true_and, Bool.and_self, Bool.or_false, Bool.false_or, Bool.or_true, Bool.true_or, szOk, mNeg, wipeM, ↓reduceIte, Nat.reduceAdd, Nat.reduceSub, Nat.reduceLeDiff, Int.reduceLT, Int.reduceLE, Int.reduceNeg, Int.reduceAdd, Int.reduceSub, Int.reducePow, Int.reduceEq, Int.reduceLT, Int.reduceMod, Int.reduceDiv, Int.reduceMul, Int.reduceToNat, String.reduceEq, reduceCtorEq, so]
            unfold prs at hH2
            rw [← hH2]
            simp only [↓SX1, SX2, ↓SV1, SV2, List.getElem?_cons_zero, List.getElem?_cons_succ, List.set_cons_zero, List.set_cons_succ, List.map_cons, List.map_nil, List.cons_append, List.nil_append, List.append_nil, List.replicate_succ, List.replicate_zero, List.length_cons, List.length_nil, if_true, if_false, true_and, and_true, and_self, Nat.zero_add, Int.natCast_zero, i0, i1, i2, i3, i4, decide_true, decide_false, Bool.not_true, Bool.not_false, ofString_inj, gt_iff_lt, List.all_cons, List.all_nil, List.any_cons, List.any_nil, Bool.and_true, Bool.true_and, Bool.and_self, Bool.or_false, Bool.false_or, Bool.or_true, Bool.true_or, szOk, mNeg, wipeM, ↓reduceIte, Nat.reduceAdd, Nat.reduceSub, Nat.reduceLeDiff, Int.reduceLT, Int.reduceLE, Int.reduceNeg, Int.reduceAdd, Int.reduceSub, Int.reducePow, Int.reduceEq, Int.reduceLT, Int.reduceMod, Int.reduceDiv, Int.reduceMul, Int.reduceToNat, String.reduceEq, reduceCtorEq, tu, re]
            refine ⟨rfl, ?_⟩
            rw [hH2, hH1, List.append_assoc]
            exact gc_app (by simp [bel])
end My

set_option Elab.async false
set_option linter.all false
set_option maxRecDepth 100000
set_option maxHeartbeats 8000000
namespace My
open PySem L2 Sm
/-! ### the deck -/
theorem pd_ints {h : MH} {n : Nat} : ∀ ns : List Int, (ns.map MV.int).mapM (pdv h (n + 1)) = some (ns.map PyData.int)
  | [] => rfl
  | i :: ns => by
    rw [List.map_cons, List.mapM_cons, pd_ints ns]
    rfl
theorem lay_ints : ∀ ns : List Int, PyData.canLayAll0 (ns.map PyData.int) = true ∧ PyData.depthAll (ns.map PyData.int) = 0
  | [] => by simp [PyData.canLayAll0, PyData.depthAll]
  | i :: ns => by
    obtain ⟨a, b⟩ := lay_ints ns
    simp [PyData.canLayAll0, PyData.depthAll, PyData.canLay0, PyData.depth, a, b]
theorem cmp_nil {h : MH} {i j : Nat} {ns : List Int} (e1 : h[i]? = some (.lst (ns.map .int))) (e2 : h[j]? = some (.lst [])) : mNe (.ref i) (.ref j) h = .ok (.bl (!decide (ns = []))) h ∧ mEq (.ref i) (.ref j) h = .ok (.bl (decide (ns = []))) h := by
  have a1 : pdv h 60 (.ref i) = some (.list (ns.map PyData.int)) := by rw [pdv, e1]; simp only [pd_ints]; rfl
  have a2 : pdv h 60 (.ref j) = some (.list []) := by rw [pdv, e2]; rfl
  have sc : scalM (.ref i) (.ref j) = none := rfl
  obtain ⟨l1, l2⟩ := lay_ints ns
  have sh : SeqAt.shaped (.list (ns.map PyData.int)) = true := by
    unfold SeqAt.shaped
    rw [Bool.and_eq_true]
    refine ⟨by simpa [PyData.canLay0] using l1, decide_eq_true ?_⟩
    simp only [PyData.depth, l2]; omega
  have sh0 : SeqAt.shaped (.list []) = true := by decide
  have ev : PyData.eqv (.list (ns.map PyData.int)) (.list []) = decide (ns = []) := by
    cases ns with
    | nil => rfl
    | cons n ns => simp [PyData.eqv, PyData.eqvAll]
  have eb : mEqB (.ref i) (.ref j) h = some (decide (ns = [])) := by
    unfold mEqB
    rw [sc, a1, a2]
    simp [sh, sh0, ev]
  unfold mNe mEq
  rw [eb]
  exact ⟨rfl, rfl⟩
structure Ds where
  ds : List Int
  cs : List Int
  sl : List MV
  c : Nat
def DHq (a b : Str) (s : Ds) (g : MH) : MH := .tab a :: .tab b :: .lst (s.ds.map .int) :: .lst (s.cs.map .int) :: .lst s.sl :: .lst [.ref 2, .ref 3, .int s.c] :: g
def DH (s : Ds) (g : MH) : MH := DHq q_sweep_stands q_law_told s g
structure Good (l : List MV) (s : Ds) (n : Nat) : Prop where
  sl : s.sl = l
  ne : s.cs ≠ []
  cb : ∀ x, x ∈ s.cs → 0 ≤ x ∧ x < 2147483648
  db : ∀ x, x ∈ s.ds → 0 ≤ x
  cn : s.c ≤ n
theorem Good.up {l : List MV} {s : Ds} {n m : Nat} (g : Good l s n) (h : n ≤ m) : Good l s m := ⟨g.sl, g.ne, g.cb, g.db, Nat.le_trans g.cn h⟩
section
variable {s : Ds} {g : MH}
theorem dh0 : (DH s g)[0]? = some (.tab q_sweep_stands) := rfl
theorem dh1 : (DH s g)[1]? = some (.tab q_law_told) := rfl
theorem dh2 : (DH s g)[2]? = some (.lst (s.ds.map .int)) := rfl
theorem dh3 : (DH s g)[3]? = some (.lst (s.cs.map .int)) := rfl
theorem dh5 : (DH s g)[5]? = some (.lst [.ref 2, .ref 3, .int s.c]) := rfl
theorem dh_app {x : MH} : DH s g ++ x = DH s (g ++ x) := rfl
theorem dh_len : (DH s g).length = g.length + 6 := rfl
theorem dh_new {o : MO} : (DH s (g ++ [o]))[g.length + 6]? = some o := by rw [← dh_app, ← dh_len (s := s)]; exact gnew
theorem dh_at {k : Nat} : (DH s g)[k + 6]? = g[k]? := rfl
theorem ints_bel {n : Nat} : ∀ ns : List Int, bels n (ns.map MV.int) = true
  | [] => by simp [bels]
  | i :: ns => by simp [bels, bel, ints_bel ns]
theorem gc_dhq {a b : Str} {s' : Ds} {j : MH} {v : MV} (hv : bel (g.length + 6) v = true) (hs : s'.sl = s.sl) : gc (DHq a b s g) v (DHq a b s' (g ++ j)) = DHq a b s' g := by
  have ea : DHq a b s' (g ++ j) = DHq a b s' g ++ j := rfl
  rw [ea]
  refine gc_cut hv rfl fun i o e => ?_
  match i, e with
  | 0, e => left; exact e
  | 1, e => left; exact e
  | 2, e => right; cases e; exact ints_bel _
  | 3, e => right; cases e; exact ints_bel _
  | 4, e => left; cases e; rw [hs]; rfl
  | 5, e =>
    right; cases e
    have : (DHq a b s g).length = g.length + 6 := rfl
    simp [belO, bels, bel, this]
  | i + 6, e => left; exact e
/-- what was made goes, the deck has gone on -/
theorem gc_dh {s' : Ds} {j : MH} {v : MV} (hv : bel (g.length + 6) v = true) (hs : s'.sl = s.sl) : gc (DH s g) v (DH s' (g ++ j)) = DH s' g := gc_dhq hv hs
theorem gc_gd {l : List MV} {n n' : Nat} {s' : Ds} {j : MH} {v : MV} (hv : bel (g.length + 6) v = true) (a : Good l s n) (b : Good l s' n') : gc (DH s g) v (DH s' (g ++ j)) = DH s' g := gc_dhq hv (b.sl.trans a.sl.symm)
theorem gc_gd0 {l : List MV} {n n' : Nat} {s' : Ds} {v : MV} (hv : bel (g.length + 6) v = true) (a : Good l s n) (b : Good l s' n') : gc (DH s g) v (DH s' g) = DH s' g := by
  have := gc_gd (j := []) hv a b
  rwa [List.append_nil] at this
end
theorem low {i : Int} (h0 : -18446744073709551616 < i) (h1 : i < 18446744073709551616) : lowI i := by unfold lowI; omega
def PRs : List Int := [48271, 69621, 16807, 39373, 30323, 51749, 44417, 27449, 63073, 55001, 33791, 40009]
theorem pr_at (n : Nat) (h : n < 12) : ∃ p : Int, atI (PRs.map MV.int) (n : Int) = some (.int p) ∧ 0 ≤ p ∧ p < 100000 := by
  have : n = 0 ∨ n = 1 ∨ n = 2 ∨ n = 3 ∨ n = 4 ∨ n = 5 ∨ n = 6 ∨ n = 7 ∨ n = 8 ∨ n = 9 ∨ n = 10 ∨ n = 11 := by omega
  rcases this with rfl | rfl | rfl | rfl | rfl | rfl | rfl | rfl | rfl | rfl | rfl | rfl <;> exact ⟨_, rfl, by decide, by decide⟩
theorem at_mod {cs : List Int} (ne : cs ≠ []) (n : Nat) : ∃ x, x ∈ cs ∧ atI (cs.map MV.int) ((n : Int) % (cs.length : Int)) = some (.int x) := by
  have ln : 0 < cs.length := List.length_pos_iff.mpr ne
  have ej : ((n : Int) % (cs.length : Int)) = ((n % cs.length : Nat) : Int) := (Int.natCast_emod _ _).symm
  have jl : n % cs.length < cs.length := Nat.mod_lt _ ln
  refine ⟨cs[n % cs.length], List.getElem_mem _, ?_⟩
  rw [ej]
  exact ixNat (by rw [List.getElem?_map, List.getElem?_eq_getElem jl]; rfl)
theorem pop0 {s : Ds} {g : MH} {d : Int} {r : List Int} (e : s.ds = d :: r) : mPopAt (.ref 2) [.int 0] (DH s g) = .ok (.int d) (DH { s with ds := r } g) := by
  unfold mPopAt
  simp only [dh2, e]
  rfl
theorem next_ok {l : List MV} {s : Ds} {n : Nat} {k : Int} (hs : Good l s n) (hn : n < 1000000) (hk : 0 < k) (hk2 : k ≤ 1000000) (g : MH) :
    ∃ (v : Int) (s' : Ds), 0 ≤ v ∧ v < k ∧ Good l s' (n + 1) ∧ m_law_next [.ref 5, .int k] (DH s g) = .ok (.int v) (DH s' g) := by
  by_cases hd : s.ds = []
  · obtain ⟨x, hx, ex⟩ := at_mod hs.ne s.c
    obtain ⟨y, hy, ey⟩ := at_mod hs.ne (3 * s.c + 1)
    obtain ⟨p, ep, p0, p1⟩ := pr_at (s.c % 12) (Nat.mod_lt _ (by decide))
    obtain ⟨q, eq, q0, q1⟩ := pr_at ((s.c + 5) % 12) (Nat.mod_lt _ (by decide))
    obtain ⟨x0, x1⟩ := hs.cb x hx
    obtain ⟨y0, y1⟩ := hs.cb y hy
    have cn := hs.cn
    obtain ⟨b1, hb1⟩ : ∃ b : Int, b = x + p * ((s.c : Int) + 1) := ⟨_, rfl⟩
    obtain ⟨b2, hb2⟩ : ∃ b : Int, b = y + q := ⟨_, rfl⟩
    have pm : 0 ≤ p * ((s.c : Int) + 1) ∧ p * ((s.c : Int) + 1) ≤ 100000 * 1000001 := ⟨Int.mul_nonneg p0 (by omega), Int.mul_le_mul (by omega) (by omega) (by omega) (by omega)⟩
    obtain ⟨w, hw⟩ : ∃ w : Int, w = (b1 ^ 3 + b2 ^ 2 * ((s.c : Int) + 7)) % 2147483629 / 11 := ⟨_, rfl⟩
    have s1 : Good l { s with c := s.c + 1 } (n + 1) := ⟨hs.sl, hs.ne, hs.cb, hs.db, by show s.c + 1 ≤ n + 1; omega⟩
    refine ⟨w % k, { s with c := s.c + 1 }, Int.emod_nonneg _ (by omega), Int.emod_lt_of_pos _ hk, s1, ?_⟩
    unfold m_law_next
    refine e_fun rfl ?_
    unfold b_law_next
    have l0 : (s.cs.map MV.int).length = s.cs.length := by rw [List.length_map]
    have ln : 0 < s.cs.length := List.length_pos_iff.mpr hs.ne
    have lnI : (0 : Int) < (s.cs.length : Int) := by omega
    have c1 : ((s.c : Int) % 12) = ((s.c % 12 : Nat) : Int) := by omega
    have c2 : (((s.c : Int) + 5) % 12) = (((s.c + 5) % 12 : Nat) : Int) := by omega
    have c3 : ((3 * s.c + 1 : Nat) : Int) = 3 * (s.c : Int) + 1 := by omega
    rw [c3] at ey
    obtain ⟨g1, hg1⟩ : ∃ g1, g1 = g ++ [MO.lst []] := ⟨_, rfl⟩
    have n1 := (cmp_nil (h := DH s g1) (i := 2) (j := g.length + 6) (ns := s.ds) dh2 (by rw [hg1]; exact dh_new)).1
    have st : mSetI (.ref 5) (.int 2) (.int ((s.c : Int) + 1)) (DH s g1) = some (DH { s with c := s.c + 1 } g1) := rfl
    have pw1 : ∀ h : MH, mPow (.int b1) (.int 3) h = .ok (.int (b1 ^ 3)) h := fun h => by
      unfold mPow; dsimp only; rw [if_pos ⟨by decide, by decide, low (by omega) (by omega)⟩]; rfl
    have pw2 : ∀ h : MH, mPow (.int b2) (.int 2) h = .ok (.int (b2 ^ 2)) h := fun h => by
      unfold mPow; dsimp only; rw [if_pos ⟨by decide, by decide, low (by omega) (by omega)⟩]; rfl
    have m1 : ∀ h : MH, mMul (.int p) (.int ((s.c : Int) + 1)) h = .ok (.int (p * ((s.c : Int) + 1))) h := fun h => by
      unfold mMul; dsimp only; rw [if_pos (.inl (low (by omega) (by omega)))]
    have m2 : ∀ h : MH, mMul (.int (b2 ^ 2)) (.int ((s.c : Int) + 7)) h = .ok (.int (b2 ^ 2 * ((s.c : Int) + 7))) h := fun h => by
      unfold mMul; dsimp only; rw [if_pos (.inr (low (by omega) (by omega)))]
    have m3 : ∀ h : MH, mMul (.int 3) (.int (s.c : Int)) h = .ok (.int (3 * (s.c : Int))) h := fun h => by
      unfold mMul; dsimp only; rw [if_pos (.inl (low (by omega) (by omega)))]
    have pl : ([MV.int 48271, .int 69621, .int 16807, .int 39373, .int 30323, .int 51749, .int 44417, .int 27449, .int 63073, .int 55001, .int 33791, .int 40009] : List MV) = PRs.map MV.int := rfl
    rw [← c1] at ep
    rw [← c2] at eq
    simp only [↓SX1, SX2, ↓SV1, SV2, List.getElem?_cons_zero, List.getElem?_cons_succ, List.set_cons_zero, List.set_cons_succ, List.map_cons, List.map_nil, List.cons_append, List.nil_append, List.append_nil, List.replicate_succ, List.replicate_zero, List.length_cons, List.length_nil, if_true, if_false, true_and, and_true, and_self, Nat.zero_add, Int.natCast_zero, i0, i1, i2, i3, i4, decide_true, decide_false, Bool.not_true, Bool.not_false, ofString_inj, gt_iff_lt, List.all_cons, List.all_nil, List.any_cons, List.any_nil, Bool.and_true, Bool.true_and, Bool.and_self, Bool.or_false, Bool.false_or, Bool.or_true, Bool.true_or, szOk, mNeg, wipeM, ↓reduceIte, Nat.reduceAdd, Nat.reduceSub, Nat.reduceLeDiff, Int.reduceLT, Int.reduceLE, Int.reduceNeg, Int.reduceAdd, Int.reduceSub, Int.reducePow, Int.reduceEq, Int.reduceLT, Int.reduceMod, Int.reduceDiv, Int.reduceMul, Int.reduceToNat, String.reduceEq, reduceCtorEq, dh5, dh_app, dh_len, ← hg1, n1, hd, kSI1_ap, st]
    simp only [↓SX1, SX2, ↓SV1, SV2, List.getElem?_cons_zero, List.getElem?_cons_succ, List.set_cons_zero, List.set_cons_succ, List.map_cons, List.map_nil, List.cons_append, List.nil_append, List.append_nil, List.replicate_succ, List.replicate_zero, List.length_cons, List.length_nil, if_true, if_false, true_and, and_true, and_self, Nat.zero_add, Int.natCast_zero, i0, i1, i2, i3, i4, decide_true, decide_false, Bool.not_true, Bool.not_false, ofString_inj, gt_iff_lt, List.all_cons, List.all_nil, List.any_cons, List.any_nil, Bool.and_true, Bool.true_and, Bool.and_self, Bool.or_false, Bool.false_or, Bool.or_true, Bool.true_or, szOk, mNeg, wipeM, ↓reduceIte, Nat.reduceAdd, Nat.reduceSub, Nat.reduceLeDiff, Int.reduceLT, Int.reduceLE, Int.reduceNeg, Int.reduceAdd, Int.reduceSub, Int.reducePow, Int.reduceEq, Int.reduceLT, Int.reduceMod, Int.reduceDiv, Int.reduceMul, Int.reduceToNat, String.reduceEq, reduceCtorEq, dh5, dh3, l0, lnI, m3, ex, ey]
    rw [pl]
    simp only [↓SX1, SX2, ↓SV1, SV2, List.getElem?_cons_zero, List.getElem?_cons_succ, List.set_cons_zero, List.set_cons_succ, List.map_cons, List.map_nil, List.cons_append, List.nil_append, List.append_nil, List.replicate_succ, List.replicate_zero, List.length_cons, List.length_nil, if_true, if_false, true_and, and_true, and_self, Nat.zero_add, Int.natCast_zero, i0, i1, i2, i3, i4, decide_true, decide_false, Bool.not_true, Bool.not_false, ofString_inj, gt_iff_lt, List.all_cons, List.all_nil, List.any_cons, List.any_nil, Bool.and_true, Bool.true_and, Bool.and_self, Bool.or_false, Bool.false_or, Bool.or_true, Bool.true_or, szOk, mNeg, wipeM, ↓reduceIte, Nat.reduceAdd, Nat.reduceSub, Nat.reduceLeDiff, Int.reduceLT, Int.reduceLE, Int.reduceNeg, Int.reduceAdd, Int.reduceSub, Int.reducePow, Int.reduceEq, Int.reduceLT, Int.reduceMod, Int.reduceDiv, Int.reduceMul, Int.reduceToNat, String.reduceEq, reduceCtorEq, ep]
    simp only [↓SX1, SX2, ↓SV1, SV2, List.getElem?_cons_zero, List.getElem?_cons_succ, List.set_cons_zero, List.set_cons_succ, List.map_cons, List.map_nil, List.cons_append, List.nil_append, List.append_nil, List.replicate_succ, List.replicate_zero, List.length_cons, List.length_nil, if_true, if_false, true_and, and_true, and_self, Nat.zero_add, Int.natCast_zero, i0, i1, i2, i3, i4, decide_true, decide_false, Bool.not_true, Bool.not_false, ofString_inj, gt_iff_lt, List.all_cons, List.all_nil, List.any_cons, List.any_nil, Bool.and_true, Bool.true_and, Bool.and_self, Bool.or_false, Bool.false_or, Bool.or_true, Bool.true_or, szOk, mNeg, wipeM, ↓reduceIte, Nat.reduceAdd, Nat.reduceSub, Nat.reduceLeDiff, Int.reduceLT, Int.reduceLE, Int.reduceNeg, Int.reduceAdd, Int.reduceSub, Int.reducePow, Int.reduceEq, Int.reduceLT, Int.reduceMod, Int.reduceDiv, Int.reduceMul, Int.reduceToNat, String.reduceEq, reduceCtorEq, m1]
    simp only [↓SX1, SX2, ↓SV1, SV2, List.getElem?_cons_zero, List.getElem?_cons_succ, List.set_cons_zero, List.set_cons_succ, List.map_cons, List.map_nil, List.cons_append, List.nil_append, List.append_nil, List.replicate_succ, List.replicate_zero, List.length_cons, List.length_nil, if_true, if_false, true_and, and_true, and_self, Nat.zero_add, Int.natCast_zero, i0, i1, i2, i3, i4, decide_true, decide_false, Bool.not_true, Bool.not_false, ofString_inj, gt_iff_lt, List.all_cons, List.all_nil, List.any_cons, List.any_nil, Bool.and_true, Bool.true_and, Bool.and_self, Bool.or_false, Bool.false_or, Bool.or_true, Bool.true_or, szOk, mNeg, wipeM, ↓reduceIte, Nat.reduceAdd, Nat.reduceSub, Nat.reduceLeDiff, Int.reduceLT, Int.reduceLE, Int.reduceNeg, Int.reduceAdd, Int.reduceSub, Int.reducePow, Int.reduceEq, Int.reduceLT, Int.reduceMod, Int.reduceDiv, Int.reduceMul, Int.reduceToNat, String.reduceEq, reduceCtorEq, ← hb1, pw1]
    simp only [↓SX1, SX2, ↓SV1, SV2, List.getElem?_cons_zero, List.getElem?_cons_succ, List.set_cons_zero, List.set_cons_succ, List.map_cons, List.map_nil, List.cons_append, List.nil_append, List.append_nil, List.replicate_succ, List.replicate_zero, List.length_cons, List.length_nil, if_true, if_false, true_and, and_true, and_self, Nat.zero_add, Int.natCast_zero, i0, i1, i2, i3, i4, decide_true, decide_false, Bool.not_true, Bool.not_false, ofString_inj, gt_iff_lt, List.all_cons, List.all_nil, List.any_cons, List.any_nil, Bool.and_true, Bool.true_and, Bool.and_self, Bool.or_false, Bool.false_or, Bool.or_true, Bool.true_or, szOk, mNeg, wipeM, ↓reduceIte, Nat.reduceAdd, Nat.reduceSub, Nat.reduceLeDiff, Int.reduceLT, Int.reduceLE, Int.reduceNeg, Int.reduceAdd, Int.reduceSub, Int.reducePow, Int.reduceEq, Int.reduceLT, Int.reduceMod, Int.reduceDiv, Int.reduceMul, Int.reduceToNat, String.reduceEq, reduceCtorEq, eq]
    simp only [↓SX1, SX2, ↓SV1, SV2, List.getElem?_cons_zero, List.getElem?_cons_succ, List.set_cons_zero, List.set_cons_succ, List.map_cons, List.map_nil, List.cons_append, List.nil_append, List.append_nil, List.replicate_succ, List.replicate_zero, List.length_cons, List.length_nil, if_true, if_false, true_and, and_true, and_self, Nat.zero_add, Int.natCast_zero, i0, i1, i2, i3, i4, decide_true, decide_false, Bool.not_true, Bool.not_false, ofString_inj, gt_iff_lt, List.all_cons, List.all_nil, List.any_cons, List.any_nil, Bool.and_true, Bool.true_and, Bool.and_self, Bool.or_false, Bool.false_or, Bool.or_true, Bool.true_or, szOk, mNeg, wipeM, ↓reduceIte, Nat.reduceAdd, Nat.reduceSub, Nat.reduceLeDiff, Int.reduceLT, Int.reduceLE, Int.reduceNeg, Int.reduceAdd, Int.reduceSub, Int.reducePow, Int.reduceEq, Int.reduceLT, Int.reduceMod, Int.reduceDiv, Int.reduceMul, Int.reduceToNat, String.reduceEq, reduceCtorEq, ← hb2, pw2]
    simp only [↓SX1, SX2, ↓SV1, SV2, List.getElem?_cons_zero, List.getElem?_cons_succ, List.set_cons_zero, List.set_cons_succ, List.map_cons, List.map_nil, List.cons_append, List.nil_append, List.append_nil, List.replicate_succ, List.replicate_zero, List.length_cons, List.length_nil, if_true, if_false, true_and, and_true, and_self, Nat.zero_add, Int.natCast_zero, i0, i1, i2, i3, i4, decide_true, decide_false, Bool.not_true, Bool.not_false, ofString_inj, gt_iff_lt, List.all_cons, List.all_nil, List.any_cons, List.any_nil, Bool.and_true, Bool.true_and, Bool.and_self, Bool.or_false, Bool.false_or, Bool.or_true, Bool.true_or, szOk, mNeg, wipeM, ↓reduceIte, Nat.reduceAdd, Nat.reduceSub, Nat.reduceLeDiff, Int.reduceLT, Int.reduceLE, Int.reduceNeg, Int.reduceAdd, Int.reduceSub, Int.reducePow, Int.reduceEq, Int.reduceLT, Int.reduceMod, Int.reduceDiv, Int.reduceMul, Int.reduceToNat, String.reduceEq, reduceCtorEq, m2]
    simp only [↓SX1, SX2, ↓SV1, SV2, List.getElem?_cons_zero, List.getElem?_cons_succ, List.set_cons_zero, List.set_cons_succ, List.map_cons, List.map_nil, List.cons_append, List.nil_append, List.append_nil, List.replicate_succ, List.replicate_zero, List.length_cons, List.length_nil, if_true, if_false, true_and, and_true, and_self, Nat.zero_add, Int.natCast_zero, i0, i1, i2, i3, i4, decide_true, decide_false, Bool.not_true, Bool.not_false, ofString_inj, gt_iff_lt, List.all_cons, List.all_nil, List.any_cons, List.any_nil, Bool.and_true, Bool.true_and, Bool.and_self, Bool.or_false, Bool.false_or, Bool.or_true, Bool.true_or, szOk, mNeg, wipeM, ↓reduceIte, Nat.reduceAdd, Nat.reduceSub, Nat.reduceLeDiff, Int.reduceLT, Int.reduceLE, Int.reduceNeg, Int.reduceAdd, Int.reduceSub, Int.reducePow, Int.reduceEq, Int.reduceLT, Int.reduceMod, Int.reduceDiv, Int.reduceMul, Int.reduceToNat, String.reduceEq, reduceCtorEq, ← hw, hk]
    refine ⟨rfl, ?_⟩
    rw [hg1]
    exact gc_dh (by simp [bel]) rfl
  · obtain ⟨d, r, e⟩ : ∃ d r, s.ds = d :: r := by
      cases h : s.ds with
      | nil => exact absurd h hd
      | cons d r => exact ⟨d, r, rfl⟩
    have d0 := hs.db d (by rw [e]; simp)
    refine ⟨d % k, { s with ds := r }, Int.emod_nonneg _ (by omega), Int.emod_lt_of_pos _ hk, ⟨hs.sl, hs.ne, hs.cb, fun x hx => hs.db x (by rw [e]; simp only [List.mem_cons]; exact .inr hx), by have := hs.cn; show s.c ≤ n + 1; omega⟩, ?_⟩
    unfold m_law_next
    refine e_fun rfl ?_
    unfold b_law_next
    obtain ⟨g1, hg1⟩ : ∃ g1, g1 = g ++ [MO.lst []] := ⟨_, rfl⟩
    have n1 := (cmp_nil (h := DH s g1) (i := 2) (j := g.length + 6) (ns := s.ds) dh2 (by rw [hg1]; exact dh_new)).1
    have po := pop0 (g := g1) e
    have ty : tyOk "list" (.ref 2) (DH s g1) = true := rfl
    simp only [↓SX1, SX2, ↓SV1, SV2, List.getElem?_cons_zero, List.getElem?_cons_succ, List.set_cons_zero, List.set_cons_succ, List.map_cons, List.map_nil, List.cons_append, List.nil_append, List.append_nil, List.replicate_succ, List.replicate_zero, List.length_cons, List.length_nil, if_true, if_false, true_and, and_true, and_self, Nat.zero_add, Int.natCast_zero, i0, i1, i2, i3, i4, decide_true, decide_false, Bool.not_true, Bool.not_false, ofString_inj, gt_iff_lt, List.all_cons, List.all_nil, List.any_cons, List.any_nil, Bool.and_true, Bool.true_and, Bool.and_self, Bool.or_false, Bool.false_or, Bool.or_true, Bool.true_or, szOk, mNeg, wipeM, ↓reduceIte, Nat.reduceAdd, Nat.reduceSub, Nat.reduceLeDiff, Int.reduceLT, Int.reduceLE, Int.reduceNeg, Int.reduceAdd, Int.reduceSub, Int.reducePow, Int.reduceEq, Int.reduceLT, Int.reduceMod, Int.reduceDiv, Int.reduceMul, Int.reduceToNat, String.reduceEq, reduceCtorEq, dh5, dh_app, dh_len, ← hg1, n1, hd]
    simp only [↓SX1, SX2, ↓SV1, SV2, List.getElem?_cons_zero, List.getElem?_cons_succ, List.set_cons_zero, List.set_cons_succ, List.map_cons, List.map_nil, List.cons_append, List.nil_append, List.append_nil, List.replicate_succ, List.replicate_zero, List.length_cons, List.length_nil, if_true, if_false, true_and, and_true, and_self, Nat.zero_add, Int.natCast_zero, i0, i1, i2, i3, i4, decide_true, decide_false, Bool.not_true, Bool.not_false, ofString_inj, gt_iff_lt, List.all_cons, List.all_nil, List.any_cons, List.any_nil, Bool.and_true, Bool.true_and, Bool.and_self, Bool.or_false, Bool.false_or, Bool.or_true, Bool.true_or, szOk, mNeg, wipeM, ↓reduceIte, Nat.reduceAdd, Nat.reduceSub, Nat.reduceLeDiff, Int.reduceLT, Int.reduceLE, Int.reduceNeg, Int.reduceAdd, Int.reduceSub, Int.reducePow, Int.reduceEq, Int.reduceLT, Int.reduceMod, Int.reduceDiv, Int.reduceMul, Int.reduceToNat, String.reduceEq, reduceCtorEq, dh5, ty, po, hk]
    refine ⟨rfl, ?_⟩
    rw [hg1]
    exact gc_dh (by simp [bel]) rfl
end My

set_option Elab.async false
set_option linter.all false
set_option maxRecDepth 100000
set_option maxHeartbeats 8000000
namespace My
open PySem L2 Sm
/-! ### drawn worths, cells, places -/
def At (g : MH) (n : Nat) (o : MO) : Prop := 6 ≤ n ∧ g[n - 6]? = some o
theorem At.dh {s : Ds} {g : MH} {n : Nat} {o : MO} (a : At g n o) : (DH s g)[n]? = some o := by
  obtain ⟨k, rfl⟩ : ∃ k, n = k + 6 := ⟨n - 6, by have := a.1; omega⟩
  rw [dh_at]
  simpa using a.2
theorem At.app {g x : MH} {n : Nat} {o : MO} (a : At g n o) : At (g ++ x) n o := ⟨a.1, gap a.2⟩
theorem At.new {g : MH} {o : MO} : At (g ++ [o]) (g.length + 6) o := ⟨by omega, by simp⟩
theorem At.lt {g : MH} {n : Nat} {o : MO} (a : At g n o) : n < g.length + 6 := by have := a.1; have := lt_of_get a.2; omega
def PsOk (ps : List Int) : Prop := Up ps ∧ (∀ a, a ∈ ps → 0 ≤ a ∧ NOk a) ∧ ps.length ≤ 8
/-- a drawn worth -/
def DW (ps : List Int) (w : Wt) : Prop := w.Ok ∧ w.Rp ∧ ∀ a, w = .cell a → a ∈ ps
/-- a drawn cell -/
def DC (ps : List Int) (c : Ce) : Prop := c.Ok ∧ c.Rp ∧ ∀ a, Wt.cell a ∈ c.parts → a ∈ ps
def PW : List Wt := [.non, .bl true, .bl false, .int 0, .int 1, .int (-7), .int 999999999999, .int (-999999999999), .str "", .str "aB_9z", .str (Txt.mul "x" 40), .int 30]
theorem pw_ok {ps : List Int} : ∀ w, w ∈ PW → DW ps w := by
  intro w hw
  have sok : ∀ {s : Str}, (decide (s.length ≤ 1000000) && textB s && decide (s.cps.size ≤ 40) && s.cps.toList.all fun c => decide (c < 16 ^ 8)) = true → DW ps (.str s) := fun {s} h => by
    simp only [Bool.and_eq_true, decide_eq_true_eq] at h
    exact ⟨⟨h.1.1.1, h.1.1.2⟩, ⟨h.1.2, h.2⟩, fun a e => by cases e⟩
  have iok : ∀ {i : Int}, (decide (-1000000000000 < i) && decide (i < 1000000000000) && decide (i.natAbs.log2 < 80)) = true → DW ps (.int i) := fun {i} h => by
    simp only [Bool.and_eq_true, decide_eq_true_eq] at h
    exact ⟨⟨h.1.1, h.1.2⟩, h.2, fun a e => by cases e⟩
  simp only [PW, List.mem_cons, List.not_mem_nil, or_false] at hw
  rcases hw with rfl | rfl | rfl | rfl | rfl | rfl | rfl | rfl | rfl | rfl | rfl | rfl
  · exact ⟨trivial, trivial, fun a e => by cases e⟩
  · exact ⟨trivial, trivial, fun a e => by cases e⟩
  · exact ⟨trivial, trivial, fun a e => by cases e⟩
  · exact iok (by decide +kernel)
  · exact iok (by decide +kernel)
  · exact iok (by decide +kernel)
  · exact iok (by decide +kernel)
  · exact iok (by decide +kernel)
  · exact sok (by decide +kernel)
  · exact sok (by decide +kernel)
  · exact sok (by decide +kernel)
  · exact iok (by decide +kernel)
theorem at_of {α : Type} {xs : List α} {v : Int} (h0 : 0 ≤ v) (h1 : v < xs.length) : ∃ x, x ∈ xs ∧ atI xs v = some x := by
  obtain ⟨k, rfl⟩ : ∃ k : Nat, v = k := ⟨v.toNat, by omega⟩
  have hk : k < xs.length := by omega
  exact ⟨xs[k], List.getElem_mem hk, ixNat (by simp [hk])⟩
theorem at_map {α : Type} {f : α → MV} {xs : List α} {v : Int} (h0 : 0 ≤ v) (h1 : v < xs.length) : ∃ x, x ∈ xs ∧ atI (xs.map f) v = some (f x) := by
  obtain ⟨y, hy, e⟩ := at_of (xs := xs.map f) h0 (by rw [List.length_map]; exact h1)
  obtain ⟨x, hx, rfl⟩ := List.mem_map.mp hy
  exact ⟨x, hx, e⟩
theorem pow12 (h : MH) : mPow (.int 10) (.int 12) h = .ok (.int 1000000000000) h := by
  unfold mPow
  dsimp only
  rw [if_pos ⟨by decide, by decide, low (by decide) (by decide)⟩]
  rfl
theorem mul40 (h : MH) : mMul (.str "x") (.int 40) h = .ok (.str (Txt.mul "x" 40)) h := by
  unfold mMul
  dsimp only
  rw [if_pos (by decide +kernel)]
theorem pw_list : ([MV.non, .bl true, .bl false, .int 0, .int 1, .int (-7), .int 999999999999, .int (-999999999999), .str "", .str "aB_9z", .str (Txt.mul "x" 40), .int 30] : List MV) = PW.map Wt.mv := rfl
theorem w_bel {n : Nat} (w : Wt) : bel n w.mv = true := by cases w <;> simp [Wt.mv, bel, bels]
theorem ws_bel {n : Nat} : ∀ ws : List Wt, bels n (ws.map Wt.mv) = true
  | [] => by simp [bels]
  | w :: ws => by simp [bels, w_bel w, ws_bel ws]
theorem mvs_bel {n : Nat} (ws : List Wt) : bel n (mvs ws) = true := by unfold mvs; simp only [bel]; exact ws_bel ws
theorem c_bel {n : Nat} (c : Ce) : bel n c.mv = true := by
  cases c <;> simp [Ce.mv, bel, bels, mvs_bel, w_bel]
section
variable {l : List MV} {s : Ds} {m n : Nat} {g : MH} {ps : List Int}
theorem lworth_ok (hs : Good l s m) (hm : m < 900000) (hp : PsOk ps) (ha : At g n (.lst (ps.map .int))) : ∃ (w : Wt) (s' : Ds), DW ps w ∧ Good l s' (m + 3) ∧ m_law_worth [.ref 5, .ref n] (DH s g) = .ok w.mv (DH s' g) := by
  obtain ⟨v1, s1, a0, a1, g1, e1⟩ := next_ok hs (by omega) (k := 12) (by decide) (by decide) g
  have plain : ∀ gx : MH, ∃ (v : Int) (w : Wt) (s2 : Ds), w ∈ PW ∧ Good l s2 (m + 2) ∧ atI (PW.map Wt.mv) v = some w.mv ∧ m_law_next [.ref 5, .int 12] (DH s1 (gx ++ [MO.lst (PW.map Wt.mv)])) = .ok (.int v) (DH s2 (gx ++ [MO.lst (PW.map Wt.mv)])) := fun gx => by
    obtain ⟨v, s2, b0, b1, g2, e2⟩ := next_ok g1 (by omega) (k := 12) (by decide) (by decide) (gx ++ [MO.lst (PW.map Wt.mv)])
    obtain ⟨w, hw, ew⟩ := at_map (f := Wt.mv) (xs := PW) b0 b1
    exact ⟨v, w, s2, hw, g2, ew, e2⟩
  by_cases h5 : v1 < 5
  · obtain ⟨gx, hgx⟩ : ∃ gx, gx = g ++ [MO.lst []] := ⟨_, rfl⟩
    have n1 := (cmp_nil (h := DH s1 gx) (i := n) (j := g.length + 6) (ns := ps) (by rw [hgx]; exact ha.app.dh) (by rw [hgx]; exact dh_new)).1
    have hax : (DH s1 gx)[n]? = some (.lst (ps.map .int)) := by rw [hgx]; exact ha.app.dh
    by_cases hn : ps = []
    · obtain ⟨v, w, s2, hw, g2, ew, e2⟩ := plain gx
      refine ⟨w, s2, pw_ok w hw, g2.up (by omega), ?_⟩
      unfold m_law_worth
      refine e_fun rfl ?_
      unfold b_law_worth
      simp only [↓SX1, SX2, ↓SV1, SV2, List.getElem?_cons_zero, List.getElem?_cons_succ, List.set_cons_zero, List.set_cons_succ, List.map_cons, List.map_nil, List.cons_append, List.nil_append, List.append_nil, List.replicate_succ, List.replicate_zero, List.length_cons, List.length_nil, if_true, if_false, true_and, and_true, and_self, Nat.zero_add, Int.natCast_zero, i0, i1, i2, i3, i4, decide_true, decide_false, Bool.not_true, Bool.not_false, ofString_inj, gt_iff_lt, List.all_cons, List.all_nil, List.any_cons, List.any_nil, Bool.and_true, Bool.true_and, Bool.and_self, Bool.or_false, Bool.false_or, Bool.or_true, Bool.true_or, szOk, mNeg, wipeM, ↓reduceIte, Nat.reduceAdd, Nat.reduceSub, Nat.reduceLeDiff, Int.reduceLT, Int.reduceLE, Int.reduceNeg, Int.reduceAdd, Int.reduceSub, Int.reducePow, Int.reduceEq, Int.reduceLT, Int.reduceMod, Int.reduceDiv, Int.reduceMul, Int.reduceToNat, String.reduceEq, reduceCtorEq, e1, h5, dh_app, dh_len, ← hgx, n1, hn, pow12, mul40]
      rw [pw_list]
      simp only [↓SX1, SX2, ↓SV1, SV2, List.getElem?_cons_zero, List.getElem?_cons_succ, List.set_cons_zero, List.set_cons_succ, List.map_cons, List.map_nil, List.cons_append, List.nil_append, List.append_nil, List.replicate_succ, List.replicate_zero, List.length_cons, List.length_nil, if_true, if_false, true_and, and_true, and_self, Nat.zero_add, Int.natCast_zero, i0, i1, i2, i3, i4, decide_true, decide_false, Bool.not_true, Bool.not_false, ofString_inj, gt_iff_lt, List.all_cons, List.all_nil, List.any_cons, List.any_nil, Bool.and_true, Bool.true_and, Bool.and_self, Bool.or_false, Bool.false_or, Bool.or_true, Bool.true_or, szOk, mNeg, wipeM, ↓reduceIte, Nat.reduceAdd, Nat.reduceSub, Nat.reduceLeDiff, Int.reduceLT, Int.reduceLE, Int.reduceNeg, Int.reduceAdd, Int.reduceSub, Int.reducePow, Int.reduceEq, Int.reduceLT, Int.reduceMod, Int.reduceDiv, Int.reduceMul, Int.reduceToNat, String.reduceEq, reduceCtorEq, e2, dh_new, ew]
      refine ⟨rfl, ?_⟩
      rw [hgx, List.append_assoc]
      exact gc_gd (w_bel w) hs g2
    · have ln : 0 < ps.length := List.length_pos_iff.mpr hn
      have lp := hp.2.2
      have lm : ((ps.map MV.int).length : Int) = (ps.length : Int) := by rw [List.length_map]
      obtain ⟨v, s2, b0, b1, g2, e2⟩ := next_ok g1 (by omega) (k := (ps.length : Int)) (by omega) (by omega) gx
      obtain ⟨a, hma, ea⟩ := at_map (f := MV.int) (xs := ps) b0 b1
      refine ⟨.cell a, s2, ⟨(hp.2.1 a hma).1, (hp.2.1 a hma).2, fun b e => by cases e; exact hma⟩, g2.up (by omega), ?_⟩
      unfold m_law_worth
      refine e_fun rfl ?_
      unfold b_law_worth
      have e2' : m_law_next [.ref 5, .int ((ps.map MV.int).length : Int)] (DH s1 gx) = .ok (.int v) (DH s2 gx) := by rw [lm]; exact e2
      have hax2 : (DH s2 gx)[n]? = some (.lst (ps.map .int)) := by rw [hgx]; exact ha.app.dh
      simp only [↓SX1, SX2, ↓SV1, SV2, List.getElem?_cons_zero, List.getElem?_cons_succ, List.set_cons_zero, List.set_cons_succ, List.map_cons, List.map_nil, List.cons_append, List.nil_append, List.append_nil, List.replicate_succ, List.replicate_zero, List.length_cons, List.length_nil, if_true, if_false, true_and, and_true, and_self, Nat.zero_add, Int.natCast_zero, i0, i1, i2, i3, i4, decide_true, decide_false, Bool.not_true, Bool.not_false, ofString_inj, gt_iff_lt, List.all_cons, List.all_nil, List.any_cons, List.any_nil, Bool.and_true, Bool.true_and, Bool.and_self, Bool.or_false, Bool.false_or, Bool.or_true, Bool.true_or, szOk, mNeg, wipeM, ↓reduceIte, Nat.reduceAdd, Nat.reduceSub, Nat.reduceLeDiff, Int.reduceLT, Int.reduceLE, Int.reduceNeg, Int.reduceAdd, Int.reduceSub, Int.reducePow, Int.reduceEq, Int.reduceLT, Int.reduceMod, Int.reduceDiv, Int.reduceMul, Int.reduceToNat, String.reduceEq, reduceCtorEq, e1, h5, dh_app, dh_len, ← hgx, n1, hn, hax, e2', hax2, ea]
      refine ⟨rfl, ?_⟩
      rw [hgx]
      exact gc_gd (w_bel (.cell a)) hs g2
  · obtain ⟨v, w, s2, hw, g2, ew, e2⟩ := plain g
    refine ⟨w, s2, pw_ok w hw, g2.up (by omega), ?_⟩
    unfold m_law_worth
    refine e_fun rfl ?_
    unfold b_law_worth
    simp only [↓SX1, SX2, ↓SV1, SV2, List.getElem?_cons_zero, List.getElem?_cons_succ, List.set_cons_zero, List.set_cons_succ, List.map_cons, List.map_nil, List.cons_append, List.nil_append, List.append_nil, List.replicate_succ, List.replicate_zero, List.length_cons, List.length_nil, if_true, if_false, true_and, and_true, and_self, Nat.zero_add, Int.natCast_zero, i0, i1, i2, i3, i4, decide_true, decide_false, Bool.not_true, Bool.not_false, ofString_inj, gt_iff_lt, List.all_cons, List.all_nil, List.any_cons, List.any_nil, Bool.and_true, Bool.true_and, Bool.and_self, Bool.or_false, Bool.false_or, Bool.or_true, Bool.true_or, szOk, mNeg, wipeM, ↓reduceIte, Nat.reduceAdd, Nat.reduceSub, Nat.reduceLeDiff, Int.reduceLT, Int.reduceLE, Int.reduceNeg, Int.reduceAdd, Int.reduceSub, Int.reducePow, Int.reduceEq, Int.reduceLT, Int.reduceMod, Int.reduceDiv, Int.reduceMul, Int.reduceToNat, String.reduceEq, reduceCtorEq, e1, h5, dh_app, dh_len, pow12, mul40]
    rw [pw_list]
    simp only [↓SX1, SX2, ↓SV1, SV2, List.getElem?_cons_zero, List.getElem?_cons_succ, List.set_cons_zero, List.set_cons_succ, List.map_cons, List.map_nil, List.cons_append, List.nil_append, List.append_nil, List.replicate_succ, List.replicate_zero, List.length_cons, List.length_nil, if_true, if_false, true_and, and_true, and_self, Nat.zero_add, Int.natCast_zero, i0, i1, i2, i3, i4, decide_true, decide_false, Bool.not_true, Bool.not_false, ofString_inj, gt_iff_lt, List.all_cons, List.all_nil, List.any_cons, List.any_nil, Bool.and_true, Bool.true_and, Bool.and_self, Bool.or_false, Bool.false_or, Bool.or_true, Bool.true_or, szOk, mNeg, wipeM, ↓reduceIte, Nat.reduceAdd, Nat.reduceSub, Nat.reduceLeDiff, Int.reduceLT, Int.reduceLE, Int.reduceNeg, Int.reduceAdd, Int.reduceSub, Int.reducePow, Int.reduceEq, Int.reduceLT, Int.reduceMod, Int.reduceDiv, Int.reduceMul, Int.reduceToNat, String.reduceEq, reduceCtorEq, e2, dh_new, ew]
    exact ⟨rfl, gc_gd (w_bel w) hs g2⟩
theorem lworths_ok (hs : Good l s m) (k : Nat) (hk : k ≤ 100) (hm : m < 800000) (hp : PsOk ps) (ha : At g n (.lst (ps.map .int))) :
    ∃ (ws : List Wt) (s' : Ds), ws.length = k ∧ (∀ w, w ∈ ws → DW ps w) ∧ Good l s' (m + 3 * k) ∧ m_law_worths [.ref 5, .ref n, .int k] (DH s g) = .ok (mvs ws) (DH s' g) := by
  suffices H : Wp (m_law_worths [.ref 5, .ref n, .int k] (DH s g)) fun v h => ∃ (ws : List Wt) (s' : Ds), ws.length = k ∧ (∀ w, w ∈ ws → DW ps w) ∧ Good l s' (m + 3 * k) ∧ v = mvs ws ∧ h = DH s' g by
    obtain ⟨v, h, e, ws, s', h1, h2, h3, rfl, rfl⟩ := H.ex
    exact ⟨ws, s', h1, h2, h3, e⟩
  unfold m_law_worths
  refine m_fun rfl ?_
  unfold b_law_worths
  simp only [↓SX1, SX2, ↓SV1, SV2, List.getElem?_cons_zero, List.getElem?_cons_succ, List.set_cons_zero, List.set_cons_succ, List.map_cons, List.map_nil, List.cons_append, List.nil_append, List.append_nil, List.replicate_succ, List.replicate_zero, List.length_cons, List.length_nil, if_true, if_false, true_and, and_true, and_self, Nat.zero_add, Int.natCast_zero, i0, i1, i2, i3, i4, decide_true, decide_false, Bool.not_true, Bool.not_false, ofString_inj, gt_iff_lt, List.all_cons, List.all_nil, List.any_cons, List.any_nil, Bool.and_true, Bool.true_and, Bool.and_self, Bool.or_false, Bool.false_or, Bool.or_true, Bool.true_or, szOk, mNeg, wipeM, ↓reduceIte, Nat.reduceAdd, Nat.reduceSub, Nat.reduceLeDiff, Int.reduceLT, Int.reduceLE, Int.reduceNeg, Int.reduceAdd, Int.reduceSub, Int.reducePow, Int.reduceEq, Int.reduceLT, Int.reduceMod, Int.reduceDiv, Int.reduceMul, Int.reduceToNat, String.reduceEq, reduceCtorEq]
  refine ⟨⟨by omega, by omega⟩, ?_⟩
  rw [Int.toNat_natCast]
  refine ⟨by simp [intR]; omega, ?_⟩
  refine s_comp (fun ys xs h => ∃ (ws : List Wt) (s1 : Ds), ys = ws.map Wt.mv ∧ h = DH s1 g ∧ (∀ w, w ∈ ws → DW ps w) ∧ Good l s1 (m + 3 * ws.length) ∧ ws.length + xs.length = k) (fun _ _ _ _ => by simp) ⟨[], s, rfl, rfl, (fun w hw => by cases hw), hs, by simp [intR]⟩ (fun ys x xs h i => ?_) (fun zs h i => ?_)
  · obtain ⟨ws, s1, rfl, rfl, hw, hg, hl⟩ := i
    rw [List.length_cons] at hl
    obtain ⟨w, s2, dw, g2, e2⟩ := lworth_ok hg (by omega) hp ha
    refine ⟨_, rfl, ?_⟩
    simp only [↓SX1, SX2, ↓SV1, SV2, List.getElem?_cons_zero, List.getElem?_cons_succ, List.set_cons_zero, List.set_cons_succ, List.map_cons, List.map_nil, List.cons_append, List.nil_append, List.append_nil, List.replicate_succ, List.replicate_zero, List.length_cons, List.length_nil, if_true, if_false, true_and, and_true, and_self, Nat.zero_add, Int.natCast_zero, i0, i1, i2, i3, i4, decide_true, decide_false, Bool.not_true, Bool.not_false, ofString_inj, gt_iff_lt, List.all_cons, List.all_nil, List.any_cons, List.any_nil, Bool.and_true, Bool.true_and, Bool.and_self, Bool.or_false, Bool.false_or, Bool.or_true, Bool.true_or, szOk, mNeg, wipeM, ↓reduceIte, Nat.reduceAdd, Nat.reduceSub, Nat.reduceLeDiff, Int.reduceLT, Int.reduceLE, Int.reduceNeg, Int.reduceAdd, Int.reduceSub, Int.reducePow, Int.reduceEq, Int.reduceLT, Int.reduceMod, Int.reduceDiv, Int.reduceMul, Int.reduceToNat, String.reduceEq, reduceCtorEq, e2]
    refine ⟨ws ++ [w], s2, by simp, rfl, fun z hz => ?_, ?_, ?_⟩
    · rcases List.mem_append.mp hz with q | q
      · exact hw z q
      · simp only [List.mem_singleton] at q; subst q; exact dw
    · rw [List.length_append, List.length_singleton]; exact g2.up (by omega)
    · rw [List.length_append, List.length_singleton]; omega
  · obtain ⟨ws, s1, rfl, rfl, hw, hg, hl⟩ := i
    have hl : ws.length = k := by simpa using hl
    simp only [↓SX1, SX2, ↓SV1, SV2, List.getElem?_cons_zero, List.getElem?_cons_succ, List.set_cons_zero, List.set_cons_succ, List.map_cons, List.map_nil, List.cons_append, List.nil_append, List.append_nil, List.replicate_succ, List.replicate_zero, List.length_cons, List.length_nil, if_true, if_false, true_and, and_true, and_self, Nat.zero_add, Int.natCast_zero, i0, i1, i2, i3, i4, decide_true, decide_false, Bool.not_true, Bool.not_false, ofString_inj, gt_iff_lt, List.all_cons, List.all_nil, List.any_cons, List.any_nil, Bool.and_true, Bool.true_and, Bool.and_self, Bool.or_false, Bool.false_or, Bool.or_true, Bool.true_or, szOk, mNeg, wipeM, ↓reduceIte, Nat.reduceAdd, Nat.reduceSub, Nat.reduceLeDiff, Int.reduceLT, Int.reduceLE, Int.reduceNeg, Int.reduceAdd, Int.reduceSub, Int.reducePow, Int.reduceEq, Int.reduceLT, Int.reduceMod, Int.reduceDiv, Int.reduceMul, Int.reduceToNat, String.reduceEq, reduceCtorEq]
    exact ⟨ws, s1, hl, hw, by rw [← hl]; exact hg, rfl, gc_gd0 (mvs_bel ws) hs hg⟩
end
end My

set_option Elab.async false
set_option linter.all false
set_option maxRecDepth 100000
set_option maxHeartbeats 8000000
namespace My
open PySem L2 Sm
/-! ### drawn cells -/
def KN : List Str := ["Thing", "Node", "K", "Abcdefgh9012", "Z9z"]
theorem kn_ok : ∀ k, k ∈ KN → k.length ≤ 1000 ∧ kindB k = true ∧ SOk8 k := by
  intro k hk
  have go : ∀ {s : Str}, (decide (s.length ≤ 1000) && kindB s && decide (s.cps.size ≤ 40) && s.cps.toList.all fun c => decide (c < 16 ^ 8)) = true → s.length ≤ 1000 ∧ kindB s = true ∧ SOk8 s := fun {s} h => by
    simp only [Bool.and_eq_true, decide_eq_true_eq] at h
    exact ⟨h.1.1.1, h.1.1.2, h.1.2, h.2⟩
  simp only [KN, List.mem_cons, List.not_mem_nil, or_false] at hk
  rcases hk with rfl | rfl | rfl | rfl | rfl <;> exact go (by decide +kernel)
section
variable {ps : List Int}
theorem dws_ok {ws : List Wt} {k : Nat} (hl : ws.length ≤ k) (h : ∀ w, w ∈ ws → DW ps w) : WsOk ws k := ⟨hl, fun w hw => (h w hw).1⟩
theorem dc_thing {k : Str} {ws : List Wt} (hk : k ∈ KN) (hl : ws.length ≤ 8) (h : ∀ w, w ∈ ws → DW ps w) : DC ps (.thing k ws) := by
  obtain ⟨a, b, c⟩ := kn_ok k hk
  exact ⟨⟨a, b, dws_ok hl h⟩, ⟨by simp only [Ce.parts]; omega, fun w hw => (h w hw).2.1, c⟩, fun a ha => (h _ ha).2.2 a rfl⟩
theorem dc_list {ws : List Wt} (hl : ws.length ≤ 30) (h : ∀ w, w ∈ ws → DW ps w) : DC ps (.list ws) :=
  ⟨dws_ok hl h, ⟨by simp only [Ce.parts]; omega, fun w hw => (h w hw).2.1, trivial⟩, fun a ha => (h _ ha).2.2 a rfl⟩
theorem dc_names {ws : List Wt} {o : Option Int} (hl : ws.length ≤ 12) (h : ∀ w, w ∈ ws → DW ps w) (ho : DW ps (oW o)) : DC ps (.names ws o) := by
  have all : ∀ w, w ∈ (Ce.names ws o).parts → DW ps w := fun w hw => by
    rcases List.mem_append.mp hw with q | q
    · exact h w q
    · simp only [List.mem_singleton] at q; subst q; exact ho
  exact ⟨⟨dws_ok hl h, ho.1⟩, ⟨by simp only [Ce.parts, List.length_append, List.length_singleton]; omega, fun w hw => (all w hw).2.1, trivial⟩, fun a ha => (all _ ha).2.2 a rfl⟩
theorem nok_of {i : Int} (h0 : 0 ≤ i) (h1 : i < 10 ^ 23) : NOk i := by
  unfold NOk
  by_cases z : i.natAbs = 0
  · rw [z]; decide
  · rw [Nat.log2_lt z]
    have : i.natAbs < 10 ^ 23 := by omega
    exact Nat.lt_of_lt_of_le this (by decide)
theorem dw_cell (hp : PsOk ps) {a : Int} (h : a ∈ ps) : DW ps (.cell a) := ⟨(hp.2.1 a h).1, (hp.2.1 a h).2, fun b e => by cases e; exact h⟩
theorem dw_non : DW ps .non := ⟨trivial, trivial, fun a e => by cases e⟩
theorem dc_block (hp : PsOk ps) {i j a b : Int} (i0 : 0 ≤ i) (i1 : i < 1000) (j0 : 0 ≤ j) (j1 : j < 1000) (ha : a ∈ ps) (hb : b ∈ ps) : DC ps (.block i j a b) := by
  have all : ∀ w, w ∈ (Ce.block i j a b).parts → DW ps w := fun w hw => by
    simp only [Ce.parts, List.mem_cons, List.not_mem_nil, or_false] at hw
    rcases hw with rfl | rfl
    · exact dw_cell hp ha
    · exact dw_cell hp hb
  exact ⟨⟨i0, j0, (hp.2.1 a ha).1, (hp.2.1 b hb).1⟩, ⟨by simp [Ce.parts], fun w hw => (all w hw).2.1, nok_of i0 (by omega), nok_of j0 (by omega)⟩, fun a ha => (all _ ha).2.2 a rfl⟩
end
def NL : List Int := [0, 1, 2, 3, 4, 2, 3, 30]
theorem nl_ok : ∀ k, k ∈ NL → 0 ≤ k ∧ k ≤ 30 := by decide
def NT : List Int := [0, 1, 2, 3, 8]
theorem nt_ok : ∀ k, k ∈ NT → 0 ≤ k ∧ k ≤ 8 := by decide
def NM : List Int := [0, 1, 2, 3, 12]
theorem nm_ok : ∀ k, k ∈ NM → 0 ≤ k ∧ k ≤ 12 := by decide
section
variable {l : List MV} {s : Ds} {m n : Nat} {g : MH} {ps : List Int}
theorem lcell_ok (hs : Good l s m) (hm : m < 700000) (hp : PsOk ps) (ha : At g n (.lst (ps.map .int))) : ∃ (c : Ce) (s' : Ds), DC ps c ∧ Good l s' (m + 100) ∧ m_law_cell [.ref 5, .ref n] (DH s g) = .ok c.mv (DH s' g) := by
  obtain ⟨v, s1, a0, a1, g1, e1⟩ := next_ok hs (by omega) (k := 4) (by decide) (by decide) g
  have lp := hp.2.2
  -- an address
  have adr : ∀ (gx : MH) (t : Ds) (k : Nat), At gx n (.lst (ps.map .int)) → Good l t k → k < 800000 → ps ≠ [] → ∃ (a : Int) (v : Int) (t' : Ds), a ∈ ps ∧ Good l t' (k + 1) ∧ m_law_next [.ref 5, .int ((ps.map MV.int).length : Int)] (DH t gx) = .ok (.int v) (DH t' gx) ∧ atI (ps.map MV.int) v = some (.int a) := fun gx t k hx ht hk hn => by
    have ln : 0 < ps.length := List.length_pos_iff.mpr hn
    have lm : ((ps.map MV.int).length : Int) = (ps.length : Int) := by rw [List.length_map]
    obtain ⟨v, t', b0, b1, g2, e2⟩ := next_ok ht (by omega) (k := (ps.length : Int)) (by omega) (by omega) gx
    obtain ⟨a, hma, ea⟩ := at_map (f := MV.int) (xs := ps) b0 b1
    exact ⟨a, v, t', hma, g2, by rw [lm]; exact e2, ea⟩
  have way : v = 0 ∨ v = 1 ∨ v = 2 ∨ v = 3 := by omega
  -- a list
  have lst : ∀ (gx : MH) (j : MH), gx = g ++ j → ∃ (v2 : Int) (k : Int) (ws : List Wt) (s2 s3 : Ds), DC ps (.list ws) ∧ Good l s3 (m + 100) ∧ m_law_next [.ref 5, .int 8] (DH s1 gx) = .ok (.int v2) (DH s2 gx) ∧ atI ([.int 0, .int 1, .int 2, .int 3, .int 4, .int 2, .int 3, .int 30] : List MV) v2 = some (.int k) ∧ m_law_worths [.ref 5, .ref n, .int k] (DH s2 gx) = .ok (mvs ws) (DH s3 gx) := fun gx j ej => by
    obtain ⟨v2, s2, b0, b1, g2, e2⟩ := next_ok g1 (by omega) (k := 8) (by decide) (by decide) gx
    obtain ⟨k, hk, ek⟩ := at_map (f := MV.int) (xs := NL) b0 b1
    obtain ⟨k0, k1⟩ := nl_ok k hk
    obtain ⟨kn, rfl⟩ : ∃ kn : Nat, k = kn := ⟨k.toNat, by omega⟩
    obtain ⟨ws, s3, w1, w2, g3, e3⟩ := lworths_ok g2 kn (by omega) (by omega) hp (g := gx) (by rw [ej]; exact ha.app)
    exact ⟨v2, kn, ws, s2, s3, dc_list (by omega) w2, g3.up (by omega), e2, ek, e3⟩
  rcases way with rfl | rfl | rfl | rfl
  · obtain ⟨v2, s2, b0, b1, g2, e2⟩ := next_ok g1 (by omega) (k := 5) (by decide) (by decide) g
    obtain ⟨k, hk, ek⟩ := at_map (f := MV.str) (xs := KN) b0 b1
    have ek : atI ([.str "Thing", .str "Node", .str "K", .str "Abcdefgh9012", .str "Z9z"] : List MV) v2 = some (.str k) := ek
    obtain ⟨v3, s3, c0, c1, g3, e3⟩ := next_ok g2 (by omega) (k := 5) (by decide) (by decide) g
    obtain ⟨kk, hkk, ekk⟩ := at_map (f := MV.int) (xs := NT) c0 c1
    have ekk : atI ([.int 0, .int 1, .int 2, .int 3, .int 8] : List MV) v3 = some (.int kk) := ekk
    have hkb := nt_ok kk hkk
    obtain ⟨kn, rfl⟩ : ∃ kn : Nat, kk = kn := ⟨kk.toNat, by omega⟩
    obtain ⟨ws, s4, w1, w2, g4, e4⟩ := lworths_ok g3 kn (by omega) (by omega) hp ha
    refine ⟨.thing k ws, s4, dc_thing hk (by omega) w2, g4.up (by omega), ?_⟩
    unfold m_law_cell
    refine e_fun rfl ?_
    unfold b_law_cell
    simp only [↓SX1, SX2, ↓SV1, SV2, List.getElem?_cons_zero, List.getElem?_cons_succ, List.set_cons_zero, List.set_cons_succ, List.map_cons, List.map_nil, List.cons_append, List.nil_append, List.append_nil, List.replicate_succ, List.replicate_zero, List.length_cons, List.length_nil, if_true, if_false, true_and, and_true, and_self, Nat.zero_add, Int.natCast_zero, i0, i1, i2, i3, i4, decide_true, decide_false, Bool.not_true, Bool.not_false, ofString_inj, gt_iff_lt, List.all_cons, List.all_nil, List.any_cons, List.any_nil, Bool.and_true, Bool.true_and, Bool.and_self, Bool.or_false, Bool.false_or, Bool.or_true, Bool.true_or, szOk, mNeg, wipeM, ↓reduceIte, Nat.reduceAdd, Nat.reduceSub, Nat.reduceLeDiff, Int.reduceLT, Int.reduceLE, Int.reduceNeg, Int.reduceAdd, Int.reduceSub, Int.reducePow, Int.reduceEq, Int.reduceLT, Int.reduceMod, Int.reduceDiv, Int.reduceMul, Int.reduceToNat, String.reduceEq, reduceCtorEq, e1, e2, ek, e3, ekk, e4]
    exact ⟨rfl, gc_gd0 (c_bel (.thing k ws)) hs g4⟩
  · obtain ⟨gx, hgx⟩ : ∃ gx, gx = g ++ [MO.lst []] := ⟨_, rfl⟩
    have hax : At gx n (.lst (ps.map .int)) := by rw [hgx]; exact ha.app
    have n1 := (cmp_nil (h := DH s1 gx) (i := n) (j := g.length + 6) (ns := ps) hax.dh (by rw [hgx]; exact dh_new)).1
    by_cases hn : ps = []
    · obtain ⟨v2, k, ws, s2, s3, dc, g3, e2, ek, e3⟩ := lst gx _ hgx
      refine ⟨_, s3, dc, g3, ?_⟩
      unfold m_law_cell
      refine e_fun rfl ?_
      unfold b_law_cell
      simp only [↓SX1, SX2, ↓SV1, SV2, List.getElem?_cons_zero, List.getElem?_cons_succ, List.set_cons_zero, List.set_cons_succ, List.map_cons, List.map_nil, List.cons_append, List.nil_append, List.append_nil, List.replicate_succ, List.replicate_zero, List.length_cons, List.length_nil, if_true, if_false, true_and, and_true, and_self, Nat.zero_add, Int.natCast_zero, i0, i1, i2, i3, i4, decide_true, decide_false, Bool.not_true, Bool.not_false, ofString_inj, gt_iff_lt, List.all_cons, List.all_nil, List.any_cons, List.any_nil, Bool.and_true, Bool.true_and, Bool.and_self, Bool.or_false, Bool.false_or, Bool.or_true, Bool.true_or, szOk, mNeg, wipeM, ↓reduceIte, Nat.reduceAdd, Nat.reduceSub, Nat.reduceLeDiff, Int.reduceLT, Int.reduceLE, Int.reduceNeg, Int.reduceAdd, Int.reduceSub, Int.reducePow, Int.reduceEq, Int.reduceLT, Int.reduceMod, Int.reduceDiv, Int.reduceMul, Int.reduceToNat, String.reduceEq, reduceCtorEq, e1, dh_app, dh_len, ← hgx, n1, hn, e2, ek, e3]
      refine ⟨rfl, ?_⟩
      rw [hgx]
      exact gc_gd (c_bel (.list ws)) hs g3
    · obtain ⟨a, va, s2, ma, g2, e2, ea⟩ := adr gx s1 (m + 1) hax g1 (by omega) hn
      obtain ⟨i, s3, i0, i1, g3, e3⟩ := next_ok g2 (by omega) (k := 200) (by decide) (by decide) gx
      obtain ⟨j, s4, j0, j1, g4, e4⟩ := next_ok g3 (by omega) (k := 150) (by decide) (by decide) gx
      obtain ⟨b, vb, s5, mb, g5, e5, eb⟩ := adr gx s4 (m + 1 + 1 + 1 + 1) hax g4 (by omega) hn
      refine ⟨.block i j a b, s5, dc_block hp i0 (by omega) j0 (by omega) ma mb, g5.up (by omega), ?_⟩
      unfold m_law_cell
      refine e_fun rfl ?_
      unfold b_law_cell
      have h1 := hax.dh (s := s1)
      have h2 := hax.dh (s := s2)
      have h4 := hax.dh (s := s4)
      have h5 := hax.dh (s := s5)
      simp only [↓SX1, SX2, ↓SV1, SV2, List.getElem?_cons_zero, List.getElem?_cons_succ, List.set_cons_zero, List.set_cons_succ, List.map_cons, List.map_nil, List.cons_append, List.nil_append, List.append_nil, List.replicate_succ, List.replicate_zero, List.length_cons, List.length_nil, if_true, if_false, true_and, and_true, and_self, Nat.zero_add, Int.natCast_zero, i0, i1, i2, i3, i4, decide_true, decide_false, Bool.not_true, Bool.not_false, ofString_inj, gt_iff_lt, List.all_cons, List.all_nil, List.any_cons, List.any_nil, Bool.and_true, Bool.true_and, Bool.and_self, Bool.or_false, Bool.false_or, Bool.or_true, Bool.true_or, szOk, mNeg, wipeM, ↓reduceIte, Nat.reduceAdd, Nat.reduceSub, Nat.reduceLeDiff, Int.reduceLT, Int.reduceLE, Int.reduceNeg, Int.reduceAdd, Int.reduceSub, Int.reducePow, Int.reduceEq, Int.reduceLT, Int.reduceMod, Int.reduceDiv, Int.reduceMul, Int.reduceToNat, String.reduceEq, reduceCtorEq, e1, dh_app, dh_len, ← hgx, n1, hn, h1, e2, h2, ea, e3, e4, h4, e5, h5, eb]
      refine ⟨rfl, ?_⟩
      rw [hgx]
      exact gc_gd (c_bel (.block i j a b)) hs g5
  · obtain ⟨gx, hgx⟩ : ∃ gx, gx = g ++ [MO.lst []] := ⟨_, rfl⟩
    have hax : At gx n (.lst (ps.map .int)) := by rw [hgx]; exact ha.app
    have n1 := (cmp_nil (h := DH s1 gx) (i := n) (j := g.length + 6) (ns := ps) hax.dh (by rw [hgx]; exact dh_new)).1
    have nam : ∀ (t : Ds), Good l t (m + 5) → ∃ (v3 kk : Int) (ws : List Wt) (s3 s4 : Ds), ws.length ≤ 12 ∧ (∀ w, w ∈ ws → DW ps w) ∧ Good l s4 (m + 100) ∧ m_law_next [.ref 5, .int 5] (DH t gx) = .ok (.int v3) (DH s3 gx) ∧ atI ([.int 0, .int 1, .int 2, .int 3, .int 12] : List MV) v3 = some (.int kk) ∧ m_law_worths [.ref 5, .ref n, .int kk] (DH s3 gx) = .ok (mvs ws) (DH s4 gx) := fun t ht => by
      obtain ⟨v3, s3, c0, c1, g3, e3⟩ := next_ok ht (by omega) (k := 5) (by decide) (by decide) gx
      obtain ⟨kk, hkk, ekk⟩ := at_map (f := MV.int) (xs := NM) c0 c1
      have hkb := nm_ok kk hkk
      obtain ⟨kn, rfl⟩ : ∃ kn : Nat, kk = kn := ⟨kk.toNat, by omega⟩
      obtain ⟨ws, s4, w1, w2, g4, e4⟩ := lworths_ok g3 kn (by omega) (by omega) hp hax
      exact ⟨v3, _, ws, s3, s4, by omega, w2, g4.up (by omega), e3, ekk, e4⟩
    by_cases hn : ps = []
    · obtain ⟨v3, kk, ws, s3, s4, w1, w2, g4, e3, ekk, e4⟩ := nam s1 (g1.up (by omega))
      refine ⟨.names ws none, s4, dc_names w1 w2 dw_non, g4, ?_⟩
      unfold m_law_cell
      refine e_fun rfl ?_
      unfold b_law_cell
      simp only [↓SX1, SX2, ↓SV1, SV2, List.getElem?_cons_zero, List.getElem?_cons_succ, List.set_cons_zero, List.set_cons_succ, List.map_cons, List.map_nil, List.cons_append, List.nil_append, List.append_nil, List.replicate_succ, List.replicate_zero, List.length_cons, List.length_nil, if_true, if_false, true_and, and_true, and_self, Nat.zero_add, Int.natCast_zero, i0, i1, i2, i3, i4, decide_true, decide_false, Bool.not_true, Bool.not_false, ofString_inj, gt_iff_lt, List.all_cons, List.all_nil, List.any_cons, List.any_nil, Bool.and_true, Bool.true_and, Bool.and_self, Bool.or_false, Bool.false_or, Bool.or_true, Bool.true_or, szOk, mNeg, wipeM, ↓reduceIte, Nat.reduceAdd, Nat.reduceSub, Nat.reduceLeDiff, Int.reduceLT, Int.reduceLE, Int.reduceNeg, Int.reduceAdd, Int.reduceSub, Int.reducePow, Int.reduceEq, Int.reduceLT, Int.reduceMod, Int.reduceDiv, Int.reduceMul, Int.reduceToNat, String.reduceEq, reduceCtorEq, e1, dh_app, dh_len, ← hgx, n1, hn, e3, ekk, e4]
      refine ⟨rfl, ?_⟩
      rw [hgx]
      exact gc_gd (c_bel (.names ws none)) hs g4
    · obtain ⟨z, s2, z0, z1, g2, e2⟩ := next_ok g1 (by omega) (k := 2) (by decide) (by decide) gx
      by_cases hz : z = 0
      · subst hz
        obtain ⟨a, va, s2', ma, g2', e2', ea⟩ := adr gx s2 (m + 1 + 1) hax g2 (by omega) hn
        obtain ⟨v3, kk, ws, s3, s4, w1, w2, g4, e3, ekk, e4⟩ := nam s2' (g2'.up (by omega))
        refine ⟨.names ws (some a), s4, dc_names w1 w2 (dw_cell hp ma), g4, ?_⟩
        unfold m_law_cell
        refine e_fun rfl ?_
        unfold b_law_cell
        have h2 := hax.dh (s := s2)
        have h2' := hax.dh (s := s2')
        simp only [↓SX1, SX2, ↓SV1, SV2, List.getElem?_cons_zero, List.getElem?_cons_succ, List.set_cons_zero, List.set_cons_succ, List.map_cons, List.map_nil, List.cons_append, List.nil_append, List.append_nil, List.replicate_succ, List.replicate_zero, List.length_cons, List.length_nil, if_true, if_false, true_and, and_true, and_self, Nat.zero_add, Int.natCast_zero, i0, i1, i2, i3, i4, decide_true, decide_false, Bool.not_true, Bool.not_false, ofString_inj, gt_iff_lt, List.all_cons, List.all_nil, List.any_cons, List.any_nil, Bool.and_true, Bool.true_and, Bool.and_self, Bool.or_false, Bool.false_or, Bool.or_true, Bool.true_or, szOk, mNeg, wipeM, ↓reduceIte, Nat.reduceAdd, Nat.reduceSub, Nat.reduceLeDiff, Int.reduceLT, Int.reduceLE, Int.reduceNeg, Int.reduceAdd, Int.reduceSub, Int.reducePow, Int.reduceEq, Int.reduceLT, Int.reduceMod, Int.reduceDiv, Int.reduceMul, Int.reduceToNat, String.reduceEq, reduceCtorEq, e1, dh_app, dh_len, ← hgx, n1, hn, e2, h2, e2', h2', ea, e3, ekk, e4]
        refine ⟨rfl, ?_⟩
        rw [hgx]
        exact gc_gd (c_bel (.names ws (some a))) hs g4
      · obtain ⟨v3, kk, ws, s3, s4, w1, w2, g4, e3, ekk, e4⟩ := nam s2 (g2.up (by omega))
        refine ⟨.names ws none, s4, dc_names w1 w2 dw_non, g4, ?_⟩
        unfold m_law_cell
        refine e_fun rfl ?_
        unfold b_law_cell
        simp only [↓SX1, SX2, ↓SV1, SV2, List.getElem?_cons_zero, List.getElem?_cons_succ, List.set_cons_zero, List.set_cons_succ, List.map_cons, List.map_nil, List.cons_append, List.nil_append, List.append_nil, List.replicate_succ, List.replicate_zero, List.length_cons, List.length_nil, if_true, if_false, true_and, and_true, and_self, Nat.zero_add, Int.natCast_zero, i0, i1, i2, i3, i4, decide_true, decide_false, Bool.not_true, Bool.not_false, ofString_inj, gt_iff_lt, List.all_cons, List.all_nil, List.any_cons, List.any_nil, Bool.and_true, Bool.true_and, Bool.and_self, Bool.or_false, Bool.false_or, Bool.or_true, Bool.true_or, szOk, mNeg, wipeM, ↓reduceIte, Nat.reduceAdd, Nat.reduceSub, Nat.reduceLeDiff, Int.reduceLT, Int.reduceLE, Int.reduceNeg, Int.reduceAdd, Int.reduceSub, Int.reducePow, Int.reduceEq, Int.reduceLT, Int.reduceMod, Int.reduceDiv, Int.reduceMul, Int.reduceToNat, String.reduceEq, reduceCtorEq, e1, dh_app, dh_len, ← hgx, n1, hn, e2, hz, e3, ekk, e4]
        refine ⟨rfl, ?_⟩
        rw [hgx]
        exact gc_gd (c_bel (.names ws none)) hs g4
  · obtain ⟨v2, k, ws, s2, s3, dc, g3, e2, ek, e3⟩ := lst g [] (by simp)
    refine ⟨_, s3, dc, g3, ?_⟩
    unfold m_law_cell
    refine e_fun rfl ?_
    unfold b_law_cell
    simp only [↓SX1, SX2, ↓SV1, SV2, List.getElem?_cons_zero, List.getElem?_cons_succ, List.set_cons_zero, List.set_cons_succ, List.map_cons, List.map_nil, List.cons_append, List.nil_append, List.append_nil, List.replicate_succ, List.replicate_zero, List.length_cons, List.length_nil, if_true, if_false, true_and, and_true, and_self, Nat.zero_add, Int.natCast_zero, i0, i1, i2, i3, i4, decide_true, decide_false, Bool.not_true, Bool.not_false, ofString_inj, gt_iff_lt, List.all_cons, List.all_nil, List.any_cons, List.any_nil, Bool.and_true, Bool.true_and, Bool.and_self, Bool.or_false, Bool.false_or, Bool.or_true, Bool.true_or, szOk, mNeg, wipeM, ↓reduceIte, Nat.reduceAdd, Nat.reduceSub, Nat.reduceLeDiff, Int.reduceLT, Int.reduceLE, Int.reduceNeg, Int.reduceAdd, Int.reduceSub, Int.reducePow, Int.reduceEq, Int.reduceLT, Int.reduceMod, Int.reduceDiv, Int.reduceMul, Int.reduceToNat, String.reduceEq, reduceCtorEq, e1, e2, ek, e3]
    exact ⟨rfl, gc_gd0 (c_bel (.list ws)) hs g3⟩
end
end My

set_option Elab.async false
set_option linter.all false
set_option maxRecDepth 100000
set_option maxHeartbeats 8000000
namespace My
open PySem L2 Sm
/-! ### drawn places, cells at them -/
theorem pow20 (h : MH) : mPow (.int 10) (.int 20) h = .ok (.int 100000000000000000000) h := by
  unfold mPow
  dsimp only
  rw [if_pos ⟨by decide, by decide, low (by decide) (by decide)⟩]
  rfl
theorem dh_app1 {s : Ds} {g : MH} {xs : List MV} {y : MV} (h : xs.length < 1000000) : mAppend (.ref (g.length + 6)) [y] (DH s (g ++ [.lst xs])) = .ok .non (DH s (g ++ [.lst (xs ++ [y])])) := by
  unfold mAppend
  simp only [dh_new, if_pos h]
  rw [← dh_app, ← dh_app]
  have : g.length + 6 = (DH s g).length := rfl
  rw [this, List.set_append_right _ _ (Nat.le_refl _)]
  simp
theorem up_snoc {ps : List Int} {a : Int} (h : Up ps) (ha : ∀ x, x ∈ ps → x < a) : Up (ps ++ [a]) := by
  unfold Up
  rw [List.pairwise_append]
  exact ⟨h, by simp, fun x hx y hy => by simp only [List.mem_singleton] at hy; subst hy; exact ha x hx⟩
section
variable {l : List MV} {s : Ds} {m n : Nat} {g : MH} {ps : List Int}
theorem lplaces_ok (hs : Good l s m) (k : Nat) (hk : k ≤ 8) (hm : m < 700000) : ∃ (ps : List Int) (s' : Ds), PsOk ps ∧ ps.length = k ∧ Good l s' (m + 2 * k) ∧ m_law_places [.ref 5, .int k] (DH s g) = .ok (.ref (g.length + 6)) (DH s' (g ++ [.lst (ps.map .int)])) := by
  suffices H : Wp (m_law_places [.ref 5, .int k] (DH s g)) fun v h => ∃ (ps : List Int) (s' : Ds), PsOk ps ∧ ps.length = k ∧ Good l s' (m + 2 * k) ∧ v = .ref (g.length + 6) ∧ h = DH s' (g ++ [.lst (ps.map .int)]) by
    obtain ⟨v, h, e, ps, s', h1, h2, h3, rfl, rfl⟩ := H.ex
    exact ⟨ps, s', h1, h2, h3, e⟩
  unfold m_law_places
  refine m_fun rfl ?_
  unfold b_law_places
  simp only [↓SX1, SX2, ↓SV1, SV2, List.getElem?_cons_zero, List.getElem?_cons_succ, List.set_cons_zero, List.set_cons_succ, List.map_cons, List.map_nil, List.cons_append, List.nil_append, List.append_nil, List.replicate_succ, List.replicate_zero, List.length_cons, List.length_nil, if_true, if_false, true_and, and_true, and_self, Nat.zero_add, Int.natCast_zero, i0, i1, i2, i3, i4, decide_true, decide_false, Bool.not_true, Bool.not_false, ofString_inj, gt_iff_lt, List.all_cons, List.all_nil, List.any_cons, List.any_nil, Bool.and_true, Bool.true_and, Bool.and_self, Bool.or_false, Bool.false_or, Bool.or_true, Bool.true_or, szOk, mNeg, wipeM, ↓reduceIte, Nat.reduceAdd, Nat.reduceSub, Nat.reduceLeDiff, Int.reduceLT, Int.reduceLE, Int.reduceNeg, Int.reduceAdd, Int.reduceSub, Int.reducePow, Int.reduceEq, Int.reduceLT, Int.reduceMod, Int.reduceDiv, Int.reduceMul, Int.reduceToNat, String.reduceEq, reduceCtorEq, dh_app, dh_len]
  refine ⟨⟨by omega, by omega⟩, ?_⟩
  rw [Int.toNat_natCast]
  refine s_for (fun xs ρ h => ∃ (ps : List Int) (la : Int) (s1 : Ds) (y : Option MV), ρ = [some (.ref 5), some (.int k), some (.ref (g.length + 6)), some (.int la), y] ∧ h = DH s1 (g ++ [.lst (ps.map .int)]) ∧ Up ps ∧ (∀ a, a ∈ ps → 0 ≤ a ∧ a ≤ la) ∧ -1 ≤ la ∧ la < (ps.length : Int) * 100000000000000000003 ∧ Good l s1 (m + 2 * ps.length) ∧ ps.length + xs.length = k)
    (fun _ _ _ _ => by simp) (fun x xs ρ h i => ?_) (fun ρ h i => ?_) _ _ _ ⟨[], -1, s, none, rfl, rfl, by simp [Up], (fun a ha => by cases ha), by omega, by simp, hs, by simp [intR]⟩
  · obtain ⟨ps, la, s1, y, rfl, rfl, hu, hb, l0, l1, hg, hl⟩ := i
    rw [List.length_cons] at hl
    obtain ⟨v, s2, a0, a1, g2, e2⟩ := next_ok hg (by omega) (k := 3) (by decide) (by decide) (g ++ [.lst (ps.map .int)])
    obtain ⟨z, s3, z0, z1, g3, e3⟩ := next_ok g2 (by omega) (k := 10) (by decide) (by decide) (g ++ [.lst (ps.map .int)])
    have ll : ((ps.length + 1 : Nat) : Int) * 100000000000000000003 = (ps.length : Int) * 100000000000000000003 + 100000000000000000003 := by omega
    have ty : tyOk "list" (.ref (g.length + 6)) (DH s3 (g ++ [MO.lst (ps.map MV.int)])) = true := by
      unfold tyOk; simp only [dh_new]; rfl
    refine ⟨_, rfl, ?_⟩
    have fin : ∀ b : Int, la < b → b < ((ps.length + 1 : Nat) : Int) * 100000000000000000003 → ∃ (ps' : List Int) (la' : Int) (s1 : Ds) (y' : Option MV), [some (.ref 5), some (.int (k : Int)), some (.ref (g.length + 6)), some (.int b), some x] = [some (.ref 5), some (.int (k : Int)), some (.ref (g.length + 6)), some (.int la'), y'] ∧ DH s3 (g ++ [.lst (ps.map MV.int ++ [.int b])]) = DH s1 (g ++ [.lst (ps'.map .int)]) ∧ Up ps' ∧ (∀ a, a ∈ ps' → 0 ≤ a ∧ a ≤ la') ∧ -1 ≤ la' ∧ la' < (ps'.length : Int) * 100000000000000000003 ∧ Good l s1 (m + 2 * ps'.length) ∧ ps'.length + xs.length = k := fun b h1 h2 => by
      refine ⟨ps ++ [b], b, s3, some x, rfl, by rw [List.map_append]; rfl, up_snoc hu fun q hq => ?_, fun q hq => ?_, by omega, ?_, ?_, ?_⟩
      · have := (hb q hq).2; omega
      · rcases List.mem_append.mp hq with q1 | q1
        · have := hb q q1; omega
        · simp only [List.mem_singleton] at q1; subst q1; omega
      · rw [List.length_append, List.length_singleton]; exact h2
      · rw [List.length_append, List.length_singleton]; exact g3.up (by omega)
      · rw [List.length_append, List.length_singleton]; omega
    have l8 : (ps.map MV.int).length < 1000000 := by rw [List.length_map]; omega
    by_cases hz : z = 0
    · subst hz
      simp only [↓SX1, SX2, ↓SV1, SV2, List.getElem?_cons_zero, List.getElem?_cons_succ, List.set_cons_zero, List.set_cons_succ, List.map_cons, List.map_nil, List.cons_append, List.nil_append, List.append_nil, List.replicate_succ, List.replicate_zero, List.length_cons, List.length_nil, if_true, if_false, true_and, and_true, and_self, Nat.zero_add, Int.natCast_zero, i0, i1, i2, i3, i4, decide_true, decide_false, Bool.not_true, Bool.not_false, ofString_inj, gt_iff_lt, List.all_cons, List.all_nil, List.any_cons, List.any_nil, Bool.and_true, Bool.true_and, Bool.and_self, Bool.or_false, Bool.false_or, Bool.or_true, Bool.true_or, szOk, mNeg, wipeM, ↓reduceIte, Nat.reduceAdd, Nat.reduceSub, Nat.reduceLeDiff, Int.reduceLT, Int.reduceLE, Int.reduceNeg, Int.reduceAdd, Int.reduceSub, Int.reducePow, Int.reduceEq, Int.reduceLT, Int.reduceMod, Int.reduceDiv, Int.reduceMul, Int.reduceToNat, String.reduceEq, reduceCtorEq, e2, e3, pow20, ty, dh_app1 l8]
      exact fin _ (by omega) (by omega)
    · simp only [↓SX1, SX2, ↓SV1, SV2, List.getElem?_cons_zero, List.getElem?_cons_succ, List.set_cons_zero, List.set_cons_succ, List.map_cons, List.map_nil, List.cons_append, List.nil_append, List.append_nil, List.replicate_succ, List.replicate_zero, List.length_cons, List.length_nil, if_true, if_false, true_and, and_true, and_self, Nat.zero_add, Int.natCast_zero, i0, i1, i2, i3, i4, decide_true, decide_false, Bool.not_true, Bool.not_false, ofString_inj, gt_iff_lt, List.all_cons, List.all_nil, List.any_cons, List.any_nil, Bool.and_true, Bool.true_and, Bool.and_self, Bool.or_false, Bool.false_or, Bool.or_true, Bool.true_or, szOk, mNeg, wipeM, ↓reduceIte, Nat.reduceAdd, Nat.reduceSub, Nat.reduceLeDiff, Int.reduceLT, Int.reduceLE, Int.reduceNeg, Int.reduceAdd, Int.reduceSub, Int.reducePow, Int.reduceEq, Int.reduceLT, Int.reduceMod, Int.reduceDiv, Int.reduceMul, Int.reduceToNat, String.reduceEq, reduceCtorEq, e2, e3, hz, ty, dh_app1 l8]
      exact fin _ (by omega) (by omega)
  · obtain ⟨ps, la, s1, y, rfl, rfl, hu, hb, l0, l1, hg, hl⟩ := i
    have hl : ps.length = k := by simpa using hl
    simp only [↓SX1, SX2, ↓SV1, SV2, List.getElem?_cons_zero, List.getElem?_cons_succ, List.set_cons_zero, List.set_cons_succ, List.map_cons, List.map_nil, List.cons_append, List.nil_append, List.append_nil, List.replicate_succ, List.replicate_zero, List.length_cons, List.length_nil, if_true, if_false, true_and, and_true, and_self, Nat.zero_add, Int.natCast_zero, i0, i1, i2, i3, i4, decide_true, decide_false, Bool.not_true, Bool.not_false, ofString_inj, gt_iff_lt, List.all_cons, List.all_nil, List.any_cons, List.any_nil, Bool.and_true, Bool.true_and, Bool.and_self, Bool.or_false, Bool.false_or, Bool.or_true, Bool.true_or, szOk, mNeg, wipeM, ↓reduceIte, Nat.reduceAdd, Nat.reduceSub, Nat.reduceLeDiff, Int.reduceLT, Int.reduceLE, Int.reduceNeg, Int.reduceAdd, Int.reduceSub, Int.reducePow, Int.reduceEq, Int.reduceLT, Int.reduceMod, Int.reduceDiv, Int.reduceMul, Int.reduceToNat, String.reduceEq, reduceCtorEq]
    refine ⟨ps, s1, ⟨hu, fun a ha => ?_, by omega⟩, hl, by rw [← hl]; exact hg, gc_ref (by rw [dh_len]; omega)⟩
    have := hb a ha
    exact ⟨this.1, nok_of this.1 (by omega)⟩
/-- the cells at places -/
def CsOk (cs : List (Int × Ce)) : Prop := PsOk (cs.map (·.1)) ∧ ∀ p, p ∈ cs → DC (cs.map (·.1)) p.2
theorem putD_new {cs : List (Int × Ce)} {a : Int} {c : Ce} (h : ¬ a ∈ cs.map (·.1)) : putDM (dctM Ce.mv cs) (.inl a) c.mv = dctM Ce.mv (cs ++ [(a, c)]) := by
  unfold putDM
  rw [if_neg]
  · unfold dctM; rw [List.map_append]; rfl
  · intro z
    obtain ⟨kv, h1, h2⟩ := List.any_eq_true.mp z
    unfold dctM at h1
    obtain ⟨q, hq, rfl⟩ := List.mem_map.mp h1
    have := of_decide_eq_true h2
    simp only [Sum.inl.injEq] at this
    exact h (List.mem_map.mpr ⟨q, hq, this⟩)
theorem dh_set {s : Ds} {g g' : MH} {o o' : MO} : (DH s (g ++ o :: g')).set (g.length + 6) o' = DH s (g ++ o' :: g') := by
  rw [← dh_app, ← dh_app]
  have : g.length + 6 = (DH s g).length := rfl
  rw [this, List.set_append_right _ _ (Nat.le_refl _)]
  simp
theorem lcells_ok (hs : Good l s m) (hm : m < 600000) : ∃ (cs : List (Int × Ce)) (s' : Ds), CsOk cs ∧ Good l s' (m + 1000) ∧ m_law_cells [.ref 5] (DH s g) = .ok (.ref (g.length + 7)) (DH s' (g ++ [.lst ((cs.map (·.1)).map .int), .dct (dctM Ce.mv cs)])) := by
  suffices H : Wp (m_law_cells [.ref 5] (DH s g)) fun v h => ∃ (cs : List (Int × Ce)) (s' : Ds), CsOk cs ∧ Good l s' (m + 1000) ∧ v = .ref (g.length + 7) ∧ h = DH s' (g ++ [.lst ((cs.map (·.1)).map .int), .dct (dctM Ce.mv cs)]) by
    obtain ⟨v, h, e, cs, s', h1, h2, rfl, rfl⟩ := H.ex
    exact ⟨cs, s', h1, h2, e⟩
  obtain ⟨v1, s1, a0, a1, g1, e1⟩ := next_ok hs (by omega) (k := 9) (by decide) (by decide) g
  obtain ⟨kn, rfl⟩ : ∃ kn : Nat, v1 = kn := ⟨v1.toNat, by omega⟩
  obtain ⟨ps, s2, hp, pl, g2, e2⟩ := lplaces_ok (g := g) g1 kn (by omega) (by omega)
  have lp := hp.2.2
  unfold m_law_cells
  refine m_fun rfl ?_
  unfold b_law_cells
  have ap : ∀ x : MO, DH s2 (g ++ [.lst (ps.map .int)]) ++ [x] = DH s2 (g ++ [.lst (ps.map .int), x]) := fun x => by rw [dh_app, List.append_assoc]; rfl
  have al : ∀ (t : Ds) (x : MO), (DH t (g ++ [.lst (ps.map .int), x]))[g.length + 6]? = some (.lst (ps.map .int)) := fun t x => by
    rw [show g ++ [MO.lst (ps.map MV.int), x] = (g ++ [.lst (ps.map .int)]) ++ [x] by simp]
    exact (At.new (g := g)).app.dh
  have ad : ∀ (t : Ds) (x : MO), (DH t (g ++ [.lst (ps.map .int), x]))[g.length + 7]? = some x := fun t x => by
    have := dh_new (s := t) (g := g ++ [.lst (ps.map .int)]) (o := x)
    rw [List.append_assoc] at this
    simpa using this
  have len2 : (DH s2 (g ++ [.lst (ps.map .int)])).length = g.length + 7 := by rw [dh_len]; simp
  simp only [↓SX1, SX2, ↓SV1, SV2, List.getElem?_cons_zero, List.getElem?_cons_succ, List.set_cons_zero, List.set_cons_succ, List.map_cons, List.map_nil, List.cons_append, List.nil_append, List.append_nil, List.replicate_succ, List.replicate_zero, List.length_cons, List.length_nil, if_true, if_false, true_and, and_true, and_self, Nat.zero_add, Int.natCast_zero, i0, i1, i2, i3, i4, decide_true, decide_false, Bool.not_true, Bool.not_false, ofString_inj, gt_iff_lt, List.all_cons, List.all_nil, List.any_cons, List.any_nil, Bool.and_true, Bool.true_and, Bool.and_self, Bool.or_false, Bool.false_or, Bool.or_true, Bool.true_or, szOk, mNeg, wipeM, ↓reduceIte, Nat.reduceAdd, Nat.reduceSub, Nat.reduceLeDiff, Int.reduceLT, Int.reduceLE, Int.reduceNeg, Int.reduceAdd, Int.reduceSub, Int.reducePow, Int.reduceEq, Int.reduceLT, Int.reduceMod, Int.reduceDiv, Int.reduceMul, Int.reduceToNat, String.reduceEq, reduceCtorEq, e1, e2, len2, ap, al]
  refine s_for (fun xs ρ h => ∃ (cs : List (Int × Ce)) (qs : List Int) (s1 : Ds) (y : Option MV), ρ = [some (.ref 5), some (.ref (g.length + 6)), some (.ref (g.length + 7)), y] ∧ h = DH s1 (g ++ [.lst (ps.map .int), .dct (dctM Ce.mv cs)]) ∧ cs.map (·.1) ++ qs = ps ∧ xs = qs.map .int ∧ (∀ p, p ∈ cs → DC ps p.2) ∧ Good l s1 (m + 17 + 100 * cs.length))
    (fun xs ρ h i => ?_) (fun x xs ρ h i => ?_) (fun ρ h i => ?_) _ _ _ ⟨[], ps, s2, none, rfl, rfl, by simp, rfl, (fun p hp => by cases hp), g2.up (by simp; omega)⟩
  · obtain ⟨cs, qs, s1, y, rfl, rfl, _⟩ := i
    intro q hq
    simp only [List.mem_singleton] at hq
    subst hq
    exact al _ _
  · obtain ⟨cs, qs, s3, y, rfl, rfl, eq, ex, hc, hg⟩ := i
    cases qs with
    | nil => cases ex
    | cons a qs =>
      simp only [List.map_cons, List.cons.injEq] at ex
      obtain ⟨rfl, rfl⟩ := ex
      have cl : cs.length ≤ 8 := by
        have := congrArg List.length eq
        rw [List.length_append, List.length_map] at this
        omega
      obtain ⟨c, s4, dc, g4, e4⟩ := lcell_ok (g := g ++ [.lst (ps.map .int), .dct (dctM Ce.mv cs)]) hg (by omega) hp (n := g.length + 6) (by
        rw [show g ++ [MO.lst (ps.map MV.int), .dct (dctM Ce.mv cs)] = (g ++ [.lst (ps.map .int)]) ++ [.dct (dctM Ce.mv cs)] by simp]
        exact (At.new (g := g)).app)
      have nin : ¬ a ∈ cs.map (·.1) := fun z => by
        have u := hp.1
        rw [← eq] at u
        have := (List.pairwise_append.mp u).2.2 a z a (by simp)
        omega
      have st : onlyN (gIt (eVar 2) (eVar 3) c.mv [some (.ref 5), some (.ref (g.length + 6)), some (.ref (g.length + 7)), some (.int a)] (DH s4 (g ++ [.lst (ps.map .int), .dct (dctM Ce.mv cs)]))) = .nx [some (.ref 5), some (.ref (g.length + 6)), some (.ref (g.length + 7)), some (.int a)] (DH s4 (g ++ [.lst (ps.map .int), .dct (dctM Ce.mv (cs ++ [(a, c)]))])) := by
        unfold gIt
        have v2 : eVar 2 [some (.ref 5), some (.ref (g.length + 6)), some (.ref (g.length + 7)), some (.int a)] (DH s4 (g ++ [.lst (ps.map .int), .dct (dctM Ce.mv cs)])) = .ok (.ref (g.length + 7)) (DH s4 (g ++ [.lst (ps.map .int), .dct (dctM Ce.mv cs)])) := rfl
        have v3 : eVar 3 [some (.ref 5), some (.ref (g.length + 6)), some (.ref (g.length + 7)), some (.int a)] (DH s4 (g ++ [.lst (ps.map .int), .dct (dctM Ce.mv cs)])) = .ok (.int a) (DH s4 (g ++ [.lst (ps.map .int), .dct (dctM Ce.mv cs)])) := rfl
        rw [v2, Res.st_ok, v3, Res.st_ok]
        have l6 : (dctM Ce.mv cs).length < 1000000 := by unfold dctM; rw [List.length_map]; omega
        unfold mSetJ
        dsimp only
        rw [ad]
        unfold setIO
        dsimp only
        unfold Sm.keyOf
        dsimp only
        rw [if_pos l6, putD_new nin]
        have e5 := dh_set (s := s4) (g := g ++ [.lst (ps.map .int)]) (g' := []) (o := .dct (dctM Ce.mv cs)) (o' := .dct (dctM Ce.mv (cs ++ [(a, c)])))
        rw [List.append_assoc, List.append_assoc] at e5
        have e6 : (g ++ [MO.lst (ps.map MV.int)]).length + 6 = g.length + 7 := by simp
        rw [e6] at e5
        have e5 : (DH s4 (g ++ [.lst (ps.map .int), .dct (dctM Ce.mv cs)])).set (g.length + 7) (.dct (dctM Ce.mv (cs ++ [(a, c)]))) = DH s4 (g ++ [.lst (ps.map .int), .dct (dctM Ce.mv (cs ++ [(a, c)]))]) := e5
        rw [e5]
        rfl
      refine ⟨_, rfl, ?_⟩
      simp only [↓SX1, SX2, ↓SV1, SV2, List.getElem?_cons_zero, List.getElem?_cons_succ, List.set_cons_zero, List.set_cons_succ, List.map_cons, List.map_nil, List.cons_append, List.nil_append, List.append_nil, List.replicate_succ, List.replicate_zero, List.length_cons, List.length_nil, if_true, if_false, true_and, and_true, and_self, Nat.zero_add, Int.natCast_zero, i0, i1, i2, i3, i4, decide_true, decide_false, Bool.not_true, Bool.not_false, ofString_inj, gt_iff_lt, List.all_cons, List.all_nil, List.any_cons, List.any_nil, Bool.and_true, Bool.true_and, Bool.and_self, Bool.or_false, Bool.false_or, Bool.or_true, Bool.true_or, szOk, mNeg, wipeM, ↓reduceIte, Nat.reduceAdd, Nat.reduceSub, Nat.reduceLeDiff, Int.reduceLT, Int.reduceLE, Int.reduceNeg, Int.reduceAdd, Int.reduceSub, Int.reducePow, Int.reduceEq, Int.reduceLT, Int.reduceMod, Int.reduceDiv, Int.reduceMul, Int.reduceToNat, String.reduceEq, reduceCtorEq, e4, st]
      refine ⟨cs ++ [(a, c)], qs, s4, _, rfl, rfl, by rw [← eq]; simp, rfl, fun p hp => ?_, ?_⟩
      · rcases List.mem_append.mp hp with q | q
        · exact hc p q
        · simp only [List.mem_singleton] at q; subst q; exact dc
      · rw [List.length_append, List.length_singleton]; exact g4.up (by omega)
  · obtain ⟨cs, qs, s3, y, rfl, rfl, eq, ex, hc, hg⟩ := i
    have : qs = [] := by cases qs with | nil => rfl | cons _ _ => cases ex
    subst this
    rw [List.append_nil] at eq
    subst eq
    have cl : cs.length ≤ 8 := by rw [List.length_map] at lp; omega
    simp only [↓SX1, SX2, ↓SV1, SV2, List.getElem?_cons_zero, List.getElem?_cons_succ, List.set_cons_zero, List.set_cons_succ, List.map_cons, List.map_nil, List.cons_append, List.nil_append, List.append_nil, List.replicate_succ, List.replicate_zero, List.length_cons, List.length_nil, if_true, if_false, true_and, and_true, and_self, Nat.zero_add, Int.natCast_zero, i0, i1, i2, i3, i4, decide_true, decide_false, Bool.not_true, Bool.not_false, ofString_inj, gt_iff_lt, List.all_cons, List.all_nil, List.any_cons, List.any_nil, Bool.and_true, Bool.true_and, Bool.and_self, Bool.or_false, Bool.false_or, Bool.or_true, Bool.true_or, szOk, mNeg, wipeM, ↓reduceIte, Nat.reduceAdd, Nat.reduceSub, Nat.reduceLeDiff, Int.reduceLT, Int.reduceLE, Int.reduceNeg, Int.reduceAdd, Int.reduceSub, Int.reducePow, Int.reduceEq, Int.reduceLT, Int.reduceMod, Int.reduceDiv, Int.reduceMul, Int.reduceToNat, String.reduceEq, reduceCtorEq]
    exact ⟨cs, s3, ⟨hp, hc⟩, hg.up (by omega), gc_ref (by rw [dh_len]; omega)⟩
end
end My

set_option Elab.async false
set_option linter.all false
set_option maxRecDepth 100000
set_option maxHeartbeats 8000000
namespace My
open PySem L2 Sm PySem.W PyProof.Rows
/-! ### what addresses lead to -/
def leI (a b : Int) : Bool := decide (a ≤ b)
def sorI (fs : List Int) : List Int := fs.mergeSort leI
theorem sorI_perm (fs : List Int) : (sorI fs).Perm fs := List.mergeSort_perm _ _
theorem sorI_mem {fs : List Int} {a : Int} : a ∈ sorI fs ↔ a ∈ fs := (sorI_perm fs).mem_iff
theorem sorI_up {fs : List Int} (h : fs.Nodup) : Up (sorI fs) := by
  have p := List.pairwise_mergeSort (le := leI) (fun a b c h1 h2 => by unfold leI at *; simp only [decide_eq_true_eq] at *; omega) (fun a b => by unfold leI; simp only [Bool.or_eq_true, decide_eq_true_eq]; omega) fs
  have nd : (sorI fs).Nodup := (sorI_perm fs).nodup_iff.mpr h
  unfold Up
  have := p.and nd
  refine this.imp fun {a b} h => ?_
  obtain ⟨h1, h2⟩ := h
  unfold leI at h1
  simp only [decide_eq_true_eq] at h1
  omega
theorem sorI_id {fs : List Int} (h : Up fs) : sorI fs = fs := List.mergeSort_of_pairwise (h.imp fun {a b} z => by unfold leI; simp only [decide_eq_true_eq]; omega)
theorem le_int (a b : Int) : dataLe false dX (.int a) (.int b) = leI a b := by
  show (!(PyProof.Rows.lexLt itemOrd [.inl b] [.inl a])) = _
  unfold leI
  by_cases h : b < a
  · have : PyProof.Rows.lexLt itemOrd [.inl b] [.inl a] = true := by
      simp [PyProof.Rows.lexLt, itemLt, h]
    rw [this, decide_eq_false (by omega)]; rfl
  · have : PyProof.Rows.lexLt itemOrd [.inl b] [.inl a] = false := by
      simp [PyProof.Rows.lexLt, itemLt, h]
    rw [this, decide_eq_true (by omega)]; rfl
theorem sort_ints (fs : List Int) : sortM (fs.map MV.int) = (sorI fs).map MV.int := by
  unfold sortM sorI
  exact (List.map_mergeSort (f := MV.int) (r := leI) (s := dataLe false dX) fun a _ b _ => (le_int a b).symm).symm
theorem al_ints : ∀ fs : List Int, alB ((fs.map MV.int).map dX) = true := by
  intro fs
  unfold alB
  refine List.all_eq_true.mpr fun x hx => List.all_eq_true.mpr fun y hy => ?_
  simp only [List.map_map, List.mem_map, Function.comp] at hx hy
  obtain ⟨a, _, rfl⟩ := hx
  obtain ⟨b, _, rfl⟩ := hy
  rfl
theorem sorted_ok {H : MH} {n : Nat} {fs : List Int} (e : H[n]? = some (.lst (fs.map .int))) (hl : fs.length ≤ 1000) : mSorted [.ref n] H = .ok (.ref H.length) (H ++ [.lst ((sorI fs).map .int)]) := by
  have so : sOk (fs.map MV.int) = true := by
    unfold sOk
    have h1 : (fs.map MV.int).all atom = true := by
      rw [List.all_map]
      exact List.all_eq_true.mpr fun a _ => rfl
    rw [h1, al_ints, Bool.true_or, Bool.true_and, Bool.true_and, List.length_map]
    exact decide_eq_true (by omega)
  unfold mSorted
  simp only [e, so, if_true, sort_ints]
theorem ints_m : ∀ fs : List Int, intsM (fs.map .int) = some fs
  | [] => rfl
  | a :: fs => by
    rw [List.map_cons, intsM, ints_m fs]; rfl
theorem sortset_ok {H : MH} {n : Nat} {fs : List Int} (e : H[n]? = some (.lst (fs.map .int))) (h1 : (setI fs).length < 64) (h2 : fs.length ≤ 1000) : mSortSet [.ref n] H = .ok (.ref H.length) (H ++ [.lst ((setI fs).map .int)]) := by
  unfold mSortSet
  simp only [e, ints_m]
  rw [if_pos ⟨h1, h2⟩]
theorem setI_nd {ns : List Int} : (setI ns).Nodup := (setI_up (ns := ns)).imp fun h z => by omega
theorem setI_le : ∀ {ns : List Int}, (setI ns).length ≤ ns.length
  | [] => Nat.le_refl _
  | n :: ns => by
    have : ∀ {k : Int} {xs : List Int}, (insS k xs).length ≤ xs.length + 1 := by
      intro k xs
      induction xs with
      | nil => simp [insS]
      | cons x xs ih =>
        unfold insS
        split
        · simp
        · split
          · simp
          · simp; omega
    show (insS n (setI ns)).length ≤ _
    have h1 := this (k := n) (xs := setI ns)
    have h2 := setI_le (ns := ns)
    rw [List.length_cons]; omega
theorem any_eq (fs : List Int) (b : Int) : ((fs.map MV.int).any fun y => eqM y (.int b)) = decide (b ∈ fs) := by
  rw [List.any_map]
  by_cases h : b ∈ fs
  · rw [decide_eq_true h]
    exact List.any_eq_true.mpr ⟨b, h, by simp [eqM]⟩
  · rw [decide_eq_false h]
    rw [List.any_eq_false]
    intro x hx z
    simp only [Function.comp, eqM_ii, decide_eq_true_eq] at z
    exact h (z ▸ hx)
theorem flat_ints (fs : List Int) : (fs.map MV.int).all flatM = true := by
  rw [List.all_map]; exact List.all_eq_true.mpr fun a _ => rfl
theorem nin_l {fs : List Int} {b : Int} {h : MH} : mNotInR (some (.lst (fs.map .int))) (.int b) h = .ok (.bl (!decide (b ∈ fs))) h := by
  rw [mNotInR_l_0, if_pos (by rw [flat_ints]; rfl), any_eq]
theorem in_l {fs : List Int} {b : Int} {h : MH} : mInR (some (.lst (fs.map .int))) (.int b) h = .ok (.bl (decide (b ∈ fs))) h := by
  rw [mInR_l_0, if_pos (by rw [flat_ints]; rfl), any_eq]
theorem sub_len : ∀ {fs ks : List Int}, fs.Nodup → (∀ a, a ∈ fs → a ∈ ks) → fs.length ≤ ks.length
  | [], _, _, _ => Nat.zero_le _
  | a :: fs, ks, nd, h => by
    obtain ⟨n1, n2⟩ := List.nodup_cons.mp nd
    have m := h a (by simp)
    have ih := sub_len (ks := ks.erase a) n2 fun b hb => by
      have hb2 := h b (by simp [hb])
      have ne : b ≠ a := fun z => n1 (z ▸ hb)
      exact (List.mem_erase_of_ne ne).mpr hb2
    rw [List.length_erase_of_mem m] at ih
    have := List.length_pos_of_mem m
    rw [List.length_cons]; omega
section
variable (cs : List (Int × Ce))
/-- led to from a -/
def Led (a b : Int) : Prop := Wt.cell b ∈ (ceOf cs a).parts
def Clo (K : List Int) : Prop := ∀ a, a ∈ K → ∀ b, Led cs a b → b ∈ K
end
theorem at_int {fs : List Int} {k : Nat} (h : k < fs.length) : atI (fs.map MV.int) (k : Int) = some (.int fs[k]) := ixNat (by simp [h])
theorem app_at {H ex : MH} {xs : List MV} {y : MV} (h : xs.length < 1000000) : mAppend (.ref H.length) [y] (H ++ MO.lst xs :: ex) = .ok .non (H ++ MO.lst (xs ++ [y]) :: ex) := by
  unfold mAppend
  simp only [get0, if_pos h, set0]
/-- cells, as a dict at a cell or as one that is never written -/
def CsV (vc : MV) (H : MH) (cs : List (Int × Ce)) : Prop := (∀ a, a ∈ cs.map (·.1) → ∀ ex : MH, mIx vc (.int a) (H ++ ex) = .ok (ceOf cs a).mv (H ++ ex)) ∧ ∀ ex : MH, keysOf vc (H ++ ex) = some (ksM cs)
theorem CsV.app {vc : MV} {H x : MH} {cs : List (Int × Ce)} (h : CsV vc H cs) : CsV vc (H ++ x) cs := ⟨fun a ha ex => by rw [List.append_assoc]; exact h.1 a ha _, fun ex => by rw [List.append_assoc]; exact h.2 _⟩
theorem CsV.ix {vc : MV} {H : MH} {cs : List (Int × Ce)} (h : CsV vc H cs) {a : Int} (ha : a ∈ cs.map (·.1)) : mIx vc (.int a) H = .ok (ceOf cs a).mv H := by
  have := h.1 a ha []
  rwa [List.append_nil] at this
theorem CsV.ks {vc : MV} {H : MH} {cs : List (Int × Ce)} (h : CsV vc H cs) : keysOf vc H = some (ksM cs) := by
  have := h.2 []
  rwa [List.append_nil] at this
theorem ce_look {cs : List (Int × Ce)} {a : Int} (ha : a ∈ cs.map (·.1)) : look cs a = some (ceOf cs a) := by
  obtain ⟨c, e⟩ := look_some ha
  unfold ceOf
  rw [e]; rfl
theorem CsV.dct {H : MH} {n : Nat} {cs : List (Int × Ce)} (e : H[n]? = some (.dct (dctM Ce.mv cs))) : CsV (.ref n) H cs := by
  refine ⟨fun a ha ex => ?_, fun ex => ?_⟩
  · have e' : (H ++ ex)[n]? = some (.dct (dctM Ce.mv cs)) := gap e
    rw [mIx_r, e', mIxR_d, ixD_i, val_dct, ce_look ha]
    rfl
  · have e' : (H ++ ex)[n]? = some (.dct (dctM Ce.mv cs)) := gap e
    rw [keysOf_r, e', keysR_d, dct_fst]
theorem CsV.fdc {H : MH} {cs : List (Int × Ce)} : CsV (fdcM Ce.mv cs) H cs := by
  refine ⟨fun a ha ex => ?_, fun ex => rfl⟩
  unfold fdcM
  rw [mIx_f, zip_fdc, ixD_i, val_dct, ce_look ha]
  rfl
theorem closed_ok {cs : List (Int × Ce)} (hc : CsOk cs) {so : List Int} (hs : ∀ a, a ∈ so → a ∈ cs.map (·.1)) (sl : so.length ≤ 100) {H : MH} {vc : MV} {k : Nat} (e1 : CsV vc H cs) (e2 : H[k]? = some (.lst (so.map .int))) :
    ∃ (ex : MH) (r : Nat) (ks : List Int), m_law_closed [vc, .ref k] H = .ok (.ref r) (H ++ ex) ∧ H.length ≤ r ∧ (H ++ ex)[r]? = some (.lst (ks.map .int)) ∧ Up ks ∧ (∀ a, a ∈ ks → a ∈ cs.map (·.1)) ∧ (∀ a, a ∈ so → a ∈ ks) ∧ Clo cs ks ∧ ∀ K : List Int, (∀ a, a ∈ so → a ∈ K) → Clo cs K → ∀ a, a ∈ ks → a ∈ K := by
  suffices W : Wp (m_law_closed [vc, .ref k] H) fun v h => ∃ (ex : MH) (r : Nat) (ks : List Int), v = .ref r ∧ h = H ++ ex ∧ H.length ≤ r ∧ (H ++ ex)[r]? = some (.lst (ks.map .int)) ∧ Up ks ∧ (∀ a, a ∈ ks → a ∈ cs.map (·.1)) ∧ (∀ a, a ∈ so → a ∈ ks) ∧ Clo cs ks ∧ ∀ K : List Int, (∀ a, a ∈ so → a ∈ K) → Clo cs K → ∀ a, a ∈ ks → a ∈ K by
    obtain ⟨v, h, e, ex, r, ks, rfl, rfl, z⟩ := W.ex
    exact ⟨ex, r, ks, e, z⟩
  have lp := hc.1.2.2
  have sm : ∀ a, a ∈ setI so → a ∈ cs.map (·.1) := fun a ha => hs a (setI_mem.mp ha)
  have s8 := sub_len setI_nd sm
  unfold m_law_closed
  refine m_fun rfl ?_
  unfold b_law_closed
  simp only [↓SX1, SX2, ↓SV1, SV2, List.getElem?_cons_zero, List.getElem?_cons_succ, List.set_cons_zero, List.set_cons_succ, List.map_cons, List.map_nil, List.cons_append, List.nil_append, List.append_nil, List.replicate_succ, List.replicate_zero, List.length_cons, List.length_nil, if_true, if_false, true_and, and_true, and_self, Nat.zero_add, Int.natCast_zero, i0, i1, i2, i3, i4, decide_true, decide_false, Bool.not_true, Bool.not_false, ofString_inj, gt_iff_lt, List.all_cons, List.all_nil, List.any_cons, List.any_nil, Bool.and_true, Bool.true_and, Bool.and_self, Bool.or_false, Bool.false_or, Bool.or_true, Bool.true_or, szOk, mNeg, wipeM, ↓reduceIte, Nat.reduceAdd, Nat.reduceSub, Nat.reduceLeDiff, Int.reduceLT, Int.reduceLE, Int.reduceNeg, Int.reduceAdd, Int.reduceSub, Int.reducePow, Int.reduceEq, Int.reduceLT, Int.reduceMod, Int.reduceDiv, Int.reduceMul, Int.reduceToNat, String.reduceEq, reduceCtorEq, sortset_ok e2 (by omega) (by omega)]
  have cell : ∀ a, a ∈ cs.map (·.1) → look cs a = some (ceOf cs a) ∧ (ceOf cs a).Sz ∧ ∀ b, Led cs a b → b ∈ cs.map (·.1) := fun a ha => by
    obtain ⟨c, e⟩ := look_some ha
    have ec : ceOf cs a = c := by unfold ceOf; rw [e]; rfl
    have dc := hc.2 _ (look_mem e)
    unfold Led Ce.Sz
    rw [ec]
    refine ⟨e, ?_, dc.2.2⟩
    have : c.parts.length ≤ 31 := dc.2.1.1
    omega
  refine s_while (fun q ρ h => ∃ (fs : List Int) (i : Nat) (ex : MH) (y : Option MV), ρ = [some vc, some (.ref k), some (.ref H.length), some (.int i), y] ∧ h = H ++ MO.lst (fs.map .int) :: ex ∧ fs.Nodup ∧ (∀ a, a ∈ fs → a ∈ cs.map (·.1)) ∧ (∀ a, a ∈ so → a ∈ fs) ∧ i ≤ fs.length ∧ q + i = 8 ∧ (∀ (j : Nat) (a : Int), j < i → fs[j]? = some a → ∀ b, Led cs a b → b ∈ fs) ∧ ∀ K : List Int, (∀ a, a ∈ so → a ∈ K) → Clo cs K → ∀ a, a ∈ fs → a ∈ K) 8 (by omega)
    ⟨setI so, 0, [], none, rfl, rfl, setI_nd, sm, fun a ha => setI_mem.mpr ha, by omega, by omega, (fun j a hj => by omega), fun K h1 _ a ha => h1 a (setI_mem.mp ha)⟩ (fun q ρ h i => ?_)
  obtain ⟨fs, i, ex, y, rfl, rfl, nd, sub, sin, il, qi, clo, mini⟩ := i
  have fl : fs.length ≤ 8 := by
    have := sub_len nd sub
    omega
  have lf : ((fs.map MV.int).length : Int) = (fs.length : Int) := by rw [List.length_map]
  by_cases hi : i < fs.length
  · have hi2 : (i : Int) < (fs.length : Int) := by omega
    obtain ⟨a, ea⟩ : ∃ a, fs[i]? = some a := ⟨fs[i], by simp [hi]⟩
    have am : a ∈ fs := List.mem_of_getElem? ea
    have at1 : atI (fs.map MV.int) (i : Int) = some (.int a) := ixNat (by rw [List.getElem?_map, ea]; rfl)
    obtain ⟨lk, sz, led⟩ := cell a (sub a am)
    have e1' : mIx vc (.int a) (H ++ MO.lst (fs.map .int) :: ex) = .ok (ceOf cs a).mv (H ++ MO.lst (fs.map .int) :: ex) := e1.1 a (sub a am) _
    have lpo := lparts_ok sz (H ++ MO.lst (fs.map .int) :: ex)
    simp only [↓SX1, SX2, ↓SV1, SV2, List.getElem?_cons_zero, List.getElem?_cons_succ, List.set_cons_zero, List.set_cons_succ, List.map_cons, List.map_nil, List.cons_append, List.nil_append, List.append_nil, List.replicate_succ, List.replicate_zero, List.length_cons, List.length_nil, if_true, if_false, true_and, and_true, and_self, Nat.zero_add, Int.natCast_zero, i0, i1, i2, i3, i4, decide_true, decide_false, Bool.not_true, Bool.not_false, ofString_inj, gt_iff_lt, List.all_cons, List.all_nil, List.any_cons, List.any_nil, Bool.and_true, Bool.true_and, Bool.and_self, Bool.or_false, Bool.false_or, Bool.or_true, Bool.true_or, szOk, mNeg, wipeM, ↓reduceIte, Nat.reduceAdd, Nat.reduceSub, Nat.reduceLeDiff, Int.reduceLT, Int.reduceLE, Int.reduceNeg, Int.reduceAdd, Int.reduceSub, Int.reducePow, Int.reduceEq, Int.reduceLT, Int.reduceMod, Int.reduceDiv, Int.reduceMul, Int.reduceToNat, String.reduceEq, reduceCtorEq, get0, lf, hi2, at1, e1', lpo, gnew]
    have pl : (H ++ MO.lst (fs.map .int) :: ex) ++ [MO.lst ((ceOf cs a).parts.map Wt.mv)] = H ++ MO.lst (fs.map .int) :: (ex ++ [MO.lst ((ceOf cs a).parts.map Wt.mv)]) := by simp
    obtain ⟨L2, hL2⟩ : ∃ L2, L2 = (H ++ MO.lst (fs.map MV.int) :: ex).length := ⟨_, rfl⟩
    have hL3 : L2 = H.length + 1 + ex.length := by rw [hL2]; simp; omega
    have gL : ∀ fs' : List Int, (H ++ MO.lst (fs'.map .int) :: (ex ++ [MO.lst ((ceOf cs a).parts.map Wt.mv)]))[L2]? = some (.lst ((ceOf cs a).parts.map Wt.mv)) := fun fs' => by
      rw [show H ++ MO.lst (fs'.map .int) :: (ex ++ [MO.lst ((ceOf cs a).parts.map Wt.mv)]) = (H ++ MO.lst (fs'.map .int) :: ex) ++ [MO.lst ((ceOf cs a).parts.map Wt.mv)] by simp]
      have : L2 = (H ++ MO.lst (fs'.map MV.int) :: ex).length := by rw [hL3]; simp; omega
      rw [this]; exact gnew
    refine s_for (fun xs ρ h => ∃ (fs' : List Int) (ps' : List Wt) (y : Option MV) (t : List Int), ρ = [some vc, some (.ref k), some (.ref H.length), some (.int i), y] ∧ h = H ++ MO.lst (fs'.map .int) :: (ex ++ [MO.lst ((ceOf cs a).parts.map Wt.mv)]) ∧ xs = ps'.map Wt.mv ∧ fs' = fs ++ t ∧ fs'.Nodup ∧ (∀ a, a ∈ fs' → a ∈ cs.map (·.1)) ∧ (∀ w, w ∈ ps' → w ∈ (ceOf cs a).parts) ∧ (∀ b, Led cs a b → Wt.cell b ∈ ps' ∨ b ∈ fs') ∧ ∀ K : List Int, (∀ a, a ∈ so → a ∈ K) → Clo cs K → ∀ a, a ∈ fs' → a ∈ K)
      (fun xs ρ h z => ?_) (fun x xs ρ h z => ?_) (fun ρ h z => ?_) _ _ _ ⟨fs, (ceOf cs a).parts, y, [], rfl, pl, rfl, by simp, nd, sub, fun w hw => hw, fun b hb => .inl hb, mini⟩
    · obtain ⟨fs', ps', y, t, rfl, rfl, _⟩ := z
      intro g hg
      simp only [List.mem_singleton] at hg
      subst hg
      have := gL fs'
      rw [hL2] at this
      exact this
    · obtain ⟨fs', ps', y, t, rfl, rfl, ex', ft, nd', sub', pin, led', min'⟩ := z
      cases ps' with
      | nil => cases ex'
      | cons p ps' =>
        simp only [List.map_cons, List.cons.injEq] at ex'
        obtain ⟨rfl, rfl⟩ := ex'
        refine ⟨_, rfl, ?_⟩
        have fl' : fs'.length ≤ 8 := by
          have := sub_len nd' sub'
          omega
        have skip : (∀ b, p = .cell b → b ∈ fs') → ∀ b, Led cs a b → Wt.cell b ∈ ps' ∨ b ∈ fs' := fun hp b hb => by
          rcases led' b hb with q | q
          · rcases List.mem_cons.mp q with q | q
            · exact .inr (hp b q.symm)
            · exact .inl q
          · exact .inr q
        cases p with
        | cell b =>
          by_cases hb : b ∈ fs'
          · simp only [↓SX1, SX2, ↓SV1, SV2, List.getElem?_cons_zero, List.getElem?_cons_succ, List.set_cons_zero, List.set_cons_succ, List.map_cons, List.map_nil, List.cons_append, List.nil_append, List.append_nil, List.replicate_succ, List.replicate_zero, List.length_cons, List.length_nil, if_true, if_false, true_and, and_true, and_self, Nat.zero_add, Int.natCast_zero, i0, i1, i2, i3, i4, decide_true, decide_false, Bool.not_true, Bool.not_false, ofString_inj, gt_iff_lt, List.all_cons, List.all_nil, List.any_cons, List.any_nil, Bool.and_true, Bool.true_and, Bool.and_self, Bool.or_false, Bool.false_or, Bool.or_true, Bool.true_or, szOk, mNeg, wipeM, ↓reduceIte, Nat.reduceAdd, Nat.reduceSub, Nat.reduceLeDiff, Int.reduceLT, Int.reduceLE, Int.reduceNeg, Int.reduceAdd, Int.reduceSub, Int.reducePow, Int.reduceEq, Int.reduceLT, Int.reduceMod, Int.reduceDiv, Int.reduceMul, Int.reduceToNat, String.reduceEq, reduceCtorEq, Wt.mv, get0, nin_l, hb]
            exact ⟨fs', ps', _, t, rfl, rfl, rfl, ft, nd', sub', fun w hw => pin w (by simp [hw]), skip fun b' e => by cases e; exact hb, min'⟩
          · have ty : tyOk "list" (.ref H.length) (H ++ MO.lst (fs'.map MV.int) :: (ex ++ [MO.lst ((ceOf cs a).parts.map Wt.mv)])) = true := by unfold tyOk; simp only [get0]; rfl
            have ap := app_at (H := H) (ex := ex ++ [MO.lst ((ceOf cs a).parts.map Wt.mv)]) (xs := fs'.map MV.int) (y := .int b) (by rw [List.length_map]; omega)
            have lab : Led cs a b := pin (.cell b) (by simp)
            simp only [↓SX1, SX2, ↓SV1, SV2, List.getElem?_cons_zero, List.getElem?_cons_succ, List.set_cons_zero, List.set_cons_succ, List.map_cons, List.map_nil, List.cons_append, List.nil_append, List.append_nil, List.replicate_succ, List.replicate_zero, List.length_cons, List.length_nil, if_true, if_false, true_and, and_true, and_self, Nat.zero_add, Int.natCast_zero, i0, i1, i2, i3, i4, decide_true, decide_false, Bool.not_true, Bool.not_false, ofString_inj, gt_iff_lt, List.all_cons, List.all_nil, List.any_cons, List.any_nil, Bool.and_true, Bool.true_and, Bool.and_self, Bool.or_false, Bool.false_or, Bool.or_true, Bool.true_or, szOk, mNeg, wipeM, ↓reduceIte, Nat.reduceAdd, Nat.reduceSub, Nat.reduceLeDiff, Int.reduceLT, Int.reduceLE, Int.reduceNeg, Int.reduceAdd, Int.reduceSub, Int.reducePow, Int.reduceEq, Int.reduceLT, Int.reduceMod, Int.reduceDiv, Int.reduceMul, Int.reduceToNat, String.reduceEq, reduceCtorEq, Wt.mv, get0, nin_l, hb, ty, ap]
            refine ⟨fs' ++ [b], ps', _, t ++ [b], rfl, by rw [List.map_append]; rfl, rfl, by rw [ft, List.append_assoc], ?_, ?_, fun w hw => pin w (by simp [hw]), fun b' h' => ?_, fun K k1 k2 q hq => ?_⟩
            · rw [List.nodup_append]
              exact ⟨nd', by simp, fun u hu v hv => by simp only [List.mem_singleton] at hv; subst hv; intro z; subst z; exact hb hu⟩
            · intro q hq
              rcases List.mem_append.mp hq with q1 | q1
              · exact sub' q q1
              · simp only [List.mem_singleton] at q1; subst q1; exact led _ lab
            · rcases led' b' h' with q | q
              · rcases List.mem_cons.mp q with q | q
                · cases q; exact .inr (by simp)
                · exact .inl q
              · exact .inr (by simp [q])
            · rcases List.mem_append.mp hq with q1 | q1
              · exact min' K k1 k2 q q1
              · simp only [List.mem_singleton] at q1; subst q1
                exact k2 a (mini K k1 k2 a am) q lab
        | _ =>
          simp only [↓SX1, SX2, ↓SV1, SV2, List.getElem?_cons_zero, List.getElem?_cons_succ, List.set_cons_zero, List.set_cons_succ, List.map_cons, List.map_nil, List.cons_append, List.nil_append, List.append_nil, List.replicate_succ, List.replicate_zero, List.length_cons, List.length_nil, if_true, if_false, true_and, and_true, and_self, Nat.zero_add, Int.natCast_zero, i0, i1, i2, i3, i4, decide_true, decide_false, Bool.not_true, Bool.not_false, ofString_inj, gt_iff_lt, List.all_cons, List.all_nil, List.any_cons, List.any_nil, Bool.and_true, Bool.true_and, Bool.and_self, Bool.or_false, Bool.false_or, Bool.or_true, Bool.true_or, szOk, mNeg, wipeM, ↓reduceIte, Nat.reduceAdd, Nat.reduceSub, Nat.reduceLeDiff, Int.reduceLT, Int.reduceLE, Int.reduceNeg, Int.reduceAdd, Int.reduceSub, Int.reducePow, Int.reduceEq, Int.reduceLT, Int.reduceMod, Int.reduceDiv, Int.reduceMul, Int.reduceToNat, String.reduceEq, reduceCtorEq, Wt.mv]
          exact ⟨fs', ps', _, t, rfl, rfl, rfl, ft, nd', sub', fun w hw => pin w (by simp [hw]), skip (fun b' e => by cases e), min'⟩
    · obtain ⟨fs', ps', y, t, rfl, rfl, ex', ft, nd', sub', pin, led', min'⟩ := z
      have : ps' = [] := by cases ps' with | nil => rfl | cons _ _ => cases ex'
      subst this
      have fl' : fs'.length ≤ 8 := by
        have := sub_len nd' sub'
        omega
      have tl : fs'.length = fs.length + t.length := by rw [ft, List.length_append]
      simp only [↓SX1, SX2, ↓SV1, SV2, List.getElem?_cons_zero, List.getElem?_cons_succ, List.set_cons_zero, List.set_cons_succ, List.map_cons, List.map_nil, List.cons_append, List.nil_append, List.append_nil, List.replicate_succ, List.replicate_zero, List.length_cons, List.length_nil, if_true, if_false, true_and, and_true, and_self, Nat.zero_add, Int.natCast_zero, i0, i1, i2, i3, i4, decide_true, decide_false, Bool.not_true, Bool.not_false, ofString_inj, gt_iff_lt, List.all_cons, List.all_nil, List.any_cons, List.any_nil, Bool.and_true, Bool.true_and, Bool.and_self, Bool.or_false, Bool.false_or, Bool.or_true, Bool.true_or, szOk, mNeg, wipeM, ↓reduceIte, Nat.reduceAdd, Nat.reduceSub, Nat.reduceLeDiff, Int.reduceLT, Int.reduceLE, Int.reduceNeg, Int.reduceAdd, Int.reduceSub, Int.reducePow, Int.reduceEq, Int.reduceLT, Int.reduceMod, Int.reduceDiv, Int.reduceMul, Int.reduceToNat, String.reduceEq, reduceCtorEq]
      refine ⟨q - 1, by omega, fs', i + 1, _, y, by simp, rfl, nd', sub', fun b hb => by rw [ft]; simp [sin b hb], by omega, by omega, fun j b hj ej => ?_, min'⟩
      have ej2 : fs[j]? = some b := by
        rw [ft, List.getElem?_append_left (by omega)] at ej
        exact ej
      by_cases hji : j = i
      · subst hji
        rw [ea] at ej2
        cases ej2
        intro c hcl
        rcases led' c hcl with q | q
        · cases q
        · exact q
      · intro c hcl
        rw [ft]
        exact List.mem_append_left _ (clo j b (by omega) ej2 c hcl)
  · have hi2 : ¬ (i : Int) < (fs.length : Int) := by omega
    have so1 := sorted_ok (H := H ++ MO.lst (fs.map .int) :: ex) (n := H.length) get0 (by omega)
    simp only [↓SX1, SX2, ↓SV1, SV2, List.getElem?_cons_zero, List.getElem?_cons_succ, List.set_cons_zero, List.set_cons_succ, List.map_cons, List.map_nil, List.cons_append, List.nil_append, List.append_nil, List.replicate_succ, List.replicate_zero, List.length_cons, List.length_nil, if_true, if_false, true_and, and_true, and_self, Nat.zero_add, Int.natCast_zero, i0, i1, i2, i3, i4, decide_true, decide_false, Bool.not_true, Bool.not_false, ofString_inj, gt_iff_lt, List.all_cons, List.all_nil, List.any_cons, List.any_nil, Bool.and_true, Bool.true_and, Bool.and_self, Bool.or_false, Bool.false_or, Bool.or_true, Bool.true_or, szOk, mNeg, wipeM, ↓reduceIte, Nat.reduceAdd, Nat.reduceSub, Nat.reduceLeDiff, Int.reduceLT, Int.reduceLE, Int.reduceNeg, Int.reduceAdd, Int.reduceSub, Int.reducePow, Int.reduceEq, Int.reduceLT, Int.reduceMod, Int.reduceDiv, Int.reduceMul, Int.reduceToNat, String.reduceEq, reduceCtorEq, get0, lf, hi2, so1]
    refine ⟨MO.lst (fs.map .int) :: ex ++ [MO.lst ((sorI fs).map .int)], _, sorI fs, rfl, ?_, ?_, ?_, sorI_up nd, fun a ha => sub a (sorI_mem.mp ha), fun a ha => sorI_mem.mpr (sin a ha), fun a ha b hb => ?_, fun K k1 k2 a ha => mini K k1 k2 a (sorI_mem.mp ha)⟩
    · rw [gc_ref (by simp)]
      simp
    · simp
    · have := gnew (h := H ++ MO.lst (fs.map MV.int) :: ex) (o := MO.lst ((sorI fs).map .int))
      simpa using this
    · obtain ⟨j, hj, ej⟩ := List.getElem_of_mem (sorI_mem.mp ha)
      exact sorI_mem.mpr (clo j a (by omega) (by rw [List.getElem?_eq_getElem hj, ej]) b hb)
end My

set_option Elab.async false
set_option linter.all false
set_option maxRecDepth 100000
set_option maxHeartbeats 8000000
namespace My
open PySem L2 Sm
/-! ### told papers -/
def leP {α : Type} (a b : Int × α) : Bool := decide (a.1 ≤ b.1)
def sorP {α : Type} (l : List (Int × α)) : List (Int × α) := l.mergeSort leP
theorem sortk_prs {α : Type} (f : α → MV) (l : List (Int × α)) : sortK (prs f l) = prs f (sorP l) := by
  unfold sortK sorP prs
  exact (List.map_mergeSort (f := fun (p : Int × α) => MV.tup [.int p.1, f p.2]) (r := leP) (s := fun a b => decide (keyD a ≤ keyD b)) fun _ _ _ _ => rfl).symm
theorem sorP_perm {α : Type} (l : List (Int × α)) : (sorP l).Perm l := List.mergeSort_perm _ _
theorem sorP_up {α : Type} {l : List (Int × α)} (h : (l.map (·.1)).Nodup) : Up ((sorP l).map (·.1)) := by
  have p := List.pairwise_mergeSort (le := leP (α := α)) (fun a b c h1 h2 => by unfold leP at *; simp only [decide_eq_true_eq] at *; omega) (fun a b => by unfold leP; simp only [Bool.or_eq_true, decide_eq_true_eq]; omega) l
  have nd : ((sorP l).map (·.1)).Nodup := ((sorP_perm l).map _).nodup_iff.mpr h
  unfold Up
  rw [List.pairwise_map]
  have nd2 : (sorP l).Pairwise fun a b => a.1 ≠ b.1 := by
    unfold List.Nodup at nd
    rwa [List.pairwise_map] at nd
  refine (p.and nd2).imp fun {a b} h => ?_
  obtain ⟨h1, h2⟩ := h
  unfold leP at h1
  simp only [decide_eq_true_eq] at h1
  omega
section
variable {ms : List (Int × Int)}
def MsOk (ms : List (Int × Int)) : Prop := ∀ p, p ∈ ms → 0 ≤ p.2 ∧ NOk p.2
theorem mvA_ok (hm : MsOk ms) {a : Int} (h0 : 0 ≤ a) (h1 : NOk a) : 0 ≤ mvA ms a ∧ NOk (mvA ms a) := by
  unfold mvA
  cases e : look ms a with
  | none => exact ⟨h0, h1⟩
  | some b => exact hm _ (look_mem e)
theorem movW_ok (hm : MsOk ms) {w : Wt} (h0 : w.Ok) (h1 : w.Rp) : (movW ms w).Ok ∧ (movW ms w).Rp := by
  cases w with
  | cell a => exact mvA_ok hm h0 h1
  | _ => exact ⟨h0, h1⟩
theorem movWs_ok (hm : MsOk ms) {ws : List Wt} {k : Nat} (h0 : WsOk ws k) (h1 : ∀ w, w ∈ ws → w.Rp) : WsOk (ws.map (movW ms)) k ∧ ∀ w, w ∈ ws.map (movW ms) → w.Rp := by
  refine ⟨⟨by rw [List.length_map]; exact h0.1, fun w hw => ?_⟩, fun w hw => ?_⟩ <;> obtain ⟨u, hu, rfl⟩ := List.mem_map.mp hw
  · exact (movW_ok hm (h0.2 u hu) (h1 u hu)).1
  · exact (movW_ok hm (h0.2 u hu) (h1 u hu)).2
theorem movo (o : Option Int) : oW (o.map (mvA ms)) = movW ms (oW o) := by cases o <;> rfl
theorem movC_parts (c : Ce) : (movC ms c).parts = c.parts.map (movW ms) := by
  cases c with
  | thing k ws => rfl
  | block i j a b => rfl
  | names ws o => simp only [movC, Ce.parts, List.map_append, List.map_cons, List.map_nil, movo]
  | list ws => rfl
theorem movC_ok (hm : MsOk ms) {c : Ce} (h0 : c.Ok) (h1 : c.Rp) : (movC ms c).Ok ∧ (movC ms c).Rp := by
  obtain ⟨r1, r2, r3⟩ := h1
  refine ⟨?_, by rw [movC_parts, List.length_map]; exact r1, ?_, ?_⟩
  · cases c with
    | thing k ws => exact ⟨h0.1, h0.2.1, (movWs_ok hm h0.2.2 r2).1⟩
    | block i j a b => exact ⟨h0.1, h0.2.1, (mvA_ok hm h0.2.2.1 (r2 (.cell a) (by simp [Ce.parts]))).1, (mvA_ok hm h0.2.2.2 (r2 (.cell b) (by simp [Ce.parts]))).1⟩
    | names ws o =>
      refine ⟨(movWs_ok hm h0.1 fun w hw => r2 w (by simp [Ce.parts, hw])).1, ?_⟩
      rw [movo]
      exact (movW_ok hm h0.2 (r2 _ (by simp [Ce.parts]))).1
    | list ws => exact (movWs_ok hm h0 r2).1
  · rw [movC_parts]
    intro w hw
    obtain ⟨u, hu, rfl⟩ := List.mem_map.mp hw
    have ok : u.Ok := by
      cases c with
      | thing k ws => exact h0.2.2.2 u hu
      | block i j a b =>
        simp only [Ce.parts, List.mem_cons, List.not_mem_nil, or_false] at hu
        rcases hu with rfl | rfl
        · exact h0.2.2.1
        · exact h0.2.2.2
      | names ws o =>
        rcases List.mem_append.mp hu with q | q
        · exact h0.1.2 u q
        · simp only [List.mem_singleton] at q; subst q; exact h0.2
      | list ws => exact h0.2 u hu
    exact (movW_ok hm ok (r2 u hu)).2
  · cases c with
    | thing k ws => exact r3
    | block i j a b => exact r3
    | names ws o => trivial
    | list ws => trivial
end
theorem look_nd {α : Type} : ∀ {l : List (Int × α)}, (l.map (·.1)).Nodup → ∀ p, p ∈ l → look l p.1 = some p.2
  | [], _, p, h => by cases h
  | q :: l, nd, p, h => by
    rw [List.map_cons, List.nodup_cons] at nd
    unfold look
    rw [List.find?_cons]
    rcases List.mem_cons.mp h with rfl | h
    · simp
    · have ne : ¬ q.1 = p.1 := fun z => nd.1 (List.mem_map.mpr ⟨p, h, z.symm⟩)
      rw [decide_eq_false ne]
      exact look_nd nd.2 p h
/-- what a told paper is like -/
structure Told (cs : List (Int × Ce)) (kept : List Int) (ms : List (Int × Int)) : Prop where
  fst : ms.map (·.1) = kept
  snd : (ms.map (·.2)).Nodup
  ok : MsOk ms
section
variable {l : List MV} {s : Ds} {m n r k : Nat} {g : MH} {cs : List (Int × Ce)} {roots kept : List Int}
theorem up_nd {ks : List Int} (u : Up ks) : ks.Nodup := u.imp fun h z => by omega
def bsOf (cs : List (Int × Ce)) (ms : List (Int × Int)) : List (Int × Ce) := sorP (dueL cs ms)
theorem ce_ok (hc : CsOk cs) {a : Int} (ha : a ∈ cs.map (·.1)) : look cs a = some (ceOf cs a) ∧ (ceOf cs a).Sz ∧ (ceOf cs a).Ok ∧ (ceOf cs a).Rp ∧ ∀ b, Led cs a b → b ∈ cs.map (·.1) := by
  obtain ⟨c, e⟩ := look_some ha
  have ec : ceOf cs a = c := by unfold ceOf; rw [e]; rfl
  have dc := hc.2 _ (look_mem e)
  unfold Led Ce.Sz
  rw [ec]
  refine ⟨e, ?_, dc.1, dc.2.1, dc.2.2⟩
  have : c.parts.length ≤ 31 := dc.2.1.1
  omega
theorem cs_pr (hc : CsOk cs) : PrOk cs := by
  refine ⟨hc.1.1, fun p hp => (hc.1.2.1 p.1 (List.mem_map.mpr ⟨p, hp, rfl⟩)).1, ?_⟩
  have := hc.1.2.2
  rw [List.length_map] at this
  omega
theorem told_pa {ms : List (Int × Int)} (hc : CsOk cs) (ru : Up roots) (rs : ∀ a, a ∈ roots → a ∈ cs.map (·.1)) (ku : Up kept) (ks : ∀ a, a ∈ kept → a ∈ cs.map (·.1)) (t : Told cs kept ms) :
    PaOk cs roots ms (bsOf cs ms) ∧ BRp (bsOf cs ms) := by
  have c8 := hc.1.2.2
  have k8 := sub_len (up_nd ku) ks
  have r8 := sub_len (up_nd ru) rs
  have ml : ms.length ≤ 8 := by rw [← t.fst, List.length_map] at k8; omega
  have bp : ∀ p, p ∈ bsOf cs ms → 0 ≤ p.1 ∧ NOk p.1 ∧ p.2.Ok ∧ p.2.Rp := fun p hp => by
    have hp := (sorP_perm _).mem_iff.mp hp
    unfold dueL at hp
    obtain ⟨q, hq, rfl⟩ := List.mem_map.mp hp
    obtain ⟨a0, a1⟩ := t.ok q hq
    have qk : q.1 ∈ kept := by rw [← t.fst]; exact List.mem_map.mpr ⟨q, hq, rfl⟩
    obtain ⟨_, _, c1, c2, _⟩ := ce_ok hc (ks _ qk)
    exact ⟨a0, a1, movC_ok t.ok c1 c2⟩
  have bl : (bsOf cs ms).length = ms.length := by
    unfold bsOf
    rw [(sorP_perm _).length_eq]
    unfold dueL
    rw [List.length_map]
  have bu : Up ((bsOf cs ms).map (·.1)) := by
    refine sorP_up ?_
    unfold dueL
    rw [List.map_map]
    exact t.snd
  refine ⟨⟨cs_pr hc, fun p hp => (hc.2 p hp).1, ru, fun a ha => (hc.1.2.1 a (rs a ha)).1, by omega, ⟨by rw [t.fst]; exact ku, fun p hp => ?_, by omega⟩, fun p hp => (t.ok p hp).1, ⟨bu, fun p hp => (bp p hp).1, by omega⟩, fun p hp => (bp p hp).2.2.1⟩, by omega, fun p hp => ⟨(bp p hp).2.1, (bp p hp).2.2.2⟩⟩
  have qk : p.1 ∈ kept := by rw [← t.fst]; exact List.mem_map.mpr ⟨p, hp, rfl⟩
  exact (hc.1.2.1 _ (ks _ qk)).1
theorem erase_map {α β : Type} (f : α → β) : ∀ (xs : List α) (i : Nat), (xs.map f).eraseIdx i = (xs.eraseIdx i).map f
  | [], _ => rfl
  | x :: xs, 0 => rfl
  | x :: xs, i + 1 => by
    rw [List.map_cons, List.eraseIdx_cons_succ, List.eraseIdx_cons_succ, erase_map f xs i, List.map_cons]
theorem popI {H : MH} {q : Nat} {lf : List Int} {v : Int} (e : H[q]? = some (.lst (lf.map .int))) (h0 : 0 ≤ v) (h1 : v < lf.length) (hl : lf.length ≤ 1000) : ∃ b, lf[v.toNat]? = some b ∧ mPopAt (.ref q) [.int v] H = .ok (.int b) (H.set q (.lst ((lf.eraseIdx v.toNat).map .int))) := by
  have hv : v.toNat < lf.length := by omega
  refine ⟨lf[v.toNat], by simp [hv], ?_⟩
  unfold mPopAt
  simp only [e]
  rw [if_pos ⟨h0, by omega⟩]
  rw [List.getElem?_map, List.getElem?_eq_getElem hv]
  simp only [Option.map_some]
  rw [erase_map]
end
end My

set_option Elab.async false
set_option linter.all false
set_option maxRecDepth 100000
set_option maxHeartbeats 8000000
namespace My
open PySem L2 Sm
/-! ### _law_told -/
theorem putI_new {ms : List (Int × Int)} {a b : Int} (h : ¬ a ∈ ms.map (·.1)) : putDM (dctM MV.int ms) (.inl a) (.int b) = dctM MV.int (ms ++ [(a, b)]) := by
  unfold putDM
  rw [if_neg]
  · unfold dctM; rw [List.map_append]; rfl
  · intro z
    obtain ⟨kv, h1, h2⟩ := List.any_eq_true.mp z
    unfold dctM at h1
    obtain ⟨q, hq, rfl⟩ := List.mem_map.mp h1
    have := of_decide_eq_true h2
    simp only [Sum.inl.injEq] at this
    exact h (List.mem_map.mpr ⟨q, hq, this⟩)
theorem era_perm {α : Type} : ∀ {xs : List α} {i : Nat} {x : α}, xs[i]? = some x → (x :: xs.eraseIdx i).Perm xs
  | [], _, _, e => by simp at e
  | y :: ys, 0, x, e => by
    simp only [List.getElem?_cons_zero, Option.some.injEq] at e
    subst e
    exact List.Perm.refl _
  | y :: ys, i + 1, x, e => by
    rw [List.getElem?_cons_succ] at e
    rw [List.eraseIdx_cons_succ]
    exact (List.Perm.swap y x _).trans ((era_perm e).cons y)
/-- d[a] = b, where d and a stand in slots -/
theorem set_it {ρ : MS} {H : MH} {i j q : Nat} {a b : Int} {ms : List (Int × Int)} (e1 : ρ[i]? = some (some (.ref q))) (e2 : ρ[j]? = some (some (.int a))) (e3 : H[q]? = some (.dct (dctM MV.int ms))) (hl : ms.length ≤ 100) (hn : ¬ a ∈ ms.map (·.1)) :
    onlyN (gIt (eVar i) (eVar j) (.int b) ρ H) = .nx ρ (H.set q (.dct (dctM MV.int (ms ++ [(a, b)])))) := by
  have v1 : eVar i ρ H = .ok (.ref q) H := by simp only [eVar, e1]
  have v2 : eVar j ρ H = .ok (.int a) H := by simp only [eVar, e2]
  have l6 : (dctM MV.int ms).length < 1000000 := by unfold dctM; rw [List.length_map]; omega
  unfold gIt
  rw [v1, Res.st_ok, v2, Res.st_ok]
  unfold mSetJ
  dsimp only
  rw [e3]
  unfold setIO
  dsimp only
  unfold Sm.keyOf
  dsimp only
  rw [if_pos l6, putI_new hn]
  rfl
section
variable {l : List MV} {s : Ds} {m n r k : Nat} {g : MH} {cs : List (Int × Ce)} {roots kept : List Int}
theorem two_set {s : Ds} {g : MH} {o1 o2 o1' o2' : MO} : ((DH s (g ++ [o1, o2])).set (g.length + 6) o1').set (g.length + 7) o2' = DH s (g ++ [o1', o2']) := by
  have a1 := dh_set (s := s) (g := g) (g' := [o2]) (o := o1) (o' := o1')
  have a1 : (DH s (g ++ [o1, o2])).set (g.length + 6) o1' = DH s (g ++ [o1', o2]) := a1
  have a2 := dh_set (s := s) (g := g ++ [o1']) (g' := []) (o := o2) (o' := o2')
  rw [List.append_assoc, List.append_assoc] at a2
  have e6 : (g ++ [o1']).length + 6 = g.length + 7 := by simp
  rw [e6] at a2
  have a2 : (DH s (g ++ [o1', o2])).set (g.length + 7) o2' = DH s (g ++ [o1', o2']) := a2
  rw [a1, a2]
theorem two_at {s : Ds} {g : MH} {o1 o2 : MO} : (DH s (g ++ [o1, o2]))[g.length + 6]? = some o1 ∧ (DH s (g ++ [o1, o2]))[g.length + 7]? = some o2 := by
  constructor
  · rw [show g ++ [o1, o2] = (g ++ [o1]) ++ [o2] by simp]
    exact (At.new (g := g)).app.dh
  · have := dh_new (s := s) (g := g ++ [o1]) (o := o2)
    rw [List.append_assoc] at this
    simpa using this
theorem ltold_ok (hs : Good l s m) (hm : m < 500000) (hc : CsOk cs) (ru : Up roots) (rs : ∀ a, a ∈ roots → a ∈ cs.map (·.1)) (ku : Up kept) (ks : ∀ a, a ∈ kept → a ∈ cs.map (·.1)) {vc vr : MV} (an : ∀ s : Ds, CsV vc (DH s g) cs) (ar : ∀ (s : Ds) (ex : MH), mTuple [vr] (DH s g ++ ex) = .ok (.tup (roots.map .int)) (DH s g ++ ex)) (ak : At g k (.lst (kept.map .int))) :
    ∃ (ms : List (Int × Int)) (s' : Ds), Told cs kept ms ∧ Good l s' (m + 100) ∧ m_law_told [.ref 5, vc, vr, .ref k] (DH s g) = .ok (pap cs roots ms (bsOf cs ms)) (DH s' g) := by
  suffices W : Wp (m_law_told [.ref 5, vc, vr, .ref k] (DH s g)) fun v h => ∃ (ms : List (Int × Int)) (s' : Ds), Told cs kept ms ∧ Good l s' (m + 100) ∧ v = pap cs roots ms (bsOf cs ms) ∧ h = DH s' g by
    obtain ⟨v, h, e, ms, s', h1, h2, rfl, rfl⟩ := W.ex
    exact ⟨ms, s', h1, h2, e⟩
  have c8 : cs.length ≤ 8 := by have := hc.1.2.2; rwa [List.length_map] at this
  have k8 : kept.length ≤ 8 := by have := sub_len (up_nd ku) ks; rw [List.length_map] at this; omega
  obtain ⟨pl, s1, hp, pln, g1, e1⟩ := lplaces_ok (g := g) hs kept.length k8 (by omega)
  unfold m_law_told
  refine m_fun rfl ?_
  unfold b_law_told
  have lk : ((kept.map MV.int).length : Int) = (kept.length : Int) := by rw [List.length_map]
  have ap : ∀ x : MO, DH s1 (g ++ [.lst (pl.map .int)]) ++ [x] = DH s1 (g ++ [.lst (pl.map .int), x]) := fun x => by rw [dh_app, List.append_assoc]; rfl
  have len1 : (DH s1 (g ++ [.lst (pl.map .int)])).length = g.length + 7 := by rw [dh_len]; simp
  have hk : ∀ (t : Ds) (x : MH), (DH t (g ++ x))[k]? = some (.lst (kept.map .int)) := fun t x => ak.app.dh
  have hk0 := ak.dh (s := s)
  simp only [↓SX1, SX2, ↓SV1, SV2, List.getElem?_cons_zero, List.getElem?_cons_succ, List.set_cons_zero, List.set_cons_succ, List.map_cons, List.map_nil, List.cons_append, List.nil_append, List.append_nil, List.replicate_succ, List.replicate_zero, List.length_cons, List.length_nil, if_true, if_false, true_and, and_true, and_self, Nat.zero_add, Int.natCast_zero, i0, i1, i2, i3, i4, decide_true, decide_false, Bool.not_true, Bool.not_false, ofString_inj, gt_iff_lt, List.all_cons, List.all_nil, List.any_cons, List.any_nil, Bool.and_true, Bool.true_and, Bool.and_self, Bool.or_false, Bool.false_or, Bool.or_true, Bool.true_or, szOk, mNeg, wipeM, ↓reduceIte, Nat.reduceAdd, Nat.reduceSub, Nat.reduceLeDiff, Int.reduceLT, Int.reduceLE, Int.reduceNeg, Int.reduceAdd, Int.reduceSub, Int.reducePow, Int.reduceEq, Int.reduceLT, Int.reduceMod, Int.reduceDiv, Int.reduceMul, Int.reduceToNat, String.reduceEq, reduceCtorEq, hk0, lk, e1, len1, ap, hk]
  have pnd : pl.Nodup := up_nd hp.1
  refine s_for (fun xs ρ h => ∃ (ms : List (Int × Int)) (rest lf : List Int) (s2 : Ds) (y : Option MV), ρ = [some (.ref 5), some vc, some vr, some (.ref k), some (.ref (g.length + 6)), some (.ref (g.length + 7)), y, none, none] ∧ h = DH s2 (g ++ [.lst (lf.map .int), .dct (dctM .int ms)]) ∧ ms.map (·.1) ++ rest = kept ∧ xs = rest.map .int ∧ (ms.map (·.2) ++ lf).Perm pl ∧ Good l s2 (m + 16 + ms.length))
    (fun xs ρ h i => ?_) (fun x xs ρ h i => ?_) (fun ρ h i => ?_) _ _ _ ⟨[], kept, pl, s1, none, rfl, rfl, rfl, rfl, List.Perm.refl _, g1.up (by simp; omega)⟩
  · obtain ⟨ms, rest, lf, s2, y, rfl, rfl, _⟩ := i
    intro q hq
    simp only [List.mem_singleton] at hq
    subst hq
    exact hk _ _
  · obtain ⟨ms, rest, lf, s2, y, rfl, rfl, ek, ex, pm, gd⟩ := i
    cases rest with
    | nil => cases ex
    | cons a rest =>
      simp only [List.map_cons, List.cons.injEq] at ex
      obtain ⟨rfl, rfl⟩ := ex
      have kl : ms.length + (rest.length + 1) = kept.length := by
        have := congrArg List.length ek
        rw [List.length_append, List.length_map, List.length_cons] at this
        exact this
      have ll : ms.length + lf.length = pl.length := by
        have := pm.length_eq
        rw [List.length_append, List.length_map] at this
        exact this
      have lpos : 0 < lf.length := by omega
      have nin : ¬ a ∈ ms.map (·.1) := fun z => by
        have u := ku
        rw [← ek] at u
        have := (List.pairwise_append.mp u).2.2 a z a (by simp)
        omega
      obtain ⟨h4, h5⟩ := two_at (s := s2) (g := g) (o1 := .lst (lf.map .int)) (o2 := .dct (dctM .int ms))
      have lm : ((lf.map MV.int).length : Int) = (lf.length : Int) := by rw [List.length_map]
      obtain ⟨v, s3, v0, v1, g3, e3⟩ := next_ok gd (by omega) (k := (lf.length : Int)) (by omega) (by omega) (g ++ [.lst (lf.map .int), .dct (dctM .int ms)])
      obtain ⟨h6, h7⟩ := two_at (s := s3) (g := g) (o1 := .lst (lf.map .int)) (o2 := .dct (dctM .int ms))
      obtain ⟨b, eb, ep⟩ := popI h6 v0 v1 (by omega)
      have hv : v.toNat < lf.length := by omega
      have ty : tyOk "list" (.ref (g.length + 6)) (DH s2 (g ++ [.lst (lf.map .int), .dct (dctM .int ms)])) = true := by unfold tyOk; simp only [h4]; rfl
      refine ⟨_, rfl, ?_⟩
      simp only [↓SX1, SX2, ↓SV1, SV2, List.getElem?_cons_zero, List.getElem?_cons_succ, List.set_cons_zero, List.set_cons_succ, List.map_cons, List.map_nil, List.cons_append, List.nil_append, List.append_nil, List.replicate_succ, List.replicate_zero, List.length_cons, List.length_nil, if_true, if_false, true_and, and_true, and_self, Nat.zero_add, Int.natCast_zero, i0, i1, i2, i3, i4, decide_true, decide_false, Bool.not_true, Bool.not_false, ofString_inj, gt_iff_lt, List.all_cons, List.all_nil, List.any_cons, List.any_nil, Bool.and_true, Bool.true_and, Bool.and_self, Bool.or_false, Bool.false_or, Bool.or_true, Bool.true_or, szOk, mNeg, wipeM, ↓reduceIte, Nat.reduceAdd, Nat.reduceSub, Nat.reduceLeDiff, Int.reduceLT, Int.reduceLE, Int.reduceNeg, Int.reduceAdd, Int.reduceSub, Int.reducePow, Int.reduceEq, Int.reduceLT, Int.reduceMod, Int.reduceDiv, Int.reduceMul, Int.reduceToNat, String.reduceEq, reduceCtorEq, h4, lm, e3, ty, ep]
      rw [set_it (ms := ms) (a := a) (b := b) (q := g.length + 7) rfl rfl (by rw [List.getElem?_set_ne (by omega)]; exact h7) (by omega) nin, two_set]
      simp only [↓SX1, SX2, ↓SV1, SV2, List.getElem?_cons_zero, List.getElem?_cons_succ, List.set_cons_zero, List.set_cons_succ, List.map_cons, List.map_nil, List.cons_append, List.nil_append, List.append_nil, List.replicate_succ, List.replicate_zero, List.length_cons, List.length_nil, if_true, if_false, true_and, and_true, and_self, Nat.zero_add, Int.natCast_zero, i0, i1, i2, i3, i4, decide_true, decide_false, Bool.not_true, Bool.not_false, ofString_inj, gt_iff_lt, List.all_cons, List.all_nil, List.any_cons, List.any_nil, Bool.and_true, Bool.true_and, Bool.and_self, Bool.or_false, Bool.false_or, Bool.or_true, Bool.true_or, szOk, mNeg, wipeM, ↓reduceIte, Nat.reduceAdd, Nat.reduceSub, Nat.reduceLeDiff, Int.reduceLT, Int.reduceLE, Int.reduceNeg, Int.reduceAdd, Int.reduceSub, Int.reducePow, Int.reduceEq, Int.reduceLT, Int.reduceMod, Int.reduceDiv, Int.reduceMul, Int.reduceToNat, String.reduceEq, reduceCtorEq]
      refine ⟨ms ++ [(a, b)], rest, lf.eraseIdx v.toNat, s3, _, rfl, rfl, by rw [← ek]; simp, rfl, ?_, by rw [List.length_append, List.length_singleton]; exact g3.up (by omega)⟩
      refine List.Perm.trans ?_ pm
      rw [List.map_append, List.append_assoc]
      refine List.Perm.append_left _ ?_
      show (b :: lf.eraseIdx v.toNat).Perm lf
      exact era_perm eb
  · obtain ⟨ms, rest, lf, s2, y, rfl, rfl, ek, ex, pm, gd⟩ := i
    have : rest = [] := by cases rest with | nil => rfl | cons _ _ => cases ex
    subst this
    rw [List.append_nil] at ek
    have ml : ms.length = kept.length := by rw [← ek, List.length_map]
    have lf0 : lf = [] := by
      have := pm.length_eq
      rw [List.length_append, List.length_map] at this
      exact List.length_eq_zero_iff.mp (by omega)
    subst lf0
    rw [List.append_nil] at pm
    have told : Told cs kept ms := ⟨ek, pm.nodup_iff.mpr pnd, fun p hp' => by
      have := hp.2.1 p.2 (pm.mem_iff.mp (List.mem_map.mpr ⟨p, hp', rfl⟩))
      exact this⟩
    have mnd : (ms.map (·.1)).Nodup := by rw [ek]; exact up_nd ku
    have mk : ∀ p, p ∈ ms → p.1 ∈ cs.map (·.1) := fun p hp' => ks _ (by rw [← ek]; exact List.mem_map.mpr ⟨p, hp', rfl⟩)
    obtain ⟨H0, hH0⟩ : ∃ H0, H0 = DH s2 (g ++ [.lst (([] : List Int).map .int), .dct (dctM .int ms)]) := ⟨_, rfl⟩
    have h5 : H0[g.length + 7]? = some (.dct (dctM .int ms)) := by rw [hH0]; exact two_at.2
    have hk0 : H0[k]? = some (.lst (ms.map fun p => MV.int p.1)) := by
      rw [hH0, hk, ← ek, List.map_map]; rfl
    have hn0 : CsV vc H0 cs := by rw [hH0, ← dh_app]; exact (an s2).app
    have ht0 : H0[1]? = some (.tab q_law_told) := by rw [hH0]; exact dh1
    rw [← hH0]
    simp only [↓SX1, SX2, ↓SV1, SV2, List.getElem?_cons_zero, List.getElem?_cons_succ, List.set_cons_zero, List.set_cons_succ, List.map_cons, List.map_nil, List.cons_append, List.nil_append, List.append_nil, List.replicate_succ, List.replicate_zero, List.length_cons, List.length_nil, if_true, if_false, true_and, and_true, and_self, Nat.zero_add, Int.natCast_zero, i0, i1, i2, i3, i4, decide_true, decide_false, Bool.not_true, Bool.not_false, ofString_inj, gt_iff_lt, List.all_cons, List.all_nil, List.any_cons, List.any_nil, Bool.and_true, Bool.true_and, Bool.and_self, Bool.or_false, Bool.false_or, Bool.or_true, Bool.true_or, szOk, mNeg, wipeM, ↓reduceIte, Nat.reduceAdd, Nat.reduceSub, Nat.reduceLeDiff, Int.reduceLT, Int.reduceLE, Int.reduceNeg, Int.reduceAdd, Int.reduceSub, Int.reducePow, Int.reduceEq, Int.reduceLT, Int.reduceMod, Int.reduceDiv, Int.reduceMul, Int.reduceToNat, String.reduceEq, reduceCtorEq, hk0]
    refine ⟨by rw [List.length_map]; omega, ?_⟩
    refine s_compE (us := ms) (vf := fun (p : Int × Int) => MV.int p.1) (ef := fun (p : Int × Int) => .tup [.int p.2, (movC ms (ceOf cs p.1)).mv]) ?_ (fun p hp' => ⟨_, rfl, ?_⟩) ?_
    · intro q hq
      simp only [List.mem_singleton] at hq
      subst hq
      exact hk0
    · obtain ⟨c1, c2, _⟩ := ce_ok hc (mk p hp')
      have l1 := look_nd mnd p hp'
      have mo := lmcell_ok c2 h5
      have ix := hn0.ix (mk p hp')
      exact Gd.eq (by simp only [↓SX1, SX2, ↓SV1, SV2, List.getElem?_cons_zero, List.getElem?_cons_succ, List.set_cons_zero, List.set_cons_succ, List.map_cons, List.map_nil, List.cons_append, List.nil_append, List.append_nil, List.replicate_succ, List.replicate_zero, List.length_cons, List.length_nil, if_true, if_false, true_and, and_true, and_self, Nat.zero_add, Int.natCast_zero, i0, i1, i2, i3, i4, decide_true, decide_false, Bool.not_true, Bool.not_false, ofString_inj, gt_iff_lt, List.all_cons, List.all_nil, List.any_cons, List.any_nil, Bool.and_true, Bool.true_and, Bool.and_self, Bool.or_false, Bool.false_or, Bool.or_true, Bool.true_or, szOk, mNeg, wipeM, ↓reduceIte, Nat.reduceAdd, Nat.reduceSub, Nat.reduceLeDiff, Int.reduceLT, Int.reduceLE, Int.reduceNeg, Int.reduceAdd, Int.reduceSub, Int.reducePow, Int.reduceEq, Int.reduceLT, Int.reduceMod, Int.reduceDiv, Int.reduceMul, Int.reduceToNat, String.reduceEq, reduceCtorEq, h5, val_dct, l1, Option.map_some, ix, mo]; exact ⟨rfl, rfl⟩)
    have ed : (ms.map fun p => MV.tup [.int p.2, (movC ms (ceOf cs p.1)).mv]) = prs Ce.mv (dueL cs ms) := by unfold prs dueL; rw [List.map_map]; rfl
    rw [ed]
    -- the cells made behind
    obtain ⟨H1, hH1⟩ : ∃ H1, H1 = H0 ++ [MO.lst (prs Ce.mv (dueL cs ms))] := ⟨_, rfl⟩
    obtain ⟨H2, hH2⟩ : ∃ H2, H2 = H1 ++ [MO.lst (prs Ce.mv (bsOf cs ms))] := ⟨_, rfl⟩
    obtain ⟨H3, hH3⟩ : ∃ H3, H3 = H2 ++ [MO.lst ((cs.map (·.1)).map MV.int)] := ⟨_, rfl⟩
    obtain ⟨H4, hH4⟩ : ∃ H4, H4 = H3 ++ [MO.lst ((cs.map (·.1)).map MV.int)] := ⟨_, rfl⟩
    have so := sortk_ok (H := H1) (f := Ce.mv) (l := dueL cs ms) (n := H0.length) (i := 1) (q := q_law_told) (by rw [hH1]; exact gnew) (by rw [hH1]; exact gap ht0)
    rw [sortk_prs, show sorP (dueL cs ms) = bsOf cs ms from rfl, ← hH2] at so
    have hn2 : CsV vc H2 cs := by rw [hH2, hH1]; exact hn0.app.app
    have kn2 := hn2.ks
    have so2 := sorted_ok (H := H3) (n := H2.length) (fs := cs.map (·.1)) (by rw [hH3]; exact gnew) (by rw [List.length_map]; omega)
    rw [sorI_id hc.1.1, ← hH4] at so2
    have em : (cs.map (·.1)).map MV.int = cs.map fun p => MV.int p.1 := by rw [List.map_map]; rfl
    have h4 : H4[H3.length]? = some (.lst (cs.map fun p => MV.int p.1)) := by rw [hH4, em]; exact gnew
    have hn4 : CsV vc H4 cs := by rw [hH4, hH3]; exact hn2.app.app
    have e3 : (ksM cs).map kM = (cs.map (·.1)).map MV.int := kM_ks cs
    have tab1 : mTupX [.ref H4.length] (H4 ++ [MO.lst (prs Ce.mv cs)]) = .ok (.tux (prs Ce.mv cs)) (H4 ++ [MO.lst (prs Ce.mv cs)]) := mTupX_r gnew
    obtain ⟨H5, hH5⟩ : ∃ H5, H5 = H4 ++ [MO.lst (prs Ce.mv cs)] := ⟨_, rfl⟩
    rw [← hH5] at tab1
    simp only [↓SX1, SX2, ↓SV1, SV2, List.getElem?_cons_zero, List.getElem?_cons_succ, List.set_cons_zero, List.set_cons_succ, List.map_cons, List.map_nil, List.cons_append, List.nil_append, List.append_nil, List.replicate_succ, List.replicate_zero, List.length_cons, List.length_nil, if_true, if_false, true_and, and_true, and_self, Nat.zero_add, Int.natCast_zero, i0, i1, i2, i3, i4, decide_true, decide_false, Bool.not_true, Bool.not_false, ofString_inj, gt_iff_lt, List.all_cons, List.all_nil, List.any_cons, List.any_nil, Bool.and_true, Bool.true_and, Bool.and_self, Bool.or_false, Bool.false_or, Bool.or_true, Bool.true_or, szOk, mNeg, wipeM, ↓reduceIte, Nat.reduceAdd, Nat.reduceSub, Nat.reduceLeDiff, Int.reduceLT, Int.reduceLE, Int.reduceNeg, Int.reduceAdd, Int.reduceSub, Int.reducePow, Int.reduceEq, Int.reduceLT, Int.reduceMod, Int.reduceDiv, Int.reduceMul, Int.reduceToNat, String.reduceEq, reduceCtorEq, ← hH1]
    simp only [↓SX1, SX2, ↓SV1, SV2, List.getElem?_cons_zero, List.getElem?_cons_succ, List.set_cons_zero, List.set_cons_succ, List.map_cons, List.map_nil, List.cons_append, List.nil_append, List.append_nil, List.replicate_succ, List.replicate_zero, List.length_cons, List.length_nil, if_true, if_false, true_and, and_true, and_self, Nat.zero_add, Int.natCast_zero, i0, i1, i2, i3, i4, decide_true, decide_false, Bool.not_true, Bool.not_false, ofString_inj, gt_iff_lt, List.all_cons, List.all_nil, List.any_cons, List.any_nil, Bool.and_true, Bool.true_and, Bool.and_self, Bool.or_false, Bool.false_or, Bool.or_true, Bool.true_or, szOk, mNeg, wipeM, ↓reduceIte, Nat.reduceAdd, Nat.reduceSub, Nat.reduceLeDiff, Int.reduceLT, Int.reduceLE, Int.reduceNeg, Int.reduceAdd, Int.reduceSub, Int.reducePow, Int.reduceEq, Int.reduceLT, Int.reduceMod, Int.reduceDiv, Int.reduceMul, Int.reduceToNat, String.reduceEq, reduceCtorEq, so, kn2, e3, ← hH3, so2, h4]
    refine ⟨by rw [List.length_map]; omega, ?_⟩
    refine s_compE (us := cs) (vf := fun (p : Int × Ce) => MV.int p.1) (ef := fun (p : Int × Ce) => .tup [.int p.1, p.2.mv]) ?_ (fun p hp' => ⟨_, rfl, ?_⟩) ?_
    · intro q hq
      simp only [List.mem_singleton] at hq
      subst hq
      exact h4
    · have ix := hn4.ix (List.mem_map.mpr ⟨p, hp', rfl⟩)
      have ec : ceOf cs p.1 = p.2 := by unfold ceOf; rw [look_nd (up_nd hc.1.1) p hp']; rfl
      rw [ec] at ix
      exact Gd.eq (by simp only [↓SX1, SX2, ↓SV1, SV2, List.getElem?_cons_zero, List.getElem?_cons_succ, List.set_cons_zero, List.set_cons_succ, List.map_cons, List.map_nil, List.cons_append, List.nil_append, List.append_nil, List.replicate_succ, List.replicate_zero, List.length_cons, List.length_nil, if_true, if_false, true_and, and_true, and_self, Nat.zero_add, Int.natCast_zero, i0, i1, i2, i3, i4, decide_true, decide_false, Bool.not_true, Bool.not_false, ofString_inj, gt_iff_lt, List.all_cons, List.all_nil, List.any_cons, List.any_nil, Bool.and_true, Bool.true_and, Bool.and_self, Bool.or_false, Bool.false_or, Bool.or_true, Bool.true_or, szOk, mNeg, wipeM, ↓reduceIte, Nat.reduceAdd, Nat.reduceSub, Nat.reduceLeDiff, Int.reduceLT, Int.reduceLE, Int.reduceNeg, Int.reduceAdd, Int.reduceSub, Int.reducePow, Int.reduceEq, Int.reduceLT, Int.reduceMod, Int.reduceDiv, Int.reduceMul, Int.reduceToNat, String.reduceEq, reduceCtorEq, ix]; exact ⟨rfl, rfl⟩)
    have ed2 : (cs.map fun p => MV.tup [.int p.1, p.2.mv]) = prs Ce.mv cs := rfl
    rw [ed2]
    have hk5 : H5[k]? = some (.lst (ms.map fun p => MV.int p.1)) := by rw [hH5, hH4, hH3, hH2, hH1]; exact gap (gap (gap (gap (gap hk0))))
    have h55 : H5[g.length + 7]? = some (.dct (dctM .int ms)) := by rw [hH5, hH4, hH3, hH2, hH1]; exact gap (gap (gap (gap (gap h5))))
    have tu1 : mTuple [vr] H5 = .ok (.tup (roots.map .int)) H5 := by
      rw [hH5, hH4, hH3, hH2, hH1, hH0, ← dh_app]
      simp only [List.append_assoc]
      exact ar s2 _
    simp only [↓SX1, SX2, ↓SV1, SV2, List.getElem?_cons_zero, List.getElem?_cons_succ, List.set_cons_zero, List.set_cons_succ, List.map_cons, List.map_nil, List.cons_append, List.nil_append, List.append_nil, List.replicate_succ, List.replicate_zero, List.length_cons, List.length_nil, if_true, if_false, true_and, and_true, and_self, Nat.zero_add, Int.natCast_zero, i0, i1, i2, i3, i4, decide_true, decide_false, Bool.not_true, Bool.not_false, ofString_inj, gt_iff_lt, List.all_cons, List.all_nil, List.any_cons, List.any_nil, Bool.and_true, Bool.true_and, Bool.and_self, Bool.or_false, Bool.false_or, Bool.or_true, Bool.true_or, szOk, mNeg, wipeM, ↓reduceIte, Nat.reduceAdd, Nat.reduceSub, Nat.reduceLeDiff, Int.reduceLT, Int.reduceLE, Int.reduceNeg, Int.reduceAdd, Int.reduceSub, Int.reducePow, Int.reduceEq, Int.reduceLT, Int.reduceMod, Int.reduceDiv, Int.reduceMul, Int.reduceToNat, String.reduceEq, reduceCtorEq, ← hH5]
    simp only [↓SX1, SX2, ↓SV1, SV2, List.getElem?_cons_zero, List.getElem?_cons_succ, List.set_cons_zero, List.set_cons_succ, List.map_cons, List.map_nil, List.cons_append, List.nil_append, List.append_nil, List.replicate_succ, List.replicate_zero, List.length_cons, List.length_nil, if_true, if_false, true_and, and_true, and_self, Nat.zero_add, Int.natCast_zero, i0, i1, i2, i3, i4, decide_true, decide_false, Bool.not_true, Bool.not_false, ofString_inj, gt_iff_lt, List.all_cons, List.all_nil, List.any_cons, List.any_nil, Bool.and_true, Bool.true_and, Bool.and_self, Bool.or_false, Bool.false_or, Bool.or_true, Bool.true_or, szOk, mNeg, wipeM, ↓reduceIte, Nat.reduceAdd, Nat.reduceSub, Nat.reduceLeDiff, Int.reduceLT, Int.reduceLE, Int.reduceNeg, Int.reduceAdd, Int.reduceSub, Int.reducePow, Int.reduceEq, Int.reduceLT, Int.reduceMod, Int.reduceDiv, Int.reduceMul, Int.reduceToNat, String.reduceEq, reduceCtorEq, tab1, tu1, hk5]
    refine ⟨by rw [List.length_map]; omega, ?_⟩
    refine s_compE (us := ms) (vf := fun (p : Int × Int) => MV.int p.1) (ef := fun (p : Int × Int) => .tup [.int p.1, .int p.2]) ?_ (fun p hp' => ⟨_, rfl, ?_⟩) ?_
    · intro q hq
      simp only [List.mem_singleton] at hq
      subst hq
      exact hk5
    · have l1 := look_nd mnd p hp'
      exact Gd.eq (by simp only [↓SX1, SX2, ↓SV1, SV2, List.getElem?_cons_zero, List.getElem?_cons_succ, List.set_cons_zero, List.set_cons_succ, List.map_cons, List.map_nil, List.cons_append, List.nil_append, List.append_nil, List.replicate_succ, List.replicate_zero, List.length_cons, List.length_nil, if_true, if_false, true_and, and_true, and_self, Nat.zero_add, Int.natCast_zero, i0, i1, i2, i3, i4, decide_true, decide_false, Bool.not_true, Bool.not_false, ofString_inj, gt_iff_lt, List.all_cons, List.all_nil, List.any_cons, List.any_nil, Bool.and_true, Bool.true_and, Bool.and_self, Bool.or_false, Bool.false_or, Bool.or_true, Bool.true_or, szOk, mNeg, wipeM, ↓reduceIte, Nat.reduceAdd, Nat.reduceSub, Nat.reduceLeDiff, Int.reduceLT, Int.reduceLE, Int.reduceNeg, Int.reduceAdd, Int.reduceSub, Int.reducePow, Int.reduceEq, Int.reduceLT, Int.reduceMod, Int.reduceDiv, Int.reduceMul, Int.reduceToNat, String.reduceEq, reduceCtorEq, h55, val_dct, l1, Option.map_some]; exact ⟨rfl, rfl⟩)
    have ed3 : (ms.map fun p => MV.tup [.int p.1, .int p.2]) = prs MV.int ms := rfl
    rw [ed3]
    obtain ⟨H6, hH6⟩ : ∃ H6, H6 = H5 ++ [MO.lst (prs MV.int ms)] := ⟨_, rfl⟩
    have tab2 : mTupX [.ref H5.length] H6 = .ok (.tux (prs MV.int ms)) H6 := mTupX_r (by rw [hH6]; exact gnew)
    have tu2 : mTuple [.ref H1.length] H6 = .ok (.tup (prs Ce.mv (bsOf cs ms))) H6 := mTuple_r (by rw [hH6, hH5, hH4, hH3, hH2]; exact gap (gap (gap (gap gnew))))
    simp only [↓SX1, SX2, ↓SV1, SV2, List.getElem?_cons_zero, List.getElem?_cons_succ, List.set_cons_zero, List.set_cons_succ, List.map_cons, List.map_nil, List.cons_append, List.nil_append, List.append_nil, List.replicate_succ, List.replicate_zero, List.length_cons, List.length_nil, if_true, if_false, true_and, and_true, and_self, Nat.zero_add, Int.natCast_zero, i0, i1, i2, i3, i4, decide_true, decide_false, Bool.not_true, Bool.not_false, ofString_inj, gt_iff_lt, List.all_cons, List.all_nil, List.any_cons, List.any_nil, Bool.and_true, Bool.true_and, Bool.and_self, Bool.or_false, Bool.false_or, Bool.or_true, Bool.true_or, szOk, mNeg, wipeM, ↓reduceIte, Nat.reduceAdd, Nat.reduceSub, Nat.reduceLeDiff, Int.reduceLT, Int.reduceLE, Int.reduceNeg, Int.reduceAdd, Int.reduceSub, Int.reducePow, Int.reduceEq, Int.reduceLT, Int.reduceMod, Int.reduceDiv, Int.reduceMul, Int.reduceToNat, String.reduceEq, reduceCtorEq, ← hH6]
    simp only [↓SX1, SX2, ↓SV1, SV2, List.getElem?_cons_zero, List.getElem?_cons_succ, List.set_cons_zero, List.set_cons_succ, List.map_cons, List.map_nil, List.cons_append, List.nil_append, List.append_nil, List.replicate_succ, List.replicate_zero, List.length_cons, List.length_nil, if_true, if_false, true_and, and_true, and_self, Nat.zero_add, Int.natCast_zero, i0, i1, i2, i3, i4, decide_true, decide_false, Bool.not_true, Bool.not_false, ofString_inj, gt_iff_lt, List.all_cons, List.all_nil, List.any_cons, List.any_nil, Bool.and_true, Bool.true_and, Bool.and_self, Bool.or_false, Bool.false_or, Bool.or_true, Bool.true_or, szOk, mNeg, wipeM, ↓reduceIte, Nat.reduceAdd, Nat.reduceSub, Nat.reduceLeDiff, Int.reduceLT, Int.reduceLE, Int.reduceNeg, Int.reduceAdd, Int.reduceSub, Int.reducePow, Int.reduceEq, Int.reduceLT, Int.reduceMod, Int.reduceDiv, Int.reduceMul, Int.reduceToNat, String.reduceEq, reduceCtorEq, tab2, tu2]
    refine ⟨ms, s2, told, gd.up (by omega), rfl, ?_⟩
    have pb : bel (g.length + 6) (pap cs roots ms (bsOf cs ms)) = true := by
      have b1 : ∀ cs : List (Int × Ce), bels (g.length + 6) (prs Ce.mv cs) = true := fun cs => by
        unfold prs
        induction cs with
        | nil => simp [bels]
        | cons p cs ih => simp only [List.map_cons, bels, bel, ih, c_bel, Bool.and_self]
      have b2 : ∀ ms : List (Int × Int), bels (g.length + 6) (prs MV.int ms) = true := fun ms => by
        unfold prs
        induction ms with
        | nil => simp [bels]
        | cons p cs ih => simp only [List.map_cons, bels, bel, ih, Bool.and_self]
      simp only [pap, bel, bels, b1, b2, ints_bel, Bool.and_self]
    rw [hH6, hH5, hH4, hH3, hH2, hH1, hH0]
    have := gc_gd (g := g) (j := [.lst (([] : List Int).map .int), .dct (dctM .int ms), MO.lst (prs Ce.mv (dueL cs ms)), MO.lst (prs Ce.mv (bsOf cs ms)), MO.lst ((cs.map (·.1)).map MV.int), MO.lst ((cs.map (·.1)).map MV.int), MO.lst (prs Ce.mv cs), MO.lst (prs MV.int ms)]) pb hs gd
    rw [← this]
    congr 1
    simp only [dh_app, List.append_assoc, List.cons_append, List.nil_append]
end
end My

set_option Elab.async false
set_option linter.all false
set_option maxRecDepth 100000
set_option maxHeartbeats 8000000
namespace My
open PySem L2 Sm
/-! ### the deck is made; closed or not -/
theorem pow18 (h : MH) : mPow (.int 10) (.int 18) h = .ok (.int 1000000000000000000) h := by
  unfold mPow
  dsimp only
  rw [if_pos ⟨by decide, by decide, low (by decide) (by decide)⟩]
  rfl
theorem mLen_scr {xs : List MV} {h : MH} : mLen [.scr xs] h = .ok (.int xs.length) h := rfl
def HPq (a b : Str) (ds cs : List Int) (sl : List MV) : MH := [.tab a, .tab b, .lst (ds.map .int), .lst (cs.map .int), .lst sl]
theorem hp_app2 {a b : Str} {ds cs : List Int} {sl : List MV} {i : Int} (h : ds.length < 1000000) : mAppend (.ref 2) [.int i] (HPq a b ds cs sl) = .ok .non (HPq a b (ds ++ [i]) cs sl) := by
  unfold mAppend HPq
  simp [h]
theorem hp_app3 {a b : Str} {ds cs : List Int} {sl : List MV} {i : Int} (h : cs.length < 1000000) : mAppend (.ref 3) [.int i] (HPq a b ds cs sl) = .ok .non (HPq a b ds (cs ++ [i]) sl) := by
  unfold mAppend HPq
  simp [h]
theorem hp_ty {a b : Str} {ds cs : List Int} {sl : List MV} : tyOk "list" (.ref 2) (HPq a b ds cs sl) = true ∧ tyOk "list" (.ref 3) (HPq a b ds cs sl) = true := ⟨rfl, rfl⟩
theorem mAbs_i {i : Int} {h : MH} : mAbs [.int i] h = .ok (.int (if i < 0 then -i else i)) h := rfl
theorem deck_ok (ns : List Int) (hn : ns.length ≤ 63) : ∃ (s : Ds), Good s.sl s 0 ∧ m_law_deck [.scr (ns.map .int)] [.tab q_sweep_stands, .tab q_law_told] = .ok (.ref 5) (DH s []) := by
  suffices W : Wp (m_law_deck [.scr (ns.map .int)] [.tab q_sweep_stands, .tab q_law_told]) fun v h => ∃ (s : Ds), Good s.sl s 0 ∧ v = .ref 5 ∧ h = DH s [] by
    obtain ⟨v, h, e, s, h1, rfl, rfl⟩ := W.ex
    exact ⟨s, h1, e⟩
  unfold m_law_deck
  refine m_fun rfl ?_
  unfold b_law_deck
  obtain ⟨xs, hxs⟩ : ∃ xs : List Int, cutM (ns.map MV.int) none (some 63) = xs.map MV.int := ⟨cutM ns none (some 63), by simp [cutM, List.map_take, List.map_drop]⟩
  have few : xs.length ≤ 63 := by
    have : (cutM (ns.map MV.int) none (some 63)).length ≤ 63 := by
      unfold cutM HT.sIx
      simp
      omega
    rw [hxs] at this
    simpa using this
  have lnn : ((ns.map MV.int).length : Int) = (ns.length : Int) := by rw [List.length_map]
  generalize hq1 : q_sweep_stands = qa
  generalize hq2 : q_law_told = qb
  have fold : ([.tab qa, .tab qb, .lst [], .lst [.int (ns.length : Int)], .lst (xs.map .int)] : MH) = HPq qa qb [] [(ns.length : Int)] (xs.map .int) := rfl
  simp only [↓SX1, SX2, ↓SV1, SV2, List.getElem?_cons_zero, List.getElem?_cons_succ, List.set_cons_zero, List.set_cons_succ, List.map_cons, List.map_nil, List.cons_append, List.nil_append, List.append_nil, List.replicate_succ, List.replicate_zero, List.length_cons, List.length_nil, if_true, if_false, true_and, and_true, and_self, Nat.zero_add, Int.natCast_zero, i0, i1, i2, i3, i4, decide_true, decide_false, Bool.not_true, Bool.not_false, ofString_inj, gt_iff_lt, List.all_cons, List.all_nil, List.any_cons, List.any_nil, Bool.and_true, Bool.true_and, Bool.and_self, Bool.or_false, Bool.false_or, Bool.or_true, Bool.true_or, szOk, mNeg, wipeM, ↓reduceIte, Nat.reduceAdd, Nat.reduceSub, Nat.reduceLeDiff, Int.reduceLT, Int.reduceLE, Int.reduceNeg, Int.reduceAdd, Int.reduceSub, Int.reducePow, Int.reduceEq, Int.reduceLT, Int.reduceMod, Int.reduceDiv, Int.reduceMul, Int.reduceToNat, String.reduceEq, reduceCtorEq, mLen_scr, lnn, mSl_scr, hxs]
  rw [fold]
  refine s_for (fun us ρ h => ∃ (ds cs ts : List Int) (y3 y4 : Option MV), ρ = [some (.scr (ns.map .int)), some (.ref 2), some (.ref 3), y3, y4] ∧ h = HPq qa qb ds cs (xs.map .int) ∧ us = ts.map .int ∧ cs ≠ [] ∧ (∀ x, x ∈ cs → 0 ≤ x ∧ x < 2147483648) ∧ (∀ x, x ∈ ds → 0 ≤ x) ∧ ds.length + 400 * ts.length ≤ 25200 ∧ cs.length + ts.length ≤ 64)
    (fun us ρ h i => ?_) (fun x us ρ h i => ?_) (fun ρ h i => ?_) _ _ _ ⟨[], [(ns.length : Int)], xs, none, none, rfl, rfl, rfl, by simp, fun x hx => by simp only [List.mem_singleton] at hx; subst hx; omega, (fun x hx => by cases hx), by simp; omega, by simp; omega⟩
  · obtain ⟨ds, cs, ts, y3, y4, rfl, rfl, _⟩ := i
    intro q hq
    simp only [List.mem_singleton] at hq
    subst hq
    rfl
  · obtain ⟨ds, cs, ts, y3, y4, rfl, rfl, eu, hne, hcb, hdb, hl, hl2⟩ := i
    cases ts with
    | nil => cases eu
    | cons t ts =>
      simp only [List.map_cons, List.cons.injEq] at eu
      obtain ⟨rfl, rfl⟩ := eu
      rw [List.length_cons] at hl hl2
      refine ⟨_, rfl, ?_⟩
      obtain ⟨a, ha⟩ : ∃ a : Int, a = if t < 0 then -t else t := ⟨_, rfl⟩
      have a0 : 0 ≤ a := by rw [ha]; split <;> omega
      have b0 : 0 ≤ a % 2147483629 := Int.emod_nonneg _ (by decide)
      have b1 : a % 2147483629 < 2147483629 := Int.emod_lt_of_pos _ (by decide)
      have ap := hp_app3 (a := qa) (b := qb) (ds := ds) (cs := cs) (sl := xs.map MV.int) (i := a % 2147483629) (by omega)
      have ty := (hp_ty (a := qa) (b := qb) (ds := ds) (cs := cs) (sl := xs.map MV.int)).2
      have hcb' : ∀ x, x ∈ cs ++ [a % 2147483629] → 0 ≤ x ∧ x < 2147483648 := fun x hx => by
        rcases List.mem_append.mp hx with q | q
        · exact hcb x q
        · simp only [List.mem_singleton] at q; subst q; omega
      have c1 : (cs ++ [a % 2147483629]).length + ts.length ≤ 64 := by rw [List.length_append, List.length_singleton]; omega
      by_cases big : 1000000000000000000 ≤ a
      · simp only [↓SX1, SX2, ↓SV1, SV2, List.getElem?_cons_zero, List.getElem?_cons_succ, List.set_cons_zero, List.set_cons_succ, List.map_cons, List.map_nil, List.cons_append, List.nil_append, List.append_nil, List.replicate_succ, List.replicate_zero, List.length_cons, List.length_nil, if_true, if_false, true_and, and_true, and_self, Nat.zero_add, Int.natCast_zero, i0, i1, i2, i3, i4, decide_true, decide_false, Bool.not_true, Bool.not_false, ofString_inj, gt_iff_lt, List.all_cons, List.all_nil, List.any_cons, List.any_nil, Bool.and_true, Bool.true_and, Bool.and_self, Bool.or_false, Bool.false_or, Bool.or_true, Bool.true_or, szOk, mNeg, wipeM, ↓reduceIte, Nat.reduceAdd, Nat.reduceSub, Nat.reduceLeDiff, Int.reduceLT, Int.reduceLE, Int.reduceNeg, Int.reduceAdd, Int.reduceSub, Int.reducePow, Int.reduceEq, Int.reduceLT, Int.reduceMod, Int.reduceDiv, Int.reduceMul, Int.reduceToNat, String.reduceEq, reduceCtorEq, mAbs_i, ← ha, ty, ap, pow18, big]
        refine s_for (fun us ρ h => ∃ (ds : List Int) (c : Int) (y4 : Option MV), ρ = [some (.scr (ns.map .int)), some (.ref 2), some (.ref 3), some (.int c), y4] ∧ h = HPq qa qb ds (cs ++ [a % 2147483629]) (xs.map .int) ∧ (∀ x, x ∈ ds → 0 ≤ x) ∧ 0 ≤ c ∧ ds.length + us.length + 400 * ts.length ≤ 25200)
          (fun us ρ h i => by simp) (fun x us ρ h i => ?_) (fun ρ h i => ?_) _ _ _ ⟨ds, a, _, rfl, rfl, hdb, a0, by simp [intR]; omega⟩
        · obtain ⟨ds, c, y4, rfl, rfl, hdb, c0, hl⟩ := i
          rw [List.length_cons] at hl
          refine ⟨_, rfl, ?_⟩
          by_cases pos : 0 < c
          · have ap2 := hp_app2 (a := qa) (b := qb) (ds := ds) (cs := cs ++ [a % 2147483629]) (sl := xs.map MV.int) (i := c % 1000) (by omega)
            have ty2 := (hp_ty (a := qa) (b := qb) (ds := ds) (cs := cs ++ [a % 2147483629]) (sl := xs.map MV.int)).1
            simp only [↓SX1, SX2, ↓SV1, SV2, List.getElem?_cons_zero, List.getElem?_cons_succ, List.set_cons_zero, List.set_cons_succ, List.map_cons, List.map_nil, List.cons_append, List.nil_append, List.append_nil, List.replicate_succ, List.replicate_zero, List.length_cons, List.length_nil, if_true, if_false, true_and, and_true, and_self, Nat.zero_add, Int.natCast_zero, i0, i1, i2, i3, i4, decide_true, decide_false, Bool.not_true, Bool.not_false, ofString_inj, gt_iff_lt, List.all_cons, List.all_nil, List.any_cons, List.any_nil, Bool.and_true, Bool.true_and, Bool.and_self, Bool.or_false, Bool.false_or, Bool.or_true, Bool.true_or, szOk, mNeg, wipeM, ↓reduceIte, Nat.reduceAdd, Nat.reduceSub, Nat.reduceLeDiff, Int.reduceLT, Int.reduceLE, Int.reduceNeg, Int.reduceAdd, Int.reduceSub, Int.reducePow, Int.reduceEq, Int.reduceLT, Int.reduceMod, Int.reduceDiv, Int.reduceMul, Int.reduceToNat, String.reduceEq, reduceCtorEq, pos, ty2, ap2]
            refine ⟨ds ++ [c % 1000], c / 1000, _, rfl, rfl, fun x hx => ?_, Int.ediv_nonneg c0 (by decide), by rw [List.length_append, List.length_singleton]; omega⟩
            rcases List.mem_append.mp hx with q | q
            · exact hdb x q
            · simp only [List.mem_singleton] at q; subst q; exact Int.emod_nonneg _ (by decide)
          · simp only [↓SX1, SX2, ↓SV1, SV2, List.getElem?_cons_zero, List.getElem?_cons_succ, List.set_cons_zero, List.set_cons_succ, List.map_cons, List.map_nil, List.cons_append, List.nil_append, List.append_nil, List.replicate_succ, List.replicate_zero, List.length_cons, List.length_nil, if_true, if_false, true_and, and_true, and_self, Nat.zero_add, Int.natCast_zero, i0, i1, i2, i3, i4, decide_true, decide_false, Bool.not_true, Bool.not_false, ofString_inj, gt_iff_lt, List.all_cons, List.all_nil, List.any_cons, List.any_nil, Bool.and_true, Bool.true_and, Bool.and_self, Bool.or_false, Bool.false_or, Bool.or_true, Bool.true_or, szOk, mNeg, wipeM, ↓reduceIte, Nat.reduceAdd, Nat.reduceSub, Nat.reduceLeDiff, Int.reduceLT, Int.reduceLE, Int.reduceNeg, Int.reduceAdd, Int.reduceSub, Int.reducePow, Int.reduceEq, Int.reduceLT, Int.reduceMod, Int.reduceDiv, Int.reduceMul, Int.reduceToNat, String.reduceEq, reduceCtorEq, pos]
            exact ⟨ds, c, _, rfl, rfl, hdb, c0, by omega⟩
        · obtain ⟨ds, c, y4, rfl, rfl, hdb, c0, hl⟩ := i
          simp only [↓SX1, SX2, ↓SV1, SV2, List.getElem?_cons_zero, List.getElem?_cons_succ, List.set_cons_zero, List.set_cons_succ, List.map_cons, List.map_nil, List.cons_append, List.nil_append, List.append_nil, List.replicate_succ, List.replicate_zero, List.length_cons, List.length_nil, if_true, if_false, true_and, and_true, and_self, Nat.zero_add, Int.natCast_zero, i0, i1, i2, i3, i4, decide_true, decide_false, Bool.not_true, Bool.not_false, ofString_inj, gt_iff_lt, List.all_cons, List.all_nil, List.any_cons, List.any_nil, Bool.and_true, Bool.true_and, Bool.and_self, Bool.or_false, Bool.false_or, Bool.or_true, Bool.true_or, szOk, mNeg, wipeM, ↓reduceIte, Nat.reduceAdd, Nat.reduceSub, Nat.reduceLeDiff, Int.reduceLT, Int.reduceLE, Int.reduceNeg, Int.reduceAdd, Int.reduceSub, Int.reducePow, Int.reduceEq, Int.reduceLT, Int.reduceMod, Int.reduceDiv, Int.reduceMul, Int.reduceToNat, String.reduceEq, reduceCtorEq]
          exact ⟨ds, _, ts, _, _, rfl, rfl, rfl, by simp, hcb', hdb, by simpa using hl, c1⟩
      · simp only [↓SX1, SX2, ↓SV1, SV2, List.getElem?_cons_zero, List.getElem?_cons_succ, List.set_cons_zero, List.set_cons_succ, List.map_cons, List.map_nil, List.cons_append, List.nil_append, List.append_nil, List.replicate_succ, List.replicate_zero, List.length_cons, List.length_nil, if_true, if_false, true_and, and_true, and_self, Nat.zero_add, Int.natCast_zero, i0, i1, i2, i3, i4, decide_true, decide_false, Bool.not_true, Bool.not_false, ofString_inj, gt_iff_lt, List.all_cons, List.all_nil, List.any_cons, List.any_nil, Bool.and_true, Bool.true_and, Bool.and_self, Bool.or_false, Bool.false_or, Bool.or_true, Bool.true_or, szOk, mNeg, wipeM, ↓reduceIte, Nat.reduceAdd, Nat.reduceSub, Nat.reduceLeDiff, Int.reduceLT, Int.reduceLE, Int.reduceNeg, Int.reduceAdd, Int.reduceSub, Int.reducePow, Int.reduceEq, Int.reduceLT, Int.reduceMod, Int.reduceDiv, Int.reduceMul, Int.reduceToNat, String.reduceEq, reduceCtorEq, mAbs_i, ← ha, ty, ap, pow18, big]
        exact ⟨ds, _, ts, _, _, rfl, rfl, rfl, by simp, hcb', hdb, by omega, c1⟩
  · obtain ⟨ds, cs, ts, y3, y4, rfl, rfl, eu, hne, hcb, hdb, hl, hl2⟩ := i
    have lh : (HPq qa qb ds cs (xs.map MV.int)).length = 5 := rfl
    simp only [↓SX1, SX2, ↓SV1, SV2, List.getElem?_cons_zero, List.getElem?_cons_succ, List.set_cons_zero, List.set_cons_succ, List.map_cons, List.map_nil, List.cons_append, List.nil_append, List.append_nil, List.replicate_succ, List.replicate_zero, List.length_cons, List.length_nil, if_true, if_false, true_and, and_true, and_self, Nat.zero_add, Int.natCast_zero, i0, i1, i2, i3, i4, decide_true, decide_false, Bool.not_true, Bool.not_false, ofString_inj, gt_iff_lt, List.all_cons, List.all_nil, List.any_cons, List.any_nil, Bool.and_true, Bool.true_and, Bool.and_self, Bool.or_false, Bool.false_or, Bool.or_true, Bool.true_or, szOk, mNeg, wipeM, ↓reduceIte, Nat.reduceAdd, Nat.reduceSub, Nat.reduceLeDiff, Int.reduceLT, Int.reduceLE, Int.reduceNeg, Int.reduceAdd, Int.reduceSub, Int.reducePow, Int.reduceEq, Int.reduceLT, Int.reduceMod, Int.reduceDiv, Int.reduceMul, Int.reduceToNat, String.reduceEq, reduceCtorEq, lh]
    refine ⟨⟨ds, cs, xs.map .int, 0⟩, ⟨rfl, hne, hcb, hdb, Nat.le_refl _⟩, ?_⟩
    rw [gc_ref (by simp)]
    subst hq1 hq2
    rfl
end My

set_option Elab.async false
set_option linter.all false
set_option maxRecDepth 100000
set_option maxHeartbeats 8000000
namespace My
open PySem L2 Sm
/-! ### papers that stand -/
theorem sub_up {rs ks : List Int} (u : Up ks) (h : rs.Sublist ks) : Up rs := u.sublist h
/-- a draw at each address -/
theorem draw_filt {l : List MV} {m : Nat} {g : MH} {gs : Gs} {i : Nat} {ks : List Int} {mt : MS → MH → Res Bool} {ρ : MS} {QA : List MV → MH → Prop} {E : EK} {s : Ds} (hs : Good l s m) (hl : ks.length ≤ 100) (hm : m < 700000) (hi : i < ρ.length) (ha : ∀ s : Ds, gOk gs (DH s g))
    (hd : ∀ (s : Ds) (m : Nat) (a : Int), Good l s m → m < 800000 → ∃ (b : Bool) (s' : Ds), Good l s' (m + 1) ∧ mt (ρ.set i (some (.int a))) (DH s g) = .ok b (DH s' g))
    (hq : ∀ (rs : List Int) (s' : Ds), rs.Sublist ks → Good l s' (m + ks.length) → QA (rs.map .int) (DH s' g)) : Gd (compGo gs (.one i) mt (eVar i) ρ (ks.map MV.int) (DH s g)) QA E := by
  refine s_comp (fun ys xs h => ∃ (rs dn ts : List Int) (s1 : Ds), ys = rs.map .int ∧ xs = ts.map .int ∧ h = DH s1 g ∧ ks = dn ++ ts ∧ rs.Sublist dn ∧ Good l s1 (m + dn.length)) (fun ys xs h z => ?_) ⟨[], [], ks, s, rfl, rfl, rfl, rfl, List.Sublist.refl _, hs⟩ (fun ys x xs h z => ?_) (fun zs h z => ?_)
  · obtain ⟨rs, dn, ts, s1, rfl, rfl, rfl, _⟩ := z
    exact ha s1
  · obtain ⟨rs, dn, ts, s1, rfl, ex, rfl, ek, sb, gd⟩ := z
    cases ts with
    | nil => cases ex
    | cons a ts =>
      simp only [List.map_cons, List.cons.injEq] at ex
      obtain ⟨rfl, rfl⟩ := ex
      have kl : dn.length + (ts.length + 1) = ks.length := by rw [ek, List.length_append, List.length_cons]
      obtain ⟨b, s2, g2, e2⟩ := hd s1 (m + dn.length) a gd (by omega)
      refine ⟨_, rfl, ?_⟩
      refine Gd.of e2 ?_
      have gl : Good l s2 (m + (dn ++ [a]).length) := by rw [List.length_append, List.length_singleton]; exact g2
      cases b with
      | true =>
        have v : (ρ.set i (some (MV.int a)))[i]? = some (some (.int a)) := List.getElem?_set_self hi
        simp only [↓SX1, SX2, ↓SV1, SV2, List.getElem?_cons_zero, List.getElem?_cons_succ, List.set_cons_zero, List.set_cons_succ, List.map_cons, List.map_nil, List.cons_append, List.nil_append, List.append_nil, List.replicate_succ, List.replicate_zero, List.length_cons, List.length_nil, if_true, if_false, true_and, and_true, and_self, Nat.zero_add, Int.natCast_zero, i0, i1, i2, i3, i4, decide_true, decide_false, Bool.not_true, Bool.not_false, ofString_inj, gt_iff_lt, List.all_cons, List.all_nil, List.any_cons, List.any_nil, Bool.and_true, Bool.true_and, Bool.and_self, Bool.or_false, Bool.false_or, Bool.or_true, Bool.true_or, szOk, mNeg, wipeM, ↓reduceIte, Nat.reduceAdd, Nat.reduceSub, Nat.reduceLeDiff, Int.reduceLT, Int.reduceLE, Int.reduceNeg, Int.reduceAdd, Int.reduceSub, Int.reducePow, Int.reduceEq, Int.reduceLT, Int.reduceMod, Int.reduceDiv, Int.reduceMul, Int.reduceToNat, String.reduceEq, reduceCtorEq, v]
        exact ⟨rs ++ [a], dn ++ [a], ts, s2, by simp, rfl, rfl, by rw [ek]; simp, sb.append (List.Sublist.refl _), gl⟩
      | false =>
        simp only [↓SX1, SX2, ↓SV1, SV2, List.getElem?_cons_zero, List.getElem?_cons_succ, List.set_cons_zero, List.set_cons_succ, List.map_cons, List.map_nil, List.cons_append, List.nil_append, List.append_nil, List.replicate_succ, List.replicate_zero, List.length_cons, List.length_nil, if_true, if_false, true_and, and_true, and_self, Nat.zero_add, Int.natCast_zero, i0, i1, i2, i3, i4, decide_true, decide_false, Bool.not_true, Bool.not_false, ofString_inj, gt_iff_lt, List.all_cons, List.all_nil, List.any_cons, List.any_nil, Bool.and_true, Bool.true_and, Bool.and_self, Bool.or_false, Bool.false_or, Bool.or_true, Bool.true_or, szOk, mNeg, wipeM, ↓reduceIte, Nat.reduceAdd, Nat.reduceSub, Nat.reduceLeDiff, Int.reduceLT, Int.reduceLE, Int.reduceNeg, Int.reduceAdd, Int.reduceSub, Int.reducePow, Int.reduceEq, Int.reduceLT, Int.reduceMod, Int.reduceDiv, Int.reduceMul, Int.reduceToNat, String.reduceEq, reduceCtorEq]
        exact ⟨rs, dn ++ [a], ts, s2, rfl, rfl, rfl, by rw [ek]; simp, sb.trans (List.sublist_append_left _ _), gl⟩
  · obtain ⟨rs, dn, ts, s1, rfl, ex, rfl, ek, sb, gd⟩ := z
    have : ts = [] := by cases ts with | nil => rfl | cons _ _ => cases ex
    subst this
    rw [List.append_nil] at ek
    subst ek
    exact hq rs s1 sb gd
def Fine (v : MV) : Prop := (∀ H : MH, H[0]? = some (.tab q_sweep_stands) → m_sweep_stands [v] H = .ok (.bl true) H) ∧ (∃ z : Str, ∀ H : MH, mRepr [v] H = .ok (.str z) H) ∧ ∀ n, bel n v = true
section
variable {h : MH} {n : Nat}
theorem dat_prs (bs : List (Int × Ce)) : (prs Ce.mv bs).mapM (datM h (n + 5)) = some (bs.map fun p => .tuple [.int p.1, p.2.dat]) := by
  unfold prs
  exact mapM_map fun p _ => dat_l (n := n + 4) (mM2 (dat_i _) (dat_c (n := n) _))
theorem dat_prm (ms : List (Int × Int)) : (prs MV.int ms).mapM (datM h (n + 2)) = some (ms.map fun p => .tuple [.int p.1, .int p.2]) := by
  unfold prs
  exact mapM_map fun p _ => dat_l (n := n + 1) (mM2 (dat_i _) (dat_i _))
theorem dat_x {xs : List MV} {ds : List PyData} (e : xs.mapM (datM h n) = some ds) : datM h (n + 1) (.tux xs) = some (.tuple ds) := by
  show (xs.mapM (datM h n)).map PyData.tuple = _
  rw [e]; rfl
theorem mM4 {f : MV → Option PyData} {x y z u : MV} {a b c d : PyData} (e1 : f x = some a) (e2 : f y = some b) (e3 : f z = some c) (e4 : f u = some d) : [x, y, z, u].mapM f = some [a, b, c, d] := by
  simp [List.mapM_cons, e1, e2, e3, e4]
end
def papDat (cs : List (Int × Ce)) (rs : List Int) (ms : List (Int × Int)) (bs : List (Int × Ce)) : PyData := .tuple [bDat cs, .tuple (rs.map .int), .tuple (ms.map fun p => .tuple [.int p.1, .int p.2]), bDat bs]
theorem dat_pap {h : MH} {cs : List (Int × Ce)} {rs : List Int} {ms : List (Int × Int)} {bs : List (Int × Ce)} : datM h 20 (pap cs rs ms bs) = some (papDat cs rs ms bs) :=
  dat_l (n := 19) (mM4 (dat_x (n := 18) (dat_prs (n := 13) cs)) (dat_l (n := 18) (mapM_map fun i _ => dat_i (n := 17) i)) (dat_x (n := 18) (dat_prm (n := 16) ms)) (dat_l (n := 18) (dat_prs (n := 13) bs)))
theorem repr_of {v : MV} {d : PyData} (e : ∀ H : MH, datM H 20 v = some d) (l : Lt d 70000) (H : MH) : mRepr [v] H = .ok (.str d.shown) H := by
  obtain ⟨a, b, c⟩ := l
  have e1 := PyData.shown_le 90 (by decide) _ b
  have m := Nat.mul_le_mul_left 92 c
  have sh : shOk d = true := by
    unfold shOk
    rw [a, Bool.true_and]
    exact decide_eq_true (by omega)
  unfold mRepr
  simp only [e, sh, if_true]
theorem cs_br {cs : List (Int × Ce)} (hc : CsOk cs) : BRp cs := by
  have := hc.1.2.2
  rw [List.length_map] at this
  exact ⟨by omega, fun p hp => ⟨(hc.1.2.1 p.1 (List.mem_map.mpr ⟨p, hp, rfl⟩)).2, (hc.2 p hp).2.1⟩⟩
theorem bs_bel {n : Nat} (cs : List (Int × Ce)) : bels n (prs Ce.mv cs) = true := by
  unfold prs
  induction cs with
  | nil => simp [bels]
  | cons p cs ih => simp only [List.map_cons, bels, bel, ih, c_bel, Bool.and_self]
theorem bm_bel {n : Nat} (ms : List (Int × Int)) : bels n (prs MV.int ms) = true := by
  unfold prs
  induction ms with
  | nil => simp [bels]
  | cons p cs ih => simp only [List.map_cons, bels, bel, ih, Bool.and_self]
theorem pap_bel {n : Nat} {cs : List (Int × Ce)} {rs : List Int} {ms : List (Int × Int)} {bs : List (Int × Ce)} : bel n (pap cs rs ms bs) = true := by
  simp only [pap, bel, bels, bs_bel, bm_bel, ints_bel, Bool.and_self]
/-- a right paper -/
structure Right (cs : List (Int × Ce)) (rs : List Int) (ms : List (Int × Int)) (kept : List Int) : Prop where
  hc : CsOk cs
  ru : Up rs
  rsub : ∀ a, a ∈ rs → a ∈ cs.map (·.1)
  ku : Up kept
  ks : ∀ a, a ∈ kept → a ∈ cs.map (·.1)
  t : Told cs kept ms
  rk : ∀ a, a ∈ rs → a ∈ kept
  cl : Clo cs kept
theorem right_fine {cs : List (Int × Ce)} {rs : List Int} {ms : List (Int × Int)} {kept : List Int} (r : Right cs rs ms kept) : Fine (pap cs rs ms (bsOf cs ms)) := by
  obtain ⟨hc, ru, hrs, ku, ks, told, rk, cl⟩ := r
  obtain ⟨pa, br⟩ := told_pa hc ru hrs ku ks told
  have mk : ∀ p, p ∈ ms → p.1 ∈ kept := fun p hp => by rw [← told.fst]; exact List.mem_map.mpr ⟨p, hp, rfl⟩
  have c8 := hc.1.2.2
  have r8 := sub_len (up_nd ru) hrs
  have k8 := sub_len (up_nd ku) ks
  have m8 : ms.length ≤ 8 := by rw [← told.fst, List.length_map] at k8; omega
  have sb : standB cs rs ms = true := by
    unfold standB
    rw [Bool.and_eq_true, List.all_eq_true, List.all_eq_true]
    refine ⟨fun a ha => ?_, fun p hp => ?_⟩
    · rw [look_iff, told.fst]; exact decide_eq_true (rk a ha)
    · unfold movedB
      refine List.all_eq_true.mpr fun w hw => ?_
      cases w with
      | cell b =>
        simp only [inm, look_iff, told.fst]
        exact decide_eq_true (cl _ (mk p hp) b hw)
      | _ => rfl
  refine ⟨fun H h0 => ?_, ⟨(papDat cs rs ms (bsOf cs ms)).shown, fun H => repr_of (fun _ => dat_pap) ?_ H⟩, fun n => pap_bel⟩
  · have st := stands_ok pa (fun p hp => by rw [(ce_ok hc (ks _ (mk p hp))).1]; rfl) told.snd (fun p hp => by
      have := (hc.2 p hp).2.1.1
      unfold Ce.Sz; omega) (sortk_prs _ _) br h0
    rw [sb] at st
    exact st
  · have l1 := lt_bs (cs_br hc)
    have l4 := lt_bs br
    have l2 : Lt (.tuple (rs.map PyData.int)) 820 := by
      refine (lt_t (lts_map (f := PyData.int) (n := 81) fun a ha => lt_i (hc.1.2.1 a (hrs a ha)).2)).up ?_
      have : rs.length ≤ 10 := by omega
      have := Nat.mul_le_mul_right 82 this
      omega
    have l3 : Lt (.tuple (ms.map fun p => PyData.tuple [.int p.1, .int p.2])) 1650 := by
      refine (lt_t (lts_map (f := fun (p : Int × Int) => PyData.tuple [.int p.1, .int p.2]) (n := 164) fun p hp => ?_)).up ?_
      · exact (lt_t (lts_cons (lt_i (hc.1.2.1 _ (ks _ (mk p hp))).2) (lts_cons (lt_i (told.ok p hp).2) lts_nil))).up (by omega)
      · have : ms.length ≤ 10 := by omega
        have := Nat.mul_le_mul_right 165 this
        omega
    exact (lt_t (lts_cons l1 (lts_cons l2 (lts_cons l3 (lts_cons l4 lts_nil))))).up (by omega)
def pap0 : MV := .tup [.tux [], .tux [], .tux [], .tux []]
theorem fine0 : Fine pap0 := by
  have pr0 : PrOk ([] : List (Int × Ce)) := ⟨by simp [Up], (fun p hp => by cases hp), by simp⟩
  have pm0 : PrOk ([] : List (Int × Int)) := ⟨by simp [Up], (fun p hp => by cases hp), by simp⟩
  have lo : ∀ H, m_are_lots [.tux []] H = .ok (.bl true) H := fun H => lots_x (l := []) pr0 (fun p hp => by cases hp) H
  have pa : ∀ H, m_are_pairs [.tux []] H = .ok (.bl true) H := fun H => pairs_x (f := MV.int) (l := []) pm0 H
  have pt : ∀ H, m_are_pairs [.tup []] H = .ok (.bl true) H := fun H => pairs_t (f := MV.int) (l := []) pm0 H
  have ri : ∀ H, m_is_rising [.tup []] H = .ok (.bl true) H := fun H => rising_t (ns := []) (by simp [Up]) (by simp) H
  have fo : ∀ H, m_is_formed [pap0] H = .ok (.bl true) H := fun H => by
    unfold m_is_formed
    refine e_fun rfl ?_
    unfold b_is_formed pap0
    simp only [↓SX1, SX2, ↓SV1, SV2, List.getElem?_cons_zero, List.getElem?_cons_succ, List.set_cons_zero, List.set_cons_succ, List.map_cons, List.map_nil, List.cons_append, List.nil_append, List.append_nil, List.replicate_succ, List.replicate_zero, List.length_cons, List.length_nil, if_true, if_false, true_and, and_true, and_self, Nat.zero_add, Int.natCast_zero, i0, i1, i2, i3, i4, decide_true, decide_false, Bool.not_true, Bool.not_false, ofString_inj, gt_iff_lt, List.all_cons, List.all_nil, List.any_cons, List.any_nil, Bool.and_true, Bool.true_and, Bool.and_self, Bool.or_false, Bool.false_or, Bool.or_true, Bool.true_or, szOk, mNeg, wipeM, ↓reduceIte, Nat.reduceAdd, Nat.reduceSub, Nat.reduceLeDiff, Int.reduceLT, Int.reduceLE, Int.reduceNeg, Int.reduceAdd, Int.reduceSub, Int.reducePow, Int.reduceEq, Int.reduceLT, Int.reduceMod, Int.reduceDiv, Int.reduceMul, Int.reduceToNat, String.reduceEq, reduceCtorEq, lo]
    refine s_compE (us := ([] : List Int)) (vf := MV.int) (ef := fun _ => .bl true) (by simp) (fun r hr => by cases hr) ?_
    simp only [↓SX1, SX2, ↓SV1, SV2, List.getElem?_cons_zero, List.getElem?_cons_succ, List.set_cons_zero, List.set_cons_succ, List.map_cons, List.map_nil, List.cons_append, List.nil_append, List.append_nil, List.replicate_succ, List.replicate_zero, List.length_cons, List.length_nil, if_true, if_false, true_and, and_true, and_self, Nat.zero_add, Int.natCast_zero, i0, i1, i2, i3, i4, decide_true, decide_false, Bool.not_true, Bool.not_false, ofString_inj, gt_iff_lt, List.all_cons, List.all_nil, List.any_cons, List.any_nil, Bool.and_true, Bool.true_and, Bool.and_self, Bool.or_false, Bool.false_or, Bool.or_true, Bool.true_or, szOk, mNeg, wipeM, ↓reduceIte, Nat.reduceAdd, Nat.reduceSub, Nat.reduceLeDiff, Int.reduceLT, Int.reduceLE, Int.reduceNeg, Int.reduceAdd, Int.reduceSub, Int.reducePow, Int.reduceEq, Int.reduceLT, Int.reduceMod, Int.reduceDiv, Int.reduceMul, Int.reduceToNat, String.reduceEq, reduceCtorEq, lAll, bools, ri, pa, pt]
    refine s_compE (us := ([] : List Int)) (vf := MV.int) (ef := fun _ => .bl true) (by simp) (fun r hr => by cases hr) ?_
    simp only [↓SX1, SX2, ↓SV1, SV2, List.getElem?_cons_zero, List.getElem?_cons_succ, List.set_cons_zero, List.set_cons_succ, List.map_cons, List.map_nil, List.cons_append, List.nil_append, List.append_nil, List.replicate_succ, List.replicate_zero, List.length_cons, List.length_nil, if_true, if_false, true_and, and_true, and_self, Nat.zero_add, Int.natCast_zero, i0, i1, i2, i3, i4, decide_true, decide_false, Bool.not_true, Bool.not_false, ofString_inj, gt_iff_lt, List.all_cons, List.all_nil, List.any_cons, List.any_nil, Bool.and_true, Bool.true_and, Bool.and_self, Bool.or_false, Bool.false_or, Bool.or_true, Bool.true_or, szOk, mNeg, wipeM, ↓reduceIte, Nat.reduceAdd, Nat.reduceSub, Nat.reduceLeDiff, Int.reduceLT, Int.reduceLE, Int.reduceNeg, Int.reduceAdd, Int.reduceSub, Int.reducePow, Int.reduceEq, Int.reduceLT, Int.reduceMod, Int.reduceDiv, Int.reduceMul, Int.reduceToNat, String.reduceEq, reduceCtorEq, lAll, bools]
    exact ⟨rfl, gc_len rfl⟩
  refine ⟨fun H h0 => ?_, ⟨(PyData.tuple [.tuple [], .tuple [], .tuple [], .tuple []]).shown, fun H => repr_of (fun _ => rfl) ?_ H⟩, fun n => by simp [pap0, bel, bels]⟩
  · unfold m_sweep_stands
    refine e_fun rfl ?_
    unfold b_sweep_stands
    have d0 : ∀ H, mDictT [.tux []] H = .ok (.fdc [] []) H := fun H => rfl
    have f1 := fo H
    simp only [↓SX1, SX2, ↓SV1, SV2, List.getElem?_cons_zero, List.getElem?_cons_succ, List.set_cons_zero, List.set_cons_succ, List.map_cons, List.map_nil, List.cons_append, List.nil_append, List.append_nil, List.replicate_succ, List.replicate_zero, List.length_cons, List.length_nil, if_true, if_false, true_and, and_true, and_self, Nat.zero_add, Int.natCast_zero, i0, i1, i2, i3, i4, decide_true, decide_false, Bool.not_true, Bool.not_false, ofString_inj, gt_iff_lt, List.all_cons, List.all_nil, List.any_cons, List.any_nil, Bool.and_true, Bool.true_and, Bool.and_self, Bool.or_false, Bool.false_or, Bool.or_true, Bool.true_or, szOk, mNeg, wipeM, ↓reduceIte, Nat.reduceAdd, Nat.reduceSub, Nat.reduceLeDiff, Int.reduceLT, Int.reduceLE, Int.reduceNeg, Int.reduceAdd, Int.reduceSub, Int.reducePow, Int.reduceEq, Int.reduceLT, Int.reduceMod, Int.reduceDiv, Int.reduceMul, Int.reduceToNat, String.reduceEq, reduceCtorEq, f1]
    simp only [↓SX1, SX2, ↓SV1, SV2, List.getElem?_cons_zero, List.getElem?_cons_succ, List.set_cons_zero, List.set_cons_succ, List.map_cons, List.map_nil, List.cons_append, List.nil_append, List.append_nil, List.replicate_succ, List.replicate_zero, List.length_cons, List.length_nil, if_true, if_false, true_and, and_true, and_self, Nat.zero_add, Int.natCast_zero, i0, i1, i2, i3, i4, decide_true, decide_false, Bool.not_true, Bool.not_false, ofString_inj, gt_iff_lt, List.all_cons, List.all_nil, List.any_cons, List.any_nil, Bool.and_true, Bool.true_and, Bool.and_self, Bool.or_false, Bool.false_or, Bool.or_true, Bool.true_or, szOk, mNeg, wipeM, ↓reduceIte, Nat.reduceAdd, Nat.reduceSub, Nat.reduceLeDiff, Int.reduceLT, Int.reduceLE, Int.reduceNeg, Int.reduceAdd, Int.reduceSub, Int.reducePow, Int.reduceEq, Int.reduceLT, Int.reduceMod, Int.reduceDiv, Int.reduceMul, Int.reduceToNat, String.reduceEq, reduceCtorEq, pap0, d0, E_lenSc, kLS_ap]
    try refine ⟨by simp, ?_⟩
    have sc0 : ∀ ρ : MS, scGo [] (.many [8, 9]) tYesM (eVar 9) ρ [] [] H = .ok [] H := fun ρ => by unfold scGo; exact if_pos (fun q hq => by cases hq)
    rw [sc0]
    have s0 : (setI []).length = 0 := rfl
    simp only [↓SX1, SX2, ↓SV1, SV2, List.getElem?_cons_zero, List.getElem?_cons_succ, List.set_cons_zero, List.set_cons_succ, List.map_cons, List.map_nil, List.cons_append, List.nil_append, List.append_nil, List.replicate_succ, List.replicate_zero, List.length_cons, List.length_nil, if_true, if_false, true_and, and_true, and_self, Nat.zero_add, Int.natCast_zero, i0, i1, i2, i3, i4, decide_true, decide_false, Bool.not_true, Bool.not_false, ofString_inj, gt_iff_lt, List.all_cons, List.all_nil, List.any_cons, List.any_nil, Bool.and_true, Bool.true_and, Bool.and_self, Bool.or_false, Bool.false_or, Bool.or_true, Bool.true_or, szOk, mNeg, wipeM, ↓reduceIte, Nat.reduceAdd, Nat.reduceSub, Nat.reduceLeDiff, Int.reduceLT, Int.reduceLE, Int.reduceNeg, Int.reduceAdd, Int.reduceSub, Int.reducePow, Int.reduceEq, Int.reduceLT, Int.reduceMod, Int.reduceDiv, Int.reduceMul, Int.reduceToNat, String.reduceEq, reduceCtorEq, s0]
    try refine ⟨by simp, ?_⟩
    refine s_compE (us := ([] : List Int)) (vf := MV.int) (ef := fun _ => .bl true) (by simp) (fun r hr => by cases hr) ?_
    simp only [↓SX1, SX2, ↓SV1, SV2, List.getElem?_cons_zero, List.getElem?_cons_succ, List.set_cons_zero, List.set_cons_succ, List.map_cons, List.map_nil, List.cons_append, List.nil_append, List.append_nil, List.replicate_succ, List.replicate_zero, List.length_cons, List.length_nil, if_true, if_false, true_and, and_true, and_self, Nat.zero_add, Int.natCast_zero, i0, i1, i2, i3, i4, decide_true, decide_false, Bool.not_true, Bool.not_false, ofString_inj, gt_iff_lt, List.all_cons, List.all_nil, List.any_cons, List.any_nil, Bool.and_true, Bool.true_and, Bool.and_self, Bool.or_false, Bool.false_or, Bool.or_true, Bool.true_or, szOk, mNeg, wipeM, ↓reduceIte, Nat.reduceAdd, Nat.reduceSub, Nat.reduceLeDiff, Int.reduceLT, Int.reduceLE, Int.reduceNeg, Int.reduceAdd, Int.reduceSub, Int.reducePow, Int.reduceEq, Int.reduceLT, Int.reduceMod, Int.reduceDiv, Int.reduceMul, Int.reduceToNat, String.reduceEq, reduceCtorEq, lAll, bools]
    try refine ⟨by simp, ?_⟩
    refine s_compE (us := ([] : List Int)) (vf := MV.int) (ef := fun _ => .bl true) (by simp) (fun r hr => by cases hr) ?_
    simp only [↓SX1, SX2, ↓SV1, SV2, List.getElem?_cons_zero, List.getElem?_cons_succ, List.set_cons_zero, List.set_cons_succ, List.map_cons, List.map_nil, List.cons_append, List.nil_append, List.append_nil, List.replicate_succ, List.replicate_zero, List.length_cons, List.length_nil, if_true, if_false, true_and, and_true, and_self, Nat.zero_add, Int.natCast_zero, i0, i1, i2, i3, i4, decide_true, decide_false, Bool.not_true, Bool.not_false, ofString_inj, gt_iff_lt, List.all_cons, List.all_nil, List.any_cons, List.any_nil, Bool.and_true, Bool.true_and, Bool.and_self, Bool.or_false, Bool.false_or, Bool.or_true, Bool.true_or, szOk, mNeg, wipeM, ↓reduceIte, Nat.reduceAdd, Nat.reduceSub, Nat.reduceLeDiff, Int.reduceLT, Int.reduceLE, Int.reduceNeg, Int.reduceAdd, Int.reduceSub, Int.reducePow, Int.reduceEq, Int.reduceLT, Int.reduceMod, Int.reduceDiv, Int.reduceMul, Int.reduceToNat, String.reduceEq, reduceCtorEq, lAll, bools]
    try refine ⟨by simp, ?_⟩
    refine s_compE (us := ([] : List Int)) (vf := MV.int) (ef := fun _ => .bl true) (by simp) (fun r hr => by cases hr) ?_
    obtain ⟨H1, hH1⟩ : ∃ H1, H1 = H ++ [MO.lst []] := ⟨_, rfl⟩
    have g1 : H1[H.length]? = some (.lst []) := by rw [hH1]; exact gnew
    have g0 : H1[0]? = some (.tab q_sweep_stands) := by rw [hH1]; exact gap h0
    have so : mSortK 0 q_sweep_stands (.ref H.length) H1 = .ok (.ref H1.length) (H1 ++ [.lst []]) := by
      have z := sortk_ok (α := Int) (f := MV.int) (l := []) g1 g0
      rw [sortk_prs] at z
      have e : sorP ([] : List (Int × Int)) = [] := by unfold sorP; simp
      rw [e] at z
      exact z
    obtain ⟨H2, hH2⟩ : ∃ H2, H2 = H1 ++ [MO.lst []] := ⟨_, rfl⟩
    have g2 : H2[H1.length]? = some (.lst []) := by rw [hH2]; exact gnew
    have tu := mTuple_r g2
    have r1 : mRepr [.tup []] H2 = .ok (.str (PyData.tuple []).shown) H2 := repr_of (fun _ => rfl) ((lt_t lts_nil).up (by omega)) H2
    have r2 : mRepr [.tux []] H2 = .ok (.str (PyData.tuple []).shown) H2 := repr_of (fun _ => rfl) ((lt_t lts_nil).up (by omega)) H2
    rw [show (([] : List Int).map fun _ => MV.bl true) = [] from rfl]
    simp only [↓SX1, SX2, ↓SV1, SV2, List.getElem?_cons_zero, List.getElem?_cons_succ, List.set_cons_zero, List.set_cons_succ, List.map_cons, List.map_nil, List.cons_append, List.nil_append, List.append_nil, List.replicate_succ, List.replicate_zero, List.length_cons, List.length_nil, if_true, if_false, true_and, and_true, and_self, Nat.zero_add, Int.natCast_zero, i0, i1, i2, i3, i4, decide_true, decide_false, Bool.not_true, Bool.not_false, ofString_inj, gt_iff_lt, List.all_cons, List.all_nil, List.any_cons, List.any_nil, Bool.and_true, Bool.true_and, Bool.and_self, Bool.or_false, Bool.false_or, Bool.or_true, Bool.true_or, szOk, mNeg, wipeM, ↓reduceIte, Nat.reduceAdd, Nat.reduceSub, Nat.reduceLeDiff, Int.reduceLT, Int.reduceLE, Int.reduceNeg, Int.reduceAdd, Int.reduceSub, Int.reducePow, Int.reduceEq, Int.reduceLT, Int.reduceMod, Int.reduceDiv, Int.reduceMul, Int.reduceToNat, String.reduceEq, reduceCtorEq, ← hH1]
    simp only [↓SX1, SX2, ↓SV1, SV2, List.getElem?_cons_zero, List.getElem?_cons_succ, List.set_cons_zero, List.set_cons_succ, List.map_cons, List.map_nil, List.cons_append, List.nil_append, List.append_nil, List.replicate_succ, List.replicate_zero, List.length_cons, List.length_nil, if_true, if_false, true_and, and_true, and_self, Nat.zero_add, Int.natCast_zero, i0, i1, i2, i3, i4, decide_true, decide_false, Bool.not_true, Bool.not_false, ofString_inj, gt_iff_lt, List.all_cons, List.all_nil, List.any_cons, List.any_nil, Bool.and_true, Bool.true_and, Bool.and_self, Bool.or_false, Bool.false_or, Bool.or_true, Bool.true_or, szOk, mNeg, wipeM, ↓reduceIte, Nat.reduceAdd, Nat.reduceSub, Nat.reduceLeDiff, Int.reduceLT, Int.reduceLE, Int.reduceNeg, Int.reduceAdd, Int.reduceSub, Int.reducePow, Int.reduceEq, Int.reduceLT, Int.reduceMod, Int.reduceDiv, Int.reduceMul, Int.reduceToNat, String.reduceEq, reduceCtorEq, so, ← hH2]
    simp only [↓SX1, SX2, ↓SV1, SV2, List.getElem?_cons_zero, List.getElem?_cons_succ, List.set_cons_zero, List.set_cons_succ, List.map_cons, List.map_nil, List.cons_append, List.nil_append, List.append_nil, List.replicate_succ, List.replicate_zero, List.length_cons, List.length_nil, if_true, if_false, true_and, and_true, and_self, Nat.zero_add, Int.natCast_zero, i0, i1, i2, i3, i4, decide_true, decide_false, Bool.not_true, Bool.not_false, ofString_inj, gt_iff_lt, List.all_cons, List.all_nil, List.any_cons, List.any_nil, Bool.and_true, Bool.true_and, Bool.and_self, Bool.or_false, Bool.false_or, Bool.or_true, Bool.true_or, szOk, mNeg, wipeM, ↓reduceIte, Nat.reduceAdd, Nat.reduceSub, Nat.reduceLeDiff, Int.reduceLT, Int.reduceLE, Int.reduceNeg, Int.reduceAdd, Int.reduceSub, Int.reducePow, Int.reduceEq, Int.reduceLT, Int.reduceMod, Int.reduceDiv, Int.reduceMul, Int.reduceToNat, String.reduceEq, reduceCtorEq, tu, r1, r2]
    refine ⟨rfl, ?_⟩
    rw [hH2, hH1, List.append_assoc]
    exact gc_app (by simp [bel])
  · exact (lt_t (lts_cons (lt_t lts_nil) (lts_cons (lt_t lts_nil) (lts_cons (lt_t lts_nil) (lts_cons (lt_t lts_nil) lts_nil))))).up (by omega)

theorem at_set {G : MH} {i : Nat} {o o' : MO} (a : At G (i + 6) o) : At (G.set i o') (i + 6) o' := by
  have h := lt_of_get a.2
  refine ⟨by omega, ?_⟩
  have : i + 6 - 6 = i := by omega
  rw [this] at h ⊢
  exact List.getElem?_set_self h
theorem app6 {s : Ds} {G : MH} {ps : List MV} {v : MV} (a : At G 6 (.lst ps)) (hl : ps.length < 1000000) : mAppend (.ref 6) [v] (DH s G) = .ok .non (DH s (G.set 0 (.lst (ps ++ [v])))) := by
  have e := a.dh (s := s)
  unfold mAppend
  simp only [e, if_pos hl]
  rfl
theorem ty6 {s : Ds} {G : MH} {ps : List MV} (a : At G 6 (.lst ps)) : tyOk "list" (.ref 6) (DH s G) = true := by
  have e := a.dh (s := s)
  unfold tyOk; simp only [e]; rfl
theorem cells_at {g : MH} {o1 o2 : MO} {x : MH} : At (g ++ [o1, o2] ++ x) (g.length + 7) o2 := by
  have : g ++ [o1, o2] ++ x = (g ++ [o1]) ++ [o2] ++ x := by simp
  rw [this]
  have e := (At.new (g := g ++ [o1]) (o := o2)).app (x := x)
  rw [List.length_append] at e
  exact e
section
variable {l : List MV} {s : Ds} {m : Nat} {g : MH}
theorem paper_ok (gd : Good l s m) (hm : m < 400000) : ∃ (cs : List (Int × Ce)) (rs : List Int) (ms : List (Int × Int)) (kept : List Int) (s' : Ds), Right cs rs ms kept ∧ Good l s' (m + 1300) ∧ m_law_paper [.ref 5] (DH s g) = .ok (pap cs rs ms (bsOf cs ms)) (DH s' g) := by
  suffices W : Wp (m_law_paper [.ref 5] (DH s g)) fun v h => ∃ (cs : List (Int × Ce)) (rs : List Int) (ms : List (Int × Int)) (kept : List Int) (s' : Ds), Right cs rs ms kept ∧ Good l s' (m + 1300) ∧ v = pap cs rs ms (bsOf cs ms) ∧ h = DH s' g by
    obtain ⟨v, h, e, cs, rs, ms, kept, s', h1, h2, rfl, rfl⟩ := W.ex
    exact ⟨cs, rs, ms, kept, s', h1, h2, e⟩
  obtain ⟨cs, s1, hc, g1, e1⟩ := lcells_ok (g := g) gd (by omega)
  obtain ⟨G1, hG1⟩ : ∃ G1, G1 = g ++ [MO.lst ((cs.map (·.1)).map .int), .dct (dctM Ce.mv cs)] := ⟨_, rfl⟩
  rw [← hG1] at e1
  have c8 := hc.1.2.2
  have an1 : At G1 (g.length + 7) (.dct (dctM Ce.mv cs)) := by
    have := cells_at (g := g) (o1 := MO.lst ((cs.map (·.1)).map .int)) (o2 := .dct (dctM Ce.mv cs)) (x := [])
    rw [List.append_nil] at this
    rw [hG1]; exact this
  obtain ⟨G2, hG2⟩ : ∃ G2, G2 = G1 ++ [MO.lst ((cs.map (·.1)).map MV.int)] := ⟨_, rfl⟩
  obtain ⟨G3, hG3⟩ : ∃ G3, G3 = G2 ++ [MO.lst ((cs.map (·.1)).map MV.int)] := ⟨_, rfl⟩
  have so := sorted_ok (H := DH s1 G2) (n := G1.length + 6) (fs := cs.map (·.1)) (by rw [hG2]; exact dh_new) (by omega)
  rw [sorI_id hc.1.1, dh_app, dh_len, ← hG3] at so
  have a43 : At G3 (G2.length + 6) (.lst ((cs.map (·.1)).map .int)) := by rw [hG3]; exact At.new
  have an3 : At G3 (g.length + 7) (.dct (dctM Ce.mv cs)) := by rw [hG3, hG2]; exact an1.app.app
  have e3 : (ksM cs).map kM = (cs.map (·.1)).map MV.int := kM_ks cs
  unfold m_law_paper
  refine m_fun rfl ?_
  unfold b_law_paper
  have an1' := an1.dh (s := s1)
  have a43' := a43.dh (s := s1)
  simp only [↓SX1, SX2, ↓SV1, SV2, List.getElem?_cons_zero, List.getElem?_cons_succ, List.set_cons_zero, List.set_cons_succ, List.map_cons, List.map_nil, List.cons_append, List.nil_append, List.append_nil, List.replicate_succ, List.replicate_zero, List.length_cons, List.length_nil, if_true, if_false, true_and, and_true, and_self, Nat.zero_add, Int.natCast_zero, i0, i1, i2, i3, i4, decide_true, decide_false, Bool.not_true, Bool.not_false, ofString_inj, gt_iff_lt, List.all_cons, List.all_nil, List.any_cons, List.any_nil, Bool.and_true, Bool.true_and, Bool.and_self, Bool.or_false, Bool.false_or, Bool.or_true, Bool.true_or, szOk, mNeg, wipeM, ↓reduceIte, Nat.reduceAdd, Nat.reduceSub, Nat.reduceLeDiff, Int.reduceLT, Int.reduceLE, Int.reduceNeg, Int.reduceAdd, Int.reduceSub, Int.reducePow, Int.reduceEq, Int.reduceLT, Int.reduceMod, Int.reduceDiv, Int.reduceMul, Int.reduceToNat, String.reduceEq, reduceCtorEq, e1, an1', dct_fst, e3, dh_len, dh_app, ← hG2, so, a43']
  refine ⟨by rw [List.length_map]; omega, ?_⟩
  refine draw_filt (m := m + 1000) g1 (by omega) (by omega) (by simp) (fun s' => ?_) (fun s m a hs hm => ?_) (fun rs s3 sb3 g3 => ?_)
  · intro q hq
    simp only [List.mem_singleton] at hq
    subst hq
    exact a43.dh
  · obtain ⟨v, s', v0, v1, g', e'⟩ := next_ok hs (by omega) (k := 4) (by decide) (by decide) G3
    refine ⟨decide (v = 0), s', g', Gd.eq ?_⟩
    simp only [↓SX1, SX2, ↓SV1, SV2, List.getElem?_cons_zero, List.getElem?_cons_succ, List.set_cons_zero, List.set_cons_succ, List.map_cons, List.map_nil, List.cons_append, List.nil_append, List.append_nil, List.replicate_succ, List.replicate_zero, List.length_cons, List.length_nil, if_true, if_false, true_and, and_true, and_self, Nat.zero_add, Int.natCast_zero, i0, i1, i2, i3, i4, decide_true, decide_false, Bool.not_true, Bool.not_false, ofString_inj, gt_iff_lt, List.all_cons, List.all_nil, List.any_cons, List.any_nil, Bool.and_true, Bool.true_and, Bool.and_self, Bool.or_false, Bool.false_or, Bool.or_true, Bool.true_or, szOk, mNeg, wipeM, ↓reduceIte, Nat.reduceAdd, Nat.reduceSub, Nat.reduceLeDiff, Int.reduceLT, Int.reduceLE, Int.reduceNeg, Int.reduceAdd, Int.reduceSub, Int.reducePow, Int.reduceEq, Int.reduceLT, Int.reduceMod, Int.reduceDiv, Int.reduceMul, Int.reduceToNat, String.reduceEq, reduceCtorEq, e']
    exact ⟨rfl, rfl⟩
  obtain ⟨G4, hG4⟩ : ∃ G4, G4 = G3 ++ [MO.lst (rs.map MV.int)] := ⟨_, rfl⟩
  have a44 : At G4 (G2.length + 6) (.lst ((cs.map (·.1)).map .int)) := by rw [hG4]; exact a43.app
  have a44' := a44.dh (s := s3)
  have ru : Up rs := sub_up hc.1.1 sb3
  have rsub : ∀ a, a ∈ rs → a ∈ cs.map (·.1) := fun a ha => sb3.subset ha
  simp only [↓SX1, SX2, ↓SV1, SV2, List.getElem?_cons_zero, List.getElem?_cons_succ, List.set_cons_zero, List.set_cons_succ, List.map_cons, List.map_nil, List.cons_append, List.nil_append, List.append_nil, List.replicate_succ, List.replicate_zero, List.length_cons, List.length_nil, if_true, if_false, true_and, and_true, and_self, Nat.zero_add, Int.natCast_zero, i0, i1, i2, i3, i4, decide_true, decide_false, Bool.not_true, Bool.not_false, ofString_inj, gt_iff_lt, List.all_cons, List.all_nil, List.any_cons, List.any_nil, Bool.and_true, Bool.true_and, Bool.and_self, Bool.or_false, Bool.false_or, Bool.or_true, Bool.true_or, szOk, mNeg, wipeM, ↓reduceIte, Nat.reduceAdd, Nat.reduceSub, Nat.reduceLeDiff, Int.reduceLT, Int.reduceLE, Int.reduceNeg, Int.reduceAdd, Int.reduceSub, Int.reducePow, Int.reduceEq, Int.reduceLT, Int.reduceMod, Int.reduceDiv, Int.reduceMul, Int.reduceToNat, String.reduceEq, reduceCtorEq, dh_len, dh_app, ← hG4]
  simp only [↓SX1, SX2, ↓SV1, SV2, List.getElem?_cons_zero, List.getElem?_cons_succ, List.set_cons_zero, List.set_cons_succ, List.map_cons, List.map_nil, List.cons_append, List.nil_append, List.append_nil, List.replicate_succ, List.replicate_zero, List.length_cons, List.length_nil, if_true, if_false, true_and, and_true, and_self, Nat.zero_add, Int.natCast_zero, i0, i1, i2, i3, i4, decide_true, decide_false, Bool.not_true, Bool.not_false, ofString_inj, gt_iff_lt, List.all_cons, List.all_nil, List.any_cons, List.any_nil, Bool.and_true, Bool.true_and, Bool.and_self, Bool.or_false, Bool.false_or, Bool.or_true, Bool.true_or, szOk, mNeg, wipeM, ↓reduceIte, Nat.reduceAdd, Nat.reduceSub, Nat.reduceLeDiff, Int.reduceLT, Int.reduceLE, Int.reduceNeg, Int.reduceAdd, Int.reduceSub, Int.reducePow, Int.reduceEq, Int.reduceLT, Int.reduceMod, Int.reduceDiv, Int.reduceMul, Int.reduceToNat, String.reduceEq, reduceCtorEq, a44']
  refine ⟨by rw [List.length_map]; omega, ?_⟩
  refine draw_filt (m := m + 1000 + (cs.map (·.1)).length) g3 (by omega) (by omega) (by simp) (fun s' => ?_) (fun s m a hs hm => ?_) (fun mo s4 sb4 g4 => ?_)
  · intro q hq
    simp only [List.mem_singleton] at hq
    subst hq
    exact a44.dh
  · obtain ⟨v, s', v0, v1, g', e'⟩ := next_ok hs (by omega) (k := 6) (by decide) (by decide) G4
    refine ⟨decide (v = 0), s', g', Gd.eq ?_⟩
    simp only [↓SX1, SX2, ↓SV1, SV2, List.getElem?_cons_zero, List.getElem?_cons_succ, List.set_cons_zero, List.set_cons_succ, List.map_cons, List.map_nil, List.cons_append, List.nil_append, List.append_nil, List.replicate_succ, List.replicate_zero, List.length_cons, List.length_nil, if_true, if_false, true_and, and_true, and_self, Nat.zero_add, Int.natCast_zero, i0, i1, i2, i3, i4, decide_true, decide_false, Bool.not_true, Bool.not_false, ofString_inj, gt_iff_lt, List.all_cons, List.all_nil, List.any_cons, List.any_nil, Bool.and_true, Bool.true_and, Bool.and_self, Bool.or_false, Bool.false_or, Bool.or_true, Bool.true_or, szOk, mNeg, wipeM, ↓reduceIte, Nat.reduceAdd, Nat.reduceSub, Nat.reduceLeDiff, Int.reduceLT, Int.reduceLE, Int.reduceNeg, Int.reduceAdd, Int.reduceSub, Int.reducePow, Int.reduceEq, Int.reduceLT, Int.reduceMod, Int.reduceDiv, Int.reduceMul, Int.reduceToNat, String.reduceEq, reduceCtorEq, e']
    exact ⟨rfl, rfl⟩
  obtain ⟨G5, hG5⟩ : ∃ G5, G5 = G4 ++ [MO.lst (mo.map MV.int)] := ⟨_, rfl⟩
  have msub : ∀ a, a ∈ mo → a ∈ cs.map (·.1) := fun a ha => sb4.subset ha
  have r8 := sb3.length_le
  have m8 := sb4.length_le
  have ar5 : At G5 (G3.length + 6) (.lst (rs.map .int)) := by rw [hG5, hG4]; exact At.new.app
  have am5 : At G5 (G4.length + 6) (.lst (mo.map .int)) := by rw [hG5]; exact At.new
  have ar5' := ar5.dh (s := s4)
  have am5' := am5.dh (s := s4)
  obtain ⟨G6, hG6⟩ : ∃ G6, G6 = G5 ++ [MO.lst ((rs ++ mo).map MV.int)] := ⟨_, rfl⟩
  have em : rs.map MV.int ++ mo.map MV.int = (rs ++ mo).map MV.int := by rw [List.map_append]
  have a6 : At G6 (G5.length + 6) (.lst ((rs ++ mo).map .int)) := by rw [hG6]; exact At.new
  have an6 : At G6 (g.length + 7) (.dct (dctM Ce.mv cs)) := by rw [hG6, hG5, hG4]; exact an3.app.app.app
  have ar6 : At G6 (G3.length + 6) (.lst (rs.map .int)) := by rw [hG6]; exact ar5.app
  have hin : ∀ a, a ∈ rs ++ mo → a ∈ cs.map (·.1) := fun a ha => (List.mem_append.mp ha).elim (rsub a) (msub a)
  obtain ⟨ex, r2, ks2, c1, c2, c3, c4, c5, c6, c7, _⟩ := closed_ok hc hin (by rw [List.length_append]; omega) (CsV.dct (an6.dh (s := s4))) (a6.dh (s := s4))
  rw [dh_app] at c1 c3
  rw [dh_len] at c2
  have ak7 : At (G6 ++ ex) r2 (.lst (ks2.map .int)) := by
    refine ⟨by omega, ?_⟩
    obtain ⟨q, rfl⟩ : ∃ q, r2 = q + 6 := ⟨r2 - 6, by omega⟩
    rw [dh_at] at c3
    simpa using c3
  obtain ⟨ms, s5, told, g5, e5⟩ := ltold_ok (g := G6 ++ ex) g4 (by omega) hc ru rsub c4 c5 (fun s => CsV.dct (an6.app.dh (s := s))) (fun s x => mTuple_r (by rw [dh_app]; exact ar6.app.app.dh)) ak7
  simp only [↓SX1, SX2, ↓SV1, SV2, List.getElem?_cons_zero, List.getElem?_cons_succ, List.set_cons_zero, List.set_cons_succ, List.map_cons, List.map_nil, List.cons_append, List.nil_append, List.append_nil, List.replicate_succ, List.replicate_zero, List.length_cons, List.length_nil, if_true, if_false, true_and, and_true, and_self, Nat.zero_add, Int.natCast_zero, i0, i1, i2, i3, i4, decide_true, decide_false, Bool.not_true, Bool.not_false, ofString_inj, gt_iff_lt, List.all_cons, List.all_nil, List.any_cons, List.any_nil, Bool.and_true, Bool.true_and, Bool.and_self, Bool.or_false, Bool.false_or, Bool.or_true, Bool.true_or, szOk, mNeg, wipeM, ↓reduceIte, Nat.reduceAdd, Nat.reduceSub, Nat.reduceLeDiff, Int.reduceLT, Int.reduceLE, Int.reduceNeg, Int.reduceAdd, Int.reduceSub, Int.reducePow, Int.reduceEq, Int.reduceLT, Int.reduceMod, Int.reduceDiv, Int.reduceMul, Int.reduceToNat, String.reduceEq, reduceCtorEq, dh_len, dh_app, ← hG5]
  simp only [↓SX1, SX2, ↓SV1, SV2, List.getElem?_cons_zero, List.getElem?_cons_succ, List.set_cons_zero, List.set_cons_succ, List.map_cons, List.map_nil, List.cons_append, List.nil_append, List.append_nil, List.replicate_succ, List.replicate_zero, List.length_cons, List.length_nil, if_true, if_false, true_and, and_true, and_self, Nat.zero_add, Int.natCast_zero, i0, i1, i2, i3, i4, decide_true, decide_false, Bool.not_true, Bool.not_false, ofString_inj, gt_iff_lt, List.all_cons, List.all_nil, List.any_cons, List.any_nil, Bool.and_true, Bool.true_and, Bool.and_self, Bool.or_false, Bool.false_or, Bool.or_true, Bool.true_or, szOk, mNeg, wipeM, ↓reduceIte, Nat.reduceAdd, Nat.reduceSub, Nat.reduceLeDiff, Int.reduceLT, Int.reduceLE, Int.reduceNeg, Int.reduceAdd, Int.reduceSub, Int.reducePow, Int.reduceEq, Int.reduceLT, Int.reduceMod, Int.reduceDiv, Int.reduceMul, Int.reduceToNat, String.reduceEq, reduceCtorEq, ar5', am5']
  refine ⟨by rw [List.length_map, List.length_map]; omega, ?_⟩
  simp only [↓SX1, SX2, ↓SV1, SV2, List.getElem?_cons_zero, List.getElem?_cons_succ, List.set_cons_zero, List.set_cons_succ, List.map_cons, List.map_nil, List.cons_append, List.nil_append, List.append_nil, List.replicate_succ, List.replicate_zero, List.length_cons, List.length_nil, if_true, if_false, true_and, and_true, and_self, Nat.zero_add, Int.natCast_zero, i0, i1, i2, i3, i4, decide_true, decide_false, Bool.not_true, Bool.not_false, ofString_inj, gt_iff_lt, List.all_cons, List.all_nil, List.any_cons, List.any_nil, Bool.and_true, Bool.true_and, Bool.and_self, Bool.or_false, Bool.false_or, Bool.or_true, Bool.true_or, szOk, mNeg, wipeM, ↓reduceIte, Nat.reduceAdd, Nat.reduceSub, Nat.reduceLeDiff, Int.reduceLT, Int.reduceLE, Int.reduceNeg, Int.reduceAdd, Int.reduceSub, Int.reducePow, Int.reduceEq, Int.reduceLT, Int.reduceMod, Int.reduceDiv, Int.reduceMul, Int.reduceToNat, String.reduceEq, reduceCtorEq, em, dh_len, dh_app, ← hG6, c1, e5]
  refine ⟨cs, rs, ms, ks2, s5, ⟨hc, ru, rsub, c4, c5, told, fun a ha => c6 a (List.mem_append.mpr (.inl ha)), c7⟩, g5.up (by omega), rfl, ?_⟩
  obtain ⟨J, hJ⟩ : ∃ J, G6 ++ ex = g ++ J := by
    rw [hG6, hG5, hG4, hG3, hG2, hG1]
    simp only [List.append_assoc]
    exact ⟨_, rfl⟩
  rw [hJ]
  exact gc_gd pap_bel gd g5
theorem fewer_ok {cs : List (Int × Ce)} {rs : List Int} {ms : List (Int × Int)} {bs : List (Int × Ce)} (gd : Good l s m) (hr : rs.length ≤ 100) (hm : m < 400000) : ∃ (rs' : List Int) (s' : Ds), rs'.Sublist rs ∧ Good l s' (m + 100) ∧ m_law_fewer [.ref 5, pap cs rs ms bs] (DH s g) = .ok (pap cs rs' ms bs) (DH s' g) := by
  suffices W : Wp (m_law_fewer [.ref 5, pap cs rs ms bs] (DH s g)) fun v h => ∃ (rs' : List Int) (s' : Ds), rs'.Sublist rs ∧ Good l s' (m + 100) ∧ v = pap cs rs' ms bs ∧ h = DH s' g by
    obtain ⟨v, h, e, rs', s', h1, h2, rfl, rfl⟩ := W.ex
    exact ⟨rs', s', h1, h2, e⟩
  unfold m_law_fewer
  refine m_fun rfl ?_
  unfold b_law_fewer
  have pe : pap cs rs ms bs = .tup [.tux (prs Ce.mv cs), .tup (rs.map .int), .tux (prs MV.int ms), .tup (prs Ce.mv bs)] := rfl
  simp only [↓SX1, SX2, ↓SV1, SV2, List.getElem?_cons_zero, List.getElem?_cons_succ, List.set_cons_zero, List.set_cons_succ, List.map_cons, List.map_nil, List.cons_append, List.nil_append, List.append_nil, List.replicate_succ, List.replicate_zero, List.length_cons, List.length_nil, if_true, if_false, true_and, and_true, and_self, Nat.zero_add, Int.natCast_zero, i0, i1, i2, i3, i4, decide_true, decide_false, Bool.not_true, Bool.not_false, ofString_inj, gt_iff_lt, List.all_cons, List.all_nil, List.any_cons, List.any_nil, Bool.and_true, Bool.true_and, Bool.and_self, Bool.or_false, Bool.false_or, Bool.or_true, Bool.true_or, szOk, mNeg, wipeM, ↓reduceIte, Nat.reduceAdd, Nat.reduceSub, Nat.reduceLeDiff, Int.reduceLT, Int.reduceLE, Int.reduceNeg, Int.reduceAdd, Int.reduceSub, Int.reducePow, Int.reduceEq, Int.reduceLT, Int.reduceMod, Int.reduceDiv, Int.reduceMul, Int.reduceToNat, String.reduceEq, reduceCtorEq, pe]
  refine ⟨by rw [List.length_map]; omega, ?_⟩
  refine draw_filt (m := m) gd (by omega) (by omega) (by simp) (fun s' q hq => by cases hq) (fun s m a hs hm => ?_) (fun rs' s' sb g' => ?_)
  · obtain ⟨v, s', v0, v1, g', e'⟩ := next_ok hs (by omega) (k := 2) (by decide) (by decide) g
    refine ⟨decide (v = 0), s', g', Gd.eq ?_⟩
    simp only [↓SX1, SX2, ↓SV1, SV2, List.getElem?_cons_zero, List.getElem?_cons_succ, List.set_cons_zero, List.set_cons_succ, List.map_cons, List.map_nil, List.cons_append, List.nil_append, List.append_nil, List.replicate_succ, List.replicate_zero, List.length_cons, List.length_nil, if_true, if_false, true_and, and_true, and_self, Nat.zero_add, Int.natCast_zero, i0, i1, i2, i3, i4, decide_true, decide_false, Bool.not_true, Bool.not_false, ofString_inj, gt_iff_lt, List.all_cons, List.all_nil, List.any_cons, List.any_nil, Bool.and_true, Bool.true_and, Bool.and_self, Bool.or_false, Bool.false_or, Bool.or_true, Bool.true_or, szOk, mNeg, wipeM, ↓reduceIte, Nat.reduceAdd, Nat.reduceSub, Nat.reduceLeDiff, Int.reduceLT, Int.reduceLE, Int.reduceNeg, Int.reduceAdd, Int.reduceSub, Int.reducePow, Int.reduceEq, Int.reduceLT, Int.reduceMod, Int.reduceDiv, Int.reduceMul, Int.reduceToNat, String.reduceEq, reduceCtorEq, e']
    exact ⟨rfl, rfl⟩
  simp only [↓SX1, SX2, ↓SV1, SV2, List.getElem?_cons_zero, List.getElem?_cons_succ, List.set_cons_zero, List.set_cons_succ, List.map_cons, List.map_nil, List.cons_append, List.nil_append, List.append_nil, List.replicate_succ, List.replicate_zero, List.length_cons, List.length_nil, if_true, if_false, true_and, and_true, and_self, Nat.zero_add, Int.natCast_zero, i0, i1, i2, i3, i4, decide_true, decide_false, Bool.not_true, Bool.not_false, ofString_inj, gt_iff_lt, List.all_cons, List.all_nil, List.any_cons, List.any_nil, Bool.and_true, Bool.true_and, Bool.and_self, Bool.or_false, Bool.false_or, Bool.or_true, Bool.true_or, szOk, mNeg, wipeM, ↓reduceIte, Nat.reduceAdd, Nat.reduceSub, Nat.reduceLeDiff, Int.reduceLT, Int.reduceLE, Int.reduceNeg, Int.reduceAdd, Int.reduceSub, Int.reducePow, Int.reduceEq, Int.reduceLT, Int.reduceMod, Int.reduceDiv, Int.reduceMul, Int.reduceToNat, String.reduceEq, reduceCtorEq, lTuple]
  refine ⟨rs', s', sb, g'.up (by omega), rfl, ?_⟩
  exact gc_gd0 pap_bel gd g'
end
theorem Right.fewer {cs : List (Int × Ce)} {rs rs' : List Int} {ms : List (Int × Int)} {kept : List Int} (r : Right cs rs ms kept) (h : rs'.Sublist rs) : Right cs rs' ms kept :=
  ⟨r.hc, sub_up r.ru h, fun a ha => r.rsub a (h.subset ha), r.ku, r.ks, r.t, fun a ha => r.rk a (h.subset ha), r.cl⟩
theorem law_ok (ns : List Int) (hn : ns.length ≤ 63) : ∃ h, m_law [.scr (ns.map MV.int)] [.tab q_sweep_stands, .tab q_law_told] = .ok (.bl true) h := by
  suffices W : Wp (m_law [.scr (ns.map MV.int)] [.tab q_sweep_stands, .tab q_law_told]) fun v _ => v = .bl true by
    obtain ⟨v, h, e, rfl⟩ := W.ex
    exact ⟨h, e⟩
  obtain ⟨s0, gd0, e0⟩ := deck_ok ns hn
  obtain ⟨l, hl⟩ : ∃ l, l = s0.sl := ⟨_, rfl⟩
  rw [← hl] at gd0
  unfold m_law
  refine m_fun rfl ?_
  unfold b_law
  have tx0 : ∀ (ρ : MS) (h : MH), eTupX aNil ρ h = .ok (.tux []) h := fun ρ h => rfl
  have p0 : pap0 = .tup [.tux [], .tux [], .tux [], .tux []] := rfl
  simp only [↓SX1, SX2, ↓SV1, SV2, List.getElem?_cons_zero, List.getElem?_cons_succ, List.set_cons_zero, List.set_cons_succ, List.map_cons, List.map_nil, List.cons_append, List.nil_append, List.append_nil, List.replicate_succ, List.replicate_zero, List.length_cons, List.length_nil, if_true, if_false, true_and, and_true, and_self, Nat.zero_add, Int.natCast_zero, i0, i1, i2, i3, i4, decide_true, decide_false, Bool.not_true, Bool.not_false, ofString_inj, gt_iff_lt, List.all_cons, List.all_nil, List.any_cons, List.any_nil, Bool.and_true, Bool.true_and, Bool.and_self, Bool.or_false, Bool.false_or, Bool.or_true, Bool.true_or, szOk, mNeg, wipeM, ↓reduceIte, Nat.reduceAdd, Nat.reduceSub, Nat.reduceLeDiff, Int.reduceLT, Int.reduceLE, Int.reduceNeg, Int.reduceAdd, Int.reduceSub, Int.reducePow, Int.reduceEq, Int.reduceLT, Int.reduceMod, Int.reduceDiv, Int.reduceMul, Int.reduceToNat, String.reduceEq, reduceCtorEq, e0, tx0, dh_len, dh_app]
  rw [← p0]
  refine s_for (fun xs ρ h => ∃ (s : Ds) (G : MH) (ps : List MV) (y3 y4 y5 y6 : Option MV), ρ = [some (.scr (ns.map .int)), some (.ref 5), some (.ref 6), y3, y4, y5, y6] ∧ h = DH s G ∧ At G 6 (.lst ps) ∧ (∀ p, p ∈ ps → Fine p) ∧ ps.length + 3 * xs.length = 19 ∧ Good l s (2000 * (6 - xs.length)) ∧ xs.length ≤ 6)
    (fun _ _ _ _ => by simp) (fun x xs ρ h i => ?_) (fun ρ h i => ?_) _ _ _ ⟨s0, [.lst [pap0]], [pap0], none, none, none, none, rfl, rfl, ⟨by omega, rfl⟩, fun p hp => by simp only [List.mem_singleton] at hp; subst hp; exact fine0, by simp [intR], gd0.up (by omega), by simp [intR]⟩
  · obtain ⟨s, G, ps, y3, y4, y5, y6, rfl, rfl, aG, fi, hp, gd, hx⟩ := i
    rw [List.length_cons] at hx gd hp
    obtain ⟨m, hm⟩ : ∃ m, m = 2000 * (6 - (xs.length + 1)) := ⟨_, rfl⟩
    rw [← hm] at gd
    have m9 : m + 2000 = 2000 * (6 - xs.length) := by omega
    have mb : m ≤ 20000 := by omega
    obtain ⟨cs, rs, ms, kept, s1, ri, g1, e1⟩ := paper_ok (g := G) gd (by omega)
    have r8 : rs.length ≤ 8 := by
      have := sub_len (up_nd ri.ru) ri.rsub
      have := ri.hc.1.2.2
      omega
    obtain ⟨G1, hG1⟩ : ∃ G1, G1 = G.set 0 (.lst (ps ++ [pap cs rs ms (bsOf cs ms)])) := ⟨_, rfl⟩
    have a1 : At G1 6 (.lst (ps ++ [pap cs rs ms (bsOf cs ms)])) := by rw [hG1]; exact at_set (i := 0) aG
    obtain ⟨rs2, s2, sb2, g2, e2⟩ := fewer_ok (g := G1) (cs := cs) (rs := rs) (ms := ms) (bs := bsOf cs ms) g1 (by omega) (by omega)
    obtain ⟨ps2, hps2⟩ : ∃ ps2, ps2 = ps ++ [pap cs rs ms (bsOf cs ms)] ++ [pap cs rs2 ms (bsOf cs ms)] := ⟨_, rfl⟩
    obtain ⟨G2, hG2⟩ : ∃ G2, G2 = G1.set 0 (.lst ps2) := ⟨_, rfl⟩
    have a2 : At G2 6 (.lst ps2) := by rw [hG2]; exact at_set (i := 0) a1
    have pd := dictT_ok (f := Ce.mv) (l := cs) (up_nd ri.hc.1.1)
    obtain ⟨G3, hG3⟩ : ∃ G3, G3 = G2 ++ [MO.lst (rs.map MV.int)] := ⟨_, rfl⟩
    have a3 : At G3 6 (.lst ps2) := by rw [hG3]; exact a2.app
    have ar3 : At G3 (G2.length + 6) (.lst (rs.map .int)) := by rw [hG3]; exact At.new
    obtain ⟨ex, r2, ks2, c1, c2, c3, c4, c5, c6, c7, _⟩ := closed_ok (vc := fdcM Ce.mv cs) ri.hc ri.rsub (by omega) CsV.fdc (ar3.dh (s := s2))
    rw [dh_app] at c1 c3
    rw [dh_len] at c2
    have ak7 : At (G3 ++ ex) r2 (.lst (ks2.map .int)) := by
      refine ⟨by omega, ?_⟩
      obtain ⟨q, rfl⟩ : ∃ q, r2 = q + 6 := ⟨r2 - 6, by omega⟩
      rw [dh_at] at c3
      simpa using c3
    obtain ⟨ms3, s3, told, g3, e3⟩ := ltold_ok (g := G3 ++ ex) (vc := fdcM Ce.mv cs) (vr := .tup (rs.map .int)) g2 (by omega) ri.hc ri.ru ri.rsub c4 c5 (fun s => CsV.fdc) (fun s x => rfl) ak7
    have ri3 : Right cs rs ms3 ks2 := ⟨ri.hc, ri.ru, ri.rsub, c4, c5, told, c6, c7⟩
    have a4 : At (G3 ++ ex) 6 (.lst ps2) := a3.app
    have p2l : ps2.length = ps.length + 2 := by rw [hps2]; simp
    have ty1 := ty6 (s := s1) aG
    have ap1 := app6 (s := s1) (v := pap cs rs ms (bsOf cs ms)) aG (by omega)
    rw [← hG1] at ap1
    have ty2 := ty6 (s := s2) a1
    have ty2' := ty6 (s := s1) a1
    have ap2 := app6 (s := s2) (v := pap cs rs2 ms (bsOf cs ms)) a1 (by rw [List.length_append, List.length_singleton]; omega)
    rw [← hps2, ← hG2] at ap2
    have ty3 := ty6 (s := s3) a4
    have ty3' := ty6 (s := s2) a2
    have ap3 := app6 (s := s3) (v := pap cs rs ms3 (bsOf cs ms3)) a4 (by omega)
    have x0 : ∀ h, mIx (pap cs rs ms (bsOf cs ms)) (.int 0) h = .ok (.tux (prs Ce.mv cs)) h := fun h => rfl
    have x1 : ∀ h, mIx (pap cs rs ms (bsOf cs ms)) (.int 1) h = .ok (.tup (rs.map .int)) h := fun h => rfl
    refine ⟨_, rfl, ?_⟩
    simp only [↓SX1, SX2, ↓SV1, SV2, List.getElem?_cons_zero, List.getElem?_cons_succ, List.set_cons_zero, List.set_cons_succ, List.map_cons, List.map_nil, List.cons_append, List.nil_append, List.append_nil, List.replicate_succ, List.replicate_zero, List.length_cons, List.length_nil, if_true, if_false, true_and, and_true, and_self, Nat.zero_add, Int.natCast_zero, i0, i1, i2, i3, i4, decide_true, decide_false, Bool.not_true, Bool.not_false, ofString_inj, gt_iff_lt, List.all_cons, List.all_nil, List.any_cons, List.any_nil, Bool.and_true, Bool.true_and, Bool.and_self, Bool.or_false, Bool.false_or, Bool.or_true, Bool.true_or, szOk, mNeg, wipeM, ↓reduceIte, Nat.reduceAdd, Nat.reduceSub, Nat.reduceLeDiff, Int.reduceLT, Int.reduceLE, Int.reduceNeg, Int.reduceAdd, Int.reduceSub, Int.reducePow, Int.reduceEq, Int.reduceLT, Int.reduceMod, Int.reduceDiv, Int.reduceMul, Int.reduceToNat, String.reduceEq, reduceCtorEq, e1, x0, pd, ty1, ap1]
    simp only [↓SX1, SX2, ↓SV1, SV2, List.getElem?_cons_zero, List.getElem?_cons_succ, List.set_cons_zero, List.set_cons_succ, List.map_cons, List.map_nil, List.cons_append, List.nil_append, List.append_nil, List.replicate_succ, List.replicate_zero, List.length_cons, List.length_nil, if_true, if_false, true_and, and_true, and_self, Nat.zero_add, Int.natCast_zero, i0, i1, i2, i3, i4, decide_true, decide_false, Bool.not_true, Bool.not_false, ofString_inj, gt_iff_lt, List.all_cons, List.all_nil, List.any_cons, List.any_nil, Bool.and_true, Bool.true_and, Bool.and_self, Bool.or_false, Bool.false_or, Bool.or_true, Bool.true_or, szOk, mNeg, wipeM, ↓reduceIte, Nat.reduceAdd, Nat.reduceSub, Nat.reduceLeDiff, Int.reduceLT, Int.reduceLE, Int.reduceNeg, Int.reduceAdd, Int.reduceSub, Int.reducePow, Int.reduceEq, Int.reduceLT, Int.reduceMod, Int.reduceDiv, Int.reduceMul, Int.reduceToNat, String.reduceEq, reduceCtorEq, ty2', e2, ty2, ap2]
    simp only [↓SX1, SX2, ↓SV1, SV2, List.getElem?_cons_zero, List.getElem?_cons_succ, List.set_cons_zero, List.set_cons_succ, List.map_cons, List.map_nil, List.cons_append, List.nil_append, List.append_nil, List.replicate_succ, List.replicate_zero, List.length_cons, List.length_nil, if_true, if_false, true_and, and_true, and_self, Nat.zero_add, Int.natCast_zero, i0, i1, i2, i3, i4, decide_true, decide_false, Bool.not_true, Bool.not_false, ofString_inj, gt_iff_lt, List.all_cons, List.all_nil, List.any_cons, List.any_nil, Bool.and_true, Bool.true_and, Bool.and_self, Bool.or_false, Bool.false_or, Bool.or_true, Bool.true_or, szOk, mNeg, wipeM, ↓reduceIte, Nat.reduceAdd, Nat.reduceSub, Nat.reduceLeDiff, Int.reduceLT, Int.reduceLE, Int.reduceNeg, Int.reduceAdd, Int.reduceSub, Int.reducePow, Int.reduceEq, Int.reduceLT, Int.reduceMod, Int.reduceDiv, Int.reduceMul, Int.reduceToNat, String.reduceEq, reduceCtorEq, ty3', x1, it_t, dh_len, dh_app, ← hG3]
    simp only [↓SX1, SX2, ↓SV1, SV2, List.getElem?_cons_zero, List.getElem?_cons_succ, List.set_cons_zero, List.set_cons_succ, List.map_cons, List.map_nil, List.cons_append, List.nil_append, List.append_nil, List.replicate_succ, List.replicate_zero, List.length_cons, List.length_nil, if_true, if_false, true_and, and_true, and_self, Nat.zero_add, Int.natCast_zero, i0, i1, i2, i3, i4, decide_true, decide_false, Bool.not_true, Bool.not_false, ofString_inj, gt_iff_lt, List.all_cons, List.all_nil, List.any_cons, List.any_nil, Bool.and_true, Bool.true_and, Bool.and_self, Bool.or_false, Bool.false_or, Bool.or_true, Bool.true_or, szOk, mNeg, wipeM, ↓reduceIte, Nat.reduceAdd, Nat.reduceSub, Nat.reduceLeDiff, Int.reduceLT, Int.reduceLE, Int.reduceNeg, Int.reduceAdd, Int.reduceSub, Int.reducePow, Int.reduceEq, Int.reduceLT, Int.reduceMod, Int.reduceDiv, Int.reduceMul, Int.reduceToNat, String.reduceEq, reduceCtorEq, c1, e3, ty3, ap3]
    refine ⟨s3, _, ps2 ++ [pap cs rs ms3 (bsOf cs ms3)], _, _, _, _, rfl, rfl, at_set (i := 0) a4, fun p hp => ?_, by rw [List.length_append, List.length_singleton]; omega, g3.up (by omega), by omega⟩
    rcases List.mem_append.mp hp with q | q
    · rw [hps2] at q
      rcases List.mem_append.mp q with q | q
      · rcases List.mem_append.mp q with q | q
        · exact fi p q
        · simp only [List.mem_singleton] at q; rw [q]; exact right_fine ri
      · simp only [List.mem_singleton] at q; rw [q]; exact right_fine (ri.fewer sb2)
    · simp only [List.mem_singleton] at q; rw [q]; exact right_fine ri3
  · obtain ⟨s, G, ps, y3, y4, y5, y6, rfl, rfl, aG, fi, hp, gd, _⟩ := i
    have e6 := aG.dh (s := s)
    obtain ⟨G1, hG1⟩ : ∃ G1, G1 = G ++ [MO.lst (cutM ps none (some 4))] := ⟨_, rfl⟩
    have a61 : At G1 6 (.lst ps) := by rw [hG1]; exact aG.app
    have e61 := a61.dh (s := s)
    have n1 : (DH s G1)[G.length + 6]? = some (.lst (cutM ps none (some 4))) := by rw [hG1]; exact dh_new
    have cu : ∀ p, p ∈ cutM ps none (some 4) → p ∈ ps := fun p hp => by
      unfold cutM at hp
      exact List.mem_of_mem_drop (List.mem_of_mem_take hp)
    have cl : (cutM ps none (some 4)).length ≤ ps.length := by
      unfold cutM
      rw [List.length_take, List.length_drop]
      omega
    simp only [List.length_nil] at hp
    obtain ⟨G2, hG2⟩ : ∃ G2, G2 = G1 ++ [MO.lst (ps ++ cutM ps none (some 4))] := ⟨_, rfl⟩
    have n2 : (DH s G2)[G1.length + 6]? = some (.lst (ps ++ cutM ps none (some 4))) := by rw [hG2]; exact dh_new
    have h0 : (DH s G2)[0]? = some (.tab q_sweep_stands) := dh0
    simp only [↓SX1, SX2, ↓SV1, SV2, List.getElem?_cons_zero, List.getElem?_cons_succ, List.set_cons_zero, List.set_cons_succ, List.map_cons, List.map_nil, List.cons_append, List.nil_append, List.append_nil, List.replicate_succ, List.replicate_zero, List.length_cons, List.length_nil, if_true, if_false, true_and, and_true, and_self, Nat.zero_add, Int.natCast_zero, i0, i1, i2, i3, i4, decide_true, decide_false, Bool.not_true, Bool.not_false, ofString_inj, gt_iff_lt, List.all_cons, List.all_nil, List.any_cons, List.any_nil, Bool.and_true, Bool.true_and, Bool.and_self, Bool.or_false, Bool.false_or, Bool.or_true, Bool.true_or, szOk, mNeg, wipeM, ↓reduceIte, Nat.reduceAdd, Nat.reduceSub, Nat.reduceLeDiff, Int.reduceLT, Int.reduceLE, Int.reduceNeg, Int.reduceAdd, Int.reduceSub, Int.reducePow, Int.reduceEq, Int.reduceLT, Int.reduceMod, Int.reduceDiv, Int.reduceMul, Int.reduceToNat, String.reduceEq, reduceCtorEq, mSl_l e6, dh_len, dh_app, ← hG1]
    simp only [↓SX1, SX2, ↓SV1, SV2, List.getElem?_cons_zero, List.getElem?_cons_succ, List.set_cons_zero, List.set_cons_succ, List.map_cons, List.map_nil, List.cons_append, List.nil_append, List.append_nil, List.replicate_succ, List.replicate_zero, List.length_cons, List.length_nil, if_true, if_false, true_and, and_true, and_self, Nat.zero_add, Int.natCast_zero, i0, i1, i2, i3, i4, decide_true, decide_false, Bool.not_true, Bool.not_false, ofString_inj, gt_iff_lt, List.all_cons, List.all_nil, List.any_cons, List.any_nil, Bool.and_true, Bool.true_and, Bool.and_self, Bool.or_false, Bool.false_or, Bool.or_true, Bool.true_or, szOk, mNeg, wipeM, ↓reduceIte, Nat.reduceAdd, Nat.reduceSub, Nat.reduceLeDiff, Int.reduceLT, Int.reduceLE, Int.reduceNeg, Int.reduceAdd, Int.reduceSub, Int.reducePow, Int.reduceEq, Int.reduceLT, Int.reduceMod, Int.reduceDiv, Int.reduceMul, Int.reduceToNat, String.reduceEq, reduceCtorEq, e61, n1]
    refine ⟨by omega, ?_⟩
    simp only [↓SX1, SX2, ↓SV1, SV2, List.getElem?_cons_zero, List.getElem?_cons_succ, List.set_cons_zero, List.set_cons_succ, List.map_cons, List.map_nil, List.cons_append, List.nil_append, List.append_nil, List.replicate_succ, List.replicate_zero, List.length_cons, List.length_nil, if_true, if_false, true_and, and_true, and_self, Nat.zero_add, Int.natCast_zero, i0, i1, i2, i3, i4, decide_true, decide_false, Bool.not_true, Bool.not_false, ofString_inj, gt_iff_lt, List.all_cons, List.all_nil, List.any_cons, List.any_nil, Bool.and_true, Bool.true_and, Bool.and_self, Bool.or_false, Bool.false_or, Bool.or_true, Bool.true_or, szOk, mNeg, wipeM, ↓reduceIte, Nat.reduceAdd, Nat.reduceSub, Nat.reduceLeDiff, Int.reduceLT, Int.reduceLE, Int.reduceNeg, Int.reduceAdd, Int.reduceSub, Int.reducePow, Int.reduceEq, Int.reduceLT, Int.reduceMod, Int.reduceDiv, Int.reduceMul, Int.reduceToNat, String.reduceEq, reduceCtorEq, dh_len, dh_app, ← hG2, n2]
    obtain ⟨H, hH⟩ : ∃ H, H = DH s G2 := ⟨_, rfl⟩
    rw [← hH] at n2 h0 ⊢
    refine s_for (fun xs ρ h => ∃ (y3 y4 y5 y6 : Option MV), ρ = [some (.scr (ns.map .int)), some (.ref 5), some (.ref 6), y3, y4, y5, y6] ∧ h = H ∧ ∀ p, p ∈ xs → Fine p)
      (fun xs ρ h i => ?_) (fun x xs ρ h i => ?_) (fun ρ h i => ?_) _ _ _ ⟨_, _, _, _, rfl, rfl, fun p hp => (List.mem_append.mp hp).elim (fi p) fun q => fi p (cu p q)⟩
    · obtain ⟨y3, y4, y5, y6, rfl, rfl, _⟩ := i
      intro q hq
      simp only [List.mem_singleton] at hq
      subst hq
      exact n2
    · obtain ⟨y3, y4, y5, y6, rfl, rfl, hf⟩ := i
      obtain ⟨f1, ⟨z, f2⟩, _⟩ := hf x (by simp)
      have f1 := f1 _ h0
      have nb : ∀ h, mIsNotB (.bl true) (.bl true) h = .ok (.bl false) h := fun h => rfl
      refine ⟨_, rfl, ?_⟩
      simp only [↓SX1, SX2, ↓SV1, SV2, List.getElem?_cons_zero, List.getElem?_cons_succ, List.set_cons_zero, List.set_cons_succ, List.map_cons, List.map_nil, List.cons_append, List.nil_append, List.append_nil, List.replicate_succ, List.replicate_zero, List.length_cons, List.length_nil, if_true, if_false, true_and, and_true, and_self, Nat.zero_add, Int.natCast_zero, i0, i1, i2, i3, i4, decide_true, decide_false, Bool.not_true, Bool.not_false, ofString_inj, gt_iff_lt, List.all_cons, List.all_nil, List.any_cons, List.any_nil, Bool.and_true, Bool.true_and, Bool.and_self, Bool.or_false, Bool.false_or, Bool.or_true, Bool.true_or, szOk, mNeg, wipeM, ↓reduceIte, Nat.reduceAdd, Nat.reduceSub, Nat.reduceLeDiff, Int.reduceLT, Int.reduceLE, Int.reduceNeg, Int.reduceAdd, Int.reduceSub, Int.reducePow, Int.reduceEq, Int.reduceLT, Int.reduceMod, Int.reduceDiv, Int.reduceMul, Int.reduceToNat, String.reduceEq, reduceCtorEq, f1, f2, nb]
      exact ⟨_, _, _, _, rfl, fun p hp => hf p (List.mem_cons_of_mem _ hp)⟩
    · simp only [↓SX1, SX2, ↓SV1, SV2, List.getElem?_cons_zero, List.getElem?_cons_succ, List.set_cons_zero, List.set_cons_succ, List.map_cons, List.map_nil, List.cons_append, List.nil_append, List.append_nil, List.replicate_succ, List.replicate_zero, List.length_cons, List.length_nil, if_true, if_false, true_and, and_true, and_self, Nat.zero_add, Int.natCast_zero, i0, i1, i2, i3, i4, decide_true, decide_false, Bool.not_true, Bool.not_false, ofString_inj, gt_iff_lt, List.all_cons, List.all_nil, List.any_cons, List.any_nil, Bool.and_true, Bool.true_and, Bool.and_self, Bool.or_false, Bool.false_or, Bool.or_true, Bool.true_or, szOk, mNeg, wipeM, ↓reduceIte, Nat.reduceAdd, Nat.reduceSub, Nat.reduceLeDiff, Int.reduceLT, Int.reduceLE, Int.reduceNeg, Int.reduceAdd, Int.reduceSub, Int.reducePow, Int.reduceEq, Int.reduceLT, Int.reduceMod, Int.reduceDiv, Int.reduceMul, Int.reduceToNat, String.reduceEq, reduceCtorEq]
      try rfl
end My

set_option Elab.async false
set_option linter.all false
set_option maxRecDepth 100000
set_option maxHeartbeats 8000000
namespace My
open PySem L2

noncomputable def defI_mk {K : PySem.W.Frag} {mg : Str → Option Value} {x q : Str} {st : Stmt} {ps : List Str} {f dT : Addr} {od an oT : Option Addr} {sl sT : Array (Option Value)} {oc kV dc pm cd ct : Value} {nT : Nat} {dv : Int} {td : Tok}
    (l : K.lookup f = some ⟨oc, od, .func (PySem.W.fnOf x q (defArgs st) (defBody st) (defScope st) (.ref dT) kV dc pm an cd ct), sl⟩)
    (lt : K.lookup dT = some ⟨.type "tuple", oT, .seq #[.int dv td] nT, sT⟩)
    (c : PySem.W.codeIn K cd q = true) (k : PySem.W.keepIn K (.ref f) = true) (m : mg x = some (.ref f))
    (h1 : ∀ (T : Addr) (kV doc pm : Value) (an : Option Addr) (cdv ct : Value) (us its : List Value), us.length = ps.length → its.length = 1 →
      ∃ k, bindArgs (PySem.W.fnOf x q (defArgs st) (defBody st) (defScope st) (.ref T) kV doc pm an cdv ct) ⟨us, []⟩ = seqItems? (.ref T) >>= k ∧ k (some its.toArray) = pure (ps.zip us))
    (h2 : ∀ (T : Addr) (kV doc pm : Value) (an : Option Addr) (cdv ct : Value) (us its : List Value), us.length = ps.length - 1 → its.length = 1 →
      ∃ k, bindArgs (PySem.W.fnOf x q (defArgs st) (defBody st) (defScope st) (.ref T) kV doc pm an cdv ct) ⟨us, []⟩ = seqItems? (.ref T) >>= k ∧ k (some its.toArray) = pure (ps.zip (us ++ its))) : DefI K mg x q st ps dv where
  f := f
  fd := _
  fn := ⟨⟨_, _, _, _, _, _, _, _, _, _, rfl, l, c, .inr ⟨by simp, dT, _, [.int dv td], nT, rfl, lt, rfl, .cons ⟨_, rfl⟩ .nil⟩, .inl rfl⟩, k⟩
  m := m
  t := td
  b := fun s us X hlen => by
    rw [List.append_nil] at hlen ⊢
    obtain ⟨k, e1, e2⟩ := h1 dT kV dc pm an cd ct us [.int dv td] hlen rfl
    refine BindsTo.of_looks fun M => ?_
    rw [e1]
    exact looks_items X lt rfl (.of_pure e2)
  bd := fun s us X hlen => by
    have l2 : us.length = ps.length - 1 := by rw [List.length_append] at hlen; simp only [List.length_cons, List.length_nil] at hlen; omega
    obtain ⟨k, e1, e2⟩ := h2 dT kV dc pm an cd ct us [.int dv td] l2 rfl
    refine BindsTo.of_looks fun M => ?_
    rw [e1]
    exact looks_items X lt rfl (.of_pure e2)
theorem law_ok2 (ns : List Int) (hn : ns.length ≤ 63) : ∃ h, m_law [.scr (ns.map Sm.MV.int)] (([q_sweep_stands, q_law_told] : List Str).map Sm.MO.tab) = .ok (.bl true) h := law_ok ns hn
theorem law_t1 {K : PySem.W.Frag} {tP19 tP30 : Addr} (hnd : ([tP19, tP30] : List Addr).Nodup) {ns : List Int} (hn : ns.length ≤ 63) (H : Hp) (a : Addr) (hT : ∀ P ∈ ([tP19, tP30] : List Addr), H P = some (.tbl #[])) (hS : Sm.SqF K H a (ns.map L2.V.int)) :
    Sm.spM K (fun c => if c = q_sweep_stands then some tP19 else if c = q_law_told then some tP30 else none) m_law [.ref a] H (fun v _ => v = .bl true) fun _ _ _ => False :=
  Sm.law_readT (qs := [q_sweep_stands, q_law_told]) (Ps := [tP19, tP30]) rfl hnd (Sm.cl2 (by decide +kernel)) (law_ok2 ns hn) H a hT hS
theorem law_fin {l : PySem.W.OpenLaw} {w : World} {K : PySem.W.Frag} {h : Heap} {mg : Str → Option Value} {fa : Addr} {C_sweep_stands tP19 C_law_told tP30 : Addr} (T : Tx K mg) (e1 : T.d_law.f = fa)
    (k_sweep_stands : T.d_sweep_stands.fd.code = .ref C_sweep_stands) (h_sweep_stands : PySem.W.CodeHd h C_sweep_stands tP19) (p_sweep_stands : h.get? tP19 = some (Sm.tblObj #[])) (u19 : (K.lookup tP19).isNone = true) (k_law_told : T.d_law_told.fd.code = .ref C_law_told) (h_law_told : PySem.W.CodeHd h C_law_told tP30) (p_law_told : h.get? tP30 = some (Sm.tblObj #[])) (u30 : (K.lookup tP30).isNone = true)
    (hne : decide (List.Nodup [tP19, tP30]) = true) (hbd : ∀ (s : Shared) (u : Value), BindsTo s T.d_law.fd ⟨[u], []⟩ [("_law_script", u)]) :
    ∃ (fd : FuncData) (cs : List (Addr × Addr)) (sp : Sp), (∀ p ∈ cs, h.get? p.2 = some (Sm.tblObj #[])) ∧ (∀ p ∈ cs, (K).lookup p.2 = none) ∧ (∀ p ∈ cs, PySem.W.CodeHd h p.1 p.2) ∧ (∀ (s : Shared) (u : Value), BindsTo s fd ⟨[u], []⟩ [("_law_script", u)]) ∧
        (∀ (H : Hp) (a : Addr) (ns : List Int), ns.length ≤ 63 → (∀ p ∈ cs, H p.2 = some (.tbl #[])) → Sm.SqF (K) H a (ns.map V.int) → sp [.ref a] H (fun v _ => v = .bl true) fun _ _ _ => False) ∧
        ∀ base : Heap, (K).In base → base.Ns mainGlobals mg → (∀ p ∈ cs, LamX.TabB base mg p.1 p.2) → Sm.FnG l.prog w (K) mg base 9 fa fd ["_law_script"] sp := by
  refine ⟨T.d_law.fd, [(C_sweep_stands, tP19), (C_law_told, tP30)], Sm.spM K (fun c => if c = q_sweep_stands then some tP19 else if c = q_law_told then some tP30 else none) m_law,
    (by
    intro p hp
    simp only [List.mem_cons, List.not_mem_nil, or_false] at hp
    rcases hp with rfl | rfl
    · exact p_sweep_stands
    · exact p_law_told),
    (by
    intro p hp
    simp only [List.mem_cons, List.not_mem_nil, or_false] at hp
    rcases hp with rfl | rfl
    · exact Option.isNone_iff_eq_none.mp u19
    · exact Option.isNone_iff_eq_none.mp u30),
    (by
    intro p hp
    simp only [List.mem_cons, List.not_mem_nil, or_false] at hp
    rcases hp with rfl | rfl
    · exact h_sweep_stands
    · exact h_law_told), ?_, fun H a ns hn hT hS => ?_, fun base _ _ hB => ?_⟩
  · exact hbd
  · exact law_t1 (of_decide_eq_true hne) hn H a (by
      intro P hP
      simp only [List.mem_cons, List.not_mem_nil, or_false] at hP
      rcases hP with e | e
      · rw [e]; exact hT (C_sweep_stands, tP19) (by simp)
      · rw [e]; exact hT (C_law_told, tP30) (by simp)) hS
  · rw [← e1]
    exact ok_law T ⟨C_sweep_stands, tP19, k_sweep_stands, hB (C_sweep_stands, tP19) (by simp), C_law_told, tP30, k_law_told, hB (C_law_told, tP30) (by simp)⟩
theorem all_mk {l : PySem.W.OpenLaw} {w : World} {K : PySem.W.Frag} {h : Heap} {mg : Str → Option Value} {fa : Addr} (X : K.In h) (G : h.Ns mainGlobals mg) (hfa : mg "law" = some (.ref fa))
    {t_BIG : Tok}
    {t_SMALL : Tok}
    {t_GREAT : Tok}
    {t_FIGURES : Tok}
    {t_FIELDS : Tok}
    {t_LONGEST : Tok}
    {t_NAMES : Tok}
    {f1 : Addr} {od1 an1 : Option Addr} {sl1 : Array (Option Value)} {oc1 kV1 dc1 pm1 cd1 ct1 : Value}
    {f2 : Addr} {od2 an2 : Option Addr} {sl2 : Array (Option Value)} {oc2 kV2 dc2 pm2 cd2 ct2 : Value}
    {f3 : Addr} {od3 an3 : Option Addr} {sl3 : Array (Option Value)} {oc3 kV3 dc3 pm3 cd3 ct3 : Value}
    {f4 : Addr} {od4 an4 : Option Addr} {sl4 : Array (Option Value)} {oc4 kV4 dc4 pm4 cd4 ct4 : Value}
    {f5 : Addr} {od5 an5 : Option Addr} {sl5 : Array (Option Value)} {oc5 kV5 dc5 pm5 cd5 ct5 : Value}
    {f6 : Addr} {od6 an6 : Option Addr} {sl6 : Array (Option Value)} {oc6 kV6 dc6 pm6 cd6 ct6 : Value}
    {f7 : Addr} {od7 an7 : Option Addr} {sl7 : Array (Option Value)} {oc7 kV7 dc7 pm7 cd7 ct7 : Value}
    {f8 : Addr} {od8 an8 : Option Addr} {sl8 : Array (Option Value)} {oc8 kV8 dc8 pm8 cd8 ct8 : Value}
    {f9 dT9 : Addr} {od9 an9 oT9 : Option Addr} {sl9 sT9 : Array (Option Value)} {oc9 kV9 dc9 pm9 cd9 ct9 : Value} {nT9 : Nat} {td9 : Tok}
    {f10 : Addr} {od10 an10 : Option Addr} {sl10 : Array (Option Value)} {oc10 kV10 dc10 pm10 cd10 ct10 : Value}
    {f11 : Addr} {od11 an11 : Option Addr} {sl11 : Array (Option Value)} {oc11 kV11 dc11 pm11 cd11 ct11 : Value}
    {f12 : Addr} {od12 an12 : Option Addr} {sl12 : Array (Option Value)} {oc12 kV12 dc12 pm12 cd12 ct12 : Value}
    {f13 : Addr} {od13 an13 : Option Addr} {sl13 : Array (Option Value)} {oc13 kV13 dc13 pm13 cd13 ct13 : Value}
    {f14 : Addr} {od14 an14 : Option Addr} {sl14 : Array (Option Value)} {oc14 kV14 dc14 pm14 cd14 ct14 : Value}
    {f15 : Addr} {od15 an15 : Option Addr} {sl15 : Array (Option Value)} {oc15 kV15 dc15 pm15 cd15 ct15 : Value}
    {f16 : Addr} {od16 an16 : Option Addr} {sl16 : Array (Option Value)} {oc16 kV16 dc16 pm16 cd16 ct16 : Value}
    {f17 : Addr} {od17 an17 : Option Addr} {sl17 : Array (Option Value)} {oc17 kV17 dc17 pm17 cd17 ct17 : Value}
    {f18 : Addr} {od18 an18 : Option Addr} {sl18 : Array (Option Value)} {oc18 kV18 dc18 pm18 cd18 ct18 : Value}
    {f19 : Addr} {od19 an19 : Option Addr} {sl19 : Array (Option Value)} {oc19 kV19 dc19 pm19 cd19 ct19 : Value}
    {tP19 tC19 : Addr} {ta19 : Value} {tb19 : Option Addr} {tv19 : Array Value} {ts19 : Array (Option Value)}
    {f20 : Addr} {od20 an20 : Option Addr} {sl20 : Array (Option Value)} {oc20 kV20 dc20 pm20 cd20 ct20 : Value}
    {f21 : Addr} {od21 an21 : Option Addr} {sl21 : Array (Option Value)} {oc21 kV21 dc21 pm21 cd21 ct21 : Value}
    {f22 : Addr} {od22 an22 : Option Addr} {sl22 : Array (Option Value)} {oc22 kV22 dc22 pm22 cd22 ct22 : Value}
    {f23 : Addr} {od23 an23 : Option Addr} {sl23 : Array (Option Value)} {oc23 kV23 dc23 pm23 cd23 ct23 : Value}
    {f24 : Addr} {od24 an24 : Option Addr} {sl24 : Array (Option Value)} {oc24 kV24 dc24 pm24 cd24 ct24 : Value}
    {f25 : Addr} {od25 an25 : Option Addr} {sl25 : Array (Option Value)} {oc25 kV25 dc25 pm25 cd25 ct25 : Value}
    {f26 : Addr} {od26 an26 : Option Addr} {sl26 : Array (Option Value)} {oc26 kV26 dc26 pm26 cd26 ct26 : Value}
    {f27 : Addr} {od27 an27 : Option Addr} {sl27 : Array (Option Value)} {oc27 kV27 dc27 pm27 cd27 ct27 : Value}
    {f28 : Addr} {od28 an28 : Option Addr} {sl28 : Array (Option Value)} {oc28 kV28 dc28 pm28 cd28 ct28 : Value}
    {f29 : Addr} {od29 an29 : Option Addr} {sl29 : Array (Option Value)} {oc29 kV29 dc29 pm29 cd29 ct29 : Value}
    {f30 : Addr} {od30 an30 : Option Addr} {sl30 : Array (Option Value)} {oc30 kV30 dc30 pm30 cd30 ct30 : Value}
    {tP30 tC30 : Addr} {ta30 : Value} {tb30 : Option Addr} {tv30 : Array Value} {ts30 : Array (Option Value)}
    {f31 : Addr} {od31 an31 : Option Addr} {sl31 : Array (Option Value)} {oc31 kV31 dc31 pm31 cd31 ct31 : Value}
    {f32 : Addr} {od32 an32 : Option Addr} {sl32 : Array (Option Value)} {oc32 kV32 dc32 pm32 cd32 ct32 : Value}
    {f33 : Addr} {od33 an33 : Option Addr} {sl33 : Array (Option Value)} {oc33 kV33 dc33 pm33 cd33 ct33 : Value}
    {f34 : Addr} {od34 an34 : Option Addr} {sl34 : Array (Option Value)} {oc34 kV34 dc34 pm34 cd34 ct34 : Value}
    (z_len : PySem.W.nsIn K mainGlobals "len" = some none)
    (z_range : PySem.W.nsIn K mainGlobals "range" = some none)
    (z_tuple : PySem.W.nsIn K mainGlobals "tuple" = some none)
    (z_list : PySem.W.nsIn K mainGlobals "list" = some none)
    (z_isinstance : PySem.W.nsIn K mainGlobals "isinstance" = some none)
    (z_abs : PySem.W.nsIn K mainGlobals "abs" = some none)
    (z_str : PySem.W.nsIn K mainGlobals "str" = some none)
    (z_int : PySem.W.nsIn K mainGlobals "int" = some none)
    (z_bool : PySem.W.nsIn K mainGlobals "bool" = some none)
    (z_zip : PySem.W.nsIn K mainGlobals "zip" = some none)
    (z_sorted : PySem.W.nsIn K mainGlobals "sorted" = some none)
    (z_dict : PySem.W.nsIn K mainGlobals "dict" = some none)
    (z_set : PySem.W.nsIn K mainGlobals "set" = some none)
    (z_repr : PySem.W.nsIn K mainGlobals "repr" = some none)
    (z_all : PySem.W.nsIn K mainGlobals "all" = some none)
    (c_BIG : PySem.W.nsIn K mainGlobals "BIG" = some (some (.int 1000000000000 t_BIG)))
    (c_SMALL : PySem.W.nsIn K mainGlobals "SMALL" = some (some (.str "abcdefghijklmnopqrstuvwxyz" t_SMALL)))
    (c_GREAT : PySem.W.nsIn K mainGlobals "GREAT" = some (some (.str "ABCDEFGHIJKLMNOPQRSTUVWXYZ" t_GREAT)))
    (c_FIGURES : PySem.W.nsIn K mainGlobals "FIGURES" = some (some (.str "0123456789" t_FIGURES)))
    (c_FIELDS : PySem.W.nsIn K mainGlobals "FIELDS" = some (some (.int 8 t_FIELDS)))
    (c_LONGEST : PySem.W.nsIn K mainGlobals "LONGEST" = some (some (.int 30 t_LONGEST)))
    (c_NAMES : PySem.W.nsIn K mainGlobals "NAMES" = some (some (.int 12 t_NAMES)))
    (a1 : PySem.W.nsIn K mainGlobals "is_made_of" = some (some (.ref f1)))
    (l1 : K.lookup f1 = some ⟨oc1, od1, .func (PySem.W.fnOf "is_made_of" "is_made_of" (defArgs s_is_made_of) (defBody s_is_made_of) (defScope s_is_made_of) .none kV1 dc1 pm1 an1 cd1 ct1), sl1⟩)
    (c1 : PySem.W.codeIn K cd1 "is_made_of" = true)
    (k1 : PySem.W.keepIn K (.ref f1) = true)
    (a2 : PySem.W.nsIn K mainGlobals "is_kind_name" = some (some (.ref f2)))
    (l2 : K.lookup f2 = some ⟨oc2, od2, .func (PySem.W.fnOf "is_kind_name" "is_kind_name" (defArgs s_is_kind_name) (defBody s_is_kind_name) (defScope s_is_kind_name) .none kV2 dc2 pm2 an2 cd2 ct2), sl2⟩)
    (c2 : PySem.W.codeIn K cd2 "is_kind_name" = true)
    (k2 : PySem.W.keepIn K (.ref f2) = true)
    (a3 : PySem.W.nsIn K mainGlobals "is_text" = some (some (.ref f3)))
    (l3 : K.lookup f3 = some ⟨oc3, od3, .func (PySem.W.fnOf "is_text" "is_text" (defArgs s_is_text) (defBody s_is_text) (defScope s_is_text) .none kV3 dc3 pm3 an3 cd3 ct3), sl3⟩)
    (c3 : PySem.W.codeIn K cd3 "is_text" = true)
    (k3 : PySem.W.keepIn K (.ref f3) = true)
    (a4 : PySem.W.nsIn K mainGlobals "is_cell" = some (some (.ref f4)))
    (l4 : K.lookup f4 = some ⟨oc4, od4, .func (PySem.W.fnOf "is_cell" "is_cell" (defArgs s_is_cell) (defBody s_is_cell) (defScope s_is_cell) .none kV4 dc4 pm4 an4 cd4 ct4), sl4⟩)
    (c4 : PySem.W.codeIn K cd4 "is_cell" = true)
    (k4 : PySem.W.keepIn K (.ref f4) = true)
    (a5 : PySem.W.nsIn K mainGlobals "parts_of" = some (some (.ref f5)))
    (l5 : K.lookup f5 = some ⟨oc5, od5, .func (PySem.W.fnOf "parts_of" "parts_of" (defArgs s_parts_of) (defBody s_parts_of) (defScope s_parts_of) .none kV5 dc5 pm5 an5 cd5 ct5), sl5⟩)
    (c5 : PySem.W.codeIn K cd5 "parts_of" = true)
    (k5 : PySem.W.keepIn K (.ref f5) = true)
    (a6 : PySem.W.nsIn K mainGlobals "moved_worth" = some (some (.ref f6)))
    (l6 : K.lookup f6 = some ⟨oc6, od6, .func (PySem.W.fnOf "moved_worth" "moved_worth" (defArgs s_moved_worth) (defBody s_moved_worth) (defScope s_moved_worth) .none kV6 dc6 pm6 an6 cd6 ct6), sl6⟩)
    (c6 : PySem.W.codeIn K cd6 "moved_worth" = true)
    (k6 : PySem.W.keepIn K (.ref f6) = true)
    (a7 : PySem.W.nsIn K mainGlobals "moved_worths" = some (some (.ref f7)))
    (l7 : K.lookup f7 = some ⟨oc7, od7, .func (PySem.W.fnOf "moved_worths" "moved_worths" (defArgs s_moved_worths) (defBody s_moved_worths) (defScope s_moved_worths) .none kV7 dc7 pm7 an7 cd7 ct7), sl7⟩)
    (c7 : PySem.W.codeIn K cd7 "moved_worths" = true)
    (k7 : PySem.W.keepIn K (.ref f7) = true)
    (a8 : PySem.W.nsIn K mainGlobals "moved_cell" = some (some (.ref f8)))
    (l8 : K.lookup f8 = some ⟨oc8, od8, .func (PySem.W.fnOf "moved_cell" "moved_cell" (defArgs s_moved_cell) (defBody s_moved_cell) (defScope s_moved_cell) .none kV8 dc8 pm8 an8 cd8 ct8), sl8⟩)
    (c8 : PySem.W.codeIn K cd8 "moved_cell" = true)
    (k8 : PySem.W.keepIn K (.ref f8) = true)
    (a9 : PySem.W.nsIn K mainGlobals "is_whole" = some (some (.ref f9)))
    (l9 : K.lookup f9 = some ⟨oc9, od9, .func (PySem.W.fnOf "is_whole" "is_whole" (defArgs s_is_whole) (defBody s_is_whole) (defScope s_is_whole) (.ref dT9) kV9 dc9 pm9 an9 cd9 ct9), sl9⟩)
    (lt9 : K.lookup dT9 = some ⟨.type "tuple", oT9, .seq #[.int 0 td9] nT9, sT9⟩)
    (c9 : PySem.W.codeIn K cd9 "is_whole" = true)
    (k9 : PySem.W.keepIn K (.ref f9) = true)
    (a10 : PySem.W.nsIn K mainGlobals "is_address" = some (some (.ref f10)))
    (l10 : K.lookup f10 = some ⟨oc10, od10, .func (PySem.W.fnOf "is_address" "is_address" (defArgs s_is_address) (defBody s_is_address) (defScope s_is_address) .none kV10 dc10 pm10 an10 cd10 ct10), sl10⟩)
    (c10 : PySem.W.codeIn K cd10 "is_address" = true)
    (k10 : PySem.W.keepIn K (.ref f10) = true)
    (a11 : PySem.W.nsIn K mainGlobals "is_worth" = some (some (.ref f11)))
    (l11 : K.lookup f11 = some ⟨oc11, od11, .func (PySem.W.fnOf "is_worth" "is_worth" (defArgs s_is_worth) (defBody s_is_worth) (defScope s_is_worth) .none kV11 dc11 pm11 an11 cd11 ct11), sl11⟩)
    (c11 : PySem.W.codeIn K cd11 "is_worth" = true)
    (k11 : PySem.W.keepIn K (.ref f11) = true)
    (a12 : PySem.W.nsIn K mainGlobals "are_worths" = some (some (.ref f12)))
    (l12 : K.lookup f12 = some ⟨oc12, od12, .func (PySem.W.fnOf "are_worths" "are_worths" (defArgs s_are_worths) (defBody s_are_worths) (defScope s_are_worths) .none kV12 dc12 pm12 an12 cd12 ct12), sl12⟩)
    (c12 : PySem.W.codeIn K cd12 "are_worths" = true)
    (k12 : PySem.W.keepIn K (.ref f12) = true)
    (a13 : PySem.W.nsIn K mainGlobals "is_lot" = some (some (.ref f13)))
    (l13 : K.lookup f13 = some ⟨oc13, od13, .func (PySem.W.fnOf "is_lot" "is_lot" (defArgs s_is_lot) (defBody s_is_lot) (defScope s_is_lot) .none kV13 dc13 pm13 an13 cd13 ct13), sl13⟩)
    (c13 : PySem.W.codeIn K cd13 "is_lot" = true)
    (k13 : PySem.W.keepIn K (.ref f13) = true)
    (a14 : PySem.W.nsIn K mainGlobals "is_rising" = some (some (.ref f14)))
    (l14 : K.lookup f14 = some ⟨oc14, od14, .func (PySem.W.fnOf "is_rising" "is_rising" (defArgs s_is_rising) (defBody s_is_rising) (defScope s_is_rising) .none kV14 dc14 pm14 an14 cd14 ct14), sl14⟩)
    (c14 : PySem.W.codeIn K cd14 "is_rising" = true)
    (k14 : PySem.W.keepIn K (.ref f14) = true)
    (a15 : PySem.W.nsIn K mainGlobals "are_pairs" = some (some (.ref f15)))
    (l15 : K.lookup f15 = some ⟨oc15, od15, .func (PySem.W.fnOf "are_pairs" "are_pairs" (defArgs s_are_pairs) (defBody s_are_pairs) (defScope s_are_pairs) .none kV15 dc15 pm15 an15 cd15 ct15), sl15⟩)
    (c15 : PySem.W.codeIn K cd15 "are_pairs" = true)
    (k15 : PySem.W.keepIn K (.ref f15) = true)
    (a16 : PySem.W.nsIn K mainGlobals "are_lots" = some (some (.ref f16)))
    (l16 : K.lookup f16 = some ⟨oc16, od16, .func (PySem.W.fnOf "are_lots" "are_lots" (defArgs s_are_lots) (defBody s_are_lots) (defScope s_are_lots) .none kV16 dc16 pm16 an16 cd16 ct16), sl16⟩)
    (c16 : PySem.W.codeIn K cd16 "are_lots" = true)
    (k16 : PySem.W.keepIn K (.ref f16) = true)
    (a17 : PySem.W.nsIn K mainGlobals "is_formed" = some (some (.ref f17)))
    (l17 : K.lookup f17 = some ⟨oc17, od17, .func (PySem.W.fnOf "is_formed" "is_formed" (defArgs s_is_formed) (defBody s_is_formed) (defScope s_is_formed) .none kV17 dc17 pm17 an17 cd17 ct17), sl17⟩)
    (c17 : PySem.W.codeIn K cd17 "is_formed" = true)
    (k17 : PySem.W.keepIn K (.ref f17) = true)
    (a18 : PySem.W.nsIn K mainGlobals "are_moved" = some (some (.ref f18)))
    (l18 : K.lookup f18 = some ⟨oc18, od18, .func (PySem.W.fnOf "are_moved" "are_moved" (defArgs s_are_moved) (defBody s_are_moved) (defScope s_are_moved) .none kV18 dc18 pm18 an18 cd18 ct18), sl18⟩)
    (c18 : PySem.W.codeIn K cd18 "are_moved" = true)
    (k18 : PySem.W.keepIn K (.ref f18) = true)
    (a19 : PySem.W.nsIn K mainGlobals "sweep_stands" = some (some (.ref f19)))
    (l19 : K.lookup f19 = some ⟨oc19, od19, .func (PySem.W.fnOf "sweep_stands" "sweep_stands" (defArgs s_sweep_stands) (defBody s_sweep_stands) (defScope s_sweep_stands) .none kV19 dc19 pm19 an19 cd19 ct19), sl19⟩)
    (c19 : PySem.W.codeIn K cd19 "sweep_stands" = true)
    (k19 : PySem.W.keepIn K (.ref f19) = true)
    (tg19 : cd19 = .ref tC19)
    (tl19 : K.lookup tC19 = some ⟨ta19, tb19, .fields tv19, ts19⟩)
    (t19 : tv19[11]? = some (.ref tP19))
    (u19 : (K.lookup tP19).isNone = true)
    (a20 : PySem.W.nsIn K mainGlobals "_law_deck" = some (some (.ref f20)))
    (l20 : K.lookup f20 = some ⟨oc20, od20, .func (PySem.W.fnOf "_law_deck" "_law_deck" (defArgs s_law_deck) (defBody s_law_deck) (defScope s_law_deck) .none kV20 dc20 pm20 an20 cd20 ct20), sl20⟩)
    (c20 : PySem.W.codeIn K cd20 "_law_deck" = true)
    (k20 : PySem.W.keepIn K (.ref f20) = true)
    (a21 : PySem.W.nsIn K mainGlobals "_law_next" = some (some (.ref f21)))
    (l21 : K.lookup f21 = some ⟨oc21, od21, .func (PySem.W.fnOf "_law_next" "_law_next" (defArgs s_law_next) (defBody s_law_next) (defScope s_law_next) .none kV21 dc21 pm21 an21 cd21 ct21), sl21⟩)
    (c21 : PySem.W.codeIn K cd21 "_law_next" = true)
    (k21 : PySem.W.keepIn K (.ref f21) = true)
    (a22 : PySem.W.nsIn K mainGlobals "_law_worth" = some (some (.ref f22)))
    (l22 : K.lookup f22 = some ⟨oc22, od22, .func (PySem.W.fnOf "_law_worth" "_law_worth" (defArgs s_law_worth) (defBody s_law_worth) (defScope s_law_worth) .none kV22 dc22 pm22 an22 cd22 ct22), sl22⟩)
    (c22 : PySem.W.codeIn K cd22 "_law_worth" = true)
    (k22 : PySem.W.keepIn K (.ref f22) = true)
    (a23 : PySem.W.nsIn K mainGlobals "_law_worths" = some (some (.ref f23)))
    (l23 : K.lookup f23 = some ⟨oc23, od23, .func (PySem.W.fnOf "_law_worths" "_law_worths" (defArgs s_law_worths) (defBody s_law_worths) (defScope s_law_worths) .none kV23 dc23 pm23 an23 cd23 ct23), sl23⟩)
    (c23 : PySem.W.codeIn K cd23 "_law_worths" = true)
    (k23 : PySem.W.keepIn K (.ref f23) = true)
    (a24 : PySem.W.nsIn K mainGlobals "_law_cell" = some (some (.ref f24)))
    (l24 : K.lookup f24 = some ⟨oc24, od24, .func (PySem.W.fnOf "_law_cell" "_law_cell" (defArgs s_law_cell) (defBody s_law_cell) (defScope s_law_cell) .none kV24 dc24 pm24 an24 cd24 ct24), sl24⟩)
    (c24 : PySem.W.codeIn K cd24 "_law_cell" = true)
    (k24 : PySem.W.keepIn K (.ref f24) = true)
    (a25 : PySem.W.nsIn K mainGlobals "_law_places" = some (some (.ref f25)))
    (l25 : K.lookup f25 = some ⟨oc25, od25, .func (PySem.W.fnOf "_law_places" "_law_places" (defArgs s_law_places) (defBody s_law_places) (defScope s_law_places) .none kV25 dc25 pm25 an25 cd25 ct25), sl25⟩)
    (c25 : PySem.W.codeIn K cd25 "_law_places" = true)
    (k25 : PySem.W.keepIn K (.ref f25) = true)
    (a26 : PySem.W.nsIn K mainGlobals "_law_parts" = some (some (.ref f26)))
    (l26 : K.lookup f26 = some ⟨oc26, od26, .func (PySem.W.fnOf "_law_parts" "_law_parts" (defArgs s_law_parts) (defBody s_law_parts) (defScope s_law_parts) .none kV26 dc26 pm26 an26 cd26 ct26), sl26⟩)
    (c26 : PySem.W.codeIn K cd26 "_law_parts" = true)
    (k26 : PySem.W.keepIn K (.ref f26) = true)
    (a27 : PySem.W.nsIn K mainGlobals "_law_closed" = some (some (.ref f27)))
    (l27 : K.lookup f27 = some ⟨oc27, od27, .func (PySem.W.fnOf "_law_closed" "_law_closed" (defArgs s_law_closed) (defBody s_law_closed) (defScope s_law_closed) .none kV27 dc27 pm27 an27 cd27 ct27), sl27⟩)
    (c27 : PySem.W.codeIn K cd27 "_law_closed" = true)
    (k27 : PySem.W.keepIn K (.ref f27) = true)
    (a28 : PySem.W.nsIn K mainGlobals "_law_moved" = some (some (.ref f28)))
    (l28 : K.lookup f28 = some ⟨oc28, od28, .func (PySem.W.fnOf "_law_moved" "_law_moved" (defArgs s_law_moved) (defBody s_law_moved) (defScope s_law_moved) .none kV28 dc28 pm28 an28 cd28 ct28), sl28⟩)
    (c28 : PySem.W.codeIn K cd28 "_law_moved" = true)
    (k28 : PySem.W.keepIn K (.ref f28) = true)
    (a29 : PySem.W.nsIn K mainGlobals "_law_moved_cell" = some (some (.ref f29)))
    (l29 : K.lookup f29 = some ⟨oc29, od29, .func (PySem.W.fnOf "_law_moved_cell" "_law_moved_cell" (defArgs s_law_moved_cell) (defBody s_law_moved_cell) (defScope s_law_moved_cell) .none kV29 dc29 pm29 an29 cd29 ct29), sl29⟩)
    (c29 : PySem.W.codeIn K cd29 "_law_moved_cell" = true)
    (k29 : PySem.W.keepIn K (.ref f29) = true)
    (a30 : PySem.W.nsIn K mainGlobals "_law_told" = some (some (.ref f30)))
    (l30 : K.lookup f30 = some ⟨oc30, od30, .func (PySem.W.fnOf "_law_told" "_law_told" (defArgs s_law_told) (defBody s_law_told) (defScope s_law_told) .none kV30 dc30 pm30 an30 cd30 ct30), sl30⟩)
    (c30 : PySem.W.codeIn K cd30 "_law_told" = true)
    (k30 : PySem.W.keepIn K (.ref f30) = true)
    (tg30 : cd30 = .ref tC30)
    (tl30 : K.lookup tC30 = some ⟨ta30, tb30, .fields tv30, ts30⟩)
    (t30 : tv30[11]? = some (.ref tP30))
    (u30 : (K.lookup tP30).isNone = true)
    (a31 : PySem.W.nsIn K mainGlobals "_law_cells" = some (some (.ref f31)))
    (l31 : K.lookup f31 = some ⟨oc31, od31, .func (PySem.W.fnOf "_law_cells" "_law_cells" (defArgs s_law_cells) (defBody s_law_cells) (defScope s_law_cells) .none kV31 dc31 pm31 an31 cd31 ct31), sl31⟩)
    (c31 : PySem.W.codeIn K cd31 "_law_cells" = true)
    (k31 : PySem.W.keepIn K (.ref f31) = true)
    (a32 : PySem.W.nsIn K mainGlobals "_law_paper" = some (some (.ref f32)))
    (l32 : K.lookup f32 = some ⟨oc32, od32, .func (PySem.W.fnOf "_law_paper" "_law_paper" (defArgs s_law_paper) (defBody s_law_paper) (defScope s_law_paper) .none kV32 dc32 pm32 an32 cd32 ct32), sl32⟩)
    (c32 : PySem.W.codeIn K cd32 "_law_paper" = true)
    (k32 : PySem.W.keepIn K (.ref f32) = true)
    (a33 : PySem.W.nsIn K mainGlobals "_law_fewer" = some (some (.ref f33)))
    (l33 : K.lookup f33 = some ⟨oc33, od33, .func (PySem.W.fnOf "_law_fewer" "_law_fewer" (defArgs s_law_fewer) (defBody s_law_fewer) (defScope s_law_fewer) .none kV33 dc33 pm33 an33 cd33 ct33), sl33⟩)
    (c33 : PySem.W.codeIn K cd33 "_law_fewer" = true)
    (k33 : PySem.W.keepIn K (.ref f33) = true)
    (a34 : PySem.W.nsIn K mainGlobals "law" = some (some (.ref f34)))
    (l34 : K.lookup f34 = some ⟨oc34, od34, .func (PySem.W.fnOf "law" "law" (defArgs s_law) (defBody s_law) (defScope s_law) .none kV34 dc34 pm34 an34 cd34 ct34), sl34⟩)
    (c34 : PySem.W.codeIn K cd34 "law" = true)
    (k34 : PySem.W.keepIn K (.ref f34) = true)
    (hne : decide (List.Nodup [tP19, tP30]) = true)
    {q : Program} (TA : Sm.TabsAt q mg h) (hr_sweep_stands : ((PyProof.Rows.recsOf q).any fun e => e.name == ("sweep_stands" : Str)) = true) (hr_law_told : ((PyProof.Rows.recsOf q).any fun e => e.name == ("_law_told" : Str)) = true) :
    ∃ (fd : FuncData) (cs : List (Addr × Addr)) (sp : Sp), (∀ p ∈ cs, h.get? p.2 = some (Sm.tblObj #[])) ∧ (∀ p ∈ cs, (K).lookup p.2 = none) ∧ (∀ p ∈ cs, PySem.W.CodeHd h p.1 p.2) ∧ (∀ (s : Shared) (u : Value), BindsTo s fd ⟨[u], []⟩ [("_law_script", u)]) ∧
        (∀ (H : Hp) (a : Addr) (ns : List Int), ns.length ≤ 63 → (∀ p ∈ cs, H p.2 = some (.tbl #[])) → Sm.SqF (K) H a (ns.map V.int) → sp [.ref a] H (fun v _ => v = .bl true) fun _ _ _ => False) ∧
        ∀ base : Heap, (K).In base → base.Ns mainGlobals mg → (∀ p ∈ cs, LamX.TabB base mg p.1 p.2) → Sm.FnG l.prog w (K) mg base 9 fa fd ["_law_script"] sp := by
  have e := hfa.symm.trans (PySem.W.mg_of X G a34)
  cases e
  have T : ∃ T : Tx K mg, T.d_law.f = fa ∧ T.d_law.fd = PySem.W.fnOf "law" "law" (defArgs s_law) (defBody s_law) (defScope s_law) .none kV34 dc34 pm34 an34 cd34 ct34 ∧ T.d_sweep_stands.fd.code = cd19 ∧ T.d_law_told.fd.code = cd30 := ⟨{
      z_len := PySem.W.mg_none_of X G z_len,
      z_range := PySem.W.mg_none_of X G z_range,
      z_tuple := PySem.W.mg_none_of X G z_tuple,
      z_list := PySem.W.mg_none_of X G z_list,
      z_isinstance := PySem.W.mg_none_of X G z_isinstance,
      z_abs := PySem.W.mg_none_of X G z_abs,
      z_str := PySem.W.mg_none_of X G z_str,
      z_int := PySem.W.mg_none_of X G z_int,
      z_bool := PySem.W.mg_none_of X G z_bool,
      z_zip := PySem.W.mg_none_of X G z_zip,
      z_sorted := PySem.W.mg_none_of X G z_sorted,
      z_dict := PySem.W.mg_none_of X G z_dict,
      z_set := PySem.W.mg_none_of X G z_set,
      z_repr := PySem.W.mg_none_of X G z_repr,
      z_all := PySem.W.mg_none_of X G z_all,
      t_BIG := t_BIG,
      c_BIG := PySem.W.mg_of X G c_BIG,
      t_SMALL := t_SMALL,
      c_SMALL := PySem.W.mg_of X G c_SMALL,
      t_GREAT := t_GREAT,
      c_GREAT := PySem.W.mg_of X G c_GREAT,
      t_FIGURES := t_FIGURES,
      c_FIGURES := PySem.W.mg_of X G c_FIGURES,
      t_FIELDS := t_FIELDS,
      c_FIELDS := PySem.W.mg_of X G c_FIELDS,
      t_LONGEST := t_LONGEST,
      c_LONGEST := PySem.W.mg_of X G c_LONGEST,
      t_NAMES := t_NAMES,
      c_NAMES := PySem.W.mg_of X G c_NAMES,
      d_is_made_of := ⟨f1, _, fun_mk (st := s_is_made_of) l1 c1 k1, PySem.W.mg_of X G a1, (fun_mk (st := s_is_made_of) l1 c1 k1).binds (ps := ["text", "signs", "low", "high"]) fun _ _ _ _ _ _ us hl => match us, hl with | [_, _, _, _], _ => rfl⟩,
      d_is_kind_name := ⟨f2, _, fun_mk (st := s_is_kind_name) l2 c2 k2, PySem.W.mg_of X G a2, (fun_mk (st := s_is_kind_name) l2 c2 k2).binds (ps := ["word"]) fun _ _ _ _ _ _ us hl => match us, hl with | [_], _ => rfl⟩,
      d_is_text := ⟨f3, _, fun_mk (st := s_is_text) l3 c3 k3, PySem.W.mg_of X G a3, (fun_mk (st := s_is_text) l3 c3 k3).binds (ps := ["text"]) fun _ _ _ _ _ _ us hl => match us, hl with | [_], _ => rfl⟩,
      d_is_cell := ⟨f4, _, fun_mk (st := s_is_cell) l4 c4 k4, PySem.W.mg_of X G a4, (fun_mk (st := s_is_cell) l4 c4 k4).binds (ps := ["worth"]) fun _ _ _ _ _ _ us hl => match us, hl with | [_], _ => rfl⟩,
      d_parts_of := ⟨f5, _, fun_mk (st := s_parts_of) l5 c5 k5, PySem.W.mg_of X G a5, (fun_mk (st := s_parts_of) l5 c5 k5).binds (ps := ["cell"]) fun _ _ _ _ _ _ us hl => match us, hl with | [_], _ => rfl⟩,
      d_moved_worth := ⟨f6, _, fun_mk (st := s_moved_worth) l6 c6 k6, PySem.W.mg_of X G a6, (fun_mk (st := s_moved_worth) l6 c6 k6).binds (ps := ["worth", "moves"]) fun _ _ _ _ _ _ us hl => match us, hl with | [_, _], _ => rfl⟩,
      d_moved_worths := ⟨f7, _, fun_mk (st := s_moved_worths) l7 c7 k7, PySem.W.mg_of X G a7, (fun_mk (st := s_moved_worths) l7 c7 k7).binds (ps := ["worths", "moves"]) fun _ _ _ _ _ _ us hl => match us, hl with | [_, _], _ => rfl⟩,
      d_moved_cell := ⟨f8, _, fun_mk (st := s_moved_cell) l8 c8 k8, PySem.W.mg_of X G a8, (fun_mk (st := s_moved_cell) l8 c8 k8).binds (ps := ["cell", "moves"]) fun _ _ _ _ _ _ us hl => match us, hl with | [_, _], _ => rfl⟩,
      d_is_whole := defI_mk l9 lt9 c9 k9 (PySem.W.mg_of X G a9) (ps := ["thing", "low"]) (fun T kV doc pm an cdv ct us its hl hi => match us, hl, its, hi with | [_, _], _, [_], _ => ⟨_, rfl, rfl⟩) (fun T kV doc pm an cdv ct us its hl hi => match us, hl, its, hi with | [_], _, [_], _ => ⟨_, rfl, rfl⟩),
      d_is_address := ⟨f10, _, fun_mk (st := s_is_address) l10 c10 k10, PySem.W.mg_of X G a10, (fun_mk (st := s_is_address) l10 c10 k10).binds (ps := ["thing"]) fun _ _ _ _ _ _ us hl => match us, hl with | [_], _ => rfl⟩,
      d_is_worth := ⟨f11, _, fun_mk (st := s_is_worth) l11 c11 k11, PySem.W.mg_of X G a11, (fun_mk (st := s_is_worth) l11 c11 k11).binds (ps := ["thing"]) fun _ _ _ _ _ _ us hl => match us, hl with | [_], _ => rfl⟩,
      d_are_worths := ⟨f12, _, fun_mk (st := s_are_worths) l12 c12 k12, PySem.W.mg_of X G a12, (fun_mk (st := s_are_worths) l12 c12 k12).binds (ps := ["thing", "most"]) fun _ _ _ _ _ _ us hl => match us, hl with | [_, _], _ => rfl⟩,
      d_is_lot := ⟨f13, _, fun_mk (st := s_is_lot) l13 c13 k13, PySem.W.mg_of X G a13, (fun_mk (st := s_is_lot) l13 c13 k13).binds (ps := ["thing"]) fun _ _ _ _ _ _ us hl => match us, hl with | [_], _ => rfl⟩,
      d_is_rising := ⟨f14, _, fun_mk (st := s_is_rising) l14 c14 k14, PySem.W.mg_of X G a14, (fun_mk (st := s_is_rising) l14 c14 k14).binds (ps := ["numbers"]) fun _ _ _ _ _ _ us hl => match us, hl with | [_], _ => rfl⟩,
      d_are_pairs := ⟨f15, _, fun_mk (st := s_are_pairs) l15 c15 k15, PySem.W.mg_of X G a15, (fun_mk (st := s_are_pairs) l15 c15 k15).binds (ps := ["thing"]) fun _ _ _ _ _ _ us hl => match us, hl with | [_], _ => rfl⟩,
      d_are_lots := ⟨f16, _, fun_mk (st := s_are_lots) l16 c16 k16, PySem.W.mg_of X G a16, (fun_mk (st := s_are_lots) l16 c16 k16).binds (ps := ["thing"]) fun _ _ _ _ _ _ us hl => match us, hl with | [_], _ => rfl⟩,
      d_is_formed := ⟨f17, _, fun_mk (st := s_is_formed) l17 c17 k17, PySem.W.mg_of X G a17, (fun_mk (st := s_is_formed) l17 c17 k17).binds (ps := ["thing"]) fun _ _ _ _ _ _ us hl => match us, hl with | [_], _ => rfl⟩,
      d_are_moved := ⟨f18, _, fun_mk (st := s_are_moved) l18 c18 k18, PySem.W.mg_of X G a18, (fun_mk (st := s_are_moved) l18 c18 k18).binds (ps := ["cell", "moves"]) fun _ _ _ _ _ _ us hl => match us, hl with | [_, _], _ => rfl⟩,
      d_sweep_stands := ⟨f19, _, fun_mk (st := s_sweep_stands) l19 c19 k19, PySem.W.mg_of X G a19, (fun_mk (st := s_sweep_stands) l19 c19 k19).binds (ps := ["thing"]) fun _ _ _ _ _ _ us hl => match us, hl with | [_], _ => rfl⟩,
      d_law_deck := ⟨f20, _, fun_mk (st := s_law_deck) l20 c20 k20, PySem.W.mg_of X G a20, (fun_mk (st := s_law_deck) l20 c20 k20).binds (ps := ["_law_script"]) fun _ _ _ _ _ _ us hl => match us, hl with | [_], _ => rfl⟩,
      d_law_next := ⟨f21, _, fun_mk (st := s_law_next) l21 c21 k21, PySem.W.mg_of X G a21, (fun_mk (st := s_law_next) l21 c21 k21).binds (ps := ["_law_deck_here", "_law_below"]) fun _ _ _ _ _ _ us hl => match us, hl with | [_, _], _ => rfl⟩,
      d_law_worth := ⟨f22, _, fun_mk (st := s_law_worth) l22 c22 k22, PySem.W.mg_of X G a22, (fun_mk (st := s_law_worth) l22 c22 k22).binds (ps := ["_law_deck_here", "_law_some"]) fun _ _ _ _ _ _ us hl => match us, hl with | [_, _], _ => rfl⟩,
      d_law_worths := ⟨f23, _, fun_mk (st := s_law_worths) l23 c23 k23, PySem.W.mg_of X G a23, (fun_mk (st := s_law_worths) l23 c23 k23).binds (ps := ["_law_deck_here", "_law_some", "_law_many"]) fun _ _ _ _ _ _ us hl => match us, hl with | [_, _, _], _ => rfl⟩,
      d_law_cell := ⟨f24, _, fun_mk (st := s_law_cell) l24 c24 k24, PySem.W.mg_of X G a24, (fun_mk (st := s_law_cell) l24 c24 k24).binds (ps := ["_law_deck_here", "_law_some"]) fun _ _ _ _ _ _ us hl => match us, hl with | [_, _], _ => rfl⟩,
      d_law_places := ⟨f25, _, fun_mk (st := s_law_places) l25 c25 k25, PySem.W.mg_of X G a25, (fun_mk (st := s_law_places) l25 c25 k25).binds (ps := ["_law_deck_here", "_law_many"]) fun _ _ _ _ _ _ us hl => match us, hl with | [_, _], _ => rfl⟩,
      d_law_parts := ⟨f26, _, fun_mk (st := s_law_parts) l26 c26 k26, PySem.W.mg_of X G a26, (fun_mk (st := s_law_parts) l26 c26 k26).binds (ps := ["_law_cell_here"]) fun _ _ _ _ _ _ us hl => match us, hl with | [_], _ => rfl⟩,
      d_law_closed := ⟨f27, _, fun_mk (st := s_law_closed) l27 c27 k27, PySem.W.mg_of X G a27, (fun_mk (st := s_law_closed) l27 c27 k27).binds (ps := ["_law_cells_here", "_law_some"]) fun _ _ _ _ _ _ us hl => match us, hl with | [_, _], _ => rfl⟩,
      d_law_moved := ⟨f28, _, fun_mk (st := s_law_moved) l28 c28 k28, PySem.W.mg_of X G a28, (fun_mk (st := s_law_moved) l28 c28 k28).binds (ps := ["_law_worth_here", "_law_moves"]) fun _ _ _ _ _ _ us hl => match us, hl with | [_, _], _ => rfl⟩,
      d_law_moved_cell := ⟨f29, _, fun_mk (st := s_law_moved_cell) l29 c29 k29, PySem.W.mg_of X G a29, (fun_mk (st := s_law_moved_cell) l29 c29 k29).binds (ps := ["_law_cell_here", "_law_moves"]) fun _ _ _ _ _ _ us hl => match us, hl with | [_, _], _ => rfl⟩,
      d_law_told := ⟨f30, _, fun_mk (st := s_law_told) l30 c30 k30, PySem.W.mg_of X G a30, (fun_mk (st := s_law_told) l30 c30 k30).binds (ps := ["_law_deck_here", "_law_cells_here", "_law_roots", "_law_kept"]) fun _ _ _ _ _ _ us hl => match us, hl with | [_, _, _, _], _ => rfl⟩,
      d_law_cells := ⟨f31, _, fun_mk (st := s_law_cells) l31 c31 k31, PySem.W.mg_of X G a31, (fun_mk (st := s_law_cells) l31 c31 k31).binds (ps := ["_law_deck_here"]) fun _ _ _ _ _ _ us hl => match us, hl with | [_], _ => rfl⟩,
      d_law_paper := ⟨f32, _, fun_mk (st := s_law_paper) l32 c32 k32, PySem.W.mg_of X G a32, (fun_mk (st := s_law_paper) l32 c32 k32).binds (ps := ["_law_deck_here"]) fun _ _ _ _ _ _ us hl => match us, hl with | [_], _ => rfl⟩,
      d_law_fewer := ⟨f33, _, fun_mk (st := s_law_fewer) l33 c33 k33, PySem.W.mg_of X G a33, (fun_mk (st := s_law_fewer) l33 c33 k33).binds (ps := ["_law_deck_here", "_law_paper_here"]) fun _ _ _ _ _ _ us hl => match us, hl with | [_, _], _ => rfl⟩,
      d_law := ⟨fa, _, fun_mk (st := s_law) l34 c34 k34, PySem.W.mg_of X G a34, (fun_mk (st := s_law) l34 c34 k34).binds (ps := ["_law_script"]) fun _ _ _ _ _ _ us hl => match us, hl with | [_], _ => rfl⟩
    }, rfl, rfl, rfl, rfl⟩
  obtain ⟨T, e1, e2, g_sweep_stands, g_law_told⟩ := T
  obtain ⟨C_sweep_stands, k_sweep_stands, h_sweep_stands, p_sweep_stands⟩ := Sm.tab_known (P := tP19) X TA hr_sweep_stands T.d_sweep_stands.m (by obtain ⟨oc, od, kV, dc, pm, an, cv, ct, sl, z1, z2, _⟩ := T.d_sweep_stands.fn.ex; exact ⟨_, _, _, z2⟩) (by rw [g_sweep_stands]; exact Sm.tabIn_of tg19 tl19 t19)
  obtain ⟨C_law_told, k_law_told, h_law_told, p_law_told⟩ := Sm.tab_known (P := tP30) X TA hr_law_told T.d_law_told.m (by obtain ⟨oc, od, kV, dc, pm, an, cv, ct, sl, z1, z2, _⟩ := T.d_law_told.fn.ex; exact ⟨_, _, _, z2⟩) (by rw [g_law_told]; exact Sm.tabIn_of tg30 tl30 t30)
  exact law_fin T e1 k_sweep_stands h_sweep_stands p_sweep_stands u19 k_law_told h_law_told p_law_told u30 hne (by rw [e2]; exact fun s v => .of_eq rfl)
theorem walk {l : PySem.W.OpenLaw} {q : Program} {loose : List Str} {XP : (Str → Option Value) → Heap → Prop} {YP : World → Heap → Prop} {d : DefRec} {K : Params → PySem.W.Frag} (hn : l.most = some 63) (hdf : d.params.defaults = [])
    (hY : ∀ (w : World) (h : Heap), YP w h → (K w.params).In h)
    (F : ∀ (w : World) (mg : Str → Option Value) (fa : Addr) (h : Heap), (K w.params).In h → h.Ns mainGlobals mg → mg d.name = some (.ref fa) → Sm.TabsAt q mg h →
      ∃ (fd : FuncData) (cs : List (Addr × Addr)) (sp : Sp), (∀ p ∈ cs, h.get? p.2 = some (Sm.tblObj #[])) ∧ (∀ p ∈ cs, (K w.params).lookup p.2 = none) ∧ (∀ p ∈ cs, PySem.W.CodeHd h p.1 p.2) ∧ (∀ (s : Shared) (u : Value), BindsTo s fd ⟨[u], []⟩ [("_law_script", u)]) ∧
        (∀ (H : Hp) (a : Addr) (ns : List Int), ns.length ≤ 63 → (∀ p ∈ cs, H p.2 = some (.tbl #[])) → Sm.SqF (K w.params) H a (ns.map V.int) → sp [.ref a] H (fun v _ => v = .bl true) fun _ _ _ => False) ∧
        ∀ base : Heap, (K w.params).In base → base.Ns mainGlobals mg → (∀ p ∈ cs, LamX.TabB base mg p.1 p.2) → Sm.FnG l.prog w (K w.params) mg base 9 fa fd ["_law_script"] sp) :
    PySem.W.WalkO q loose XP YP l.row.toRowW d [] (fun f vs => PySem.call f vs) :=
  Sm.walkT (n := 63) (k := 9) (x := "_law_script") hn (by decide) hdf ⟨rfl, by decide, by decide⟩ hY F
end My
open PySem PySem.W PyProof.Rows
set_option maxRecDepth 100000 in
set_option maxHeartbeats 0 in
theorem PySem.Challenge.cw_sendstead_k29_sweep_papers_holds : PySem.Challenge.rw_sendstead_k29_sweep_papers.Holds := by
  w_on; o_law; k_head; (case hw => w_witness2)
  k_fill
  refine My.walk (l := PySem.Challenge.rw_sendstead_k29_sweep_papers) rfl rfl (fun w h Y => PySem.W.km_in_of Y) ?F
  case F =>
    intro w mg fa h KX G hmg TA
    refine' My.all_mk KX G hmg ?z_len ?z_range ?z_tuple ?z_list ?z_isinstance ?z_abs ?z_str ?z_int ?z_bool ?z_zip ?z_sorted ?z_dict ?z_set ?z_repr ?z_all ?c_BIG ?c_SMALL ?c_GREAT ?c_FIGURES ?c_FIELDS ?c_LONGEST ?c_NAMES ?a1 ?l1 ?c1 ?k1 ?a2 ?l2 ?c2 ?k2 ?a3 ?l3 ?c3 ?k3 ?a4 ?l4 ?c4 ?k4 ?a5 ?l5 ?c5 ?k5 ?a6 ?l6 ?c6 ?k6 ?a7 ?l7 ?c7 ?k7 ?a8 ?l8 ?c8 ?k8 ?a9 ?l9 ?lt9 ?c9 ?k9 ?a10 ?l10 ?c10 ?k10 ?a11 ?l11 ?c11 ?k11 ?a12 ?l12 ?c12 ?k12 ?a13 ?l13 ?c13 ?k13 ?a14 ?l14 ?c14 ?k14 ?a15 ?l15 ?c15 ?k15 ?a16 ?l16 ?c16 ?k16 ?a17 ?l17 ?c17 ?k17 ?a18 ?l18 ?c18 ?k18 ?a19 ?l19 ?c19 ?k19 ?tg19 ?tl19 ?t19 ?u19 ?a20 ?l20 ?c20 ?k20 ?a21 ?l21 ?c21 ?k21 ?a22 ?l22 ?c22 ?k22 ?a23 ?l23 ?c23 ?k23 ?a24 ?l24 ?c24 ?k24 ?a25 ?l25 ?c25 ?k25 ?a26 ?l26 ?c26 ?k26 ?a27 ?l27 ?c27 ?k27 ?a28 ?l28 ?c28 ?k28 ?a29 ?l29 ?c29 ?k29 ?a30 ?l30 ?c30 ?k30 ?tg30 ?tl30 ?t30 ?u30 ?a31 ?l31 ?c31 ?k31 ?a32 ?l32 ?c32 ?k32 ?a33 ?l33 ?c33 ?k33 ?a34 ?l34 ?c34 ?k34 ?hne TA ?hr_sweep_stands ?hr_law_told
    (case z_len => k_is)
    (case z_range => k_is)
    (case z_tuple => k_is)
    (case z_list => k_is)
    (case z_isinstance => k_is)
    (case z_abs => k_is)
    (case z_str => k_is)
    (case z_int => k_is)
    (case z_bool => k_is)
    (case z_zip => k_is)
    (case z_sorted => k_is)
    (case z_dict => k_is)
    (case z_set => k_is)
    (case z_repr => k_is)
    (case z_all => k_is)
    (case c_BIG => k_is)
    (case c_SMALL => k_is)
    (case c_GREAT => k_is)
    (case c_FIGURES => k_is)
    (case c_FIELDS => k_is)
    (case c_LONGEST => k_is)
    (case c_NAMES => k_is)
    (case a1 => k_is)
    (case l1 => k_is)
    (case c1 => k_is)
    (case k1 => k_is)
    (case a2 => k_is)
    (case l2 => k_is)
    (case c2 => k_is)
    (case k2 => k_is)
    (case a3 => k_is)
    (case l3 => k_is)
    (case c3 => k_is)
    (case k3 => k_is)
    (case a4 => k_is)
    (case l4 => k_is)
    (case c4 => k_is)
    (case k4 => k_is)
    (case a5 => k_is)
    (case l5 => k_is)
    (case c5 => k_is)
    (case k5 => k_is)
    (case a6 => k_is)
    (case l6 => k_is)
    (case c6 => k_is)
    (case k6 => k_is)
    (case a7 => k_is)
    (case l7 => k_is)
    (case c7 => k_is)
    (case k7 => k_is)
    (case a8 => k_is)
    (case l8 => k_is)
    (case c8 => k_is)
    (case k8 => k_is)
    (case a9 => k_is)
    (case l9 => k_is)
    (case lt9 => k_is)
    (case c9 => k_is)
    (case k9 => k_is)
    (case a10 => k_is)
    (case l10 => k_is)
    (case c10 => k_is)
    (case k10 => k_is)
    (case a11 => k_is)
    (case l11 => k_is)
    (case c11 => k_is)
    (case k11 => k_is)
    (case a12 => k_is)
    (case l12 => k_is)
    (case c12 => k_is)
    (case k12 => k_is)
    (case a13 => k_is)
    (case l13 => k_is)
    (case c13 => k_is)
    (case k13 => k_is)
    (case a14 => k_is)
    (case l14 => k_is)
    (case c14 => k_is)
    (case k14 => k_is)
    (case a15 => k_is)
    (case l15 => k_is)
    (case c15 => k_is)
    (case k15 => k_is)
    (case a16 => k_is)
    (case l16 => k_is)
    (case c16 => k_is)
    (case k16 => k_is)
    (case a17 => k_is)
    (case l17 => k_is)
    (case c17 => k_is)
    (case k17 => k_is)
    (case a18 => k_is)
    (case l18 => k_is)
    (case c18 => k_is)
    (case k18 => k_is)
    (case a19 => k_is)
    (case l19 => k_is)
    (case c19 => k_is)
    (case k19 => k_is)
    (case tg19 => exact rfl)
    (case tl19 => k_is)
    (case t19 => exact rfl)
    (case u19 => first | kernel_rfl | rfl)
    (case a20 => k_is)
    (case l20 => k_is)
    (case c20 => k_is)
    (case k20 => k_is)
    (case a21 => k_is)
    (case l21 => k_is)
    (case c21 => k_is)
    (case k21 => k_is)
    (case a22 => k_is)
    (case l22 => k_is)
    (case c22 => k_is)
    (case k22 => k_is)
    (case a23 => k_is)
    (case l23 => k_is)
    (case c23 => k_is)
    (case k23 => k_is)
    (case a24 => k_is)
    (case l24 => k_is)
    (case c24 => k_is)
    (case k24 => k_is)
    (case a25 => k_is)
    (case l25 => k_is)
    (case c25 => k_is)
    (case k25 => k_is)
    (case a26 => k_is)
    (case l26 => k_is)
    (case c26 => k_is)
    (case k26 => k_is)
    (case a27 => k_is)
    (case l27 => k_is)
    (case c27 => k_is)
    (case k27 => k_is)
    (case a28 => k_is)
    (case l28 => k_is)
    (case c28 => k_is)
    (case k28 => k_is)
    (case a29 => k_is)
    (case l29 => k_is)
    (case c29 => k_is)
    (case k29 => k_is)
    (case a30 => k_is)
    (case l30 => k_is)
    (case c30 => k_is)
    (case k30 => k_is)
    (case tg30 => exact rfl)
    (case tl30 => k_is)
    (case t30 => exact rfl)
    (case u30 => first | kernel_rfl | rfl)
    (case a31 => k_is)
    (case l31 => k_is)
    (case c31 => k_is)
    (case k31 => k_is)
    (case a32 => k_is)
    (case l32 => k_is)
    (case c32 => k_is)
    (case k32 => k_is)
    (case a33 => k_is)
    (case l33 => k_is)
    (case c33 => k_is)
    (case k33 => k_is)
    (case a34 => k_is)
    (case l34 => k_is)
    (case c34 => k_is)
    (case k34 => k_is)
    (case hne => first | kernel_rfl | rfl)
    (case hr_sweep_stands => first | rfl | decide +kernel | k_is)
    (case hr_law_told => first | rfl | decide +kernel | k_is)

