import PyProof.Rows.All
import Wide.All
import OpenK.AllK
import Wide.FinOn
import HandS.ForMost
import HandS.TupAny
import HandS.IsInst
import HandS.Walk
import HandS.Codes
import HandS.Strs
import HandS.Defaults
import HandS.More
import HandS.Zip
import HandS.ForExc
import HandS.WordsExc
import PySem.Challenge.RW_sendstead_k59_rows_judged
set_option Elab.async false
set_option linter.all false
set_option maxRecDepth 100000
set_option maxHeartbeats 4000000
/-! a small machine: values with tuples as values, a heap of numbered cells; and how the hand layer's values and heap stand for it -/
namespace Sm
open PySem L2
inductive MV where
  | non | bl (b : Bool) | int (i : Int) | str (x : Str) | tup (xs : List MV) | scr (xs : List MV) | ref (n : Nat) | exn (c : Str) (ns : List Str) (vs : List MV)
inductive MO where
  | lst (xs : List MV) | ins (c : Str) (fs : List (Str × MV)) | dct (kvs : List (Key × MV))
abbrev MH := List MO
abbrev MS := List (Option MV)
inductive Res (α : Type) where
  | ok (a : α) (h : MH) | ex (e : MV) (h : MH) | bad
namespace Res
def bind {α β : Type} (r : Res α) (f : α → MH → Res β) : Res β := match r with | .ok a h => f a h | .ex e h => .ex e h | .bad => .bad
@[simp] theorem bind_ok {α β : Type} (a : α) (h : MH) (f : α → MH → Res β) : (Res.ok a h).bind f = f a h := rfl
@[simp] theorem bind_ex {α β : Type} (e : MV) (h : MH) (f : α → MH → Res β) : (Res.ex e h).bind f = Res.ex e h := rfl
@[simp] theorem bind_bad {α β : Type} (f : α → MH → Res β) : (Res.bad : Res α).bind f = Res.bad := rfl
end Res
def Good {α : Type} (r : Res α) (Q : α → MH → Prop) (E : MV → MH → Prop) : Prop := match r with | .ok a h => Q a h | .ex e h => E e h | .bad => False
theorem Good.bind {α β : Type} {r : Res α} {f : α → MH → Res β} {Q : β → MH → Prop} {E : MV → MH → Prop} : Good (r.bind f) Q E ↔ Good r (fun a h => Good (f a h) Q E) E := by
  cases r <;> exact Iff.rfl
theorem Good.mono {α : Type} {r : Res α} {Q Q' : α → MH → Prop} {E E' : MV → MH → Prop} (g : Good r Q E) (hq : ∀ a h, Q a h → Q' a h) (he : ∀ e h, E e h → E' e h) : Good r Q' E' := by
  cases r with
  | ok a h => exact hq a h g
  | ex e h => exact he e h g
  | bad => exact g
abbrev ME := MS → MH → Res MV
abbrev MA := MS → MH → Res (List MV)
/-! ### values -/
abbrev Mp := Nat → Option Addr
/-- a tuple that stands -/
def TpA (K : PySem.W.Frag) (H : Hp) (a : Addr) (xs : List V) : Prop := SqT K H a xs
/-- the script: a list that is never written -/
def SqF (K : PySem.W.Frag) (H : Hp) (a : Addr) (xs : List V) : Prop := (∃ o, H a = some (.frz o (.lst xs))) ∨
  ∃ (o : Obj) (its : Array Value) (n : Nat), K.lookup a = some o ∧ o.cls = .type "list" ∧ o.dict = none ∧ o.data = .seq its n ∧ its.size ≤ sizeLine ∧ Vals xs its.toList
theorem SqF.sql {K : PySem.W.Frag} {H : Hp} {a : Addr} {xs : List V} (h : SqF K H a xs) : SqL K H a xs := h.elim (fun z => .inl (.inr z)) .inr
mutual
inductive RV (K : PySem.W.Frag) (mp : Mp) (H : Hp) : MV → V → Prop
  | non : RV K mp H .non .non
  | bl (b : Bool) : RV K mp H (.bl b) (.bl b)
  | int (i : Int) : RV K mp H (.int i) (.int i)
  | str (x : Str) : RV K mp H (.str x) (.str x)
  | ref {n : Nat} {a : Addr} (h : mp n = some a) : RV K mp H (.ref n) (.ref a)
  | tup {xs : List MV} {vs : List V} {a : Addr} (h : TpA K H a vs) (r : RVs K mp H xs vs) : RV K mp H (.tup xs) (.ref a)
  | scr {xs : List MV} {vs : List V} {a : Addr} (h : SqF K H a vs) (r : RVs K mp H xs vs) : RV K mp H (.scr xs) (.ref a)
inductive RVs (K : PySem.W.Frag) (mp : Mp) (H : Hp) : List MV → List V → Prop
  | nil : RVs K mp H [] []
  | cons {x : MV} {v : V} {xs : List MV} {vs : List V} (r : RV K mp H x v) (t : RVs K mp H xs vs) : RVs K mp H (x :: xs) (v :: vs)
end
/-- what may come: cells stay, tuples stay, what is no cell stays -/
structure Fut (K : PySem.W.Frag) (mp mp' : Mp) (H H' : Hp) : Prop where
  le : ∀ n a, mp n = some a → mp' n = some a
  tt : ∀ a xs, TpA K H a xs → TpA K H' a xs
  sf : ∀ a xs, SqF K H a xs → SqF K H' a xs
  fr : ∀ a o, H a = some o → (∀ n, mp n ≠ some a) → H' a = some o ∧ ∀ n, mp' n ≠ some a
section
variable {K : PySem.W.Frag} {mp mp' mp1 mp2 : Mp} {H H' H1 H2 : Hp}
theorem Fut.refl : Fut K mp mp H H := ⟨fun _ _ h => h, fun _ _ h => h, fun _ _ h => h, fun _ _ h n => ⟨h, n⟩⟩
theorem Fut.trans (a : Fut K mp mp1 H H1) (b : Fut K mp1 mp2 H1 H2) : Fut K mp mp2 H H2 :=
  ⟨fun n c h => b.le n c (a.le n c h), fun c xs h => b.tt c xs (a.tt c xs h), fun c xs h => b.sf c xs (a.sf c xs h), fun c o h n => by
    obtain ⟨h1, n1⟩ := a.fr c o h n
    exact b.fr c o h1 n1⟩
mutual
theorem RV.fut (f : Fut K mp mp' H H') : ∀ {x : MV} {v : V}, RV K mp H x v → RV K mp' H' x v
  | _, _, .non => .non
  | _, _, .bl b => .bl b
  | _, _, .int i => .int i
  | _, _, .str x => .str x
  | _, _, .ref h => .ref (f.le _ _ h)
  | _, _, .tup h r => .tup (f.tt _ _ h) (RVs.fut f r)
  | _, _, .scr h r => .scr (f.sf _ _ h) (RVs.fut f r)
theorem RVs.fut (f : Fut K mp mp' H H') : ∀ {xs : List MV} {vs : List V}, RVs K mp H xs vs → RVs K mp' H' xs vs
  | _, _, .nil => .nil
  | _, _, .cons r t => .cons (RV.fut f r) (RVs.fut f t)
end
theorem RVs.length : ∀ {xs : List MV} {vs : List V}, RVs K mp H xs vs → xs.length = vs.length
  | _, _, .nil => rfl
  | _, _, .cons _ t => by simp [RVs.length t]
theorem RVs.get : ∀ {xs : List MV} {vs : List V} {i : Nat} {x : MV}, RVs K mp H xs vs → xs[i]? = some x → ∃ v, vs[i]? = some v ∧ RV K mp H x v
  | _, _, _, _, .nil, e => by simp at e
  | _, _, 0, _, .cons r _, e => by simp at e; subst e; exact ⟨_, rfl, r⟩
  | _, _, i + 1, x, .cons _ t, e => by
    obtain ⟨u, h1, h2⟩ := RVs.get (i := i) (x := x) t (by simpa using e)
    exact ⟨u, by simpa using h1, h2⟩
theorem RVs.getV : ∀ {xs : List MV} {vs : List V} {i : Nat} {v : V}, RVs K mp H xs vs → vs[i]? = some v → ∃ x, xs[i]? = some x ∧ RV K mp H x v
  | _, _, _, _, .nil, e => by simp at e
  | _, _, 0, _, .cons r _, e => by simp at e; subst e; exact ⟨_, rfl, r⟩
  | _, _, i + 1, x, .cons _ t, e => by
    obtain ⟨u, h1, h2⟩ := RVs.getV (i := i) (v := x) t (by simpa using e)
    exact ⟨u, by simpa using h1, h2⟩
theorem RVs.append : ∀ {xs ys : List MV} {vs ws : List V}, RVs K mp H xs vs → RVs K mp H ys ws → RVs K mp H (xs ++ ys) (vs ++ ws)
  | _, _, _, _, .nil, s => s
  | _, _, _, _, .cons r t, s => .cons r (RVs.append t s)
theorem RVs.take : ∀ {xs : List MV} {vs : List V} (n : Nat), RVs K mp H xs vs → RVs K mp H (xs.take n) (vs.take n)
  | _, _, 0, _ => by simp; exact .nil
  | _, _, _ + 1, .nil => .nil
  | _, _, n + 1, .cons r t => .cons r (RVs.take n t)
theorem RVs.drop : ∀ {xs : List MV} {vs : List V} (n : Nat), RVs K mp H xs vs → RVs K mp H (xs.drop n) (vs.drop n)
  | _, _, 0, r => by simpa using r
  | _, _, _ + 1, .nil => .nil
  | _, _, n + 1, .cons _ t => RVs.drop n t
theorem RVs.set {x : MV} {v : V} (r : RV K mp H x v) : ∀ {xs : List MV} {vs : List V} (i : Nat), RVs K mp H xs vs → RVs K mp H (xs.set i x) (vs.set i v)
  | _, _, _, .nil => .nil
  | _, _, 0, .cons _ t => .cons r t
  | _, _, i + 1, .cons q t => .cons q (RVs.set r i t)
theorem RVs.eraseIdx : ∀ {xs : List MV} {vs : List V} (i : Nat), RVs K mp H xs vs → RVs K mp H (xs.eraseIdx i) (vs.eraseIdx i)
  | _, _, _, .nil => .nil
  | _, _, 0, .cons _ t => t
  | _, _, i + 1, .cons q t => .cons q (RVs.eraseIdx i t)
theorem RVs.reverse {xs : List MV} {vs : List V} (r : RVs K mp H xs vs) : RVs K mp H xs.reverse vs.reverse := by
  induction xs generalizing vs with
  | nil => cases r; exact .nil
  | cons x xs ih => cases r with | cons r t => simp only [List.reverse_cons]; exact (ih t).append (.cons r .nil)
end
/-! ### cells -/
def RFs (K : PySem.W.Frag) (mp : Mp) (H : Hp) {κ : Type} (fs : List (κ × MV)) (vs : List (κ × V)) : Prop := fs.map (·.1) = vs.map (·.1) ∧ RVs K mp H (fs.map (·.2)) (vs.map (·.2))
def RO (K : PySem.W.Frag) (cl : Str → Option Addr) (mp : Mp) (H : Hp) : MO → Addr → Prop
  | .lst xs, a => ∃ vs, H a = some (.lst vs) ∧ RVs K mp H xs vs
  | .ins c fs, a => ∃ C dx vs, cl c = some C ∧ H a = some (.ins C dx vs) ∧ RFs K mp H fs vs
  | .dct kvs, a => ∃ vs, H a = some (.dK vs) ∧ RFs K mp H kvs vs
structure Rl (K : PySem.W.Frag) (cl : Str → Option Addr) (mp : Mp) (h : MH) (H : Hp) : Prop where
  dom : ∀ n a, mp n = some a → n < h.length
  has : ∀ n, n < h.length → ∃ a, mp n = some a
  inj : ∀ n k a, mp n = some a → mp k = some a → n = k
  obj : ∀ n o a, h[n]? = some o → mp n = some a → RO K cl mp H o a
section
variable {K : PySem.W.Frag} {cl : Str → Option Addr} {mp mp' : Mp} {h : MH} {H H' : Hp}
theorem RFs.fut {κ : Type} {fs : List (κ × MV)} {vs : List (κ × V)} (f : Fut K mp mp' H H') (r : RFs K mp H fs vs) : RFs K mp' H' fs vs := ⟨r.1, r.2.fut f⟩
theorem RO.fut {o : MO} {a : Addr} (f : Fut K mp mp' H H') (e : H' a = H a) (r : RO K cl mp H o a) : RO K cl mp' H' o a := by
  cases o with
  | lst xs => obtain ⟨vs, h1, h2⟩ := r; exact ⟨vs, e.trans h1, h2.fut f⟩
  | ins c fs => obtain ⟨C, dx, vs, h0, h1, h2⟩ := r; exact ⟨C, dx, vs, h0, e.trans h1, h2.fut f⟩
  | dct kvs => obtain ⟨vs, h1, h2⟩ := r; exact ⟨vs, e.trans h1, h2.fut f⟩
theorem RO.some {o : MO} {a : Addr} (r : RO K cl mp H o a) : ∃ u, H a = some u ∧ (∀ xs, ¬ Rd H a (.tup xs)) ∧ ∀ o w, H a ≠ some (.frz o w) := by
  have go : ∀ u, H a = Option.some u → (∀ xs, u ≠ .tup xs) → (∀ o w, u ≠ .frz o w) → ∃ u, H a = Option.some u ∧ (∀ xs, ¬ Rd H a (.tup xs)) ∧ ∀ o w, H a ≠ Option.some (.frz o w) := fun u e n1 n2 => ⟨u, e, fun xs q => by
    rcases q with q | ⟨o, q⟩
    · rw [e] at q; exact n1 xs (Option.some.inj q)
    · rw [e] at q; exact n2 o _ (Option.some.inj q), fun o w q => by rw [e] at q; exact n2 o w (Option.some.inj q)⟩
  cases o with
  | lst xs => obtain ⟨vs, h1, _⟩ := r; exact go _ h1 (fun _ z => by cases z) (fun _ _ z => by cases z)
  | ins c fs => obtain ⟨C, dx, vs, _, h1, _⟩ := r; exact go _ h1 (fun _ z => by cases z) (fun _ _ z => by cases z)
  | dct kvs => obtain ⟨vs, h1, _⟩ := r; exact go _ h1 (fun _ z => by cases z) (fun _ _ z => by cases z)
theorem Rl.cell (r : Rl K cl mp h H) {n : Nat} {a : Addr} (e : mp n = some a) : ∃ o, h[n]? = some o ∧ RO K cl mp H o a := by
  have l := r.dom n a e
  exact ⟨h[n], by simp [l], r.obj n _ a (by simp [l]) e⟩
theorem Rl.at (r : Rl K cl mp h H) {n : Nat} {o : MO} (e : h[n]? = some o) : ∃ a, mp n = some a ∧ RO K cl mp H o a := by
  obtain ⟨l, _⟩ := List.getElem?_eq_some_iff.mp e
  obtain ⟨a, q⟩ := r.has n l
  exact ⟨a, q, r.obj n o a e q⟩
/-- a new thing that is no cell -/
theorem TpA.new {p : Addr} {o : HO} (hp : H p = none) : ∀ a xs, TpA K H a xs → TpA K (upd H p o) a xs := fun a xs t => by
  rcases t with t | t
  · refine .inl ?_
    rcases t with t | ⟨u, t⟩
    · exact .inl (by rw [upd_ne (ne_of_none t hp)]; exact t)
    · exact .inr ⟨u, by rw [upd_ne (ne_of_none t hp)]; exact t⟩
  · exact .inr t
theorem SqF.new {p : Addr} {o : HO} (hp : H p = none) : ∀ a xs, SqF K H a xs → SqF K (upd H p o) a xs := fun a xs t => by
  rcases t with ⟨u, t⟩ | t
  · exact .inl ⟨u, by rw [upd_ne (ne_of_none t hp)]; exact t⟩
  · exact .inr t
theorem Fut.new {p : Addr} {o : HO} (hp : H p = none) : Fut K mp mp H (upd H p o) :=
  ⟨fun _ _ h => h, TpA.new hp, SqF.new hp, fun a u h n => ⟨by rw [upd_ne (ne_of_none h hp)]; exact h, n⟩⟩
theorem Rl.new {p : Addr} {o : HO} (r : Rl K cl mp h H) (hp : H p = none) : Rl K cl mp h (upd H p o) :=
  ⟨r.dom, r.has, r.inj, fun n u a e q => by
    have ro := r.obj n u a e q
    obtain ⟨z, hz, _⟩ := ro.some
    exact ro.fut (Fut.new hp) (upd_ne (ne_of_none hz hp))⟩
/-- .. that becomes a cell -/
def Mp.put (mp : Mp) (n : Nat) (p : Addr) : Mp := fun k => if k = n then some p else mp k
theorem Mp.put_same {n : Nat} {p : Addr} : Mp.put mp n p n = some p := by simp [Mp.put]
theorem Mp.put_ne {n k : Nat} {p : Addr} (h : k ≠ n) : Mp.put mp n p k = mp k := by simp [Mp.put, h]
theorem Rl.none (r : Rl K cl mp h H) : mp h.length = none := by
  cases e : mp h.length with
  | none => rfl
  | some a => exact absurd (r.dom _ _ e) (Nat.lt_irrefl _)
/-- a thing at p that is no cell (new since H0) becomes a cell -/
theorem Fut.toCell {mp0 : Mp} {H0 : Hp} {p : Addr} (r : Rl K cl mp h H) (f : Fut K mp0 mp H0 H) (h0 : H0 p = none) : Fut K mp0 (Mp.put mp h.length p) H0 H :=
  ⟨fun n a e => by
    have e1 := f.le n a e
    have := r.dom n a e1
    rw [Mp.put_ne (by omega)]; exact e1, f.tt, f.sf, fun a o e n => by
    obtain ⟨e1, n1⟩ := f.fr a o e n
    refine ⟨e1, fun k => ?_⟩
    unfold Mp.put
    split
    · intro z
      have z := Option.some.inj z
      subst z
      rw [h0] at e; cases e
    · exact n1 k⟩
theorem Rl.toCell {p : Addr} {u : MO} (r : Rl K cl mp h H) (np : ∀ n, mp n ≠ some p) (ro : RO K cl mp H u p) : Rl K cl (Mp.put mp h.length p) (h ++ [u]) H := by
  have le : ∀ n a, mp n = some a → Mp.put mp h.length p n = some a := fun n a e => by
    have := r.dom n a e
    rw [Mp.put_ne (by omega)]; exact e
  have mono : ∀ {mp' : Mp}, (∀ n a, mp n = some a → mp' n = some a) → ∀ {o : MO} {a : Addr}, RO K cl mp H o a → RO K cl mp' H o a := fun {mp'} le {o a} ro => by
    -- only the map grows
    have rv : ∀ {xs : List MV} {vs : List V}, RVs K mp H xs vs → RVs K mp' H xs vs := by
      have both : (∀ {x : MV} {v : V}, RV K mp H x v → RV K mp' H x v) ∧ ∀ {xs : List MV} {vs : List V}, RVs K mp H xs vs → RVs K mp' H xs vs := by
        constructor
        · intro x v r
          exact RV.rec (motive_1 := fun x v _ => RV K mp' H x v) (motive_2 := fun xs vs _ => RVs K mp' H xs vs) .non (fun b => .bl b) (fun i => .int i) (fun x => .str x) (fun h => .ref (le _ _ h)) (fun h _ q => .tup h q) (fun h _ q => .scr h q) .nil (fun _ _ a b => .cons a b) r
        · intro x v r
          exact RVs.rec (motive_1 := fun x v _ => RV K mp' H x v) (motive_2 := fun xs vs _ => RVs K mp' H xs vs) .non (fun b => .bl b) (fun i => .int i) (fun x => .str x) (fun h => .ref (le _ _ h)) (fun h _ q => .tup h q) (fun h _ q => .scr h q) .nil (fun _ _ a b => .cons a b) r
      exact fun {xs vs} r => both.2 r
    cases o with
    | lst xs => obtain ⟨vs, h1, h2⟩ := ro; exact ⟨vs, h1, rv h2⟩
    | ins c fs => obtain ⟨C, dx, vs, h0, h1, h2⟩ := ro; exact ⟨C, dx, vs, h0, h1, h2.1, rv h2.2⟩
    | dct kvs => obtain ⟨vs, h1, h2⟩ := ro; exact ⟨vs, h1, h2.1, rv h2.2⟩
  refine ⟨fun n a e => ?_, fun n l => ?_, fun n k a e1 e2 => ?_, fun n o a e q => ?_⟩
  · by_cases hn : n = h.length
    · subst hn; simp
    · rw [Mp.put_ne hn] at e
      have := r.dom n a e
      simp; omega
  · by_cases hn : n = h.length
    · exact ⟨p, by rw [hn]; exact Mp.put_same⟩
    · obtain ⟨a, e⟩ := r.has n (by simp at l; omega)
      exact ⟨a, le n a e⟩
  · by_cases hn : n = h.length
    · by_cases hk : k = h.length
      · omega
      · rw [hn, Mp.put_same] at e1
        rw [Mp.put_ne hk] at e2
        have := Option.some.inj e1
        subst this
        exact absurd e2 (np k)
    · by_cases hk : k = h.length
      · rw [hk, Mp.put_same] at e2
        rw [Mp.put_ne hn] at e1
        have := Option.some.inj e2
        subst this
        exact absurd e1 (np n)
      · rw [Mp.put_ne hn] at e1
        rw [Mp.put_ne hk] at e2
        exact r.inj n k a e1 e2
  · by_cases hn : n = h.length
    · subst hn
      rw [Mp.put_same] at q
      have := Option.some.inj q
      subst this
      have : o = u := by simpa using e.symm
      subst this
      exact mono le ro
    · rw [Mp.put_ne hn] at q
      have l := r.dom n a q
      rw [List.getElem?_append_left l] at e
      exact mono le (r.obj n o a e q)
/-- a cell is written -/
theorem TpA.set {p : Addr} {o : HO} (hp : ∀ xs, ¬ Rd H p (.tup xs)) : ∀ a xs, TpA K H a xs → TpA K (upd H p o) a xs := fun a xs t => by
  rcases t with t | t
  · refine .inl ?_
    have ne : a ≠ p := fun z => by subst z; exact hp xs t
    rcases t with t | ⟨u, t⟩
    · exact .inl (by rw [upd_ne ne]; exact t)
    · exact .inr ⟨u, by rw [upd_ne ne]; exact t⟩
  · exact .inr t
theorem Fut.set {n : Nat} {p : Addr} {o : HO} (r : Rl K cl mp h H) (e : mp n = some p) : Fut K mp mp H (upd H p o) := by
  obtain ⟨u, _, ro⟩ := r.cell e
  obtain ⟨_, _, nt, nf⟩ := ro.some
  exact ⟨fun _ _ h => h, TpA.set nt, fun a xs t => (by
    rcases t with ⟨u, t⟩ | t
    · exact .inl ⟨u, by rw [upd_ne (fun z => nf u _ (by rw [← z]; exact t))]; exact t⟩
    · exact .inr t), fun a u h k => ⟨by rw [upd_ne (fun z => k n (by rw [z]; exact e))]; exact h, k⟩⟩
theorem Rl.set {n : Nat} {p : Addr} {o : HO} {u : MO} (r : Rl K cl mp h H) (e : mp n = some p) (ro : RO K cl mp (upd H p o) u p) : Rl K cl mp (h.set n u) (upd H p o) := by
  refine ⟨fun k a q => by simpa using r.dom k a q, fun k l => r.has k (by simpa using l), r.inj, fun k v a q1 q2 => ?_⟩
  by_cases hk : k = n
  · subst hk
    rw [e] at q2
    have := Option.some.inj q2
    subst this
    have l := r.dom k p e
    rw [List.getElem?_set_self l] at q1
    have := Option.some.inj q1
    subst this
    exact ro
  · rw [List.getElem?_set_ne (Ne.symm hk)] at q1
    have ne : a ≠ p := fun z => by subst z; exact hk (r.inj k n a q2 e)
    exact (r.obj k v a q1 q2).fut (Fut.set r e) (upd_ne ne)
end
/-! ### slots -/
structure RS (K : PySem.W.Frag) (mp : Mp) (H : Hp) (ρ : MS) (σ : St) : Prop where
  len : ρ.length = σ.length
  at_ : ∀ (i : Nat) x, ρ[i]? = some (some x) → ∃ v, σ[i]? = some (some v) ∧ RV K mp H x v
section
variable {K : PySem.W.Frag} {mp mp' : Mp} {H H' : Hp} {ρ : MS} {σ : St}
theorem RS.fut (f : Fut K mp mp' H H') (r : RS K mp H ρ σ) : RS K mp' H' ρ σ := ⟨r.len, fun i x e => by
  obtain ⟨v, h1, h2⟩ := r.at_ i x e
  exact ⟨v, h1, h2.fut f⟩⟩
theorem RS.set {i : Nat} {x : MV} {v : V} (r : RS K mp H ρ σ) (q : RV K mp H x v) : RS K mp H (ρ.set i (some x)) (σ.set i (some v)) := ⟨by simp [r.len], fun j y e => by
  by_cases hj : j = i
  · subst hj
    have l : j < ρ.length := by
      have := (List.getElem?_eq_some_iff.mp e).1
      simpa using this
    rw [List.getElem?_set_self l] at e
    have e := Option.some.inj (Option.some.inj e)
    subst e
    exact ⟨v, by rw [List.getElem?_set_self (by rw [← r.len]; exact l)], q⟩
  · rw [List.getElem?_set_ne (Ne.symm hj)] at e
    obtain ⟨w, h1, h2⟩ := r.at_ j y e
    exact ⟨w, by rw [List.getElem?_set_ne (Ne.symm hj)]; exact h1, h2⟩⟩
end
end Sm

set_option Elab.async false
set_option linter.all false
set_option maxRecDepth 100000
set_option maxHeartbeats 4000000
/-! the judgements: an expression, a test, arguments, as functions of the small machine -/
namespace Sm
open PySem L2
abbrev Wsh := Value → Option Addr → St → Hp → Prop
/-- an exception as it stands -/
def RX (K : PySem.W.Frag) (cl : Str → Option Addr) (mp : Mp) (H : Hp) (e : MV) (c : Value) (d : Option Addr) : Prop :=
  ∃ k ns vs C, e = .exn k ns vs ∧ cl k = some C ∧ c = .ref C ∧
    ((ns = [] ∧ vs = [] ∧ d = none) ∨ ∃ dd fs, d = some dd ∧ H dd = some (.xd fs) ∧ fs.map (·.1) = ns ∧ RVs K mp H vs (fs.map (·.2)))
section
variable (K : PySem.W.Frag) (cl : Str → Option Addr) (mp : Mp) (H : Hp)
def QV (Q : VK) : MV → MH → Prop := fun v h' => ∀ V H' mp', Fut K mp mp' H H' → Rl K cl mp' h' H' → RV K mp' H' v V → Q V H'
def QB (Q : Bool → Hp → Prop) : Bool → MH → Prop := fun v h' => ∀ H' mp', Fut K mp mp' H H' → Rl K cl mp' h' H' → Q v H'
def QA (Q : List V → Hp → Prop) : List MV → MH → Prop := fun v h' => ∀ V H' mp', Fut K mp mp' H H' → Rl K cl mp' h' H' → RVs K mp' H' v V → Q V H'
/-- a list just made, that nothing else knows -/
def QL (Q : VK) : List MV → MH → Prop := fun xs h' => ∀ p vs H' mp', Fut K mp mp' H H' → Rl K cl mp' h' H' → H p = none → (∀ n, mp' n ≠ some p) → H' p = some (.lst vs) → RVs K mp' H' xs vs → Q (.ref p) H'
def EW (W : Wsh) (σ : St) : MV → MH → Prop := fun e h' => ∀ c d H' mp', Fut K mp mp' H H' → Rl K cl mp' h' H' → RX K cl mp' H' e c d → W c d σ H'
end
section
variable {K : PySem.W.Frag} {cl : Str → Option Addr} {mp mp1 : Mp} {H H1 : Hp} {W : Wsh} {σ : St}
theorem QV.fut {Q : VK} (f : Fut K mp mp1 H H1) {v : MV} {h : MH} (q : QV K cl mp H Q v h) : QV K cl mp1 H1 Q v h := fun V H' mp' f' => q V H' mp' (f.trans f')
theorem QB.fut {Q : Bool → Hp → Prop} (f : Fut K mp mp1 H H1) {v : Bool} {h : MH} (q : QB K cl mp H Q v h) : QB K cl mp1 H1 Q v h := fun H' mp' f' => q H' mp' (f.trans f')
theorem QA.fut {Q : List V → Hp → Prop} (f : Fut K mp mp1 H H1) {v : List MV} {h : MH} (q : QA K cl mp H Q v h) : QA K cl mp1 H1 Q v h := fun V H' mp' f' => q V H' mp' (f.trans f')
theorem EW.fut (f : Fut K mp mp1 H H1) {e : MV} {h : MH} (q : EW K cl mp H W σ e h) : EW K cl mp1 H1 W σ e h := fun c d H' mp' f' => q c d H' mp' (f.trans f')
end
section
variable (K : PySem.W.Frag) (cl : Str → Option Addr) (W : Wsh)
def tM (m : ME) : TE := fun σ H Q => ∃ ρ h mp, Rl K cl mp h H ∧ RS K mp H ρ σ ∧ Good (m ρ h) (QV K cl mp H Q) (EW K cl mp H W σ)
def tMT (m : MS → MH → Res Bool) : TT := fun σ H Q => ∃ ρ h mp, Rl K cl mp h H ∧ RS K mp H ρ σ ∧ Good (m ρ h) (QB K cl mp H Q) (EW K cl mp H W σ)
def tMA (m : MA) : TA := fun σ H Q => ∃ ρ h mp, Rl K cl mp h H ∧ RS K mp H ρ σ ∧ Good (m ρ h) (QA K cl mp H Q) (EW K cl mp H W σ)
def tML (m : MA) : TE := fun σ H Q => ∃ ρ h mp, Rl K cl mp h H ∧ RS K mp H ρ σ ∧ Good (m ρ h) (QL K cl mp H Q) (EW K cl mp H W σ)
end
abbrev SE (X : Cx) (cl : Str → Option Addr) (W : Wsh) (e : Expr) (m : ME) : Prop := PE X e (tM X.K cl W m)
abbrev ST (X : Cx) (cl : Str → Option Addr) (W : Wsh) (e : Expr) (m : MS → MH → Res Bool) : Prop := PT X e (tMT X.K cl W m)
abbrev SW (X : Cx) (cl : Str → Option Addr) (W : Wsh) (e : Expr) (m : MS → MH → Res Bool) : Prop := PW X e (tMT X.K cl W m)
abbrev SA (X : Cx) (cl : Str → Option Addr) (W : Wsh) (es : List Expr) (m : MA) : Prop := PA X es (tMA X.K cl W m)
abbrev SL (X : Cx) (cl : Str → Option Addr) (W : Wsh) (e : Expr) (m : MA) : Prop := PE X e (tML X.K cl W m)
theorem peW {X : Cx} {e : Expr} {t t' : TE} (h : PE X e t) (w : ∀ σ H Q, t' σ H Q → t σ H Q) : PE X e t' := ⟨fun pins s σ H Q I q => h.run pins s σ H Q I (w σ H Q q)⟩
theorem ptW {X : Cx} {e : Expr} {t t' : TT} (h : PT X e t) (w : ∀ σ H Q, t' σ H Q → t σ H Q) : PT X e t' := ⟨fun pins s σ H Q I q => h.run pins s σ H Q I (w σ H Q q)⟩
theorem pwW {X : Cx} {e : Expr} {t t' : TT} (h : PW X e t) (w : ∀ σ H Q, t' σ H Q → t σ H Q) : PW X e t' := ⟨fun whole pins s σ H Q I q => h.run whole pins s σ H Q I (w σ H Q q)⟩
theorem paW {X : Cx} {e : List Expr} {t t' : TA} (h : PA X e t) (w : ∀ σ H Q, t' σ H Q → t σ H Q) : PA X e t' := ⟨fun pos pins s σ H Q I q => h.run pos pins s σ H Q I (w σ H Q q)⟩
/-! ### what comes first, then the rest -/
section
variable {K : PySem.W.Frag} {cl : Str → Option Addr} {W : Wsh} {mp : Mp} {h : MH} {H : Hp} {ρ : MS} {σ : St} {β : Type} {Q1 : β → MH → Prop} {E1 : MV → MH → Prop}
theorem tM_bind {m : ME} {f : MV → MH → Res β} {R : VK} (rl : Rl K cl mp h H) (rs : RS K mp H ρ σ) (g : Good ((m ρ h).bind f) Q1 E1) (hE : ∀ e h', E1 e h' → EW K cl mp H W σ e h')
    (k : ∀ x h1 V H1 mp1, Fut K mp mp1 H H1 → Rl K cl mp1 h1 H1 → RS K mp1 H1 ρ σ → RV K mp1 H1 x V → Good (f x h1) Q1 E1 → R V H1) : tM K cl W m σ H R :=
  ⟨ρ, h, mp, rl, rs, (Good.bind.mp g).mono (fun x h1 g1 V H1 mp1 f1 rl1 rv => k x h1 V H1 mp1 f1 rl1 (rs.fut f1) rv g1) hE⟩
theorem tMT_bind {m : MS → MH → Res Bool} {f : Bool → MH → Res β} {R : Bool → Hp → Prop} (rl : Rl K cl mp h H) (rs : RS K mp H ρ σ) (g : Good ((m ρ h).bind f) Q1 E1) (hE : ∀ e h', E1 e h' → EW K cl mp H W σ e h')
    (k : ∀ x h1 H1 mp1, Fut K mp mp1 H H1 → Rl K cl mp1 h1 H1 → RS K mp1 H1 ρ σ → Good (f x h1) Q1 E1 → R x H1) : tMT K cl W m σ H R :=
  ⟨ρ, h, mp, rl, rs, (Good.bind.mp g).mono (fun x h1 g1 H1 mp1 f1 rl1 => k x h1 H1 mp1 f1 rl1 (rs.fut f1) g1) hE⟩
theorem tMA_bind {m : MA} {f : List MV → MH → Res β} {R : List V → Hp → Prop} (rl : Rl K cl mp h H) (rs : RS K mp H ρ σ) (g : Good ((m ρ h).bind f) Q1 E1) (hE : ∀ e h', E1 e h' → EW K cl mp H W σ e h')
    (k : ∀ x h1 V H1 mp1, Fut K mp mp1 H H1 → Rl K cl mp1 h1 H1 → RS K mp1 H1 ρ σ → RVs K mp1 H1 x V → Good (f x h1) Q1 E1 → R V H1) : tMA K cl W m σ H R :=
  ⟨ρ, h, mp, rl, rs, (Good.bind.mp g).mono (fun x h1 g1 V H1 mp1 f1 rl1 rv => k x h1 V H1 mp1 f1 rl1 (rs.fut f1) rv g1) hE⟩
theorem tML_bind {m : MA} {f : List MV → MH → Res β} {R : VK} (rl : Rl K cl mp h H) (rs : RS K mp H ρ σ) (g : Good ((m ρ h).bind f) Q1 E1) (hE : ∀ e h', E1 e h' → EW K cl mp H W σ e h')
    (k : ∀ x h1 p vs H1 mp1, Fut K mp mp1 H H1 → Rl K cl mp1 h1 H1 → RS K mp1 H1 ρ σ → H p = none → (∀ n, mp1 n ≠ some p) → H1 p = some (.lst vs) → RVs K mp1 H1 x vs → Good (f x h1) Q1 E1 → R (.ref p) H1) : tML K cl W m σ H R :=
  ⟨ρ, h, mp, rl, rs, (Good.bind.mp g).mono (fun x h1 g1 p vs H1 mp1 f1 rl1 h0 np hp rv => k x h1 p vs H1 mp1 f1 rl1 (rs.fut f1) h0 np hp rv g1) hE⟩
end
/-! ### constants, names -/
@[simp] def eC (v : MV) : ME := fun _ h => .ok v h
@[simp] def eVar (i : Nat) : ME := fun ρ h => match ρ[i]? with | some (some v) => .ok v h | _ => .bad
section
variable {X : Cx} {cl : Str → Option Addr} {W : Wsh}
theorem se_const {e : Expr} {v : MV} {u : V} (h : PE X e (tC u)) (r : ∀ mp H, RV X.K mp H v u) : SE X cl W e (eC v) :=
  peW h fun σ H Q ⟨ρ, h, mp, rl, rs, g⟩ => g u H mp .refl rl (r mp H)
theorem se_int {i : Int} {j pos} : SE X cl W (.Constant (.int i) j pos) (eC (.int i)) := se_const pe_int fun _ _ => .int i
theorem se_bl {b : Bool} {j pos} : SE X cl W (.Constant (.bool b) j pos) (eC (.bl b)) := se_const pe_bl fun _ _ => .bl b
theorem se_non {j pos} : SE X cl W (.Constant .none j pos) (eC .non) := se_const pe_non fun _ _ => .non
theorem se_str {x : Str} {j pos} : SE X cl W (.Constant (.str x) j pos) (eC (.str x)) := se_const pe_str fun _ _ => .str x
theorem se_var {i : Nat} {e : Expr} (h : PE X e (tVar i)) : SE X cl W e (eVar i) := peW h fun σ H Q ⟨ρ, h, mp, rl, rs, g⟩ => by
  unfold eVar at g
  split at g
  · rename_i v e
    obtain ⟨u, h1, h2⟩ := rs.at_ i v e
    exact ⟨u, h1, g u H mp .refl rl h2⟩
  · exact g.elim
/-! ### operators -/
/-- an operation of two values stands for one of the small machine -/
def Op2 (X : Cx) (cl : Str → Option Addr) (r : R2) (mo : MV → MV → MH → Res MV) : Prop := ∀ x y V Y H h mp Q E, Rl X.K cl mp h H → RV X.K mp H x V → RV X.K mp H y Y → Good (mo x y h) (QV X.K cl mp H Q) E → (∀ e h', ¬ mo x y h = .ex e h') → r V Y H Q
@[simp] def eBin (mo : MV → MV → MH → Res MV) (ma mb : ME) : ME := fun ρ h => (ma ρ h).bind fun x h1 => (mb ρ h1).bind fun y h2 => mo x y h2
@[simp] def eUn (mo : MV → MH → Res MV) (ma : ME) : ME := fun ρ h => (ma ρ h).bind fun x h1 => mo x h1
/-- no exception comes of it -/
def NoEx2 (mo : MV → MV → MH → Res MV) : Prop := ∀ x y h e h', ¬ mo x y h = .ex e h'
variable {a b : Expr} {ma mb : ME} {mo : MV → MV → MH → Res MV} {r : R2} {pos : Pos}
theorem tOp_of (ok : Op2 X cl r mo) (ne : NoEx2 mo) : ∀ σ H Q, tM X.K cl W (eBin mo ma mb) σ H Q → tOp r (tM X.K cl W ma) (tM X.K cl W mb) σ H Q := fun σ H Q ⟨ρ, h, mp, rl, rs, g⟩ =>
  tM_bind rl rs g (fun _ _ z => z) fun x h1 V H1 mp1 f1 rl1 rs1 rv1 g1 =>
    tM_bind rl1 rs1 g1 (fun _ _ z => z.fut f1) fun y h2 Y H2 mp2 f2 rl2 rs2 rv2 g2 =>
      ok x y V Y H2 h2 mp2 Q _ rl2 (rv1.fut f2) rv2 (g2.mono (fun v h' q => q.fut (f1.trans f2)) fun _ _ z => z) (ne x y h2)
theorem se_bin {op : Operator} (ho : OpR X (binaryOp op) r) (ok : Op2 X cl r mo) (ne : NoEx2 mo) (ha : SE X cl W a ma) (hb : SE X cl W b mb) : SE X cl W (.BinOp a op b pos) (eBin mo ma mb) := peW (pe_op ho ha hb) (tOp_of ok ne)
theorem se_cmp {op : CmpOp} (ho : OpR X (compareOp op) r) (ok : Op2 X cl r mo) (ne : NoEx2 mo) (ha : SE X cl W a ma) (hb : SE X cl W b mb) (hm : behindInMarks op b = false) : SE X cl W (.Compare a [op] [b] pos) (eBin mo ma mb) := peW (pe_cmpR ho ha hb hm) (tOp_of ok ne)
/-- a value as a test: it is a truth -/
@[simp] def asB (v : MV) (h : MH) : Res Bool := match v with | .bl b => .ok b h | _ => .bad
@[simp] def tOfE (m : ME) : MS → MH → Res Bool := fun ρ h => (m ρ h).bind asB
theorem asB_ok {K : PySem.W.Frag} {mp mp1 : Mp} {H H1 : Hp} {x : MV} {V : V} {h : MH} {Q : Bool → Hp → Prop} {E : MV → MH → Prop} (f : Fut K mp mp1 H H1) (rl : Rl K cl mp1 h H1) (rv : RV K mp1 H1 x V) (g : Good (asB x h) (QB K cl mp H Q) E) : ∃ c, V = .bl c ∧ Q c H1 := by
  cases rv with
  | bl b => exact ⟨b, rfl, g H1 mp1 f rl⟩
  | _ => exact g.elim
theorem st_cmp {op : CmpOp} (ho : OpR X (compareOp op) r) (ok : Op2 X cl r mo) (ne : NoEx2 mo) (ha : SE X cl W a ma) (hb : SE X cl W b mb) (hm : behindInMarks op b = false) : ST X cl W (.Compare a [op] [b] pos) (tOfE (eBin mo ma mb)) :=
  ptW (pt_cmpR ho ha hb hm) fun σ H Q ⟨ρ, h, mp, rl, rs, g⟩ => tOp_of (mo := mo) ok ne σ H _ (tM_bind rl rs g (fun _ _ z => z) fun x h1 V H1 mp1 f1 rl1 rs1 rv1 g1 => asB_ok f1 rl1 rv1 g1)
theorem st_val {e : Expr} {m : ME} (he : SE X cl W e m) (hw : ∀ whole, isTrue e X.env whole = (do let v ← whole; standAt e.pos; holding [v] (truthy v)) := by intro _; rfl) : ST X cl W e (tOfE m) :=
  ptW (pt_val he hw) fun σ H Q ⟨ρ, h, mp, rl, rs, g⟩ => tM_bind rl rs g (fun _ _ z => z) fun x h1 V H1 mp1 f1 rl1 rs1 rv1 g1 => asB_ok f1 rl1 rv1 g1
/-! ### and, or, not -/
@[simp] def tAndM (m1 m2 : MS → MH → Res Bool) : MS → MH → Res Bool := fun ρ h => (m1 ρ h).bind fun c h1 => if c = true then m2 ρ h1 else .ok false h1
@[simp] def tOrM (m1 m2 : MS → MH → Res Bool) : MS → MH → Res Bool := fun ρ h => (m1 ρ h).bind fun c h1 => if c = true then .ok true h1 else m2 ρ h1
@[simp] def tNotM (m1 : MS → MH → Res Bool) : MS → MH → Res Bool := fun ρ h => (m1 ρ h).bind fun c h1 => .ok (!c) h1
variable {m1 m2 : MS → MH → Res Bool} {rest : List Expr}
theorem sw_and1 (ha : ST X cl W a m1) : SW X cl W (.BoolOp .And [a] pos) m1 := pw_and1 ha
theorem sw_or1 (ha : ST X cl W a m1) : SW X cl W (.BoolOp .Or [a] pos) m1 := pw_or1 ha
theorem sw_and (ha : ST X cl W a m1) (hb : SW X cl W (.BoolOp .And (b :: rest) pos) m2) : SW X cl W (.BoolOp .And (a :: b :: rest) pos) (tAndM m1 m2) :=
  pwW (pw_and ha hb) fun σ H Q ⟨ρ, h, mp, rl, rs, g⟩ => tMT_bind rl rs g (fun _ _ z => z) fun c h1 H1 mp1 f1 rl1 rs1 g1 => by
    cases c with
    | true => exact ⟨ρ, h1, mp1, rl1, rs1, Good.mono g1 (fun _ _ q => q.fut f1) fun _ _ q => q.fut f1⟩
    | false => exact g1 H1 mp1 f1 rl1
theorem sw_or (ha : ST X cl W a m1) (hb : SW X cl W (.BoolOp .Or (b :: rest) pos) m2) : SW X cl W (.BoolOp .Or (a :: b :: rest) pos) (tOrM m1 m2) :=
  pwW (pw_or ha hb) fun σ H Q ⟨ρ, h, mp, rl, rs, g⟩ => tMT_bind rl rs g (fun _ _ z => z) fun c h1 H1 mp1 f1 rl1 rs1 g1 => by
    cases c with
    | true => exact g1 H1 mp1 f1 rl1
    | false => exact ⟨ρ, h1, mp1, rl1, rs1, Good.mono g1 (fun _ _ q => q.fut f1) fun _ _ q => q.fut f1⟩
theorem st_not (ha : ST X cl W a m1) : ST X cl W (.UnaryOp .Not a pos) (tNotM m1) :=
  ptW (pt_not ha) fun σ H Q ⟨ρ, h, mp, rl, rs, g⟩ => tMT_bind rl rs g (fun _ _ z => z) fun c h1 H1 mp1 f1 rl1 rs1 g1 => g1 H1 mp1 f1 rl1
/-- as values: truths -/
@[simp] def eAnd (ma mb : ME) : ME := fun ρ h => (ma ρ h).bind fun x h1 => match x with | .bl true => mb ρ h1 | .bl false => .ok (.bl false) h1 | _ => .bad
@[simp] def eOr (ma mb : ME) : ME := fun ρ h => (ma ρ h).bind fun x h1 => match x with | .bl true => .ok (.bl true) h1 | .bl false => mb ρ h1 | _ => .bad
@[simp] def eNot (ma : ME) : ME := fun ρ h => (ma ρ h).bind fun x h1 => match x with | .bl b => .ok (.bl (!b)) h1 | _ => .bad
theorem se_one {op} {m : ME} (ha : SE X cl W a m) : SE X cl W (.BoolOp op [a] pos) m := pe_one ha
theorem se_and (ha : SE X cl W a ma) (hb : SE X cl W (.BoolOp .And (b :: rest) pos) mb) : SE X cl W (.BoolOp .And (a :: b :: rest) pos) (eAnd ma mb) :=
  peW (pe_and ha hb) fun σ H Q ⟨ρ, h, mp, rl, rs, g⟩ => tM_bind rl rs g (fun _ _ z => z) fun x h1 V H1 mp1 f1 rl1 rs1 rv1 g1 => by
    cases rv1 with
    | bl c =>
      cases c with
      | true => exact ⟨true, rfl, ⟨ρ, h1, mp1, rl1, rs1, Good.mono g1 (fun _ _ q => q.fut f1) fun _ _ q => q.fut f1⟩⟩
      | false => exact ⟨false, rfl, g1 _ H1 mp1 f1 rl1 (.bl false)⟩
    | _ => exact g1.elim
theorem se_or (ha : SE X cl W a ma) (hb : SE X cl W (.BoolOp .Or (b :: rest) pos) mb) : SE X cl W (.BoolOp .Or (a :: b :: rest) pos) (eOr ma mb) :=
  peW (pe_or ha hb) fun σ H Q ⟨ρ, h, mp, rl, rs, g⟩ => tM_bind rl rs g (fun _ _ z => z) fun x h1 V H1 mp1 f1 rl1 rs1 rv1 g1 => by
    cases rv1 with
    | bl c =>
      cases c with
      | true => exact ⟨true, rfl, g1 _ H1 mp1 f1 rl1 (.bl true)⟩
      | false => exact ⟨false, rfl, ⟨ρ, h1, mp1, rl1, rs1, Good.mono g1 (fun _ _ q => q.fut f1) fun _ _ q => q.fut f1⟩⟩
    | _ => exact g1.elim
theorem se_not (ha : SE X cl W a ma) : SE X cl W (.UnaryOp .Not a pos) (eNot ma) :=
  peW (pe_not ha) fun σ H Q ⟨ρ, h, mp, rl, rs, g⟩ => tM_bind rl rs g (fun _ _ z => z) fun x h1 V H1 mp1 f1 rl1 rs1 rv1 g1 => by
    cases rv1 with
    | bl c => exact ⟨c, rfl, g1 _ H1 mp1 f1 rl1 (.bl _)⟩
    | _ => exact g1.elim
@[simp] def eIf (mc : MS → MH → Res Bool) (ma mb : ME) : ME := fun ρ h => (mc ρ h).bind fun c h1 => if c = true then ma ρ h1 else mb ρ h1
theorem se_if {c : Expr} (hc : ST X cl W c m1) (ha : SE X cl W a ma) (hb : SE X cl W b mb) : SE X cl W (.IfExp c a b pos) (eIf m1 ma mb) :=
  peW (pe_ifExp hc ha hb) fun σ H Q ⟨ρ, h, mp, rl, rs, g⟩ => tMT_bind rl rs g (fun _ _ z => z) fun c h1 H1 mp1 f1 rl1 rs1 g1 => by
    cases c with
    | true => exact ⟨ρ, h1, mp1, rl1, rs1, Good.mono g1 (fun _ _ q => q.fut f1) fun _ _ q => q.fut f1⟩
    | false => exact ⟨ρ, h1, mp1, rl1, rs1, Good.mono g1 (fun _ _ q => q.fut f1) fun _ _ q => q.fut f1⟩
/-! ### arguments, displays -/
@[simp] def aNil : MA := fun _ h => .ok [] h
@[simp] def aCons (m : ME) (ms : MA) : MA := fun ρ h => (m ρ h).bind fun x h1 => (ms ρ h1).bind fun xs h2 => .ok (x :: xs) h2
variable {e : Expr} {es : List Expr} {m : ME} {ms : MA}
theorem sa_nil : SA X cl W [] aNil := paW pa_nil fun σ H Q ⟨ρ, h, mp, rl, rs, g⟩ => g [] H mp .refl rl .nil
theorem sa_cons (he : SE X cl W e m) (hr : SA X cl W es ms) (hs : starEach (e :: es) X.env = (false, eval e X.env) :: starEach es X.env := by rfl) : SA X cl W (e :: es) (aCons m ms) :=
  paW (pa_cons he hr hs) fun σ H Q ⟨ρ, h, mp, rl, rs, g⟩ => tM_bind rl rs g (fun _ _ z => z) fun x h1 V H1 mp1 f1 rl1 rs1 rv1 g1 =>
    tMA_bind rl1 rs1 g1 (fun _ _ z => z.fut f1) fun xs h2 Y H2 mp2 f2 rl2 rs2 rv2 g2 => g2 (V :: Y) H2 mp2 (f1.trans f2) rl2 (.cons (rv1.fut f2) rv2)
@[simp] def szOk (n : Nat) : Prop := n ≤ 1000000
theorem szOk.le {n : Nat} (h : szOk n) : n ≤ sizeLine := Nat.le_trans h (by decide)
instance {n : Nat} : Decidable (szOk n) := inferInstanceAs (Decidable (n ≤ 1000000))
@[simp] def eTup (ms : MA) : ME := fun ρ h => (ms ρ h).bind fun xs h1 => if szOk xs.length then .ok (.tup xs) h1 else .bad
theorem se_tup {x1} (hs : SA X cl W es ms) : SE X cl W (.Tuple es x1 pos) (eTup ms) :=
  peW (pe_tup hs) fun σ H Q ⟨ρ, h, mp, rl, rs, g⟩ => tMA_bind rl rs g (fun _ _ z => z) fun xs h1 V H1 mp1 f1 rl1 rs1 rv1 g1 => by
    split at g1
    · rename_i hz
      refine ⟨by rw [← rv1.length]; exact hz.le, fun p hp => ?_⟩
      exact g1 _ _ mp1 (f1.trans (Fut.new hp)) (rl1.new hp) (.tup (SqT.of upd_same) (rv1.fut (Fut.new hp)))
    · exact g1.elim
/-- a list just made -/
@[simp] def lDisp (ms : MA) : MA := fun ρ h => (ms ρ h).bind fun xs h1 => if szOk xs.length then .ok xs h1 else .bad
theorem newList {K : PySem.W.Frag} {mp mp1 : Mp} {H H1 : Hp} {h1 : MH} {xs : List MV} {vs : List V} {Q : VK} {p : Addr} (f1 : Fut K mp mp1 H H1) (rl1 : Rl K cl mp1 h1 H1) (rv : RVs K mp1 H1 xs vs) (hp : H1 p = none) (q : QL K cl mp H Q xs h1) : Q (.ref p) (upd H1 p (.lst vs)) := by
  have h0 : H p = none := by
    cases e : H p with
    | none => rfl
    | some o =>
      by_cases hn : ∃ n, mp n = some p
      · obtain ⟨n, hn⟩ := hn
        obtain ⟨u, _, ro⟩ := rl1.cell (f1.le n p hn)
        obtain ⟨z, hz, _⟩ := ro.some
        rw [hp] at hz; cases hz
      · have := (f1.fr p o e fun n hz => hn ⟨n, hz⟩).1
        rw [hp] at this; cases this
  refine q p vs _ mp1 (f1.trans (Fut.new hp)) (rl1.new hp) h0 (fun n hn => ?_) upd_same (rv.fut (Fut.new hp))
  obtain ⟨u, _, ro⟩ := rl1.cell hn
  obtain ⟨z, hz, _⟩ := ro.some
  rw [hp] at hz; cases hz
theorem sl_disp (hs : SA X cl W es ms) : SL X cl W (.List es pos) (lDisp ms) :=
  peW (pe_lst hs) fun σ H Q ⟨ρ, h, mp, rl, rs, g⟩ => tMA_bind rl rs g (fun _ _ z => z) fun xs h1 V H1 mp1 f1 rl1 rs1 rv1 g1 => by
    split at g1
    · rename_i hz
      exact ⟨by rw [← rv1.length]; exact hz.le, fun p hp => newList f1 rl1 rv1 hp g1⟩
    · exact g1.elim
/-- it becomes a cell -/
@[simp] def eNew (ms : MA) : ME := fun ρ h => (ms ρ h).bind fun xs h1 => .ok (.ref h1.length) (h1 ++ [.lst xs])
theorem se_new (hl : SL X cl W e ms) : SE X cl W e (eNew ms) :=
  peW hl fun σ H Q ⟨ρ, h, mp, rl, rs, g⟩ => tML_bind rl rs g (fun _ _ z => z) fun xs h1 p vs H1 mp1 f1 rl1 rs1 h0 np hp rv g1 =>
    g1 (.ref p) H1 (Mp.put mp1 h1.length p) (f1.toCell rl1 h0) (rl1.toCell np ⟨vs, hp, rv⟩) (.ref Mp.put_same)
end
end Sm

set_option Elab.async false
set_option linter.all false
set_option maxRecDepth 100000
set_option maxHeartbeats 4000000
/-! the operators -/
namespace Sm
open PySem L2
def never : MV → MH → Prop := fun _ _ => False
/-- an operation of the small machine, by values -/
def rM (K : PySem.W.Frag) (cl : Str → Option Addr) (mo : MV → MV → MH → Res MV) : R2 := fun V Y H Q => ∃ x y h mp, Rl K cl mp h H ∧ RV K mp H x V ∧ RV K mp H y Y ∧ Good (mo x y h) (QV K cl mp H Q) never
theorem rM_ok {X : Cx} {cl : Str → Option Addr} {mo : MV → MV → MH → Res MV} : Op2 X cl (rM X.K cl mo) mo := fun x y V Y H h mp Q E rl r1 r2 g ne => ⟨x, y, h, mp, rl, r1, r2, by
  cases e : mo x y h with
  | ok v h' => rw [e] at g; exact g
  | ex v h' => exact (ne v h' e).elim
  | bad => rw [e] at g; exact g⟩
/-- no exception -/
theorem noEx {α : Type} {r : Res α} (h : match r with | .ex _ _ => False | _ => True) : ∀ e h', ¬ r = .ex e h' := fun e h' z => by subst z; exact h
section
variable {X : Cx} {cl : Str → Option Addr} {W : Wsh}
/-! a new cell -/
theorem newCell {K : PySem.W.Frag} {mp : Mp} {h : MH} {H : Hp} {p : Addr} {xs : List MV} {vs : List V} (rl : Rl K cl mp h H) (hp : H p = none) (rv : RVs K mp H xs vs) :
    Fut K mp (Mp.put mp h.length p) H (upd H p (.lst vs)) ∧ Rl K cl (Mp.put mp h.length p) (h ++ [.lst xs]) (upd H p (.lst vs)) := by
  refine ⟨(Fut.new (o := .lst vs) hp).toCell (rl.new hp) hp, (rl.new hp).toCell (fun n e => ?_) ⟨vs, upd_same, rv.fut (Fut.new hp)⟩⟩
  obtain ⟨u, _, ro⟩ := rl.cell e
  obtain ⟨z, hz, _⟩ := ro.some
  rw [hp] at hz; cases hz
/-! ### arithmetic -/
def mAdd (x y : MV) (h : MH) : Res MV := match x, y with
  | .int i, .int j => .ok (.int (i + j)) h
  | .str a, .str b => if szOk (a.length + b.length) then .ok (.str (a ++ b)) h else .bad
  | .tup xs, .tup ys => if szOk (xs.length + ys.length) then .ok (.tup (xs ++ ys)) h else .bad
  | .ref n, .ref k => match h[n]?, h[k]? with
    | some (.lst xs), some (.lst ys) => if szOk (xs.length + ys.length) then .ok (.ref h.length) (h ++ [.lst (xs ++ ys)]) else .bad
    | _, _ => .bad
  | _, _ => .bad
theorem catT {K : PySem.W.Frag} {mp : Mp} {h : MH} {H : Hp} {a b : Addr} {xs ys : List MV} {vs ws : List V} {Q : VK} (rl : Rl K cl mp h H) (h1 : TpA K H a vs) (r1 : RVs K mp H xs vs) (h2 : TpA K H b ws) (r2 : RVs K mp H ys ws) (hz : szOk (xs.length + ys.length))
    (q : QV K cl mp H Q (.tup (xs ++ ys)) h) : rCatA K (.ref a) (.ref b) H Q := by
  refine ⟨a, b, vs, ws, rfl, rfl, h1, h2, by rw [← r1.length, ← r2.length]; exact hz.le, fun e => ?_, fun _ e => ?_, fun _ _ p hp => ?_⟩
  · subst e
    cases r1
    exact q _ H mp .refl rl (.tup h2 r2)
  · subst e
    cases r2
    rw [List.append_nil] at q
    exact q _ H mp .refl rl (.tup h1 r1)
  · exact q _ _ mp (Fut.new hp) (rl.new hp) (.tup (SqT.of upd_same) ((r1.append r2).fut (Fut.new hp)))
theorem op_addM : OpR X (binaryOp .Add) (rM X.K cl mAdd) := by
  intro pins s σ H V Y v u Q I rx ry ⟨x, y, h, mp, rl, r1, r2, g⟩
  cases r1 with
  | int i =>
    cases r2 with
    | int j => exact op_add pins s σ H _ _ v u Q I rx ry ⟨i, j, rfl, rfl, g _ H mp .refl rl (.int _)⟩
    | _ => exact g.elim
  | str a =>
    cases r2 with
    | str b =>
      unfold mAdd at g
      dsimp only at g
      split at g
      · rename_i hz
        exact op_add_str pins s σ H _ _ v u Q I rx ry ⟨a, b, rfl, rfl, hz.le, g _ H mp .refl rl (.str _)⟩
      · exact g.elim
    | _ => exact g.elim
  | tup h1 q1 =>
    cases r2 with
    | tup h2 q2 =>
      unfold mAdd at g
      dsimp only at g
      split at g
      · rename_i hz
        exact op_catA pins s σ H _ _ v u Q I rx ry (catT rl h1 q1 h2 q2 hz g)
      · exact g.elim
    | _ => exact g.elim
  | @ref n a e1 =>
    cases r2 with
    | @ref k b e2 =>
      unfold mAdd at g
      dsimp only at g
      split at g
      · rename_i xs ys c1 c2
        split at g
        · rename_i hz
          obtain ⟨vs, h1, q1⟩ := rl.obj n _ a c1 e1
          obtain ⟨ws, h2, q2⟩ := rl.obj k _ b c2 e2
          refine op_cat pins s σ H _ _ v u Q I rx ry ⟨a, b, vs, ws, rfl, rfl, h1, h2, by rw [← q1.length, ← q2.length]; exact hz.le, fun p hp => ?_⟩
          obtain ⟨f, rl'⟩ := newCell rl hp (q1.append q2)
          exact g _ _ _ f rl' (.ref Mp.put_same)
        · exact g.elim
      · exact g.elim
    | _ => exact g.elim
  | _ => exact g.elim
def mSub (x y : MV) (h : MH) : Res MV := match x, y with | .int i, .int j => .ok (.int (i - j)) h | _, _ => .bad
theorem op_subM : OpR X (binaryOp .Sub) (rM X.K cl mSub) := by
  intro pins s σ H V Y v u Q I rx ry ⟨x, y, h, mp, rl, r1, r2, g⟩
  cases r1 with
  | int i =>
    cases r2 with
    | int j => exact op_sub pins s σ H _ _ v u Q I rx ry ⟨i, j, rfl, rfl, g _ H mp .refl rl (.int _)⟩
    | _ => exact g.elim
  | _ => exact g.elim
/-- a great number's line -/
def lowI (i : Int) : Prop := i.natAbs < 18446744073709551616
instance {i : Int} : Decidable (lowI i) := inferInstanceAs (Decidable (_ < _))
theorem lowI.to {i : Int} (h : lowI i) : -(2 ^ 64) < i ∧ i < 2 ^ 64 := by unfold lowI at h; omega
instance {x : Str} {n : Int} : Decidable (MulOk x n) := inferInstanceAs (Decidable (_ ∧ _))
def mMul (x y : MV) (h : MH) : Res MV := match x, y with
  | .int i, .int j => if lowI i ∨ lowI j then .ok (.int (i * j)) h else .bad
  | .str a, .int n => if MulOk a n then .ok (.str (Txt.mul a n)) h else .bad
  | _, _ => .bad
theorem op_mulS : OpR X (binaryOp .Mult) (fun x y H Q => ∃ i n, x = .str i ∧ y = .int n ∧ MulOk i n ∧ Q (.str (Txt.mul i n)) H) := by
  intro pins s σ H x y v u Q I rx ry h
  obtain ⟨i, n, rfl, rfl, hm, q⟩ := h
  obtain ⟨t, rfl⟩ := rx
  obtain ⟨t', rfl⟩ := ry
  exact SB.mul hm fun t' tk => ⟨.str (Txt.mul i n), H, I.tok _, ⟨_, rfl⟩, q⟩
theorem op_mulM : OpR X (binaryOp .Mult) (rM X.K cl mMul) := by
  intro pins s σ H V Y v u Q I rx ry ⟨x, y, h, mp, rl, r1, r2, g⟩
  cases r1 with
  | int i =>
    cases r2 with
    | int j =>
      unfold mMul at g
      dsimp only at g
      split at g
      · rename_i hz
        exact op_mul pins s σ H _ _ v u Q I rx ry ⟨i, j, rfl, rfl, hz.elim (fun z => .inl z.to) (fun z => .inr z.to), g _ H mp .refl rl (.int _)⟩
      · exact g.elim
    | _ => exact g.elim
  | str a =>
    cases r2 with
    | int j =>
      unfold mMul at g
      dsimp only at g
      split at g
      · rename_i hz
        exact op_mulS pins s σ H _ _ v u Q I rx ry ⟨a, j, rfl, rfl, hz, g _ H mp .refl rl (.str _)⟩
      · exact g.elim
    | _ => exact g.elim
  | _ => exact g.elim
def mMod (x y : MV) (h : MH) : Res MV := match x, y with | .int i, .int j => if 0 < j then .ok (.int (i % j)) h else .bad | _, _ => .bad
theorem op_modM : OpR X (binaryOp .Mod) (rM X.K cl mMod) := by
  intro pins s σ H V Y v u Q I rx ry ⟨x, y, h, mp, rl, r1, r2, g⟩
  cases r1 with
  | int i =>
    cases r2 with
    | int j =>
      unfold mMod at g
      dsimp only at g
      split at g
      · rename_i hz
        exact op_mod pins s σ H _ _ v u Q I rx ry ⟨i, j, rfl, rfl, hz, g _ H mp .refl rl (.int _)⟩
      · exact g.elim
    | _ => exact g.elim
  | _ => exact g.elim
def mDiv (x y : MV) (h : MH) : Res MV := match x, y with | .int i, .int j => if 0 < j ∧ j < 1073741824 then .ok (.int (i / j)) h else .bad | _, _ => .bad
theorem op_divM : OpR X (binaryOp .FloorDiv) (rM X.K cl mDiv) := by
  intro pins s σ H V Y v u Q I rx ry ⟨x, y, h, mp, rl, r1, r2, g⟩
  cases r1 with
  | int i =>
    cases r2 with
    | int j =>
      unfold mDiv at g
      dsimp only at g
      split at g
      · rename_i hz
        exact op_fdiv pins s σ H _ _ v u Q I rx ry ⟨i, j, rfl, rfl, hz, g _ H mp .refl rl (.int _)⟩
      · exact g.elim
    | _ => exact g.elim
  | _ => exact g.elim
def mPow (x y : MV) (h : MH) : Res MV := match x, y with | .int i, .int j => if 0 ≤ j ∧ j ≤ 1000 ∧ lowI i then .ok (.int (i ^ j.toNat)) h else .bad | _, _ => .bad
theorem op_powM : OpR X (binaryOp .Pow) (rM X.K cl mPow) := by
  intro pins s σ H V Y v u Q I rx ry ⟨x, y, h, mp, rl, r1, r2, g⟩
  cases r1 with
  | int i =>
    cases r2 with
    | int j =>
      unfold mPow at g
      dsimp only at g
      split at g
      · rename_i hz
        exact op_pow pins s σ H _ _ v u Q I rx ry ⟨i, j, rfl, rfl, ⟨hz.1, by omega, by have := hz.2.2; unfold lowI at this; omega⟩, g _ H mp .refl rl (.int _)⟩
      · exact g.elim
    | _ => exact g.elim
  | _ => exact g.elim
/-! ### comparisons -/
def mLt (x y : MV) (h : MH) : Res MV := match x, y with | .int i, .int j => .ok (.bl (decide (i < j))) h | .str i, .str j => .ok (.bl (decide (i.cps.toList < j.cps.toList))) h | _, _ => .bad
def mLe (x y : MV) (h : MH) : Res MV := match x, y with | .int i, .int j => .ok (.bl (decide (i ≤ j))) h | _, _ => .bad
def mGt (x y : MV) (h : MH) : Res MV := match x, y with | .int i, .int j => .ok (.bl (decide (j < i))) h | _, _ => .bad
def mGe (x y : MV) (h : MH) : Res MV := match x, y with | .int i, .int j => .ok (.bl (decide (j ≤ i))) h | _, _ => .bad
theorem op_ltM : OpR X (compareOp .Lt) (rM X.K cl mLt) := by
  intro pins s σ H V Y v u Q I rx ry ⟨x, y, h, mp, rl, r1, r2, g⟩
  cases r1 with
  | int i =>
    cases r2 with
    | int j => exact op_lt pins s σ H _ _ v u Q I rx ry ⟨i, j, rfl, rfl, g _ H mp .refl rl (.bl _)⟩
    | _ => exact g.elim
  | str i =>
    cases r2 with
    | str j => exact op_lt_str pins s σ H _ _ v u Q I rx ry ⟨i, j, rfl, rfl, g _ H mp .refl rl (.bl _)⟩
    | _ => exact g.elim
  | _ => exact g.elim
theorem op_leM : OpR X (compareOp .LtE) (rM X.K cl mLe) := by
  intro pins s σ H V Y v u Q I rx ry ⟨x, y, h, mp, rl, r1, r2, g⟩
  cases r1 with
  | int i =>
    cases r2 with
    | int j => exact op_le pins s σ H _ _ v u Q I rx ry ⟨i, j, rfl, rfl, g _ H mp .refl rl (.bl _)⟩
    | _ => exact g.elim
  | _ => exact g.elim
theorem op_gtM : OpR X (compareOp .Gt) (rM X.K cl mGt) := by
  intro pins s σ H V Y v u Q I rx ry ⟨x, y, h, mp, rl, r1, r2, g⟩
  cases r1 with
  | int i =>
    cases r2 with
    | int j => exact op_gt pins s σ H _ _ v u Q I rx ry ⟨i, j, rfl, rfl, g _ H mp .refl rl (.bl _)⟩
    | _ => exact g.elim
  | _ => exact g.elim
theorem op_geM : OpR X (compareOp .GtE) (rM X.K cl mGe) := by
  intro pins s σ H V Y v u Q I rx ry ⟨x, y, h, mp, rl, r1, r2, g⟩
  cases r1 with
  | int i =>
    cases r2 with
    | int j => exact op_ge pins s σ H _ _ v u Q I rx ry ⟨i, j, rfl, rfl, g _ H mp .refl rl (.bl _)⟩
    | _ => exact g.elim
  | _ => exact g.elim
/-- == of scalars -/
def scalM : MV → MV → Option Bool
  | .non, .non => some true | .non, .int _ => some false | .int _, .non => some false | .non, .bl _ => some false | .bl _, .non => some false | .non, .str _ => some false | .str _, .non => some false
  | .int i, .int j => some (decide (i = j)) | .bl i, .bl j => some (decide (i = j)) | .str i, .str j => some (decide (i = j))
  | .int _, .str _ => some false | .str _, .int _ => some false | .bl _, .str _ => some false | .str _, .bl _ => some false
  | _, _ => none
/-- as data -/
def pdv (h : MH) : Nat → MV → Option PyData
  | 0, _ => none
  | _ + 1, .non => some .none
  | _ + 1, .bl b => some (.bool b)
  | _ + 1, .int i => some (.int i)
  | _ + 1, .str x => some (.str x)
  | n + 1, .tup xs => (xs.mapM (pdv h n)).map PyData.tuple
  | n + 1, .ref k => match h[k]? with | some (.lst xs) => (xs.mapM (pdv h n)).map PyData.list | _ => none
  | _ + 1, .scr _ => none
  | _ + 1, .exn _ _ _ => none
def mEqB (x y : MV) (h : MH) : Option Bool := match scalM x y with
  | some b => some b
  | none => match pdv h 60 x, pdv h 60 y with
    | some d, some e => if SeqAt.shaped d && SeqAt.shaped e then some (PyData.eqv d e) else none
    | _, _ => none
def mEq (x y : MV) (h : MH) : Res MV := match mEqB x y h with | some b => .ok (.bl b) h | none => .bad
def mNe (x y : MV) (h : MH) : Res MV := match mEqB x y h with | some b => .ok (.bl (!b)) h | none => .bad
theorem pdv_dp {K : PySem.W.Frag} {mp : Mp} {h : MH} {H : Hp} (rl : Rl K cl mp h H) : ∀ (n : Nat) {x : MV} {V : L2.V} {d : PyData}, RV K mp H x V → pdv h n x = some d → Dp K H V d := by
  intro n
  induction n with
  | zero => intro x V d _ e; simp [pdv] at e
  | succ n ih =>
    have all : ∀ {xs : List MV} {vs : List V} {ds : List PyData}, RVs K mp H xs vs → xs.mapM (pdv h n) = some ds → DpAll K H vs ds := by
      intro xs
      induction xs with
      | nil => intro vs ds r e; cases r; simp at e; subst e; exact .nil
      | cons x xs ih2 =>
        intro vs ds r e
        cases r with
        | cons r t =>
          rw [List.mapM_cons] at e
          simp only [Option.bind_eq_bind, Option.pure_def, Option.bind_eq_some_iff] at e
          obtain ⟨d, e1, ds', e2, e3⟩ := e
          have := Option.some.inj e3
          subst this
          exact .cons (ih r e1) (ih2 t e2)
    intro x V d r e
    cases r with
    | non => simp only [pdv] at e; cases e; exact .non
    | bl b => simp only [pdv] at e; cases e; exact .bl b
    | int b => simp only [pdv] at e; cases e; exact .int b
    | str b => simp only [pdv] at e; cases e; exact .str b
    | tup h1 r1 =>
      simp only [pdv, Option.map_eq_some_iff] at e
      obtain ⟨ds, e1, e2⟩ := e
      subst e2
      exact .tup h1 (all r1 e1)
    | @ref k a e1 =>
      simp only [pdv] at e
      split at e
      · rename_i xs c
        simp only [Option.map_eq_some_iff] at e
        obtain ⟨ds, e2, e3⟩ := e
        subst e3
        obtain ⟨vs, h1, r1⟩ := rl.obj k _ a c e1
        exact .lst (SqL.of h1) (all r1 e2)
      · cases e
    | scr h1 r1 => simp only [pdv] at e; cases e
theorem scal_ok {K : PySem.W.Frag} {mp : Mp} {H : Hp} {x y : MV} {V Y : L2.V} {b : Bool} (r1 : RV K mp H x V) (r2 : RV K mp H y Y) (e : scalM x y = some b) : scal V Y = true ∧ decide (V = Y) = b := by
  cases r1 <;> cases r2 <;> simp [scalM] at e <;> subst e <;> simp [scal]
theorem mEqB_ok {K : PySem.W.Frag} {mp : Mp} {h : MH} {H : Hp} {x y : MV} {V Y : L2.V} {b : Bool} (rl : Rl K cl mp h H) (r1 : RV K mp H x V) (r2 : RV K mp H y Y) (e : mEqB x y h = some b) :
    (scal V Y = true ∧ decide (V = Y) = b) ∨ ∃ d e, Dp K H V d ∧ Dp K H Y e ∧ SeqAt.shaped d = true ∧ SeqAt.shaped e = true ∧ PyData.eqv d e = b := by
  unfold mEqB at e
  split at e
  · rename_i b' es
    have := Option.some.inj e
    subst this
    exact .inl (scal_ok r1 r2 es)
  · split at e
    · rename_i d e' h1 h2
      split at e
      · rename_i hs
        rw [Bool.and_eq_true] at hs
        exact .inr ⟨d, e', pdv_dp rl _ r1 h1, pdv_dp rl _ r2 h2, hs.1, hs.2, Option.some.inj e⟩
      · cases e
    · cases e
theorem op_eqM (hu : X.A.units + 64 < cLine) : OpR X (compareOp .Eq) (rM X.K cl mEq) := by
  intro pins s σ H V Y v u Q I rx ry ⟨x, y, h, mp, rl, r1, r2, g⟩
  unfold mEq at g
  split at g
  · rename_i b e
    have q : Q (.bl b) H := g _ H mp .refl rl (.bl b)
    rcases mEqB_ok rl r1 r2 e with ⟨h1, h2⟩ | ⟨d, e', h1, h2, h3, h4, h5⟩
    · exact op_eq pins s σ H _ _ v u Q I rx ry ⟨h1, by rw [h2]; exact q⟩
    · exact op_eqD hu pins s σ H _ _ v u Q I rx ry ⟨d, e', h1, h2, h3, h4, by rw [h5]; exact q⟩
  · exact g.elim
theorem op_neM (hu : X.A.units + 64 < cLine) : OpR X (compareOp .NotEq) (rM X.K cl mNe) := by
  intro pins s σ H V Y v u Q I rx ry ⟨x, y, h, mp, rl, r1, r2, g⟩
  unfold mNe at g
  split at g
  · rename_i b e
    have q : Q (.bl (!b)) H := g _ H mp .refl rl (.bl _)
    rcases mEqB_ok rl r1 r2 e with ⟨h1, h2⟩ | ⟨d, e', h1, h2, h3, h4, h5⟩
    · exact op_ne pins s σ H _ _ v u Q I rx ry ⟨h1, by rw [h2]; exact q⟩
    · exact op_neD hu pins s σ H _ _ v u Q I rx ry ⟨d, e', h1, h2, h3, h4, by rw [h5]; exact q⟩
  · exact g.elim
/-- x is None -/
def noneM : MV → Bool | .non => true | _ => false
def mIs (x y : MV) (h : MH) : Res MV := match y with | .non => .ok (.bl (noneM x)) h | _ => .bad
def mIsNot (x y : MV) (h : MH) : Res MV := match y with | .non => .ok (.bl (!noneM x)) h | _ => .bad
theorem noneM_ok {K : PySem.W.Frag} {mp : Mp} {H : Hp} {x : MV} {V : L2.V} (r : RV K mp H x V) : decide (V = .non) = noneM x := by cases r <;> simp [noneM]
theorem op_isM : OpR X (compareOp .Is) (rM X.K cl mIs) := by
  intro pins s σ H V Y v u Q I rx ry ⟨x, y, h, mp, rl, r1, r2, g⟩
  cases r2 with
  | non => exact op_isN pins s σ H _ _ v u Q I rx ry ⟨rfl, by rw [noneM_ok r1]; exact g _ H mp .refl rl (.bl _)⟩
  | _ => exact g.elim
theorem op_isNotM : OpR X (compareOp .IsNot) (rM X.K cl mIsNot) := by
  intro pins s σ H V Y v u Q I rx ry ⟨x, y, h, mp, rl, r1, r2, g⟩
  cases r2 with
  | non => exact op_notN pins s σ H _ _ v u Q I rx ry ⟨rfl, by rw [noneM_ok r1]; exact g _ H mp .refl rl (.bl _)⟩
  | _ => exact g.elim
/-! ### in -/
def flatM : MV → Bool | .non => true | .bl _ => true | .int _ => true | .str _ => true | _ => false
def eqM : MV → MV → Bool
  | .non, .non => true
  | .bl a, .bl b => a == b
  | .bl a, .int b => (if a then 1 else 0) == b
  | .int a, .bl b => a == (if b then 1 else 0)
  | .int a, .int b => a == b
  | .str a, .str b => a == b
  | _, _ => false
theorem flat_ok {K : PySem.W.Frag} {mp : Mp} {H : Hp} {x : MV} {V : L2.V} (r : RV K mp H x V) : flatV V = flatM x := by cases r <;> rfl
theorem eqM_ok {K : PySem.W.Frag} {mp : Mp} {H : Hp} {x y : MV} {V Y : L2.V} (r : RV K mp H x V) (q : RV K mp H y Y) : eqV V Y = eqM x y := by cases r <;> cases q <;> rfl
theorem flats_ok {K : PySem.W.Frag} {mp : Mp} {H : Hp} : ∀ {xs : List MV} {vs : List V}, RVs K mp H xs vs → vs.all flatV = xs.all flatM
  | _, _, .nil => rfl
  | _, _, .cons r t => by rw [List.all_cons, List.all_cons, flat_ok r, flats_ok t]
theorem anyEq_ok {K : PySem.W.Frag} {mp : Mp} {H : Hp} {x : MV} {V : L2.V} (q : RV K mp H x V) : ∀ {xs : List MV} {vs : List L2.V}, RVs K mp H xs vs → inV V vs = xs.any fun y => eqM y x
  | _, _, .nil => rfl
  | _, _, .cons r t => by
    have := anyEq_ok q t
    unfold inV at this ⊢
    rw [List.any_cons, List.any_cons, eqM_ok r q, this]
def keyOf : MV → Option Key | .int i => some (.inl i) | .str x => some (.inr x) | _ => none
theorem keyOf_ok {K : PySem.W.Frag} {mp : Mp} {H : Hp} {x : MV} {V : L2.V} {k : Key} (r : RV K mp H x V) (e : keyOf x = some k) : V = kV k := by
  cases r <;> simp [keyOf] at e <;> subst e <;> rfl
def valM (kvs : List (Key × MV)) (k : Key) : Option MV := (kvs.find? fun kv => decide (kv.1 = k)).map (·.2)
theorem val_ok {K : PySem.W.Frag} {mp : Mp} {H : Hp} {k : Key} : ∀ {fs : List (Key × MV)} {vs : List (Key × V)}, RFs K mp H fs vs → (valM fs k = none ∧ valV vs k = none) ∨ ∃ x v, valM fs k = some x ∧ valV vs k = some v ∧ RV K mp H x v
  | [], vs, r => by
    have : vs = [] := by have := r.1; cases vs with | nil => rfl | cons _ _ => simp at this
    subst this
    exact .inl ⟨rfl, rfl⟩
  | (k1, x) :: fs, vs, r => by
    cases vs with
    | nil => have := r.1; simp at this
    | cons v vs =>
      obtain ⟨k2, v⟩ := v
      obtain ⟨e, t⟩ := r
      simp only [List.map_cons, List.cons.injEq] at e t
      obtain ⟨rfl, e⟩ := e
      cases t with
      | cons t1 t2 =>
        by_cases hk : k1 = k
        · exact .inr ⟨x, v, by simp [valM, hk], by simp [valV, hk], t1⟩
        · rcases val_ok (k := k) (fs := fs) (vs := vs) ⟨e, t2⟩ with ⟨a, b⟩ | ⟨y, w, a, b, c⟩
          · exact .inl ⟨by simp only [valM, List.find?_cons, hk, decide_false] at a ⊢; exact a, by simp only [valV, List.find?_cons, hk, decide_false] at b ⊢; exact b⟩
          · exact .inr ⟨y, w, by simp only [valM, List.find?_cons, hk, decide_false] at a ⊢; exact a, by simp only [valV, List.find?_cons, hk, decide_false] at b ⊢; exact b, c⟩
/-- x in y, as a truth -/
def mInB (x y : MV) (h : MH) : Option Bool := match y with
  | .str z => match x with | .str w => some (!(Builtin.Str.occurrences z w 0 z.length 1).isEmpty) | _ => none
  | .tup ys => if flatM x && ys.all flatM then some (ys.any fun y => eqM y x) else none
  | .ref n => match h[n]? with
    | some (.lst ys) => if flatM x && ys.all flatM then some (ys.any fun y => eqM y x) else none
    | some (.dct kvs) => match keyOf x with | some k => some (valM kvs k).isSome | none => none
    | _ => none
  | _ => none
def mIn (x y : MV) (h : MH) : Res MV := match mInB x y h with | some b => .ok (.bl b) h | none => .bad
def mNotIn (x y : MV) (h : MH) : Res MV := match mInB x y h with | some b => .ok (.bl (!b)) h | none => .bad
theorem op_din (hu : X.A.units + 1 < cLine) : OpR X (compareOp .In) (fun y x H Q => ∃ a o, x = .ref a ∧ DGet H a y o ∧ Q (.bl o.isSome) H) := by
  intro pins s σ H y x iv u Q I ry rx ⟨a, o, ex, g, q⟩
  subst ex
  obtain rfl : u = Value.ref a := rx
  exact d_in hu I g ry fun s3 I3 => ⟨.bl o.isSome, H, I3, rfl, q⟩
theorem op_dnotin (hu : X.A.units + 1 < cLine) : OpR X (compareOp .NotIn) (fun y x H Q => ∃ a o, x = .ref a ∧ DGet H a y o ∧ Q (.bl (!o.isSome)) H) := by
  intro pins s σ H y x iv u Q I ry rx ⟨a, o, ex, g, q⟩
  subst ex
  obtain rfl : u = Value.ref a := rx
  exact d_notIn hu I g ry fun s3 I3 => ⟨.bl (!o.isSome), H, I3, rfl, q⟩
theorem mInB_ok {K : PySem.W.Frag} {mp : Mp} {h : MH} {H : Hp} {x y : MV} {V Y : L2.V} {b : Bool} (rl : Rl K cl mp h H) (r1 : RV K mp H x V) (r2 : RV K mp H y Y) (e : mInB x y h = some b) :
    (∃ i j, V = .str i ∧ Y = .str j ∧ (!(Builtin.Str.occurrences j i 0 j.length 1).isEmpty) = b) ∨ (∃ p xs, Y = .ref p ∧ (SqL K H p xs ∨ SqT K H p xs) ∧ flatV V = true ∧ xs.all flatV = true ∧ inV V xs = b) ∨ ∃ a o, Y = .ref a ∧ DGet H a V o ∧ o.isSome = b := by
  have seq : ∀ {p : Addr} {xs : List MV} {vs : List L2.V}, Y = .ref p → (SqL K H p vs ∨ SqT K H p vs) → RVs K mp H xs vs → (if flatM x && xs.all flatM then some (xs.any fun y => eqM y x) else none) = some b →
      ∃ p xs, Y = .ref p ∧ (SqL K H p xs ∨ SqT K H p xs) ∧ flatV V = true ∧ xs.all flatV = true ∧ inV V xs = b := fun {p xs vs} ey hs r e => by
    split at e
    · rename_i hf
      rw [Bool.and_eq_true] at hf
      exact ⟨p, vs, ey, hs, by rw [flat_ok r1]; exact hf.1, by rw [flats_ok r]; exact hf.2, by rw [anyEq_ok r1 r]; exact Option.some.inj e⟩
    · cases e
  cases r2 with
  | str z =>
    cases r1 with
    | str w => exact .inl ⟨w, z, rfl, rfl, Option.some.inj e⟩
    | _ => simp [mInB] at e
  | tup h2 q2 => exact .inr (.inl (seq rfl (.inr h2) q2 e))
  | @ref n a e2 =>
    unfold mInB at e
    dsimp only at e
    split at e
    · rename_i ys c
      obtain ⟨vs, h1, q1⟩ := rl.obj n _ a c e2
      exact .inr (.inl (seq rfl (.inl (SqL.of h1)) q1 e))
    · rename_i kvs c
      split at e
      · rename_i k hk
        obtain ⟨vs, h1, q1⟩ := rl.obj n _ a c e2
        have ek := keyOf_ok r1 hk
        subst ek
        refine .inr (.inr ⟨a, _, rfl, DGet.k h1, ?_⟩)
        rw [← Option.some.inj e]
        rcases val_ok (k := k) q1 with ⟨z1, z2⟩ | ⟨_, _, z1, z2, _⟩ <;> rw [z1, z2] <;> rfl
      · cases e
    · cases e
  | _ => simp [mInB] at e
theorem op_inM (hu : X.A.units + 1 < cLine) : OpR X (compareOp .In) (rM X.K cl mIn) := by
  intro pins s σ H V Y v u Q I rx ry ⟨x, y, h, mp, rl, r1, r2, g⟩
  unfold mIn at g
  split at g
  · rename_i b e
    have q : Q (.bl b) H := g _ H mp .refl rl (.bl b)
    rcases mInB_ok rl r1 r2 e with ⟨i, j, h1, h2, h3⟩ | ⟨p, xs, h1, h2, h3, h4, h5⟩ | ⟨a, o, h1, h2, h3⟩
    · exact op_in_str pins s σ H _ _ v u Q I rx ry ⟨i, j, h1, h2, by rw [h3]; exact q⟩
    · exact op_in_seq pins s σ H _ _ v u Q I rx ry ⟨p, xs, h1, h2, h3, h4, by rw [h5]; exact q⟩
    · exact op_din hu pins s σ H _ _ v u Q I rx ry ⟨a, o, h1, h2, by rw [h3]; exact q⟩
  · exact g.elim
theorem op_notInM (hu : X.A.units + 1 < cLine) : OpR X (compareOp .NotIn) (rM X.K cl mNotIn) := by
  intro pins s σ H V Y v u Q I rx ry ⟨x, y, h, mp, rl, r1, r2, g⟩
  unfold mNotIn at g
  split at g
  · rename_i b e
    have q : Q (.bl (!b)) H := g _ H mp .refl rl (.bl _)
    rcases mInB_ok rl r1 r2 e with ⟨i, j, h1, h2, h3⟩ | ⟨p, xs, h1, h2, h3, h4, h5⟩ | ⟨a, o, h1, h2, h3⟩
    · exact op_notin_str pins s σ H _ _ v u Q I rx ry ⟨i, j, h1, h2, by rw [h3]; exact q⟩
    · exact op_notIn_seq pins s σ H _ _ v u Q I rx ry ⟨p, xs, h1, h2, h3, h4, by rw [h5]; exact q⟩
    · exact op_dnotin hu pins s σ H _ _ v u Q I rx ry ⟨a, o, h1, h2, by rw [h3]; exact q⟩
  · exact g.elim
end
end Sm

set_option Elab.async false
set_option linter.all false
set_option maxRecDepth 100000
set_option maxHeartbeats 4000000
/-! subscripts, slices, built-ins, methods, fields, calls -/
namespace Sm
open PySem PySem.Spec PyProof.Rows L2
section
variable {X : Cx} {cl : Str → Option Addr} {W : Wsh} {a b c e o : Expr} {es : List Expr} {ma mb mc m : ME} {ms : MA} {pos apos cpos p2 : Pos}
/-! ### subscripts -/
theorem atI_ok {K : PySem.W.Frag} {mp : Mp} {H : Hp} {xs : List MV} {vs : List L2.V} {i : Int} {x : MV} (r : RVs K mp H xs vs) (e : atI xs i = some x) : ∃ v, atI vs i = some v ∧ RV K mp H x v := by
  unfold atI at e ⊢
  rw [← r.length]
  cases h : ixN xs.length i with
  | none => rw [h] at e; cases e
  | some j =>
    rw [h] at e
    obtain ⟨v, h1, h2⟩ := r.get (i := j) (x := x) (by simpa using e)
    exact ⟨v, by simpa using h1, h2⟩
@[simp] def optR (o : Option MV) (h : MH) : Res MV := match o with | some v => .ok v h | none => .bad
def ixL (xs : List MV) (y : MV) (h : MH) : Res MV := match y with | .int i => optR (atI xs i) h | _ => .bad
def ixS (z : Str) (y : MV) (h : MH) : Res MV := match y with | .int i => if szOk z.length then optR ((atI z.cps.toList i).map fun c => .str ⟨#[c]⟩) h else .bad | _ => .bad
def ixD (kvs : List (Key × MV)) (y : MV) (h : MH) : Res MV := match keyOf y with | some k => optR (valM kvs k) h | none => .bad
def mIx (x y : MV) (h : MH) : Res MV := match x with
  | .tup xs => ixL xs y h
  | .str z => ixS z y h
  | .scr xs => ixL xs y h
  | .ref n => match h[n]? with
    | some (.lst xs) => ixL xs y h
    | some (.dct kvs) => ixD kvs y h
    | _ => .bad
  | _ => .bad
theorem ix_dict (hu : X.A.units + 1 < cLine) : IxR X (fun x y H Q => ∃ a v, x = .ref a ∧ DGet H a y (some v) ∧ Q v H) := by
  intro value slice pins s σ H x y v u Q I rx ry h hs
  obtain ⟨a, w, rfl, g, q⟩ := h
  obtain rfl : v = Value.ref a := rx
  have hT := dict_typeIs I g
  unfold subscriptTail
  refine wpAny_bind ?_
  rw [getitemInPython_of_ne hT.not_modules]
  refine wpAny_bind (wpAny_specialOf hT PySem.F.slot_dict_getitem.lookup ?_)
  have fin : wpAny (model X.prog X.w) X.A (subscripted slice false (.ref a) u) (fun r s₃ => wpAny (model X.prog X.w) X.A (letTemporaryGo value (.ref a) r >>= fun _ => pure r) (EP X pins σ Q) X.xe s₃) X.xe s := by
    rw [hs]
    exact wpAny_operating (thn (d_getItem hu I g ry fun w' s3 I3 rw' => (⟨w, H, I3, rw', q⟩ : EP X pins σ Q w' s3)) fun r s₃ h₃ => wpAny_bind (wpAny_letTemporaryGo (wpAny_pure h₃)))
  first
    | exact wpAny_pure (wpAny_bind fin)
    | exact wpAny_bind fin
theorem optR_ok {K : PySem.W.Frag} {mp : Mp} {h : MH} {H : Hp} {Q : VK} {o : Option MV} (g : Good (optR o h) (QV K cl mp H Q) never) : ∃ v, o = some v ∧ QV K cl mp H Q v h := by
  cases o with
  | none => exact False.elim g
  | some v => exact ⟨v, rfl, g⟩
theorem ixL_ok {K : PySem.W.Frag} {mp : Mp} {h : MH} {H : Hp} {Q : VK} {xs : List MV} {vs : List L2.V} {y : MV} {Y : L2.V} (rl : Rl K cl mp h H) (q1 : RVs K mp H xs vs) (r2 : RV K mp H y Y) (g : Good (ixL xs y h) (QV K cl mp H Q) never) : ∃ i v, Y = .int i ∧ atI vs i = some v ∧ Q v H := by
  cases r2 with
  | int i =>
    obtain ⟨w, ew, q⟩ := optR_ok g
    obtain ⟨z, e1, e2⟩ := atI_ok q1 ew
    exact ⟨i, z, rfl, e1, q _ H mp .refl rl e2⟩
  | _ => exact False.elim g
theorem ixM (hu : X.A.units + 1 < cLine) : IxR X (rM X.K cl mIx) := by
  intro value slice pins s σ H V Y v u Q I rx ry ⟨x, y, h, mp, rl, r1, r2, g⟩ hs
  cases r1 with
  | tup h1 q1 =>
    obtain ⟨i, z, rfl, e1, q⟩ := ixL_ok rl q1 r2 g
    exact ix_tup value slice pins s σ H _ _ v u Q I rx ry ⟨_, _, i, z, rfl, rfl, h1, e1, q⟩ hs
  | scr h1 q1 =>
    obtain ⟨i, z, rfl, e1, q⟩ := ixL_ok rl q1 r2 g
    exact ix_list value slice pins s σ H _ _ v u Q I rx ry ⟨_, _, i, z, rfl, rfl, h1.sql, e1, q⟩ hs
  | str z =>
    cases r2 with
    | int i =>
      unfold mIx ixS at g
      dsimp only at g
      split at g
      · rename_i hz
        obtain ⟨w, ew, q⟩ := optR_ok g
        rw [Option.map_eq_some_iff] at ew
        obtain ⟨c, ec, rfl⟩ := ew
        exact ix_str value slice pins s σ H _ _ v u Q I rx ry ⟨z, i, c, rfl, rfl, hz.le, ec, q _ H mp .refl rl (.str _)⟩ hs
      · exact False.elim g
    | _ => exact False.elim g
  | @ref n a e1 =>
    unfold mIx at g
    dsimp only at g
    split at g
    · rename_i xs c
      obtain ⟨vs, h1, q1⟩ := rl.obj n _ a c e1
      obtain ⟨i, z, rfl, e1, q⟩ := ixL_ok rl q1 r2 g
      exact ix_list value slice pins s σ H _ _ v u Q I rx ry ⟨_, _, i, z, rfl, rfl, SqL.of h1, e1, q⟩ hs
    · rename_i kvs c
      obtain ⟨vs, h1, q1⟩ := rl.obj n _ a c e1
      unfold ixD at g
      split at g
      · rename_i k hk
        have ek := keyOf_ok r2 hk
        subst ek
        obtain ⟨w, ew, q⟩ := optR_ok g
        rcases val_ok (k := k) q1 with ⟨z1, z2⟩ | ⟨w', z, z1, z2, z3⟩
        · rw [z1] at ew; cases ew
        · rw [z1] at ew
          have := Option.some.inj ew
          subst this
          have dg := DGet.k (k := k) h1
          rw [z2] at dg
          exact ix_dict hu value slice pins s σ H _ _ v u Q I rx ry ⟨a, z, rfl, dg, q _ H mp .refl rl z3⟩ hs
      · exact False.elim g
    · exact False.elim g
  | _ => exact False.elim g
theorem se_ix (hu : X.A.units + 1 < cLine) (ne : NoEx2 mIx) (ha : SE X cl W a ma) (hb : SE X cl W b mb) (hs : PlainIx b) : SE X cl W (.Subscript a b pos) (eBin mIx ma mb) := peW (pe_ix (ixM hu) ha hb hs) (tOp_of rM_ok ne)
/-! ### slices -/
def cutM {α : Type} (xs : List α) (lo hi : Option Int) : List α := (xs.drop (HT.sIx xs.length 0 lo)).take (HT.sIx xs.length xs.length hi - HT.sIx xs.length 0 lo)
def mSl (x : MV) (lo hi : Option Int) (h : MH) : Res MV := match x with
  | .tup xs => .ok (.tup (cutM xs lo hi)) h
  | .str z => if szOk z.length then .ok (.str (cutS z lo hi)) h else .bad
  | .scr xs => .ok (.ref h.length) (h ++ [.lst (cutM xs lo hi)])
  | .ref n => match h[n]? with
    | some (.lst xs) => .ok (.ref h.length) (h ++ [.lst (cutM xs lo hi)])
    | _ => .bad
  | _ => .bad
def rMS (K : PySem.W.Frag) (cl : Str → Option Addr) (mo : MV → Option Int → Option Int → MH → Res MV) : L2.V → Option Int → Option Int → Hp → VK → Prop := fun V lo hi H Q => ∃ x h mp, Rl K cl mp h H ∧ RV K mp H x V ∧ Good (mo x lo hi h) (QV K cl mp H Q) never
theorem cut_ok {K : PySem.W.Frag} {mp : Mp} {H : Hp} {xs : List MV} {vs : List L2.V} {lo hi : Option Int} (r : RVs K mp H xs vs) : RVs K mp H (cutM xs lo hi) (cutV vs lo hi) := by
  unfold cutM cutV
  rw [r.length]
  exact (r.drop _).take _
theorem slM : SlR X (rMS X.K cl mSl) := by
  intro pins s σ H V v vl vu lo hi sl Q I rx hs pl pu ⟨x, h, mp, rl, r1, g⟩
  have lst : ∀ {n : Nat} {a : Addr} {xs : List MV} {vs : List L2.V}, V = .ref a → SqL X.K H a vs → RVs X.K mp H xs vs → QV X.K cl mp H Q (.ref h.length) (h ++ [.lst (cutM xs lo hi)]) →
      ∃ T id, typeLookup (.type T) "__getitem__" = pure (some (.builtin id)) ∧ s.TypeIs v T ∧ wpAny (model X.prog X.w) X.A (getItem v (.ref sl)) (EP X pins σ Q) X.xe s := fun {n a xs vs} ev hq q1 g => by
    subst ev
    refine sl_list pins s σ H _ v vl vu lo hi sl Q I rx hs pl pu ⟨a, vs, rfl, hq, fun p hp => ?_⟩
    obtain ⟨f, rl'⟩ := newCell rl hp (cut_ok (lo := lo) (hi := hi) q1)
    exact g _ _ _ f rl' (.ref Mp.put_same)
  cases r1 with
  | @tup xs vs a h1 q1 =>
    refine sl_tupA pins s σ H _ v vl vu lo hi sl Q I rx hs pl pu ⟨a, vs, rfl, h1, fun hw => ?_, fun _ p hp => ?_⟩
    · refine g _ H mp .refl rl (.tup h1 ?_)
      have : cutM xs lo hi = xs := by
        unfold cutM
        rw [q1.length, hw.1, hw.2]
        simp [← q1.length]
      rw [this]
      exact q1
    · exact g _ _ mp (Fut.new hp) (rl.new hp) (.tup (SqT.of upd_same) ((cut_ok q1).fut (Fut.new hp)))
  | str z =>
    unfold mSl at g
    dsimp only at g
    split at g
    · rename_i hz
      exact sl_str pins s σ H _ v vl vu lo hi sl Q I rx hs pl pu ⟨z, rfl, hz.le, g _ H mp .refl rl (.str _)⟩
    · exact False.elim g
  | scr h1 q1 => exact lst (n := 0) rfl h1.sql q1 g
  | @ref n a e1 =>
    unfold mSl at g
    dsimp only at g
    split at g
    · rename_i xs c
      obtain ⟨vs, h1, q1⟩ := rl.obj n _ a c e1
      exact lst (n := n) rfl (SqL.of h1) q1 g
    · exact False.elim g
  | _ => exact False.elim g
abbrev MP := MS → MH → Res (Option Int)
def tMP (K : PySem.W.Frag) (cl : Str → Option Addr) (W : Wsh) (m : MP) : TO := fun σ H Q => ∃ ρ h mp, Rl K cl mp h H ∧ RS K mp H ρ σ ∧ Good (m ρ h) (fun v h' => ∀ H' mp', Fut K mp mp' H H' → Rl K cl mp' h' H' → Q v H') (EW K cl mp H W σ)
abbrev SP1 (X : Cx) (cl : Str → Option Addr) (W : Wsh) (e : Option Expr) (m : MP) : Prop := PO X e (tMP X.K cl W m)
theorem poW {X : Cx} {e : Option Expr} {t t' : TO} (h : PO X e t) (w : ∀ σ H Q, t' σ H Q → t σ H Q) : PO X e t' := ⟨fun pins s σ H Q I q => h.run pins s σ H Q I (w σ H Q q)⟩
@[simp] def pNone : MP := fun _ h => .ok none h
@[simp] def pSome (m : ME) : MP := fun ρ h => (m ρ h).bind fun x h1 => match x with | .int i => .ok (some i) h1 | _ => .bad
theorem sp_none : SP1 X cl W none pNone := poW po_none fun σ H Q ⟨ρ, h, mp, rl, rs, g⟩ => g H mp .refl rl
theorem sp_some (he : SE X cl W e m) : SP1 X cl W (some e) (pSome m) := poW (po_some he) fun σ H Q ⟨ρ, h, mp, rl, rs, g⟩ =>
  tM_bind rl rs g (fun _ _ z => z) fun x h1 V H1 mp1 f1 rl1 rs1 rv1 g1 => by
    cases rv1 with
    | int i => exact ⟨i, rfl, g1 H1 mp1 f1 rl1⟩
    | _ => exact False.elim g1
theorem tMP_bind {K : PySem.W.Frag} {mp : Mp} {h : MH} {H : Hp} {ρ : MS} {σ : L2.St} {β : Type} {Q1 : β → MH → Prop} {E1 : MV → MH → Prop} {m : MP} {f : Option Int → MH → Res β} {R : Option Int → Hp → Prop} (rl : Rl K cl mp h H) (rs : RS K mp H ρ σ) (g : Good ((m ρ h).bind f) Q1 E1) (hE : ∀ e h', E1 e h' → EW K cl mp H W σ e h')
    (k : ∀ x h1 H1 mp1, Fut K mp mp1 H H1 → Rl K cl mp1 h1 H1 → RS K mp1 H1 ρ σ → Good (f x h1) Q1 E1 → R x H1) : tMP K cl W m σ H R :=
  ⟨ρ, h, mp, rl, rs, (Good.bind.mp g).mono (fun x h1 g1 H1 mp1 f1 rl1 => k x h1 H1 mp1 f1 rl1 (rs.fut f1) g1) hE⟩
@[simp] def eSl (m : ME) (ml mh : MP) : ME := fun ρ h => (m ρ h).bind fun x h1 => (ml ρ h1).bind fun l h2 => (mh ρ h2).bind fun u h3 => mSl x l u h3
theorem mSl_noEx (x : MV) (lo hi : Option Int) (h : MH) : ∀ e h', ¬ mSl x lo hi h = .ex e h' := by
  intro e h' z
  unfold mSl at z
  repeat' split at z
  all_goals cases z
theorem toNever {α : Type} {r : Res α} {Q : α → MH → Prop} {E : MV → MH → Prop} (g : Good r Q E) (ne : ∀ e h', ¬ r = .ex e h') : Good r Q never := by
  cases r with
  | ok v h' => exact g
  | ex v h' => exact (ne v h' rfl).elim
  | bad => exact g
theorem se_sl {lo hi : Option Expr} {ml mh : MP} (he : SE X cl W e m) (hl : SP1 X cl W lo ml) (hh : SP1 X cl W hi mh) : SE X cl W (.Subscript e (.Slice lo hi none p2) pos) (eSl m ml mh) :=
  peW (pe_slice slM he hl hh) fun σ H Q ⟨ρ, h, mp, rl, rs, g⟩ => tM_bind rl rs g (fun _ _ z => z) fun x h1 V H1 mp1 f1 rl1 rs1 rv1 g1 =>
    tMP_bind rl1 rs1 g1 (fun _ _ z => z.fut f1) fun l h2 H2 mp2 f2 rl2 rs2 g2 => tMP_bind rl2 rs2 g2 (fun _ _ z => z.fut (f1.trans f2)) fun u h3 H3 mp3 f3 rl3 rs3 g3 =>
      ⟨x, h3, mp3, rl3, rv1.fut (f2.trans f3), toNever (g3.mono (fun v h' q => q.fut (f1.trans (f2.trans f3))) fun _ _ z => z) (mSl_noEx _ _ _ _)⟩
/-! ### -x -/
@[simp] def mNeg (x : MV) (h : MH) : Res MV := match x with | .int i => .ok (.int (-i)) h | _ => .bad
theorem se_neg (ha : SE X cl W a ma) : SE X cl W (.UnaryOp .USub a pos) (eUn mNeg ma) := peW (pe_un un_neg ha) fun σ H Q ⟨ρ, h, mp, rl, rs, g⟩ =>
  tM_bind rl rs g (fun _ _ z => z) fun x h1 V H1 mp1 f1 rl1 rs1 rv1 g1 => by
    cases rv1 with
    | int i => exact ⟨i, rfl, g1 _ H1 mp1 f1 rl1 (.int _)⟩
    | _ => exact False.elim g1
/-! ### a op1 b op2 c -/
@[simp] def eChain (mo mo' : MV → MV → MH → Res MV) (ma mb mc : ME) : ME := fun ρ h => (ma ρ h).bind fun x h1 => (mb ρ h1).bind fun y h2 => (mo x y h2).bind fun z h3 => match z with
  | .bl true => (mc ρ h3).bind fun w h4 => mo' y w h4
  | .bl false => .ok (.bl false) h3
  | _ => .bad
theorem bind_noEx {α β : Type} {r : Res α} {f : α → MH → Res β} {Q : β → MH → Prop} {E : MV → MH → Prop} (g : Good (r.bind f) Q E) (ne : ∀ e h', ¬ r = .ex e h') : Good r (fun a h => Good (f a h) Q E) never := toNever (Good.bind.mp g) ne
theorem tChain_of {mo mo' : MV → MV → MH → Res MV} (ne : NoEx2 mo) (ne' : NoEx2 mo') : ∀ σ H Q, tM X.K cl W (eChain mo mo' ma mb mc) σ H Q → tChain (rM X.K cl mo) (rM X.K cl mo') (tM X.K cl W ma) (tM X.K cl W mb) (tM X.K cl W mc) σ H Q := fun σ H Q ⟨ρ, h, mp, rl, rs, g⟩ =>
  tM_bind rl rs g (fun _ _ z => z) fun x h1 V H1 mp1 f1 rl1 rs1 rv1 g1 => tM_bind rl1 rs1 g1 (fun _ _ z => z.fut f1) fun y h2 Y H2 mp2 f2 rl2 rs2 rv2 g2 =>
    ⟨x, y, h2, mp2, rl2, rv1.fut f2, rv2, (bind_noEx g2 (ne _ _ _)).mono (fun z h3 g3 Z H3 mp3 f3 rl3 rv3 => by
      cases rv3 with
      | bl k =>
        refine ⟨k, rfl, ?_⟩
        cases k with
        | true =>
          exact tM_bind rl3 (rs2.fut f3) g3 (fun _ _ z => z.fut (f1.trans (f2.trans f3))) fun w h4 Z H4 mp4 f4 rl4 rs4 rv4 g4 =>
            ⟨y, w, h4, mp4, rl4, rv2.fut (f3.trans f4), rv4, toNever (g4.mono (fun v h' q => q.fut (f1.trans (f2.trans (f3.trans f4)))) fun _ _ z => z) (ne' _ _ _)⟩
        | false => exact g3 _ H3 mp3 (f1.trans (f2.trans f3)) rl3 (.bl false)
      | _ => exact False.elim g3) fun _ _ z => z⟩
theorem se_chain {op op' : CmpOp} {mo mo' : MV → MV → MH → Res MV} (ho : OpR X (compareOp op) (rM X.K cl mo)) (ho' : OpR X (compareOp op') (rM X.K cl mo')) (ne : NoEx2 mo) (ne' : NoEx2 mo') (ha : SE X cl W a ma) (hb : SE X cl W b mb) (hc : SE X cl W c mc)
    (hm : lastMarks [op, op'] [b, c] = false := by with_unfolding_all rfl) : SE X cl W (.Compare a [op, op'] [b, c] pos) (eChain mo mo' ma mb mc) := peW (pe_chain ho ho' ha hb hc hm) (tChain_of ne ne')
theorem st_chain {op op' : CmpOp} {mo mo' : MV → MV → MH → Res MV} (ho : OpR X (compareOp op) (rM X.K cl mo)) (ho' : OpR X (compareOp op') (rM X.K cl mo')) (ne : NoEx2 mo) (ne' : NoEx2 mo') (ha : SE X cl W a ma) (hb : SE X cl W b mb) (hc : SE X cl W c mc)
    (hm : lastMarks [op, op'] [b, c] = false := by with_unfolding_all rfl) : ST X cl W (.Compare a [op, op'] [b, c] pos) (tOfE (eChain mo mo' ma mb mc)) :=
  ptW (pt_chain ho ho' ha hb hc hm) fun σ H Q ⟨ρ, h, mp, rl, rs, g⟩ => tChain_of ne ne' σ H _ (tM_bind rl rs g (fun _ _ z => z) fun x h1 V H1 mp1 f1 rl1 rs1 rv1 g1 => asB_ok f1 rl1 rv1 g1)
/-! ### built-ins -/
def rMC (K : PySem.W.Frag) (cl : Str → Option Addr) (mo : List MV → MH → Res MV) : List L2.V → Hp → VK → Prop := fun Vs H Q => ∃ xs h mp, Rl K cl mp h H ∧ RVs K mp H xs Vs ∧ Good (mo xs h) (QV K cl mp H Q) never
@[simp] def eCallB (mo : List MV → MH → Res MV) (ms : MA) : ME := fun ρ h => (ms ρ h).bind fun xs h1 => mo xs h1
def NoEx1 {α : Type} (mo : List MV → MH → Res α) : Prop := ∀ xs h e h', ¬ mo xs h = .ex e h'
theorem tCB_of {mo : List MV → MH → Res MV} (ne : NoEx1 mo) : ∀ σ H Q, tM X.K cl W (eCallB mo ms) σ H Q → tCB (rMC X.K cl mo) (tMA X.K cl W ms) σ H Q := fun σ H Q ⟨ρ, h, mp, rl, rs, g⟩ =>
  tMA_bind rl rs g (fun _ _ z => z) fun xs h1 V H1 mp1 f1 rl1 rs1 rv1 g1 => ⟨xs, h1, mp1, rl1, rv1, toNever (g1.mono (fun v h' q => q.fut f1) fun _ _ z => z) (ne _ _)⟩
theorem se_callB {x : Str} {id : String} {mo : List MV → MH → Res MV} {p : Pos} (ne : NoEx1 mo) (hc : CallR X (.builtin id) (rMC X.K cl mo)) (hg : Gl X x) (hm : X.mg x = none) (hv : bootBuiltins x = some (.builtin id)) (hs : SA X cl W (e :: es) ms)
    (hn : x ≠ "__name__" := by decide) (hdb : (x == ("__debug__" : Str)) = false := by decide) (he : starEach (e :: es) X.env = (false, eval e X.env) :: starEach es X.env := by rfl) (hpl : (backTo pos (starEach es X.env)).any (·.1) = false := by rfl) :
    SE X cl W (.Call (.Name x p) (e :: es) [] pos) (eCallB mo ms) := peW (pe_callB hc hg hm hv hs (hn := hn) (hdb := hdb) (he := he) (hpl := hpl)) (tCB_of ne)
theorem se_callTy {x : Str} {T : String} {mo : List MV → MH → Res MV} {p : Pos} (ne : NoEx1 mo) (hc : CallR X (.type T) (rMC X.K cl mo)) (hg : Gl X x) (hm : X.mg x = none) (hv : bootBuiltins x = some (.type T)) (hs : SA X cl W (e :: es) ms)
    (hn : x ≠ "__name__" := by decide) (hdb : (x == ("__debug__" : Str)) = false := by decide) (he : starEach (e :: es) X.env = (false, eval e X.env) :: starEach es X.env := by rfl) (hpl : (backTo pos (starEach es X.env)).any (·.1) = false := by rfl) :
    SE X cl W (.Call (.Name x p) (e :: es) [] pos) (eCallB mo ms) := peW (pe_callTy hc hg hm hv hs (hn := hn) (hdb := hdb) (he := he) (hpl := hpl)) (tCB_of ne)
/-- a list or a tuple as its items -/
def itemsOf (x : MV) (h : MH) : Option (List MV) := match x with
  | .tup xs => some xs
  | .scr xs => some xs
  | .ref n => match h[n]? with | some (.lst xs) => some xs | _ => none
  | _ => none
theorem items_ok {K : PySem.W.Frag} {mp : Mp} {h : MH} {H : Hp} {x : MV} {V : L2.V} {xs : List MV} (rl : Rl K cl mp h H) (r : RV K mp H x V) (e : itemsOf x h = some xs) :
    ∃ p vs, V = .ref p ∧ ((SqL K H p vs ∧ True) ∨ (SqT K H p vs ∧ x = .tup xs)) ∧ RVs K mp H xs vs := by
  cases r with
  | @tup ys vs a h1 q1 =>
    have := Option.some.inj e
    subst this
    exact ⟨a, vs, rfl, .inr ⟨h1, rfl⟩, q1⟩
  | @ref n a e1 =>
    unfold itemsOf at e
    dsimp only at e
    split at e
    · rename_i ys c
      have := Option.some.inj e
      subst this
      obtain ⟨vs, h1, q1⟩ := rl.obj n _ a c e1
      exact ⟨a, vs, rfl, .inl ⟨SqL.of h1, trivial⟩, q1⟩
    · cases e
  | @scr ys vs a h1 q1 =>
    have := Option.some.inj e
    subst this
    exact ⟨a, vs, rfl, .inl ⟨h1.sql, trivial⟩, q1⟩
  | _ => cases e
theorem rvs1 {K : PySem.W.Frag} {mp : Mp} {H : Hp} {x : MV} {Vs : List L2.V} (r : RVs K mp H [x] Vs) : ∃ V, Vs = [V] ∧ RV K mp H x V := by
  cases r with | cons r t => cases t; exact ⟨_, rfl, r⟩
theorem rvs2 {K : PySem.W.Frag} {mp : Mp} {H : Hp} {x y : MV} {Vs : List L2.V} (r : RVs K mp H [x, y] Vs) : ∃ V Y, Vs = [V, Y] ∧ RV K mp H x V ∧ RV K mp H y Y := by
  cases r with | cons r t => cases t with | cons r2 t => cases t; exact ⟨_, _, rfl, r, r2⟩
def mLen (xs : List MV) (h : MH) : Res MV := match xs with
  | [.str z] => if szOk z.length then .ok (.int z.length) h else .bad
  | [.tup ys] => .ok (.int ys.length) h
  | [.scr ys] => .ok (.int ys.length) h
  | [.ref n] => match h[n]? with
    | some (.lst ys) => .ok (.int ys.length) h
    | some (.dct kvs) => .ok (.int kvs.length) h
    | _ => .bad
  | _ => .bad
theorem lenM : CallR X (.builtin "len") (rMC X.K cl mLen) := by
  intro pins s σ H Vs us Q I r ⟨xs, h, mp, rl, rv, g⟩
  unfold mLen at g
  split at g
  · rename_i z
    obtain ⟨V, rfl, rx⟩ := rvs1 rv
    cases rx
    split at g
    · rename_i hz
      exact call_len_str pins s σ H _ us Q I r ⟨z, rfl, hz.le, g _ H mp .refl rl (.int _)⟩
    · exact False.elim g
  · rename_i ys
    obtain ⟨V, rfl, rx⟩ := rvs1 rv
    cases rx with
    | tup h1 q1 =>
      refine call_len_seq pins s σ H _ us Q I r ⟨_, _, rfl, .inr h1, ?_⟩
      rw [← q1.length]
      exact g _ H mp .refl rl (.int _)
  · rename_i ys
    obtain ⟨V, rfl, rx⟩ := rvs1 rv
    cases rx with
    | scr h1 q1 =>
      refine call_len_seq pins s σ H _ us Q I r ⟨_, _, rfl, .inl h1.sql, ?_⟩
      rw [← q1.length]
      exact g _ H mp .refl rl (.int _)
  · rename_i n
    obtain ⟨V, rfl, rx⟩ := rvs1 rv
    cases rx with
    | @ref _ a e1 =>
      split at g
      · rename_i ys c
        obtain ⟨vs, h1, q1⟩ := rl.obj n _ a c e1
        refine call_len_seq pins s σ H _ us Q I r ⟨_, _, rfl, .inl (SqL.of h1), ?_⟩
        rw [← q1.length]
        exact g _ H mp .refl rl (.int _)
      · rename_i kvs c
        obtain ⟨vs, h1, q1⟩ := rl.obj n _ a c e1
        refine call_lenD pins s σ H _ us Q I r ⟨_, vs, rfl, h1, ?_⟩
        have : kvs.length = vs.length := by simpa using congrArg List.length q1.1
        rw [← this]
        exact g _ H mp .refl rl (.int _)
      · exact False.elim g
  · exact False.elim g
def mTuple (xs : List MV) (h : MH) : Res MV := match xs with | [x] => (match itemsOf x h with | some ys => .ok (.tup ys) h | none => .bad) | _ => .bad
theorem tupleM : CallR X (.type "tuple") (rMC X.K cl mTuple) := by
  intro pins s σ H Vs us Q I r ⟨xs, h, mp, rl, rv, g⟩
  unfold mTuple at g
  split at g
  · rename_i x
    obtain ⟨V, rfl, rx⟩ := rvs1 rv
    split at g
    · rename_i ys ey
      obtain ⟨p, vs, rfl, hs, q1⟩ := items_ok rl rx ey
      refine call_tuple_of pins s σ H _ us Q I r ⟨p, vs, rfl, ?_⟩
      rcases hs with ⟨hs, _⟩ | ⟨hs, _⟩
      · exact .inl ⟨hs, fun l hl => g _ _ mp (Fut.new hl) (rl.new hl) (.tup (SqT.of upd_same) (q1.fut (Fut.new hl)))⟩
      · exact .inr ⟨hs, g _ H mp .refl rl (.tup hs q1)⟩
    · exact False.elim g
  · exact False.elim g
@[simp] def mInt (xs : List MV) (h : MH) : Res MV := match xs with | [.int i] => .ok (.int i) h | [.bl b] => .ok (.int (if b then 1 else 0)) h | _ => .bad
theorem intM : CallR X (.type "int") (rMC X.K cl mInt) := by
  intro pins s σ H Vs us Q I r ⟨xs, h, mp, rl, rv, g⟩
  unfold mInt at g
  split at g
  · obtain ⟨V, rfl, rx⟩ := rvs1 rv
    cases rx
    exact call_int1 pins s σ H _ us Q I r (.inl ⟨_, rfl, g _ H mp .refl rl (.int _)⟩)
  · obtain ⟨V, rfl, rx⟩ := rvs1 rv
    cases rx
    exact call_int1 pins s σ H _ us Q I r (.inr ⟨_, rfl, g _ H mp .refl rl (.int _)⟩)
  · exact False.elim g
@[simp] def mBool (xs : List MV) (h : MH) : Res MV := match xs with | [.int i] => .ok (.bl (i != 0)) h | [.bl b] => .ok (.bl b) h | _ => .bad
theorem boolM : CallR X (.type "bool") (rMC X.K cl mBool) := by
  intro pins s σ H Vs us Q I r ⟨xs, h, mp, rl, rv, g⟩
  unfold mBool at g
  split at g
  · obtain ⟨V, rfl, rx⟩ := rvs1 rv
    cases rx
    exact call_bool1 pins s σ H _ us Q I r (.inl ⟨_, rfl, g _ H mp .refl rl (.bl _)⟩)
  · obtain ⟨V, rfl, rx⟩ := rvs1 rv
    cases rx
    exact call_bool1 pins s σ H _ us Q I r (.inr ⟨_, rfl, g _ H mp .refl rl (.bl _)⟩)
  · exact False.elim g
@[simp] def mAbs (xs : List MV) (h : MH) : Res MV := match xs with | [.int i] => .ok (.int (if i < 0 then -i else i)) h | _ => .bad
theorem absM : CallR X (.builtin "abs") (rMC X.K cl mAbs) := by
  intro pins s σ H Vs us Q I r ⟨xs, h, mp, rl, rv, g⟩
  unfold mAbs at g
  split at g
  · obtain ⟨V, rfl, rx⟩ := rvs1 rv
    cases rx
    exact call_abs pins s σ H _ us Q I r ⟨_, rfl, g _ H mp .refl rl (.int _)⟩
  · exact False.elim g
@[simp] def mMin (xs : List MV) (h : MH) : Res MV := match xs with | [.int i, .int j] => .ok (.int (if j < i then j else i)) h | _ => .bad
@[simp] def mMax (xs : List MV) (h : MH) : Res MV := match xs with | [.int i, .int j] => .ok (.int (if j > i then j else i)) h | _ => .bad
theorem minM (hc : X.calm = true) : CallR X (.builtin "min") (rMC X.K cl mMin) := by
  intro pins s σ H Vs us Q I r ⟨xs, h, mp, rl, rv, g⟩
  unfold mMin at g
  split at g
  · obtain ⟨V, Y, rfl, rx, ry⟩ := rvs2 rv
    cases rx
    cases ry
    exact call_min2 hc pins s σ H _ us Q I r ⟨_, _, rfl, g _ H mp .refl rl (.int _)⟩
  · exact False.elim g
theorem maxM (hc : X.calm = true) : CallR X (.builtin "max") (rMC X.K cl mMax) := by
  intro pins s σ H Vs us Q I r ⟨xs, h, mp, rl, rv, g⟩
  unfold mMax at g
  split at g
  · obtain ⟨V, Y, rfl, rx, ry⟩ := rvs2 rv
    cases rx
    cases ry
    exact call_max2 hc pins s σ H _ us Q I r ⟨_, _, rfl, g _ H mp .refl rl (.int _)⟩
  · exact False.elim g
def mStr (xs : List MV) (h : MH) : Res MV := match xs with
  | [.int i] => if i.natAbs.log2 < 1920 then .ok (.str (toString i)) h else .bad
  | [.bl b] => .ok (.str (if b then "True" else "False")) h
  | [.str a] => .ok (.str a) h
  | _ => .bad
theorem strM : CallR X (.type "str") (rMC X.K cl mStr) := by
  intro pins s σ H Vs us Q I r ⟨xs, h, mp, rl, rv, g⟩
  unfold mStr at g
  split at g
  · obtain ⟨V, rfl, rx⟩ := rvs1 rv
    cases rx
    split at g
    · rename_i hz
      exact call_str_int pins s σ H _ us Q I r ⟨_, rfl, hz, g _ H mp .refl rl (.str _)⟩
    · exact False.elim g
  · obtain ⟨V, rfl, rx⟩ := rvs1 rv
    cases rx
    obtain ⟨u, rfl, r1⟩ := vals1 r
    cases r1
    exact PySem.P.str_of_bool ⟨.str _, H, I.tok _, ⟨_, rfl⟩, g _ H mp .refl rl (.str _)⟩
  · obtain ⟨V, rfl, rx⟩ := rvs1 rv
    cases rx
    obtain ⟨u, rfl, t, rfl⟩ := vals1 r
    exact PySem.P.str_of_str ⟨.str _, H, I, ⟨_, rfl⟩, g _ H mp .refl rl (.str _)⟩
  · exact False.elim g
end
end Sm

set_option Elab.async false
set_option linter.all false
set_option maxRecDepth 100000
set_option maxHeartbeats 4000000
/-! lists just made as arguments, isinstance, methods, fields, calls of defs -/
namespace Sm
open PySem PySem.Spec PyProof.Rows L2
section
variable {X : Cx} {cl : Str → Option Addr} {W : Wsh} {a b c e o : Expr} {es : List Expr} {ma mb mc m : ME} {ms la lb : MA} {pos apos cpos p2 : Pos}
/-! ### f([..]) -/
/-- what is asked of a list of items -/
def ListR (X : Cx) (cl : Str → Option Addr) (r : List L2.V → Hp → VK → Prop) (mo : List MV → MH → Res MV) : Prop := ∀ p xs vs H h mp Q, Rl X.K cl mp h H → SqL X.K H p vs → RVs X.K mp H xs vs → Good (mo xs h) (QV X.K cl mp H Q) never → r [.ref p] H Q
theorem tCBL_of {r : List L2.V → Hp → VK → Prop} {mo : List MV → MH → Res MV} (ok : ListR X cl r mo) (ne : NoEx1 mo) : ∀ σ H Q, tM X.K cl W (eCallB mo la) σ H Q → tCB r (tCons (tML X.K cl W la) tNil) σ H Q := fun σ H Q ⟨ρ, h, mp, rl, rs, g⟩ =>
  tML_bind rl rs g (fun _ _ z => z) fun xs h1 p vs H1 mp1 f1 rl1 rs1 h0 np hp rv g1 => ok p xs vs H1 h1 mp1 Q rl1 (SqL.of hp) rv (toNever (g1.mono (fun v h' q => q.fut f1) fun _ _ z => z) (ne _ _))
theorem se_callBL {x : Str} {id : String} {mo : List MV → MH → Res MV} {r : List L2.V → Hp → VK → Prop} {p : Pos} (ok : ListR X cl r mo) (ne : NoEx1 mo) (hc : CallR X (.builtin id) r) (hg : Gl X x) (hm : X.mg x = none) (hv : bootBuiltins x = some (.builtin id)) (hs : SL X cl W e la)
    (hn : x ≠ "__name__" := by decide) (hdb : (x == ("__debug__" : Str)) = false := by decide) (he : starEach [e] X.env = [(false, eval e X.env)] := by rfl) :
    SE X cl W (.Call (.Name x p) [e] [] pos) (eCallB mo la) := peW (pe_callB hc hg hm hv (pa_cons hs pa_nil he) (hn := hn) (hdb := hdb) (he := he) (hpl := rfl)) (tCBL_of ok ne)
theorem se_callTyL {x : Str} {T : String} {mo : List MV → MH → Res MV} {r : List L2.V → Hp → VK → Prop} {p : Pos} (ok : ListR X cl r mo) (ne : NoEx1 mo) (hc : CallR X (.type T) r) (hg : Gl X x) (hm : X.mg x = none) (hv : bootBuiltins x = some (.type T)) (hs : SL X cl W e la)
    (hn : x ≠ "__name__" := by decide) (hdb : (x == ("__debug__" : Str)) = false := by decide) (he : starEach [e] X.env = [(false, eval e X.env)] := by rfl) :
    SE X cl W (.Call (.Name x p) [e] [] pos) (eCallB mo la) := peW (pe_callTy hc hg hm hv (pa_cons hs pa_nil he) (hn := hn) (hdb := hdb) (he := he) (hpl := rfl)) (tCBL_of ok ne)
@[simp] def lTuple (xs : List MV) (h : MH) : Res MV := .ok (.tup xs) h
theorem lTuple_ok : ListR X cl (fun xs H Q => ∃ p ys, xs = [.ref p] ∧ ((SqL X.K H p ys ∧ ∀ l, H l = none → Q (.ref l) (upd H l (.tup ys))) ∨ (SqT X.K H p ys ∧ Q (.ref p) H))) lTuple := fun p xs vs H h mp Q rl hs rv g =>
  ⟨p, vs, rfl, .inl ⟨hs, fun l hl => g _ _ mp (Fut.new hl) (rl.new hl) (.tup (SqT.of upd_same) (rv.fut (Fut.new hl)))⟩⟩
@[simp] def lLen (xs : List MV) (h : MH) : Res MV := .ok (.int xs.length) h
theorem lLen_ok : ListR X cl (fun xs H Q => ∃ p ys, xs = [.ref p] ∧ (SqL X.K H p ys ∨ SqT X.K H p ys) ∧ Q (.int ys.length) H) lLen := fun p xs vs H h mp Q rl hs rv g =>
  ⟨p, vs, rfl, .inl hs, by rw [← rv.length]; exact g _ H mp .refl rl (.int _)⟩
def bools : List MV → Option (List Bool)
  | [] => some []
  | .bl b :: xs => (bools xs).map (b :: ·)
  | _ => none
@[simp] theorem bools_map (bs : List Bool) : bools (bs.map MV.bl) = some bs := by
  induction bs with
  | nil => rfl
  | cons b bs ih => simp [bools, ih]
theorem bools_ok {K : PySem.W.Frag} {mp : Mp} {H : Hp} : ∀ {xs : List MV} {vs : List L2.V} {bs : List Bool}, RVs K mp H xs vs → bools xs = some bs → vs = bs.map L2.V.bl
  | [], _, _, .nil, e => by simp [bools] at e; subst e; rfl
  | x :: xs, _, bs, .cons r t, e => by
    cases r with
    | bl b =>
      simp only [bools, Option.map_eq_some_iff] at e
      obtain ⟨cs, e1, rfl⟩ := e
      rw [bools_ok t e1]
      rfl
    | _ => simp [bools] at e
@[simp] def lAll (xs : List MV) (h : MH) : Res MV := match bools xs with | some bs => .ok (.bl (bs.all id)) h | none => .bad
@[simp] def lAny (xs : List MV) (h : MH) : Res MV := match bools xs with | some bs => .ok (.bl (bs.any id)) h | none => .bad
theorem lAll_ok : ListR X cl (rAll X.K) lAll := fun p xs vs H h mp Q rl hs rv g => by
  unfold lAll at g
  split at g
  · rename_i bs e
    have := bools_ok rv e
    subst this
    exact ⟨p, bs, rfl, hs, g _ H mp .refl rl (.bl _)⟩
  · exact False.elim g
theorem lAny_ok : ListR X cl (rAny X.K) lAny := fun p xs vs H h mp Q rl hs rv g => by
  unfold lAny at g
  split at g
  · rename_i bs e
    have := bools_ok rv e
    subst this
    exact ⟨p, bs, rfl, hs, g _ H mp .refl rl (.bl _)⟩
  · exact False.elim g
theorem lTuple_noEx : NoEx1 lTuple := fun _ _ _ _ z => by cases z
theorem lLen_noEx : NoEx1 lLen := fun _ _ _ _ z => by cases z
theorem lAll_noEx : NoEx1 lAll := fun _ _ _ _ z => by unfold lAll at z; split at z <;> cases z
theorem lAny_noEx : NoEx1 lAny := fun _ _ _ _ z => by unfold lAny at z; split at z <;> cases z
/-! ### list(x), [..] + [..] -/
@[simp] def lOf (m : ME) : MA := fun ρ h => (m ρ h).bind fun x h1 => match itemsOf x h1 with | some xs => .ok xs h1 | none => .bad
theorem sl_of {x : Str} {p : Pos} (hg : Gl X "list") (hm : X.mg "list" = none) (he : SE X cl W e m)
    (hst : starEach [e] X.env = [(false, eval e X.env)] := by rfl) : SL X cl W (.Call (.Name "list" p) [e] [] pos) (lOf m) :=
  peW (pe_callTy call_list_of hg hm (by decide +kernel) (pa_cons he pa_nil hst) (hn := by decide) (hdb := by decide) (he := hst) (hpl := rfl)) fun σ H Q ⟨ρ, h, mp, rl, rs, g⟩ =>
    tM_bind rl rs g (fun _ _ z => z) fun x h1 V H1 mp1 f1 rl1 rs1 rv1 g1 => by
      split at g1
      · rename_i xs ex
        obtain ⟨p, vs, rfl, hs, q1⟩ := items_ok rl1 rv1 ex
        exact ⟨p, vs, rfl, hs.imp (fun z => z.1) (fun z => z.1), fun l hl => newList f1 rl1 q1 hl g1⟩
      · exact False.elim g1
@[simp] def lOfL (la : MA) : MA := la
theorem sl_ofL {p : Pos} (hg : Gl X "list") (hm : X.mg "list" = none) (he : SL X cl W e la)
    (hst : starEach [e] X.env = [(false, eval e X.env)] := by rfl) : SL X cl W (.Call (.Name "list" p) [e] [] pos) (lOfL la) :=
  peW (pe_callTy call_list_of hg hm (by decide +kernel) (pa_cons he pa_nil hst) (hn := by decide) (hdb := by decide) (he := hst) (hpl := rfl)) fun σ H Q ⟨ρ, h, mp, rl, rs, g⟩ =>
    ⟨ρ, h, mp, rl, rs, Good.mono g (fun xs h1 q p vs H1 mp1 f1 rl1 h0 np hp rv => ⟨p, vs, rfl, .inl (SqL.of hp), fun l hl => newList f1 rl1 rv hl q⟩) fun _ _ z => z⟩
@[simp] def lCat (la lb : MA) : MA := fun ρ h => (la ρ h).bind fun xs h1 => (lb ρ h1).bind fun ys h2 => if szOk (xs.length + ys.length) then .ok (xs ++ ys) h2 else .bad
theorem sl_cat (ha : SL X cl W a la) (hb : SL X cl W b lb) : SL X cl W (.BinOp a .Add b pos) (lCat la lb) :=
  peW (pe_op op_cat ha hb) fun σ H Q ⟨ρ, h, mp, rl, rs, g⟩ => tML_bind rl rs g (fun _ _ z => z) fun xs h1 p vs H1 mp1 f1 rl1 rs1 h0 np hp rv g1 =>
    tML_bind rl1 rs1 g1 (fun _ _ z => z.fut f1) fun ys h2 q ws H2 mp2 f2 rl2 rs2 h0' np' hp' rv' g2 => by
      split at g2
      · rename_i hz
        exact ⟨p, q, vs, ws, rfl, rfl, (f2.fr p _ hp np).1, hp', by rw [← rv.length, ← rv'.length]; exact hz.le, fun l hl => newList (f1.trans f2) rl2 ((rv.fut f2).append rv') hl g2⟩
      · exact False.elim g2
/-- the list at a cell -/
def lstAt (x : MV) (h : MH) : Option (List MV) := match x with | .ref n => (match h[n]? with | some (.lst xs) => some xs | _ => none) | _ => none
theorem lstAt_ok {K : PySem.W.Frag} {mp : Mp} {h : MH} {H : Hp} {x : MV} {V : L2.V} {xs : List MV} (rl : Rl K cl mp h H) (r : RV K mp H x V) (e : lstAt x h = some xs) : ∃ n p vs, x = .ref n ∧ mp n = some p ∧ h[n]? = some (.lst xs) ∧ V = .ref p ∧ H p = some (.lst vs) ∧ RVs K mp H xs vs := by
  cases r with
  | @ref n a e1 =>
    unfold lstAt at e
    dsimp only at e
    split at e
    · rename_i ys c
      have := Option.some.inj e
      subst this
      obtain ⟨vs, h1, q1⟩ := rl.obj n _ a c e1
      exact ⟨n, a, vs, rfl, e1, c, rfl, h1, q1⟩
    · cases e
  | _ => cases e
@[simp] def lCatE (ma : ME) (lb : MA) : MA := fun ρ h => (ma ρ h).bind fun x h1 => (lb ρ h1).bind fun ys h2 => match lstAt x h2 with | some xs => if szOk (xs.length + ys.length) then .ok (xs ++ ys) h2 else .bad | none => .bad
theorem sl_catE (ha : SE X cl W a ma) (hb : SL X cl W b lb) : SL X cl W (.BinOp a .Add b pos) (lCatE ma lb) :=
  peW (pe_op op_cat ha hb) fun σ H Q ⟨ρ, h, mp, rl, rs, g⟩ => tM_bind rl rs g (fun _ _ z => z) fun x h1 V H1 mp1 f1 rl1 rs1 rv g1 =>
    tML_bind rl1 rs1 g1 (fun _ _ z => z.fut f1) fun ys h2 q ws H2 mp2 f2 rl2 rs2 h0' np' hp' rv' g2 => by
      split at g2
      · rename_i xs ex
        obtain ⟨n, p, vs, rfl, e1, c, rfl, hp, q1⟩ := lstAt_ok rl2 (rv.fut f2) ex
        split at g2
        · rename_i hz
          exact ⟨p, q, vs, ws, rfl, rfl, hp, hp', by rw [← q1.length, ← rv'.length]; exact hz.le, fun l hl => newList (f1.trans f2) rl2 (q1.append rv') hl g2⟩
        · exact False.elim g2
      · exact False.elim g2
@[simp] def lCatL (la : MA) (mb : ME) : MA := fun ρ h => (la ρ h).bind fun xs h1 => (mb ρ h1).bind fun y h2 => match lstAt y h2 with | some ys => if szOk (xs.length + ys.length) then .ok (xs ++ ys) h2 else .bad | none => .bad
theorem sl_catL (ha : SL X cl W a la) (hb : SE X cl W b mb) : SL X cl W (.BinOp a .Add b pos) (lCatL la mb) :=
  peW (pe_op op_cat ha hb) fun σ H Q ⟨ρ, h, mp, rl, rs, g⟩ => tML_bind rl rs g (fun _ _ z => z) fun xs h1 p vs H1 mp1 f1 rl1 rs1 h0 np hp rv g1 =>
    tM_bind rl1 rs1 g1 (fun _ _ z => z.fut f1) fun y h2 V H2 mp2 f2 rl2 rs2 rv' g2 => by
      split at g2
      · rename_i ys ey
        obtain ⟨n, q, ws, rfl, e1, c, rfl, hq, q1⟩ := lstAt_ok rl2 rv' ey
        split at g2
        · rename_i hz
          exact ⟨p, q, vs, ws, rfl, rfl, (f2.fr p _ hp np).1, hq, by rw [← rv.length, ← q1.length]; exact hz.le, fun l hl => newList (f1.trans f2) rl2 ((rv.fut f2).append q1) hl g2⟩
        · exact False.elim g2
      · exact False.elim g2
/-- [..][i]: an item of a list just made -/
@[simp] def eIxL (la : MA) (mb : ME) : ME := fun ρ h => (la ρ h).bind fun xs h1 => (mb ρ h1).bind fun y h2 => ixL xs y h2
theorem ixL_noEx (xs : List MV) (y : MV) (h : MH) : ∀ e h', ¬ ixL xs y h = .ex e h' := by
  intro e h' z
  unfold ixL optR at z
  repeat' split at z
  all_goals cases z
theorem se_ixL (ha : SL X cl W a la) (hb : SE X cl W b mb) (hs : PlainIx b) : SE X cl W (.Subscript a b pos) (eIxL la mb) :=
  peW (pe_ix ix_list ha hb hs) fun σ H Q ⟨ρ, h, mp, rl, rs, g⟩ => tML_bind rl rs g (fun _ _ z => z) fun xs h1 p vs H1 mp1 f1 rl1 rs1 h0 np hp rv g1 =>
    tM_bind rl1 rs1 g1 (fun _ _ z => z.fut f1) fun y h2 V H2 mp2 f2 rl2 rs2 rv' g2 => by
      obtain ⟨i, z, rfl, e1, q⟩ := ixL_ok rl2 (rv.fut f2) rv' (toNever (g2.mono (fun v h' q => q.fut (f1.trans f2)) fun _ _ z => z) (ixL_noEx _ _ _))
      exact ⟨p, vs, i, z, rfl, rfl, SqL.of (f2.fr p _ hp np).1, e1, q⟩
/-! ### isinstance -/
def tyName (x : MV) (h : MH) : Option String := match x with
  | .non => some "NoneType" | .bl _ => some "bool" | .int _ => some "int" | .str _ => some "str" | .tup _ => some "tuple"
  | .scr _ => some "list"
  | .ref n => match h[n]? with | some (.lst _) => some "list" | some (.dct _) => some "dict" | _ => none
  | .exn _ _ _ => none
theorem tyName_ok {K : PySem.W.Frag} {mp : Mp} {h : MH} {H : Hp} {x : MV} {V : L2.V} {t : String} (rl : Rl K cl mp h H) (r : RV K mp H x V) (e : tyName x h = some t) : TyX K H V (.type t) := by
  cases r with
  | non => cases e; exact .base .non
  | bl b => cases e; exact .base (.bl b)
  | int b => cases e; exact .base (.int b)
  | str b => cases e; exact .base (.str b)
  | tup h1 q1 =>
    cases e
    rcases h1 with (h1 | ⟨o, h1⟩) | ⟨o, its, n, h1, h2, _⟩
    · exact .base (.tup h1)
    · exact .fTuple h1
    · exact .kTuple h1 h2
  | scr h1 q1 =>
    cases e
    rcases h1 with ⟨o, h1⟩ | ⟨o, its, n, h1, h2, _⟩
    · exact .base (.frz h1)
    · exact .kList h1 h2
  | @ref n a e1 =>
    unfold tyName at e
    dsimp only at e
    split at e
    · rename_i ys c
      cases e
      obtain ⟨vs, h1, q1⟩ := rl.obj n _ a c e1
      exact .base (.lst h1)
    · rename_i ys c
      cases e
      obtain ⟨vs, h1, q1⟩ := rl.obj n _ a c e1
      exact .base (.dK h1)
    · cases e
def isiB (t T : String) : Bool := t == T || (t == "bool" && T == "int")
def mIsi (T : String) (x : MV) (h : MH) : Res MV := match tyName x h with | some t => .ok (.bl (isiB t T)) h | none => .bad
theorem kit_all {T : String} (hT : T ∈ ["int", "bool", "str", "tuple", "list", "dict"]) {x : MV} {h : MH} {t : String} (e : tyName x h = some t) : kitB t T = some (isiB t T) := by
  have ht : t ∈ ["NoneType", "bool", "int", "str", "tuple", "list", "dict"] := by
    unfold tyName at e
    repeat' split at e
    all_goals cases e
    all_goals decide
  have all : ∀ T ∈ ["int", "bool", "str", "tuple", "list", "dict"], ∀ t ∈ ["NoneType", "bool", "int", "str", "tuple", "list", "dict"], kitB t T = some (isiB t T) := by decide +kernel
  exact all T hT t ht
theorem se_isi {T : String} {x : Str} {p pT : Pos} (hT : T ∈ ["int", "bool", "str", "tuple", "list", "dict"] := by decide) (hg : Gl X "isinstance") (hm : X.mg "isinstance" = none) (he : SE X cl W e m) (ht : PE X (.Name x pT) (tC (.ty T)))
    (hs : starEach [e, .Name x pT] X.env = (false, eval e X.env) :: starEach [.Name x pT] X.env := by rfl) (hs2 : starEach [.Name x pT] X.env = [(false, eval (.Name x pT) X.env)] := by rfl) (hpl : (backTo pos (starEach [.Name x pT] X.env)).any (·.1) = false := by rfl) :
    SE X cl W (.Call (.Name "isinstance" p) [e, .Name x pT] [] pos) (eUn (mIsi T) m) :=
  peW (pe_callB call_isi hg hm (by decide +kernel) (pa_cons he (pa_cons ht pa_nil hs2) hs) (hn := by decide) (hdb := by decide) (he := hs) (hpl := hpl)) fun σ H Q ⟨ρ, h, mp, rl, rs, g⟩ =>
    tM_bind rl rs g (fun _ _ z => z) fun x h1 V H1 mp1 f1 rl1 rs1 rv1 g1 => by
      unfold mIsi at g1
      split at g1
      · rename_i t et
        exact ⟨V, _, .type t, .type T, _, rfl, .ty T, tyName_ok rl1 rv1 et, kit_ty (kit_all hT et), g1 _ H1 mp1 f1 rl1 (.bl _)⟩
      · exact False.elim g1
/-! ### methods of built-in types -/
def rMM (K : PySem.W.Frag) (cl : Str → Option Addr) (mt : MV → List MV → MH → Res MV) : L2.V → List L2.V → Hp → VK → Prop := fun V Vs H Q => ∃ x xs h mp, Rl K cl mp h H ∧ RV K mp H x V ∧ RVs K mp H xs Vs ∧ Good (mt x xs h) (QV K cl mp H Q) never
/-- the receiver is of that type -/
def tyOk (T : String) (x : MV) (h : MH) : Bool := match x with
  | .str _ => T == "str"
  | .ref n => match h[n]? with | some (.lst _) => T == "list" | some (.dct _) => T == "dict" | _ => false
  | _ => false
theorem tyOk_ok {K : PySem.W.Frag} {mp : Mp} {h : MH} {H : Hp} {x : MV} {V : L2.V} {T : String} (rl : Rl K cl mp h H) (r : RV K mp H x V) (e : tyOk T x h = true) : tyV K T V H := by
  cases r with
  | str z => exact beq_iff_eq.mp e
  | @ref n a e1 =>
    unfold tyOk at e
    dsimp only at e
    split at e
    · rename_i ys c
      obtain ⟨vs, h1, q1⟩ := rl.obj n _ a c e1
      exact .inl ⟨beq_iff_eq.mp e, vs, SqL.of h1⟩
    · rename_i ys c
      obtain ⟨vs, h1, q1⟩ := rl.obj n _ a c e1
      exact .inr (.inr (.inl ⟨beq_iff_eq.mp e, .inl ⟨vs, h1⟩⟩))
    · cases e
  | _ => cases e
@[simp] def eBM (T : String) (mt : MV → List MV → MH → Res MV) (mo : ME) (ms : MA) : ME := fun ρ h => (mo ρ h).bind fun x h1 => if tyOk T x h1 = true then (ms ρ h1).bind fun xs h2 => mt x xs h2 else .bad
def NoExM (mt : MV → List MV → MH → Res MV) : Prop := ∀ x xs h e h', ¬ mt x xs h = .ex e h'
theorem se_bm {T id : String} {name : Str} {mt : MV → List MV → MH → Res MV} {mo : ME} (ne : NoExM mt) (pa : PlainAttrs T) (slot : Slot T name id) (hty : typeOf (.builtin id) = pure (.type "method_descriptor")) (hm : MtR X id (rMM X.K cl mt)) (ho : SE X cl W o mo) (ha : SA X cl W (e :: es) ms)
    (hbase : attributeBase o name X.env (eval o X.env) = eval o X.env := by rfl)
    (hfew : ((backTo cpos (starEach (e :: es) X.env)).all (fun x => !x.1) && (backToKw cpos (keywordEach [] X.env)).all (fun x => x.1.isSome)
      && decide ((e :: es).length + ([] : List Keyword).length + (if ([] : List Keyword).isEmpty then 0 else 1) < 30)) = true := by rfl)
    (hline : (apos.endLine == cpos.line) = true := by rfl) (hs : starEach (e :: es) X.env = (false, eval e X.env) :: starEach es X.env := by rfl) (hplain : (backTo cpos (starEach es X.env)).any (·.1) = false := by rfl) :
    SE X cl W (.Call (.Attribute o name apos) (e :: es) [] cpos) (eBM T mt mo ms) :=
  peW (pe_bm pa slot hty hm ho ha hbase hfew hline hs hplain) fun σ H Q ⟨ρ, h, mp, rl, rs, g⟩ =>
    tM_bind rl rs g (fun _ _ z => z) fun x h1 V H1 mp1 f1 rl1 rs1 rv1 g1 => by
      split at g1
      · rename_i ht
        exact ⟨tyOk_ok rl1 rv1 ht, tMA_bind rl1 rs1 g1 (fun _ _ z => z.fut f1) fun xs h2 Vs H2 mp2 f2 rl2 rs2 rv2 g2 =>
          ⟨x, xs, h2, mp2, rl2, rv1.fut f2, rv2, toNever (g2.mono (fun v h' q => q.fut (f1.trans f2)) fun _ _ z => z) (ne _ _ _)⟩⟩
      · exact False.elim g1
theorem se_bm0 {T id : String} {name : Str} {mt : MV → List MV → MH → Res MV} {mo : ME} (ne : NoExM mt) (pa : PlainAttrs T) (slot : Slot T name id) (hty : typeOf (.builtin id) = pure (.type "method_descriptor")) (hm : MtR X id (rMM X.K cl mt)) (ho : SE X cl W o mo)
    (hp : PE X (.Call (.Attribute o name apos) [] [] cpos) (tBM0 X.K T (rMM X.K cl mt) (tM X.K cl W mo))) :
    SE X cl W (.Call (.Attribute o name apos) [] [] cpos) (eBM T mt mo aNil) :=
  peW hp fun σ H Q ⟨ρ, h, mp, rl, rs, g⟩ =>
    tM_bind rl rs g (fun _ _ z => z) fun x h1 V H1 mp1 f1 rl1 rs1 rv1 g1 => by
      split at g1
      · rename_i ht
        exact ⟨tyOk_ok rl1 rv1 ht, x, [], h1, mp1, rl1, rv1, .nil, toNever (Good.mono g1 (fun v h' q => q.fut f1) fun _ _ z => z) (ne _ _ _)⟩
      · exact False.elim g1
@[simp] def mAppend (x : MV) (xs : List MV) (h : MH) : Res MV := match x, xs with
  | .ref n, [y] => match h[n]? with | some (.lst ys) => if ys.length < 1000000 then .ok .non (h.set n (.lst (ys ++ [y]))) else .bad | _ => .bad
  | _, _ => .bad
theorem mAppend_noEx : NoExM mAppend := by
  intro x xs h e h' z
  unfold mAppend at z
  repeat' split at z
  all_goals cases z
theorem szlt {n : Nat} (h : n < 1000000) : n < sizeLine := Nat.lt_of_lt_of_le h (by decide)
theorem appendM : MtR X "list.append" (rMM X.K cl mAppend) := by
  intro pins s σ H V Vs v us Q I rx rxs ⟨x, xs, h, mp, rl, r1, r2, g⟩
  unfold mAppend at g
  split at g
  · rename_i n y
    obtain ⟨Y, rfl, ry⟩ := rvs1 r2
    cases r1 with
    | @ref _ a e1 =>
      split at g
      · rename_i ys c
        split at g
        · rename_i hz
          obtain ⟨vs, h1, q1⟩ := rl.obj n _ a c e1
          refine mt_append pins s σ H _ _ v us Q I rx rxs ⟨a, vs, Y, rfl, rfl, h1, by rw [← q1.length]; exact szlt hz, ?_⟩
          have f := Fut.set (o := .lst (vs ++ [Y])) rl e1
          exact g _ _ mp f (rl.set e1 ⟨_, upd_same, ((q1.append (.cons ry .nil)).fut f)⟩) .non
        · exact False.elim g
      · exact False.elim g
  · exact False.elim g
def mPopAt (x : MV) (xs : List MV) (h : MH) : Res MV := match x, xs with
  | .ref n, [.int i] => match h[n]? with
    | some (.lst ys) => if 0 ≤ i ∧ i < 2 ^ 62 then (match ys[i.toNat]? with | some y => .ok y (h.set n (.lst (ys.eraseIdx i.toNat))) | none => .bad) else .bad
    | _ => .bad
  | _, _ => .bad
theorem mPopAt_noEx : NoExM mPopAt := by
  intro x xs h e h' z
  unfold mPopAt at z
  repeat' split at z
  all_goals cases z
theorem popAtM : MtR X "list.pop" (rMM X.K cl mPopAt) := by
  intro pins s σ H V Vs v us Q I rx rxs ⟨x, xs, h, mp, rl, r1, r2, g⟩
  unfold mPopAt at g
  split at g
  · rename_i n i
    obtain ⟨Y, rfl, ry⟩ := rvs1 r2
    cases ry
    cases r1 with
    | @ref _ a e1 =>
      split at g
      · rename_i ys c
        split at g
        · rename_i hz
          split at g
          · rename_i y ey
            obtain ⟨vs, h1, q1⟩ := rl.obj n _ a c e1
            obtain ⟨Y, e2, ry⟩ := q1.get ey
            have hl : i.toNat < vs.length := (List.getElem?_eq_some_iff.mp e2).1
            refine mt_popAt pins s σ H _ _ v us Q I rx rxs ⟨a, vs, i, i.toNat, Y, rfl, rfl, h1, by omega, by omega, ?_, e2, ?_⟩
            · exact seqIndex_of hz.1 (by omega)
            · have f := Fut.set (o := .lst (vs.eraseIdx i.toNat)) rl e1
              exact g _ _ mp f (rl.set e1 ⟨_, upd_same, ((q1.eraseIdx _).fut f)⟩) (ry.fut f)
          · exact False.elim g
        · exact False.elim g
      · exact False.elim g
  · exact False.elim g
def mInsert (x : MV) (xs : List MV) (h : MH) : Res MV := match x, xs with
  | .ref n, [.int i, y] => match h[n]? with
    | some (.lst ys) => if 0 ≤ i ∧ i < 2 ^ 62 ∧ ys.length < 1000000 then .ok .non (h.set n (.lst (ys.take i.toNat ++ [y] ++ ys.drop i.toNat))) else .bad
    | _ => .bad
  | _, _ => .bad
theorem mInsert_noEx : NoExM mInsert := by
  intro x xs h e h' z
  unfold mInsert at z
  repeat' split at z
  all_goals cases z
theorem insertM : MtR X "list.insert" (rMM X.K cl mInsert) := by
  intro pins s σ H V Vs v us Q I rx rxs ⟨x, xs, h, mp, rl, r1, r2, g⟩
  unfold mInsert at g
  split at g
  · rename_i n i y
    obtain ⟨Z, Y, rfl, rz, ry⟩ := rvs2 r2
    cases rz
    cases r1 with
    | @ref _ a e1 =>
      split at g
      · rename_i ys c
        split at g
        · rename_i hz
          obtain ⟨vs, h1, q1⟩ := rl.obj n _ a c e1
          refine mt_insert pins s σ H _ _ v us Q I rx rxs ⟨a, vs, i, Y, rfl, rfl, h1, by rw [← q1.length]; exact szlt hz.2.2, hz.1, by omega, ?_⟩
          have f := Fut.set (o := .lst (vs.take i.toNat ++ [Y] ++ vs.drop i.toNat)) rl e1
          exact g _ _ mp f (rl.set e1 ⟨_, upd_same, ((((q1.take _).append (.cons ry .nil)).append (q1.drop _)).fut f)⟩) .non
        · exact False.elim g
      · exact False.elim g
  · exact False.elim g
/-- the first place of a flat value -/
def mIndex (x : MV) (xs : List MV) (h : MH) : Res MV := match xs with
  | [y] => match lstAt x h with
    | some ys => if flatM y && ys.all flatM then (match ys.findIdx? (fun z => eqM z y) with | some j => .ok (.int (j : Nat)) h | none => .bad) else .bad
    | none => .bad
  | _ => .bad
theorem mIndex_noEx : NoExM mIndex := by
  intro x xs h e h' z
  unfold mIndex at z
  repeat' split at z
  all_goals cases z
theorem indexM : MtR X "list.index" (rMM X.K cl mIndex) := by
  intro pins s σ H V Vs v us Q I rx rxs ⟨x, xs, h, mp, rl, r1, r2, g⟩
  unfold mIndex at g
  split at g
  · rename_i y
    obtain ⟨Y, rfl, ry⟩ := rvs1 r2
    split at g
    · rename_i ys ey
      obtain ⟨n, p, vs, rfl, e1, c, rfl, hp, q1⟩ := lstAt_ok rl r1 ey
      split at g
      · rename_i hf
        rw [Bool.and_eq_true] at hf
        split at g
        · rename_i j ej
          rw [List.findIdx?_eq_some_iff_getElem] at ej
          obtain ⟨hj, h1, h2⟩ := ej
          obtain ⟨z, e3, r3⟩ := q1.get (i := j) (x := ys[j]) (by simp [hj])
          refine mt_index pins s σ H _ _ v us Q I rx rxs ⟨p, vs, Y, j, z, rfl, rfl, SqL.of hp, by rw [flat_ok ry]; exact hf.1, by rw [flats_ok q1]; exact hf.2, e3, by rw [eqM_ok r3 ry]; exact h1, fun k z' hk ez => ?_, g _ H mp .refl rl (.int _)⟩
          obtain ⟨w, e4, r4⟩ := q1.getV ez
          rw [eqM_ok r4 ry]
          obtain ⟨hk', e5⟩ := List.getElem?_eq_some_iff.mp e4
          have := h2 k hk
          rw [e5] at this
          simpa using this
        · exact False.elim g
      · exact False.elim g
    · exact False.elim g
  · exact False.elim g
end
end Sm

set_option Elab.async false
set_option linter.all false
set_option maxRecDepth 100000
set_option maxHeartbeats 4000000
/-! fields, calls of defs, statements -/
namespace Sm
open PySem PySem.Spec PyProof.Rows L2
/-! ### fields -/
section
variable {X : Cx} {cl : Str → Option Addr} {W : Wsh} {a b c e o : Expr} {es : List Expr} {ma mb mc m mo : ME} {ms la lb : MA} {pos apos cpos p2 pos' : Pos} {f : Str}
/-- classes whose instances have f as a field -/
def FldOk (K : PySem.W.Frag) (cl : Str → Option Addr) (cs : List Str) (f : Str) : Prop := ∀ c, c ∈ cs → ∀ C, cl c = some C → Cls K C ∧ NoAttr K C f
def lookF (fs : List (Str × MV)) (f : Str) : Option MV := fs.lookup f
theorem look_ok {K : PySem.W.Frag} {mp : Mp} {H : Hp} {f : Str} : ∀ {fs : List (Str × MV)} {vs : List (Str × L2.V)}, RFs K mp H fs vs → (fs.lookup f = none ∧ vs.lookup f = none) ∨ ∃ x v, fs.lookup f = some x ∧ vs.lookup f = some v ∧ RV K mp H x v
  | [], vs, r => by
    have : vs = [] := by have := r.1; cases vs with | nil => rfl | cons _ _ => simp at this
    subst this
    exact .inl ⟨rfl, rfl⟩
  | (k1, x) :: fs, vs, r => by
    cases vs with
    | nil => have := r.1; simp at this
    | cons v vs =>
      obtain ⟨k2, v⟩ := v
      obtain ⟨e, t⟩ := r
      simp only [List.map_cons, List.cons.injEq] at e t
      obtain ⟨rfl, e⟩ := e
      cases t with
      | cons t1 t2 =>
        by_cases hk : f == k1
        · exact .inr ⟨x, v, by simp [List.lookup, hk], by simp [List.lookup, hk], t1⟩
        · rw [Bool.not_eq_true] at hk
          rcases look_ok (f := f) (fs := fs) (vs := vs) ⟨e, t2⟩ with ⟨a, b⟩ | ⟨y, w, a, b, c⟩
          · exact .inl ⟨by simp only [List.lookup, hk]; exact a, by simp only [List.lookup, hk]; exact b⟩
          · exact .inr ⟨y, w, by simp only [List.lookup, hk]; exact a, by simp only [List.lookup, hk]; exact b, c⟩
def putM (f : Str) (v : MV) : List (Str × MV) → List (Str × MV)
  | [] => [(f, v)]
  | (g, x) :: r => if g = f then (g, v) :: r else (g, x) :: putM f v r
theorem put_ok {K : PySem.W.Frag} {mp : Mp} {H : Hp} {f : Str} {x : MV} {v : L2.V} (q : RV K mp H x v) : ∀ {fs : List (Str × MV)} {vs : List (Str × L2.V)}, RFs K mp H fs vs → RFs K mp H (putM f x fs) (putF f v vs)
  | [], vs, r => by
    have : vs = [] := by have := r.1; cases vs with | nil => rfl | cons _ _ => simp at this
    subst this
    exact ⟨rfl, .cons q .nil⟩
  | (k1, y) :: fs, vs, r => by
    cases vs with
    | nil => have := r.1; simp at this
    | cons w vs =>
      obtain ⟨k2, w⟩ := w
      obtain ⟨e, t⟩ := r
      simp only [List.map_cons, List.cons.injEq] at e t
      obtain ⟨rfl, e⟩ := e
      cases t with
      | cons t1 t2 =>
        unfold putM putF
        split
        · exact ⟨by simp [e], .cons q t2⟩
        · have ih := put_ok (f := f) q (fs := fs) (vs := vs) ⟨e, t2⟩
          exact ⟨by simp only [List.map_cons]; rw [ih.1], .cons t1 ih.2⟩
def mFld (cs : List Str) (f : Str) (x : MV) (h : MH) : Res MV := match x with
  | .ref n => match h[n]? with | some (.ins c fs) => if c ∈ cs then optR (fs.lookup f) h else .bad | _ => .bad
  | _ => .bad
theorem se_fld {cs : List Str} (hC : FldOk X.K cl cs f) (he : SE X cl W e m) (hb : attributeBase e f X.env (eval e X.env) = eval e X.env := by rfl) : SE X cl W (.Attribute e f pos) (eUn (mFld cs f) m) :=
  peW (pe_fld he hb) fun σ H Q ⟨ρ, h, mp, rl, rs, g⟩ => tM_bind rl rs g (fun _ _ z => z) fun x h1 V H1 mp1 f1 rl1 rs1 rv1 g1 => by
    unfold mFld at g1
    cases rv1 with
    | @ref n a e1 =>
      dsimp only at g1
      split at g1
      · rename_i c fs cc
        split at g1
        · rename_i hc
          obtain ⟨C, dx, vs, h0, h1', q1⟩ := rl1.obj n _ a cc e1
          obtain ⟨k1, k2⟩ := hC c hc C h0
          rcases look_ok (f := f) q1 with ⟨z1, z2⟩ | ⟨y, w, z1, z2, z3⟩
          · rw [z1] at g1; exact False.elim g1
          · rw [z1] at g1
            exact ⟨a, C, dx, vs, w, rfl, h1', k1, k2, z2, g1 _ H1 mp1 f1 rl1 z3⟩
        · exact False.elim g1
      · exact False.elim g1
    | _ => exact False.elim g1
/-! ### calls -/
/-- a def's promise: it does what the small machine's function does -/
def spM (K : PySem.W.Frag) (cl : Str → Option Addr) (mf : List MV → MH → Res MV) : Sp := fun vs H Q E => ∃ xs h mp, Rl K cl mp h H ∧ RVs K mp H xs vs ∧ Good (mf xs h) (QV K cl mp H Q) never
@[simp] def eCall (mf : List MV → MH → Res MV) (ms : MA) : ME := fun ρ h => (ms ρ h).bind fun xs h1 => mf xs h1
abbrev E0 : XK := fun _ _ _ => False
section
variable {k : Nat} {fa C : Addr} {fd : FuncData} {ps : List Str} {mf : List MV → MH → Res MV} {x : Str} {p : Pos} {dm : List MV} {dvs : List L2.V} {ds : List Value}
@[simp] def eCallD (mf : List MV → MH → Res MV) (dm : List MV) (ms : MA) : ME := fun ρ h => (ms ρ h).bind fun xs h1 => mf (xs ++ dm) h1
theorem tCall_of (ne : NoEx1 mf) (hdm : ∀ mp H, RVs X.K mp H dm dvs) : ∀ σ H Q, tM X.K cl W (eCallD mf dm ms) σ H Q → tCall (spM X.K cl mf) dvs E0 (tMA X.K cl W ms) σ H Q := fun σ H Q ⟨ρ, h, mp, rl, rs, g⟩ =>
  tMA_bind rl rs g (fun _ _ z => z) fun xs h1 V H1 mp1 f1 rl1 rs1 rv1 g1 => ⟨xs ++ dm, h1, mp1, rl1, rv1.append (hdm _ _), toNever (g1.mono (fun v h' q => q.fut f1) fun _ _ z => z) (ne _ _)⟩
theorem se_call (ne : NoEx1 mf) (F : FnOk X.prog X.w X.K X.mg X.base CX0 k fa fd ps (spM X.K cl mf)) (hr : Room k X.A) (hg : Gl X x) (hm : X.mg x = some (.ref fa)) (hk : PySem.W.keepIn X.K (.ref fa) = true) (hb : Binds X.K fd ps []) (ha : SA X cl W (e :: es) ms)
    (hdb : (x == ("__debug__" : Str)) = false := by decide) (he : starEach (e :: es) X.env = (false, eval e X.env) :: starEach es X.env := by rfl) (hpl : (backTo pos (starEach es X.env)).any (·.1) = false := by rfl) :
    SE X cl W (.Call (.Name x p) (e :: es) [] pos) (eCallD mf [] ms) := peW (pe_call F hr hg hm hk hb .nil pass0 ha hdb he hpl) (tCall_of ne fun _ _ => .nil)
theorem se_call0 (ne : NoEx1 mf) (F : FnOk X.prog X.w X.K X.mg X.base CX0 k fa fd ps (spM X.K cl mf)) (hr : Room k X.A) (hg : Gl X x) (hm : X.mg x = some (.ref fa)) (hk : PySem.W.keepIn X.K (.ref fa) = true) (hb : Binds X.K fd ps [])
    (hdb : (x == ("__debug__" : Str)) = false := by decide) :
    SE X cl W (.Call (.Name x p) [] [] pos) (eCallD mf [] aNil) := peW (pe_call0 F hr hg hm hk hb .nil pass0 hdb) fun σ H Q ⟨ρ, h, mp, rl, rs, g⟩ => ⟨[], h, mp, rl, .nil, toNever g (ne _ _)⟩
theorem se_callDf (ne : NoEx1 mf) (hdm : ∀ mp H, RVs X.K mp H dm dvs) (F : FnOk X.prog X.w X.K X.mg X.base CX0 k fa fd ps (spM X.K cl mf)) (hr : Room k X.A) (hg : Gl X x) (hm : X.mg x = some (.ref fa)) (hk : PySem.W.keepIn X.K (.ref fa) = true) (hb : Binds X.K fd ps ds) (hd : Vals dvs ds) (ha : SA X cl W (e :: es) ms)
    (hdb : (x == ("__debug__" : Str)) = false := by decide) (he : starEach (e :: es) X.env = (false, eval e X.env) :: starEach es X.env := by rfl) (hpl : (backTo pos (starEach es X.env)).any (·.1) = false := by rfl) :
    SE X cl W (.Call (.Name x p) (e :: es) [] pos) (eCallD mf dm ms) := peW (pe_call F hr hg hm hk hb hd pass0 ha hdb he hpl) (tCall_of ne hdm)
/-- o.m(..): an instance of the class c -/
@[simp] def eMeth (c m : Str) (mf : List MV → MH → Res MV) (dm : List MV) (mo : ME) (ms : MA) : ME := fun ρ h => (mo ρ h).bind fun x h1 => match x with
  | .ref n => match h1[n]? with
    | some (.ins c' fs) => if c' = c ∧ fs.lookup m = none then (ms ρ h1).bind fun xs h2 => mf (x :: (xs ++ dm)) h2 else .bad
    | _ => .bad
  | _ => .bad
variable {mn cn : Str}
theorem tMeth_of (ne : NoEx1 mf) (hdm : ∀ mp H, RVs X.K mp H dm dvs) (hC : cl cn = some C) : ∀ σ H Q, tM X.K cl W (eMeth cn mn mf dm mo ms) σ H Q → tMeth C mn (spM X.K cl mf) dvs E0 (tM X.K cl W mo) (tMA X.K cl W ms) σ H Q := fun σ H Q ⟨ρ, h, mp, rl, rs, g⟩ =>
  tM_bind rl rs g (fun _ _ z => z) fun x h1 V H1 mp1 f1 rl1 rs1 rv1 g1 => by
    cases rv1 with
    | @ref n a e1 =>
      dsimp only at g1
      split at g1
      · rename_i c' fs cc
        split at g1
        · rename_i hc
          obtain ⟨C', dx, vs, h0, h1', q1⟩ := rl1.obj n _ a cc e1
          rw [hc.1, hC] at h0
          have := Option.some.inj h0
          subst this
          refine ⟨a, dx, vs, rfl, h1', ?_, ?_⟩
          · rcases look_ok (f := mn) q1 with ⟨_, z2⟩ | ⟨y, w, z1, _, _⟩
            · exact z2
            · rw [hc.2] at z1; cases z1
          · exact tMA_bind rl1 rs1 g1 (fun _ _ z => z.fut f1) fun xs h2 Vs H2 mp2 f2 rl2 rs2 rv2 g2 =>
              ⟨_, h2, mp2, rl2, .cons (.ref (f2.le _ _ e1)) (rv2.append (hdm _ _)), toNever (g2.mono (fun v h' q => q.fut (f1.trans f2)) fun _ _ z => z) (ne _ _)⟩
        · exact False.elim g1
      · exact False.elim g1
    | _ => exact False.elim g1
theorem se_meth {pl : Sem Bool} (ne : NoEx1 mf) (hdm : ∀ mp H, RVs X.K mp H dm dvs) (hC : cl cn = some C) (ho : SE X cl W o mo) (c : Cls X.K C) (hm : Meth X.K C mn fa) (F : FnOk X.prog X.w X.K X.mg X.base CX0 k fa fd ps (spM X.K cl mf)) (hr : Room k X.A) (hb : Binds X.K fd ps ds) (hd : Vals dvs ds) (ha : SA X cl W (e :: es) ms)
    (hst : starEach (e :: es) X.env = (false, eval e X.env) :: starEach es X.env := by rfl) (hpl : (backTo pos (starEach es X.env)).any (·.1) = false := by rfl)
    (ht : eval (.Call (.Attribute o mn apos) (e :: es) [] pos) X.env = (do
      let ov ← eval o X.env
      standAt apos.atName
      let (f, first) ← holding [ov] (getMethod ov mn pl)
      callWith pos f first (backTo pos (starEach (e :: es) X.env)) (backToKw pos (keywordEach [] X.env))) := by rfl) :
    SE X cl W (.Call (.Attribute o mn apos) (e :: es) [] pos) (eMeth cn mn mf dm mo ms) := peW (pe_meth ho c hm F hr hb hd pass0 ha hst hpl ht) (tMeth_of ne hdm hC)
theorem se_meth0 {pl : Sem Bool} (ne : NoEx1 mf) (hdm : ∀ mp H, RVs X.K mp H dm dvs) (hC : cl cn = some C) (ho : SE X cl W o mo) (c : Cls X.K C) (hm : Meth X.K C mn fa) (F : FnOk X.prog X.w X.K X.mg X.base CX0 k fa fd ps (spM X.K cl mf)) (hr : Room k X.A) (hb : Binds X.K fd ps ds) (hd : Vals dvs ds)
    (ht : eval (.Call (.Attribute o mn apos) [] [] pos) X.env = (do
      let ov ← eval o X.env
      standAt apos.atName
      let (f, first) ← holding [ov] (getMethod ov mn pl)
      callWith pos f first (backTo pos (starEach [] X.env)) (backToKw pos (keywordEach [] X.env))) := by rfl) :
    SE X cl W (.Call (.Attribute o mn apos) [] [] pos) (eMeth cn mn mf dm mo aNil) := peW (pe_meth0 ho c hm F hr hb hd pass0 ht) fun σ H Q q => by
      obtain ⟨ρ, h, mp, rl, rs, g⟩ := tMeth_of (ms := aNil) ne hdm hC σ H Q q
      exact ⟨ρ, h, mp, rl, rs, g.mono (fun v h' q V H' mp' f1 rl1 rv => by
        obtain ⟨a, dx, fs, e1, e2, e3, ρ2, h2, mp2, rl2, rs2, g2⟩ := q V H' mp' f1 rl1 rv
        exact ⟨a, dx, fs, e1, e2, e3, g2 [] H' mp2 .refl rl2 .nil⟩) fun _ _ z => z⟩
/-- C(..) -/
@[simp] def eMake (c : Str) (mf : List MV → MH → Res MV) (dm : List MV) (ms : MA) : ME := fun ρ h => (ms ρ h).bind fun xs h1 => (mf (.ref h1.length :: (xs ++ dm)) (h1 ++ [.ins c []])).bind fun v h2 => match v with | .non => .ok (.ref h1.length) h2 | _ => .bad
theorem tMake_of (ne : NoEx1 mf) (hdm : ∀ mp H, RVs X.K mp H dm dvs) (hC : cl cn = some C) : ∀ σ H Q, tM X.K cl W (eMake cn mf dm ms) σ H Q → tMake C (spM X.K cl mf) dvs E0 (tMA X.K cl W ms) σ H Q := fun σ H Q ⟨ρ, h, mp, rl, rs, g⟩ =>
  tMA_bind rl rs g (fun _ _ z => z) fun xs h1 Vs H1 mp1 f1 rl1 rs1 rv1 g1 x dx hx hdx hne => by
    have f2 : Fut X.K mp1 mp1 H1 (upd H1 dx (.own x)) := Fut.new hdx
    have rl2 := rl1.new (o := .own x) hdx
    have hx2 : upd H1 dx (.own x) x = none := by rw [upd_ne (Ne.symm hne)]; exact hx
    have f3 : Fut X.K mp1 mp1 (upd H1 dx (.own x)) (upd (upd H1 dx (.own x)) x (.ins C dx [])) := Fut.new hx2
    have rl3 := rl2.new (o := .ins C dx []) hx2
    have f23 := f2.trans f3
    have f4 := f23.toCell (cl := cl) rl3 hx
    have rl4 : Rl X.K cl (Mp.put mp1 h1.length x) (h1 ++ [.ins cn []]) (upd (upd H1 dx (.own x)) x (.ins C dx [])) := rl3.toCell (fun n e => by
      obtain ⟨u, _, ro⟩ := rl1.cell e
      obtain ⟨z, hz, _⟩ := ro.some
      rw [hx] at hz; cases hz) ⟨C, dx, [], hC, upd_same, rfl, .nil⟩
    refine ⟨_, _, _, rl4, .cons (.ref Mp.put_same) ((rv1.fut f4).append (hdm _ _)), (bind_noEx g1 (ne _ _)).mono (fun v h2 g2 V H2 mp2 f5 rl5 rv5 => ?_) fun _ _ z => z⟩
    cases rv5 with
    | non => exact ⟨rfl, g2 _ H2 mp2 (f1.trans (f4.trans f5)) rl5 (.ref (f5.le _ _ Mp.put_same))⟩
    | _ => exact False.elim g2
theorem se_make (ne : NoEx1 mf) (hdm : ∀ mp H, RVs X.K mp H dm dvs) (hC : cl cn = some C) (M : Mk X.K C fa) (F : FnOk X.prog X.w X.K X.mg X.base CX0 k fa fd ps (spM X.K cl mf)) (hr : Room (k + 1) X.A) (hg : Gl X x) (hm : X.mg x = some (.ref C)) (hb : Binds X.K fd ps ds) (hd : Vals dvs ds) (ha : SA X cl W (e :: es) ms)
    (hdb : (x == ("__debug__" : Str)) = false := by decide) (he : starEach (e :: es) X.env = (false, eval e X.env) :: starEach es X.env := by rfl) (hpl : (backTo pos (starEach es X.env)).any (·.1) = false := by rfl) :
    SE X cl W (.Call (.Name x p) (e :: es) [] pos) (eMake cn mf dm ms) := peW (pe_make M F hr hg hm hb hd pass0 ha hdb he hpl) (tMake_of ne hdm hC)
theorem se_make0 (ne : NoEx1 mf) (hdm : ∀ mp H, RVs X.K mp H dm dvs) (hC : cl cn = some C) (M : Mk X.K C fa) (F : FnOk X.prog X.w X.K X.mg X.base CX0 k fa fd ps (spM X.K cl mf)) (hr : Room (k + 1) X.A) (hg : Gl X x) (hm : X.mg x = some (.ref C)) (hb : Binds X.K fd ps ds) (hd : Vals dvs ds)
    (hdb : (x == ("__debug__" : Str)) = false := by decide) :
    SE X cl W (.Call (.Name x p) [] [] pos) (eMake cn mf dm aNil) := peW (pe_make0 M F hr hg hm hb hd pass0 hdb) fun σ H Q q => by
      obtain ⟨ρ, h, mp, rl, rs, g⟩ := tMake_of (ms := aNil) ne hdm hC σ H Q q
      exact g [] H mp .refl rl .nil
end
end
/-! ### statements -/
inductive SRes where
  | nx (ρ : MS) (h : MH) | rt (v : MV) (h : MH) | bk (ρ : MS) (h : MH) | ct (ρ : MS) (h : MH) | ex (e : MV) (ρ : MS) (h : MH) | bad
abbrev MSt := MS → MH → SRes
structure SW4 where
  n : MS → MH → Prop
  r : MV → MH → Prop
  b : MS → MH → Prop
  c : MS → MH → Prop
  e : MV → MS → MH → Prop
def SGood (r : SRes) (D : SW4) : Prop := match r with | .nx ρ h => D.n ρ h | .rt v h => D.r v h | .bk ρ h => D.b ρ h | .ct ρ h => D.c ρ h | .ex e ρ h => D.e e ρ h | .bad => False
structure SW4.Le (D D' : SW4) : Prop where
  n : ∀ ρ h, D.n ρ h → D'.n ρ h
  r : ∀ ρ h, D.r ρ h → D'.r ρ h
  b : ∀ ρ h, D.b ρ h → D'.b ρ h
  c : ∀ ρ h, D.c ρ h → D'.c ρ h
  e : ∀ v ρ h, D.e v ρ h → D'.e v ρ h
theorem SGood.mono {r : SRes} {D D' : SW4} (g : SGood r D) (l : D.Le D') : SGood r D' := by
  cases r with
  | nx ρ h => exact l.n _ _ g
  | rt ρ h => exact l.r _ _ g
  | bk ρ h => exact l.b _ _ g
  | ct ρ h => exact l.c _ _ g
  | ex v ρ h => exact l.e _ _ _ g
  | bad => exact g
/-- an expression's value, then a statement -/
def Res.st {α : Type} (r : Res α) (ρ : MS) (f : α → MH → SRes) : SRes := match r with | .ok a h => f a h | .ex e h => .ex e ρ h | .bad => .bad
@[simp] theorem Res.st_ok {α : Type} (a : α) (h : MH) (ρ : MS) (f : α → MH → SRes) : (Res.ok a h).st ρ f = f a h := rfl
@[simp] theorem Res.st_bad {α : Type} (ρ : MS) (f : α → MH → SRes) : (Res.bad : Res α).st ρ f = .bad := rfl
theorem SGood.st {α : Type} {r : Res α} {ρ : MS} {f : α → MH → SRes} {D : SW4} : SGood (r.st ρ f) D ↔ Good r (fun a h => SGood (f a h) D) (fun e h => D.e e ρ h) := by
  cases r <;> exact Iff.rfl
section
variable (K : PySem.W.Frag) (cl : Str → Option Addr) (mp : Mp) (H : Hp)
def QN (N : L2.St → Hp → Prop) : MS → MH → Prop := fun ρ' h' => ∀ σ' H' mp', Fut K mp mp' H H' → Rl K cl mp' h' H' → RS K mp' H' ρ' σ' → N σ' H'
def QX (W : Wsh) : MV → MS → MH → Prop := fun e ρ' h' => ∀ c d σ' H' mp', Fut K mp mp' H H' → Rl K cl mp' h' H' → RS K mp' H' ρ' σ' → RX K cl mp' H' e c d → W c d σ' H'
def wD (W : Wsh) (D : Ends) : SW4 := ⟨QN K cl mp H D.nx, QV K cl mp H D.rt, QN K cl mp H D.bk, QN K cl mp H D.ct, QX K cl mp H W⟩
end
def tMS (K : PySem.W.Frag) (cl : Str → Option Addr) (W : Wsh) (m : MSt) : TS := fun D σ H => ∃ ρ h mp, Rl K cl mp h H ∧ RS K mp H ρ σ ∧ SGood (m ρ h) (wD K cl mp H W D)
abbrev SS (X : Cx) (cl : Str → Option Addr) (W : Wsh) (st : Stmt) (m : MSt) : Prop := PS X st (tMS X.K cl W m)
abbrev SSs (X : Cx) (cl : Str → Option Addr) (W : Wsh) (st : List Stmt) (m : MSt) : Prop := PSs X st (tMS X.K cl W m)
theorem psW {X : Cx} {e : Stmt} {t t' : TS} (h : PS X e t) (w : ∀ D σ H, t' D σ H → t D σ H) : PS X e t' := ⟨fun pins s σ H D I q => h.run pins s σ H D I (w D σ H q)⟩
theorem pssW {X : Cx} {e : List Stmt} {t t' : TS} (h : PSs X e t) (w : ∀ D σ H, t' D σ H → t D σ H) : PSs X e t' := ⟨fun pins s σ H D I q => h.run pins s σ H D I (w D σ H q)⟩
section
variable {K : PySem.W.Frag} {cl : Str → Option Addr} {W : Wsh} {mp mp1 : Mp} {H H1 : Hp} {h : MH} {ρ : MS} {σ : L2.St}
theorem QN.fut {N : L2.St → Hp → Prop} (f : Fut K mp mp1 H H1) {ρ : MS} {h : MH} (q : QN K cl mp H N ρ h) : QN K cl mp1 H1 N ρ h := fun σ' H' mp' f' => q σ' H' mp' (f.trans f')
theorem QX.fut (f : Fut K mp mp1 H H1) {e : MV} {ρ : MS} {h : MH} (q : QX K cl mp H W e ρ h) : QX K cl mp1 H1 W e ρ h := fun c d σ' H' mp' f' => q c d σ' H' mp' (f.trans f')
theorem wD.fut {D : Ends} (f : Fut K mp mp1 H H1) : (wD K cl mp H W D).Le (wD K cl mp1 H1 W D) := ⟨fun _ _ q => q.fut f, fun _ _ q => q.fut f, fun _ _ q => q.fut f, fun _ _ q => q.fut f, fun _ _ _ q => q.fut f⟩
theorem QX.ew (rs : RS K mp H ρ σ) {e : MV} {h : MH} (q : QX K cl mp H W e ρ h) : EW K cl mp H W σ e h := fun c d H' mp' f rl x => q c d σ H' mp' f rl (rs.fut f) x
/-- an expression first -/
theorem tM_st {m : ME} {f : MV → MH → SRes} {D : SW4} {R : VK} (rl : Rl K cl mp h H) (rs : RS K mp H ρ σ) (g : SGood ((m ρ h).st ρ f) D) (hE : ∀ e h', D.e e ρ h' → EW K cl mp H W σ e h')
    (k : ∀ x h1 V H1 mp1, Fut K mp mp1 H H1 → Rl K cl mp1 h1 H1 → RS K mp1 H1 ρ σ → RV K mp1 H1 x V → SGood (f x h1) D → R V H1) : tM K cl W m σ H R :=
  ⟨ρ, h, mp, rl, rs, (SGood.st.mp g).mono (fun x h1 g1 V H1 mp1 f1 rl1 rv => k x h1 V H1 mp1 f1 rl1 (rs.fut f1) rv g1) hE⟩
theorem tMT_st {m : MS → MH → Res Bool} {f : Bool → MH → SRes} {D : SW4} {R : Bool → Hp → Prop} (rl : Rl K cl mp h H) (rs : RS K mp H ρ σ) (g : SGood ((m ρ h).st ρ f) D) (hE : ∀ e h', D.e e ρ h' → EW K cl mp H W σ e h')
    (k : ∀ x h1 H1 mp1, Fut K mp mp1 H H1 → Rl K cl mp1 h1 H1 → RS K mp1 H1 ρ σ → SGood (f x h1) D → R x H1) : tMT K cl W m σ H R :=
  ⟨ρ, h, mp, rl, rs, (SGood.st.mp g).mono (fun x h1 g1 H1 mp1 f1 rl1 => k x h1 H1 mp1 f1 rl1 (rs.fut f1) g1) hE⟩
end
@[simp] def sNil : MSt := fun ρ h => .nx ρ h
/-- one, then the rest -/
@[simp] def sSeq (m1 m2 : MSt) : MSt := fun ρ h => match m1 ρ h with | .nx ρ1 h1 => m2 ρ1 h1 | .rt v h1 => .rt v h1 | .bk ρ1 h1 => .bk ρ1 h1 | .ct ρ1 h1 => .ct ρ1 h1 | .ex e ρ1 h1 => .ex e ρ1 h1 | .bad => .bad
@[simp] def sRet (m : ME) : MSt := fun ρ h => (m ρ h).st ρ fun x h1 => .rt x h1
@[simp] def sRetN : MSt := fun ρ h => .rt .non h
@[simp] def sExpr (m : ME) : MSt := fun ρ h => (m ρ h).st ρ fun _ h1 => .nx ρ h1
@[simp] def sIf (mc : MS → MH → Res Bool) (m1 m2 : MSt) : MSt := fun ρ h => (mc ρ h).st ρ fun c h1 => if c = true then m1 ρ h1 else m2 ρ h1
@[simp] def sSet (i : Nat) (m : ME) : MSt := fun ρ h => (m ρ h).st ρ fun x h1 => .nx (ρ.set i (some x)) h1
@[simp] def sBreak : MSt := fun ρ h => .bk ρ h
@[simp] def sCont : MSt := fun ρ h => .ct ρ h
@[simp] def sNever : MSt := fun _ _ => .bad
section
variable {X : Cx} {cl : Str → Option Addr} {W : Wsh} {a b c e o : Expr} {es : List Expr} {ma mb mc m mo : ME} {ms la lb : MA} {pos apos cpos p2 pos' : Pos} {f : Str} {st : Stmt} {rest : List Stmt} {m1 m2 : MSt} {mt : MS → MH → Res Bool}
theorem sss_nil : SSs X cl W [] sNil := pssW pss_nil fun D σ H ⟨ρ, h, mp, rl, rs, g⟩ => g σ H mp .refl rl rs
theorem sss_one (h1 : SS X cl W st m1) : SSs X cl W [st] m1 := pss_one h1
theorem sss_cons (h1 : SS X cl W st m1) (h2 : SSs X cl W rest m2) : SSs X cl W (st :: rest) (sSeq m1 m2) := pssW (pss_cons h1 h2) fun D σ H ⟨ρ, h, mp, rl, rs, g⟩ => by
  refine ⟨ρ, h, mp, rl, rs, ?_⟩
  unfold sSeq at g
  cases e : m1 ρ h with
  | nx ρ1 h1 =>
    rw [e] at g
    exact fun σ' H' mp' f rl' rs' => ⟨ρ1, h1, mp', rl', rs', SGood.mono g (wD.fut f)⟩
  | rt v h1 => rw [e] at g; exact g
  | bk v h1 => rw [e] at g; exact g
  | ct v h1 => rw [e] at g; exact g
  | ex v r h1 => rw [e] at g; exact g
  | bad => rw [e] at g; exact g
theorem ss_ret (he : SE X cl W e m) : SS X cl W (.Return (some e) pos) (sRet m) := psW (ps_ret he) fun D σ H ⟨ρ, h, mp, rl, rs, g⟩ =>
  tM_st rl rs g (fun _ _ q => q.ew rs) fun x h1 V H1 mp1 f1 rl1 rs1 rv1 g1 => g1 V H1 mp1 f1 rl1 rv1
theorem ss_retN : SS X cl W (.Return none pos) sRetN := psW ps_retN fun D σ H ⟨ρ, h, mp, rl, rs, g⟩ => g _ H mp .refl rl .non
theorem ss_expr (he : SE X cl W e m) (hs : swapsWith e none pos.line X.env = pure false := by rfl) : SS X cl W (.Expr e pos) (sExpr m) := psW (ps_expr he hs) fun D σ H ⟨ρ, h, mp, rl, rs, g⟩ =>
  tM_st rl rs g (fun _ _ q => q.ew rs) fun x h1 V H1 mp1 f1 rl1 rs1 rv1 g1 => g1 σ H1 mp1 f1 rl1 rs1
theorem ss_if {c : Expr} {a b : List Stmt} (hc : ST X cl W c mt) (ha : SSs X cl W a m1) (hb : SSs X cl W b m2) : SS X cl W (.If c a b pos) (sIf mt m1 m2) := psW (ps_if hc ha hb) fun D σ H ⟨ρ, h, mp, rl, rs, g⟩ =>
  tMT_st rl rs g (fun _ _ q => q.ew rs) fun c h1 H1 mp1 f1 rl1 rs1 g1 => by
    cases c with
    | true => exact ⟨ρ, h1, mp1, rl1, rs1, SGood.mono g1 (wD.fut f1)⟩
    | false => exact ⟨ρ, h1, mp1, rl1, rs1, SGood.mono g1 (wD.fut f1)⟩
theorem ss_set {i : Nat} {x : Str} (hN : X.N.Nodup) (hi : X.N[i]? = some x) (hx : Loc X.env.scope x) (he : SE X cl W e m) (hs : swapsWith e (some (.Name x pos')) pos.line X.env = pure false := by rfl) (hf : X.fn x = true ∨ X.env.scope.names.lookup x = some .local := by first | exact .inl rfl | exact .inr rfl | assumption) :
    SS X cl W (.Assign [.Name x pos'] e pos) (sSet i m) := psW (ps_set hN hi hx he hs hf) fun D σ H ⟨ρ, h, mp, rl, rs, g⟩ =>
  tM_st rl rs g (fun _ _ q => q.ew rs) fun x h1 V H1 mp1 f1 rl1 rs1 rv1 g1 => g1 (σ.set i (some V)) H1 mp1 f1 rl1 (rs1.set rv1)
theorem ss_pass : SS X cl W (.Pass pos) sNil := psW ps_pass fun D σ H ⟨ρ, h, mp, rl, rs, g⟩ => g σ H mp .refl rl rs
theorem ss_break : SS X cl W (.Break pos) sBreak := psW ps_break fun D σ H ⟨ρ, h, mp, rl, rs, g⟩ => g σ H mp .refl rl rs
theorem ss_continue : SS X cl W (.Continue pos) sCont := psW ps_continue fun D σ H ⟨ρ, h, mp, rl, rs, g⟩ => g σ H mp .refl rl rs
theorem ss_never : SS X cl W st sNever := psW ps_never fun D σ H ⟨ρ, h, mp, rl, rs, g⟩ => g
theorem sss_never : SSs X cl W rest sNever := pssW pss_never fun D σ H ⟨ρ, h, mp, rl, rs, g⟩ => g
/-- o.f = e -/
def mSetF (cs : List Str) (f : Str) (x y : MV) (h : MH) : Option MH := match x with
  | .ref n => match h[n]? with | some (.ins c fs) => if c ∈ cs ∧ fs.length < 1000 then some (h.set n (.ins c (putM f y fs))) else none | _ => none
  | _ => none
@[simp] def sSetF (cs : List Str) (f : Str) (mo m : ME) : MSt := fun ρ h => (m ρ h).st ρ fun y h1 => (mo ρ h1).st ρ fun x h2 => match mSetF cs f x y h2 with | some h3 => .nx ρ h3 | none => .bad
theorem ss_fld {cs : List Str} (hC : FldOk X.K cl cs f) (ho : SE X cl W o mo) (he : SE X cl W e m) (hs : swapsWith e (some (.Attribute o f pos')) pos.line X.env = pure false := by rfl) : SS X cl W (.Assign [.Attribute o f pos'] e pos) (sSetF cs f mo m) :=
  psW (ps_fld ho he hs) fun D σ H ⟨ρ, h, mp, rl, rs, g⟩ => tM_st rl rs g (fun _ _ q => q.ew rs) fun y h1 Y H1 mp1 f1 rl1 rs1 rv1 g1 =>
    tM_st rl1 rs1 g1 (fun _ _ q => (q.fut f1).ew rs1) fun x h2 V H2 mp2 f2 rl2 rs2 rv2 g2 => by
      split at g2
      · rename_i h3 e3
        unfold mSetF at e3
        cases rv2 with
        | @ref n a e1 =>
          dsimp only at e3
          split at e3
          · rename_i c fs cc
            split at e3
            · rename_i hc
              have := Option.some.inj e3
              subst this
              obtain ⟨C, dx, vs, h0, h1', q1⟩ := rl2.obj n _ a cc e1
              obtain ⟨k1, k2⟩ := hC c hc.1 C h0
              refine ⟨a, C, dx, vs, rfl, h1', k1, k2, ?_, ?_⟩
              · have : fs.length = vs.length := by simpa using congrArg List.length q1.1
                rw [← this]; exact hc.2
              · have f3 := Fut.set (o := .ins C dx (putF f Y vs)) rl2 e1
                exact g2 σ _ mp2 (f1.trans (f2.trans f3)) (rl2.set e1 ⟨C, dx, _, h0, upd_same, (put_ok (rv1.fut f2) q1).fut f3⟩) (rs2.fut f3)
            · cases e3
          · cases e3
        | _ => cases e3
      · exact False.elim g2
/-- x[i] = e : a list's item, a dict's -/
def putKM (kvs : List (Key × MV)) (k : Key) (v : MV) : List (Key × MV) := match kvs with
  | [] => [(k, v)]
  | (k', w) :: r => if k' = k then (k', v) :: r else (k', w) :: putKM r k v
def mSetI (x i y : MV) (h : MH) : Option MH := match x with
  | .ref n => match h[n]? with
    | some (.lst xs) => (match i with | .int k => (ixN xs.length k).map fun j => h.set n (.lst (xs.set j y)) | _ => none)
    | _ => none
  | _ => none
@[simp] def sSetI (mo mi m : ME) : MSt := fun ρ h => (m ρ h).st ρ fun y h1 => (mo ρ h1).st ρ fun x h2 => (mi ρ h2).st ρ fun i h3 => match mSetI x i y h3 with | some h4 => .nx ρ h4 | none => .bad
theorem ss_setI {i : Expr} {mi : ME} (ho : SE X cl W o mo) (hi : SE X cl W i mi) (he : SE X cl W e m) (hs : swapsWithSole [.Subscript o i pos'] e pos.line X.env = pure false := by rfl) (hw : swappedStores [.Subscript o i pos'] e X.env = pure none := by rfl)
    (h1 : (assignEach [.Subscript o i pos'] X.env).map (·.2) = [assign (.Subscript o i pos') X.env] := by rfl) (ha : ∀ v, assign (.Subscript o i pos') X.env v = (do
      let ov ← holding [v] (eval o X.env)
      let iv ← holding [v, ov] (eval i X.env)
      standAt pos'
      holding [v, ov, iv] (setItem ov iv v)
      release [v, ov, iv] []) := by intro _; rfl) : SS X cl W (.Assign [.Subscript o i pos'] e pos) (sSetI mo mi m) :=
  psW (ps_asg he (pg_sub ho hi set_list ha) hs hw h1) fun D σ H ⟨ρ, h, mp, rl, rs, g⟩ => tM_st rl rs g (fun _ _ q => q.ew rs) fun y h1 Y H1 mp1 f1 rl1 rs1 rv1 g1 =>
    tM_st rl1 rs1 g1 (fun _ _ q => (q.fut f1).ew rs1) fun x h2 V H2 mp2 f2 rl2 rs2 rv2 g2 => tM_st rl2 rs2 g2 (fun _ _ q => (q.fut (f1.trans f2)).ew rs2) fun i h3 Z H3 mp3 f3 rl3 rs3 rv3 g3 => by
      split at g3
      · rename_i h4 e4
        unfold mSetI at e4
        cases rv2.fut f3 with
        | @ref n a e1 =>
          dsimp only at e4
          split at e4
          · rename_i xs cc
            cases rv3 with
            | int k =>
              simp only [Option.map_eq_some_iff] at e4
              obtain ⟨j, e5, e6⟩ := e4
              subst e6
              obtain ⟨vs, h1', q1⟩ := rl3.obj n _ a cc e1
              refine ⟨a, vs, k, j, rfl, rfl, h1', by rw [← q1.length]; exact e5, ?_⟩
              have f4 := Fut.set (o := .lst (vs.set j Y)) rl3 e1
              exact g3 σ _ mp3 (f1.trans (f2.trans (f3.trans f4))) (rl3.set e1 ⟨_, upd_same, (q1.set (rv1.fut (f2.trans f3)) j).fut f4⟩) (rs3.fut f4)
            | _ => cases e4
          · cases e4
        | _ => cases e4
      · exact False.elim g3
/-- name += e -/
@[simp] def sAug (i : Nat) (mo : MV → MV → MH → Res MV) (m : ME) : MSt := fun ρ h => match ρ[i]? with
  | some (some x) => (m ρ h).st ρ fun y h1 => (mo x y h1).st ρ fun z h2 => .nx (ρ.set i (some z)) h2
  | _ => .bad
def mIadd (x y : MV) (h : MH) : Res MV := match x, y with
  | .int i, .int j => .ok (.int (i + j)) h
  | .str a, .str b => if szOk (a.length + b.length) then .ok (.str (a ++ b)) h else .bad
  | _, _ => .bad
theorem mIadd_noEx : NoEx2 mIadd := by
  intro x y h e h' z
  unfold mIadd at z
  repeat' split at z
  all_goals cases z
theorem iaddM : PIp X .Add (rM X.K cl mIadd) := by
  intro pins s σ H V Y v u Q I rx ry ⟨x, y, h, mp, rl, r1, r2, g⟩
  cases r1 with
  | int i =>
    cases r2 with
    | int j => exact iop_add pins s σ H _ _ v u Q I rx ry ⟨i, j, rfl, rfl, g _ H mp .refl rl (.int _)⟩
    | _ => exact False.elim g
  | str a =>
    cases r2 with
    | str b =>
      unfold mIadd at g
      dsimp only at g
      split at g
      · rename_i hz
        exact iop_add_str pins s σ H _ _ v u Q I rx ry ⟨a, b, rfl, rfl, hz.le, g _ H mp .refl rl (.str _)⟩
      · exact False.elim g
    | _ => exact False.elim g
  | _ => exact False.elim g
theorem ss_aug {i : Nat} {x : Str} {op : Operator} {mo : MV → MV → MH → Res MV} (ne : NoEx2 mo) (hN : X.N.Nodup) (hi : X.N[i]? = some x) (hx : Loc X.env.scope x) (he : SE X cl W e m) (ho : PIp X op (rM X.K cl mo)) (hf : X.fn x = true ∨ X.env.scope.names.lookup x = some .local := by first | exact .inl rfl | exact .inr rfl | assumption) :
    SS X cl W (.AugAssign (.Name x pos') op e pos) (sAug i mo m) := psW (ps_aug hN hi hx he ho hf) fun D σ H ⟨ρ, h, mp, rl, rs, g⟩ => by
  unfold sAug at g
  split at g
  · rename_i x ex
    obtain ⟨V, e1, rv⟩ := rs.at_ i x ex
    refine ⟨V, e1, tM_st rl rs g (fun _ _ q => q.ew rs) fun y h1 Y H1 mp1 f1 rl1 rs1 rv1 g1 => ⟨x, y, h1, mp1, rl1, rv.fut f1, rv1, (toNever (SGood.st.mp g1) (ne _ _ _)).mono (fun z h2 g2 Z H2 mp2 f2 rl2 rv2 => ?_) fun _ _ z => z⟩⟩
    exact g2 (σ.set i (some Z)) H2 mp2 (f1.trans f2) rl2 ((rs1.fut f2).set rv2)
  · exact False.elim g
end
end Sm

set_option Elab.async false
set_option linter.all false
set_option maxRecDepth 100000
set_option maxHeartbeats 4000000
/-! targets, what a loop walks, loops, comprehensions, defs -/
namespace Sm
open PySem PySem.Spec PyProof.Rows L2
/-! ### targets -/
inductive Tg where
  | one (i : Nat) | many (is : List Nat)
def setMany {α : Type} (ρ : List (Option α)) : List Nat → List α → List (Option α)
  | i :: is, x :: xs => setMany (ρ.set i (some x)) is xs
  | _, _ => ρ
def Tg.set (t : Tg) (x : MV) (ρ : MS) : Option MS := match t with
  | .one i => some (ρ.set i (some x))
  | .many is => match x with | .tup xs => if xs.length = is.length then some (setMany ρ is xs) else none | _ => none
def Tg.slots : Tg → List Nat | .one i => [i] | .many is => is
def gNames : List Nat → TGs
  | [] => gNil
  | i :: is => gCons (gName i) (gNames is)
def Tg.g (K : PySem.W.Frag) : Tg → TG
  | .one i => gName i
  | .many is => gTup K is.length (gNames is)
theorem gNames_of : ∀ {is : List Nat} {vs : List L2.V} {σ : L2.St} {H : Hp} {Q : L2.St → Hp → Prop}, vs.length = is.length → Q (setMany σ is vs) H → gNames is vs σ H Q
  | [], vs, σ, H, Q, hl, q => by
    have : vs = [] := List.length_eq_zero_iff.mp hl
    subst this
    exact ⟨rfl, q⟩
  | i :: is, [], σ, H, Q, hl, q => by simp at hl
  | i :: is, v :: vs, σ, H, Q, hl, q => ⟨v, vs, rfl, gNames_of (by simpa using hl) q⟩
theorem wipe_get (σ : L2.St) : ∀ (vs : List Nat) (k : Nat), (wipe σ vs)[k]? = if k ∈ vs then (if k < σ.length then some none else none) else σ[k]?
  | [], k => by simp [wipe]
  | v :: vs, k => by
    unfold wipe
    by_cases hk : v = k
    · subst hk
      by_cases hl : v < σ.length
      · rw [List.getElem?_set_self (by rw [wipe_length]; exact hl)]; simp [hl]
      · rw [List.getElem?_eq_none (by rw [List.length_set, wipe_length]; omega)]; simp [hl]
    · rw [List.getElem?_set_ne hk, wipe_get σ vs k]
      have : (k ∈ v :: vs) ↔ k ∈ vs := by simp [Ne.symm hk]
      simp only [this]
theorem wipe_set {σ : L2.St} {i : Nat} {x : Option L2.V} {vs : List Nat} (h : i ∈ vs) : wipe (σ.set i x) vs = wipe σ vs := by
  apply List.ext_getElem?
  intro k
  rw [wipe_get, wipe_get, List.length_set]
  by_cases hk : k ∈ vs
  · simp [hk]
  · have : i ≠ k := fun z => hk (z ▸ h)
    simp [hk, List.getElem?_set_ne this]
theorem wipe_many {vs : List Nat} : ∀ {is : List Nat} {xs : List L2.V} {σ : L2.St}, (∀ i, i ∈ is → i ∈ vs) → wipe (setMany σ is xs) vs = wipe σ vs
  | [], xs, σ, _ => by unfold setMany; rfl
  | i :: is, [], σ, _ => by unfold setMany; rfl
  | i :: is, x :: xs, σ, h => by
    unfold setMany
    rw [wipe_many fun j hj => h j (by simp [hj]), wipe_set (h i (by simp))]
theorem wipe_wipe (σ : L2.St) (vs : List Nat) : wipe (wipe σ vs) vs = wipe σ vs := by
  apply List.ext_getElem?
  intro k
  rw [wipe_get (wipe σ vs), wipe_get σ, wipe_length]
  by_cases hk : k ∈ vs <;> simp [hk]
theorem rs_many {K : PySem.W.Frag} {mp : Mp} {H : Hp} : ∀ {is : List Nat} {xs : List MV} {vs : List L2.V} {ρ : MS} {σ : L2.St}, RS K mp H ρ σ → RVs K mp H xs vs → RS K mp H (setMany ρ is xs) (setMany σ is vs)
  | [], _, _, ρ, σ, r, _ => by unfold setMany; exact r
  | i :: is, _, _, ρ, σ, r, .nil => by unfold setMany; exact r
  | i :: is, _, _, ρ, σ, r, .cons q t => by unfold setMany; exact rs_many (r.set q) t
theorem tg_ok {K : PySem.W.Frag} {mp : Mp} {H : Hp} {t : Tg} {x : MV} {V : L2.V} {ρ ρ' : MS} {σ : L2.St} (e : t.set x ρ = some ρ') (rv : RV K mp H x V) (rs : RS K mp H ρ σ) :
    ∃ σ', RS K mp H ρ' σ' ∧ (∀ Q : L2.St → Hp → Prop, Q σ' H → t.g K V σ H Q) ∧ ∀ vs, (∀ i, i ∈ t.slots → i ∈ vs) → wipe σ' vs = wipe σ vs := by
  cases t with
  | one i =>
    have := Option.some.inj e
    subst this
    exact ⟨σ.set i (some V), rs.set rv, fun Q q => q, fun vs h => wipe_set (h i (by simp [Tg.slots]))⟩
  | many is =>
    unfold Tg.set at e
    cases rv with
    | @tup xs vs a h1 q1 =>
      dsimp only at e
      split at e
      · rename_i hl
        have := Option.some.inj e
        subst this
        exact ⟨setMany σ is vs, rs_many rs q1, fun Q q => ⟨a, vs, rfl, h1, by rw [← q1.length]; exact hl, gNames_of (by rw [← q1.length]; exact hl) q⟩, fun ws h => wipe_many h⟩
      · cases e
    | _ => cases e
/-! ### what is no cell may be written -/
structure Fu (K : PySem.W.Frag) (mp mp' : Mp) (H H' : Hp) : Prop where
  le : ∀ n a, mp n = some a → mp' n = some a
  tt : ∀ a xs, TpA K H a xs → TpA K H' a xs
  sf : ∀ a xs, SqF K H a xs → SqF K H' a xs
theorem Fut.fu {K : PySem.W.Frag} {mp mp' : Mp} {H H' : Hp} (f : Fut K mp mp' H H') : Fu K mp mp' H H' := ⟨f.le, f.tt, f.sf⟩
section
variable {K : PySem.W.Frag} {cl : Str → Option Addr} {mp mp' : Mp} {H H' : Hp} {h : MH}
mutual
theorem RV.fu (f : Fu K mp mp' H H') : ∀ {x : MV} {v : L2.V}, RV K mp H x v → RV K mp' H' x v
  | _, _, .non => .non
  | _, _, .bl b => .bl b
  | _, _, .int i => .int i
  | _, _, .str x => .str x
  | _, _, .ref h => .ref (f.le _ _ h)
  | _, _, .tup h r => .tup (f.tt _ _ h) (RVs.fu f r)
  | _, _, .scr h r => .scr (f.sf _ _ h) (RVs.fu f r)
theorem RVs.fu (f : Fu K mp mp' H H') : ∀ {xs : List MV} {vs : List L2.V}, RVs K mp H xs vs → RVs K mp' H' xs vs
  | _, _, .nil => .nil
  | _, _, .cons r t => .cons (RV.fu f r) (RVs.fu f t)
end
theorem RO.fu {o : MO} {a : Addr} (f : Fu K mp mp' H H') (e : H' a = H a) (r : RO K cl mp H o a) : RO K cl mp' H' o a := by
  cases o with
  | lst xs => obtain ⟨vs, h1, h2⟩ := r; exact ⟨vs, e.trans h1, h2.fu f⟩
  | ins c fs => obtain ⟨C, dx, vs, h0, h1, h2⟩ := r; exact ⟨C, dx, vs, h0, e.trans h1, h2.1, h2.2.fu f⟩
  | dct kvs => obtain ⟨vs, h1, h2⟩ := r; exact ⟨vs, e.trans h1, h2.1, h2.2.fu f⟩
theorem Fu.tmp {D : Addr} {vs ws : List L2.V} (hD : H D = some (.lst vs)) : Fu K mp mp H (upd H D (.lst ws)) :=
  ⟨fun _ _ h => h, TpA.set (fun xs q => by
    rcases q with q | ⟨o, q⟩ <;> rw [hD] at q <;> cases q), fun a xs t => by
    rcases t with ⟨u, t⟩ | t
    · refine .inl ⟨u, ?_⟩
      rw [upd_ne]
      · exact t
      · intro z; subst z; rw [hD] at t; cases t
    · exact .inr t⟩
theorem Rl.tmp {D : Addr} {vs ws : List L2.V} (rl : Rl K cl mp h H) (hD : H D = some (.lst vs)) (np : ∀ n, mp n ≠ some D) : Rl K cl mp h (upd H D (.lst ws)) :=
  ⟨rl.dom, rl.has, rl.inj, fun n o a e q => (rl.obj n o a e q).fu (Fu.tmp hD) (upd_ne fun z => np n (by rw [← z]; exact q))⟩
theorem Fut.tmp {mp0 : Mp} {H0 : Hp} {D : Addr} {vs ws : List L2.V} (f : Fut K mp0 mp H0 H) (h0 : H0 D = none) (hD : H D = some (.lst vs)) : Fut K mp0 mp H0 (upd H D (.lst ws)) :=
  ⟨f.le, fun a xs t => (Fu.tmp (mp := mp) hD).tt a xs (f.tt a xs t), fun a xs t => (Fu.tmp (mp := mp) hD).sf a xs (f.sf a xs t), fun a o e n => by
    obtain ⟨h1, h2⟩ := f.fr a o e n
    exact ⟨by rw [upd_ne (ne_of_none e h0)]; exact h1, h2⟩⟩
/-- what is new now was new before -/
theorem Fut.back {mp0 : Mp} {H0 : Hp} {p : Addr} (f : Fut K mp0 mp H0 H) (rl : Rl K cl mp h H) (hp : H p = none) : H0 p = none := by
  cases e : H0 p with
  | none => rfl
  | some o =>
    by_cases hn : ∃ n, mp0 n = some p
    · obtain ⟨n, hn⟩ := hn
      obtain ⟨u, _, ro⟩ := rl.cell (f.le n p hn)
      obtain ⟨z, hz, _⟩ := ro.some
      rw [hp] at hz; cases hz
    · have := (f.fr p o e fun n hz => hn ⟨n, hz⟩).1
      rw [hp] at this; cases this
theorem Rl.np {p : Addr} (rl : Rl K cl mp h H) (hp : H p = Option.none) : ∀ n, mp n ≠ some p := fun n hn => by
  obtain ⟨u, _, ro⟩ := rl.cell hn
  obtain ⟨z, hz, _⟩ := ro.some
  rw [hp] at hz; cases hz
end
/-! ### what a loop walks -/
abbrev Gs := List (Nat × List MV)
/-- the walked lists are as they were -/
def gOk (gs : Gs) (h : MH) : Prop := ∀ g, g ∈ gs → h[g.1]? = some (.lst g.2)
@[simp] theorem gOk_nil (h : MH) : gOk [] h = True := eq_true (fun g hg => by cases hg)
structure JOk (K : PySem.W.Frag) (cl : Str → Option Addr) (J : It) (xs : List MV) (gs : Gs) (mp0 : Mp) (H0 : Hp) : Prop where
  step : ∀ (i : Nat) x mp h H, Fut K mp0 mp H0 H → Rl K cl mp h H → gOk gs h → xs[i]? = some x → J.go i H ∧ ∀ V H', J.yld i H V H' → Fut K mp mp H H' ∧ Rl K cl mp h H' ∧ RV K mp H' x V
  stop : ∀ (i : Nat) mp h H, Fut K mp0 mp H0 H → Rl K cl mp h H → gOk gs h → xs.length ≤ i → J.stop i H
abbrev MI := MS → MH → Res (List MV × Gs)
def tMI (K : PySem.W.Frag) (cl : Str → Option Addr) (W : Wsh) (m : MI) : TI := fun σ H R => ∃ ρ h mp, Rl K cl mp h H ∧ RS K mp H ρ σ ∧ Good (m ρ h) (fun xg h' => ∀ J H' mp', Fut K mp mp' H H' → Rl K cl mp' h' H' → JOk K cl J xg.1 xg.2 mp' H' → R J H') (EW K cl mp H W σ)
abbrev SI (X : Cx) (cl : Str → Option Addr) (W : Wsh) (tg iter : Expr) (m : MI) : Prop := PI X tg iter (tMI X.K cl W m)
theorem piW {X : Cx} {tg e : Expr} {t t' : TI} (h : PI X tg e t) (w : ∀ σ H R, t' σ H R → t σ H R) : PI X tg e t' := ⟨fun pins s σ H R I q => h.run pins s σ H R I (w σ H R q)⟩
def iAny (K : PySem.W.Frag) (tl : TE) : TI := fun σ H R => tl σ H fun x H1 => (∃ a, x = .ref a ∧ (((∃ xs, SqL K H1 a xs) ∧ R (Itl K a) H1) ∨ ((∃ xs, SqT K H1 a xs) ∧ R (Itt K a) H1))) ∨ ∃ z, x = .str z ∧ R (Its z) H1
theorem pi_any {X : Cx} {tg ex : Expr} {te : TE} (pe : PE X ex te) : PI X tg ex (iAny X.K te) where
  run := by
    intro pn st sg Hh Rr inv hw
    apply thn (pe.run pn st sg Hh _ inv hw)
    rintro val st1 ⟨vv, Hn, inv1, rel, alt⟩
    have fresh1 : ∀ b, b ∈ [st1.heap.objs.size] → FpOk X pn Hn b := by
      intro b hb
      rw [List.mem_singleton] at hb
      rw [hb]
      exact inv1.fpOk (Nat.le_refl _) (inv1.hok.fresh (Nat.le_refl _))
    have keep1 : ∀ ob : Obj, Inv X pn sg Hn { st1 with heap := st1.heap.push ob } := fun ob =>
      inv1.kept (t' := st1.toks) (fun _ _ e => Heap.get?_push_of_some _ e)
    rcases alt with ⟨adr, eadr, ⟨⟨ys, hys⟩, go⟩ | ⟨⟨ys, hys⟩, go⟩⟩ | ⟨z, ez, go⟩
    · subst eadr
      cases rel
      obtain ⟨vals, _, pl, _⟩ := inv1.list hys
      apply wpAny_pyIter_list pl.isList
      exact ⟨_, _, _, _, Hn, rfl, keep1 _, turn_list adr _, ⟨_, Heap.get?_push_size _ rfl, rfl, rfl⟩, fresh1, go⟩
    · subst eadr
      cases rel
      obtain ⟨vals, _, pl, _⟩ := inv1.tuple hys
      apply wpAny_pyIter_tuple (show st1.heap.IsTuple adr vals.toArray from pl)
      exact ⟨_, _, _, _, Hn, rfl, keep1 _, turn_tuple adr _, ⟨_, Heap.get?_push_size _ rfl, rfl, rfl⟩, fresh1, go⟩
    · subst ez
      obtain ⟨t, rfl⟩ := rel
      cases ha : z.cps.all (· < 128)
      · exact wpAny_pyIter_wide ha (pi_one (tk := st1.toks) inv1 _ (turn_str _ z t "str_iterator" (.inr rfl)) ⟨_, Heap.get?_push_size _ rfl, rfl, rfl⟩ go)
      · exact wpAny_pyIter_ascii ha (pi_one (tk := st1.toks) inv1 _ (turn_str _ z t "str_ascii_iterator" (.inl rfl)) ⟨_, Heap.get?_push_size _ rfl, rfl, rfl⟩ go)
section
variable {X : Cx} {cl : Str → Option Addr} {W : Wsh} {tg a b c e o : Expr} {es : List Expr} {ma mb mc m mo : ME} {ms la lb : MA} {pos apos cpos p2 pos' p : Pos} {mi : MI}
def signs (z : Str) : List MV := z.cps.toList.map fun c => .str ⟨#[c]⟩
/-- the items of a value that is walked, and what must stay -/
def walkOf (x : MV) (h : MH) : Option (List MV × Gs) := match x with
  | .tup xs => some (xs, [])
  | .scr xs => some (xs, [])
  | .str z => some (signs z, [])
  | .ref n => match h[n]? with | some (.lst xs) => some (xs, [(n, xs)]) | _ => none
  | _ => none
@[simp] def iOf (m : ME) : MI := fun ρ h => (m ρ h).bind fun x h1 => match walkOf x h1 with | some xg => .ok xg h1 | none => .bad
theorem jok_list {K : PySem.W.Frag} {mp0 : Mp} {H0 : Hp} {a : Addr} {xs : List MV} {gs : Gs} (hs : ∀ mp h H, Fut K mp0 mp H0 H → Rl K cl mp h H → gOk gs h → ∃ vs, SqL K H a vs ∧ RVs K mp H xs vs ∧ ∀ ws, SqL K H a ws → ws = vs) : JOk K cl (Itl K a) xs gs mp0 H0 where
  step := fun i x mp h H f rl g e => by
    obtain ⟨vs, h1, h2, h3⟩ := hs mp h H f rl g
    obtain ⟨v, e1, r1⟩ := h2.get e
    refine ⟨⟨vs, v, h1, e1⟩, fun V H' ⟨e2, e3⟩ => ?_⟩
    subst e2
    have := e3 vs h1
    rw [e1] at this
    have := Option.some.inj this
    subst this
    exact ⟨.refl, rl, r1⟩
  stop := fun i mp h H f rl g l => by
    obtain ⟨vs, h1, h2, h3⟩ := hs mp h H f rl g
    exact ⟨vs, h1, by rw [← h2.length]; exact l⟩
theorem jok_tup {K : PySem.W.Frag} {mp0 : Mp} {H0 : Hp} {a : Addr} {xs : List MV} {vs : List L2.V} (h1 : TpA K H0 a vs) (q1 : RVs K mp0 H0 xs vs) : JOk K cl (Itt K a) xs [] mp0 H0 where
  step := fun i x mp h H f rl g e => by
    obtain ⟨v, e1, r1⟩ := (q1.fut f).get e
    refine ⟨⟨vs, v, f.tt _ _ h1, e1⟩, fun V H' ⟨e2, e3⟩ => ?_⟩
    subst e2
    have := e3 vs (f.tt _ _ h1)
    rw [e1] at this
    have := Option.some.inj this
    subst this
    exact ⟨.refl, rl, r1⟩
  stop := fun i mp h H f rl g l => ⟨vs, f.tt _ _ h1, by rw [← q1.length]; exact l⟩
theorem jok_str {K : PySem.W.Frag} {mp0 : Mp} {H0 : Hp} {z : Str} : JOk K cl (Its z) (signs z) [] mp0 H0 where
  step := fun i x mp h H f rl g e => by
    unfold signs at e
    rw [List.getElem?_map, Option.map_eq_some_iff] at e
    obtain ⟨c, e1, rfl⟩ := e
    have l : i < z.cps.size := by
      have := (List.getElem?_eq_some_iff.mp e1).1
      simpa using this
    refine ⟨l, fun V H' ⟨e2, c', e3, e4⟩ => ?_⟩
    subst e2 e4
    have : c = c' := by
      rw [Array.getElem?_toList] at e1
      rw [e1] at e3
      exact Option.some.inj e3
    subst this
    exact ⟨.refl, rl, .str _⟩
  stop := fun i mp h H f rl g l => by
    have : z.cps.size ≤ i := by simpa [signs] using l
    exact this
/-- a list's items are told by the list alone -/
theorem jok_list' {K : PySem.W.Frag} {mp0 : Mp} {H0 : Hp} {a : Addr} {xs : List MV} {gs : Gs} (hs : ∀ mp h H, Fut K mp0 mp H0 H → Rl K cl mp h H → gOk gs h → ∃ vs, SqL K H a vs ∧ RVs K mp H xs vs) : JOk K cl (Itl K a) xs gs mp0 H0 where
  step := fun i x mp h H f rl g e => by
    obtain ⟨vs, h1, h2⟩ := hs mp h H f rl g
    obtain ⟨v, e1, r1⟩ := h2.get e
    refine ⟨⟨vs, v, h1, e1⟩, fun V H' ⟨e2, e3⟩ => ?_⟩
    subst e2
    have := e3 vs h1
    rw [e1] at this
    have := Option.some.inj this
    subst this
    exact ⟨.refl, rl, r1⟩
  stop := fun i mp h H f rl g l => by
    obtain ⟨vs, h1, h2⟩ := hs mp h H f rl g
    exact ⟨vs, h1, by rw [← h2.length]; exact l⟩
theorem cell_list {K : PySem.W.Frag} {mp0 : Mp} {H0 : Hp} {n : Nat} {a : Addr} {xs : List MV} (e1 : mp0 n = some a) : ∀ mp h H, Fut K mp0 mp H0 H → Rl K cl mp h H → gOk [(n, xs)] h → ∃ vs, SqL K H a vs ∧ RVs K mp H xs vs := fun mp h H f rl g => by
  obtain ⟨vs, h1, q1⟩ := rl.obj n _ a (g (n, xs) (by simp)) (f.le _ _ e1)
  exact ⟨vs, SqL.of h1, q1⟩
theorem si_of (he : SE X cl W e m) : SI X cl W tg e (iOf m) := piW (pi_any he) fun σ H R ⟨ρ, h, mp, rl, rs, g⟩ =>
  tM_bind rl rs g (fun _ _ z => z) fun x h1 V H1 mp1 f1 rl1 rs1 rv1 g1 => by
    split at g1
    · rename_i xg ex
      unfold walkOf at ex
      cases rv1 with
      | tup h2 q2 =>
        have := Option.some.inj ex
        subst this
        exact .inl ⟨_, rfl, .inr ⟨⟨_, h2⟩, g1 _ H1 mp1 f1 rl1 (jok_tup h2 q2)⟩⟩
      | scr h2 q2 =>
        have := Option.some.inj ex
        subst this
        exact .inl ⟨_, rfl, .inl ⟨⟨_, h2.sql⟩, g1 _ H1 mp1 f1 rl1 (jok_list' fun mp h H f rl g => ⟨_, (f.sf _ _ h2).sql, q2.fut f⟩)⟩⟩
      | str z =>
        have := Option.some.inj ex
        subst this
        exact .inr ⟨z, rfl, g1 _ H1 mp1 f1 rl1 jok_str⟩
      | @ref n a e1 =>
        dsimp only at ex
        split at ex
        · rename_i xs cc
          have := Option.some.inj ex
          subst this
          obtain ⟨vs, h2, q2⟩ := rl1.obj n _ a cc e1
          exact .inl ⟨_, rfl, .inl ⟨⟨_, SqL.of h2⟩, g1 _ H1 mp1 f1 rl1 (jok_list' (cell_list e1))⟩⟩
        · cases ex
      | _ => cases ex
    · exact False.elim g1
@[simp] def iLst (la : MA) : MI := fun ρ h => (la ρ h).bind fun xs h1 => .ok (xs, []) h1
theorem si_lst (he : SL X cl W e la) : SI X cl W tg e (iLst la) := piW (pi_list he) fun σ H R ⟨ρ, h, mp, rl, rs, g⟩ =>
  tML_bind rl rs g (fun _ _ z => z) fun xs h1 p vs H1 mp1 f1 rl1 rs1 h0 np hp rv g1 =>
    ⟨p, rfl, ⟨vs, SqL.of hp⟩, g1 _ H1 mp1 f1 rl1 (jok_list' fun mp h H f rl g => ⟨vs, SqL.of (f.fr p _ hp np).1, rv.fut f⟩)⟩
def intR (lo : Int) (n : Nat) : List MV := (List.range n).map fun (k : Nat) => MV.int (lo + (k : Int))
theorem jok_range {K : PySem.W.Frag} {mp0 : Mp} {H0 : Hp} {lo : Int} {n : Nat} : JOk K cl (Itr lo n) (intR lo n) [] mp0 H0 where
  step := fun i x mp h H f rl g e => by
    unfold intR at e
    rw [List.getElem?_map, Option.map_eq_some_iff] at e
    obtain ⟨k, e1, rfl⟩ := e
    obtain ⟨l, e2⟩ := List.getElem?_eq_some_iff.mp e1
    simp at l e2
    subst e2
    refine ⟨l, fun V H' ⟨e2, e3⟩ => ?_⟩
    subst e2 e3
    exact ⟨.refl, rl, .int _⟩
  stop := fun i mp h H f rl g l => by
    have : n ≤ i := by simpa [intR] using l
    exact this
@[simp] def iRange1 (ms : MA) : MI := fun ρ h => (ms ρ h).bind fun xs h1 => match xs with
  | [.int j] => if -(2 ^ 62) ≤ j ∧ j < 2 ^ 62 then .ok (intR 0 j.toNat, []) h1 else .bad
  | _ => .bad
@[simp] def iRange2 (ms : MA) : MI := fun ρ h => (ms ρ h).bind fun xs h1 => match xs with
  | [.int i, .int j] => if (-(2 ^ 62) ≤ i ∧ i < 2 ^ 62) ∧ -(2 ^ 62) ≤ j ∧ j < 2 ^ 62 then .ok (intR i (j - i).toNat, []) h1 else .bad
  | _ => .bad
theorem si_range1 (hg : Gl X "range") (hm : X.mg "range" = none) (ha : SA X cl W [a] ms) (hs : starEach [a] X.env = [(false, eval a X.env)] := by rfl) : SI X cl W tg (.Call (.Name "range" p) [a] [] pos) (iRange1 ms) :=
  piW (pi_range1 hg hm ha hs) fun σ H R ⟨ρ, h, mp, rl, rs, g⟩ => tMA_bind rl rs g (fun _ _ z => z) fun xs h1 V H1 mp1 f1 rl1 rs1 rv1 g1 => by
    split at g1
    · rename_i j
      obtain ⟨Y, rfl, ry⟩ := rvs1 rv1
      cases ry
      split at g1
      · rename_i hz
        exact ⟨j, rfl, hz.1, hz.2, g1 _ H1 mp1 f1 rl1 jok_range⟩
      · exact False.elim g1
    · exact False.elim g1
theorem si_range2 (hg : Gl X "range") (hm : X.mg "range" = none) (ha : SA X cl W [a, b] ms) (hs : starEach [a, b] X.env = [(false, eval a X.env), (false, eval b X.env)] := by rfl) (hs2 : starEach [b] X.env = [(false, eval b X.env)] := by rfl) : SI X cl W tg (.Call (.Name "range" p) [a, b] [] pos) (iRange2 ms) :=
  piW (pi_range2 hg hm ha hs hs2) fun σ H R ⟨ρ, h, mp, rl, rs, g⟩ => tMA_bind rl rs g (fun _ _ z => z) fun xs h1 V H1 mp1 f1 rl1 rs1 rv1 g1 => by
    split at g1
    · rename_i i j
      obtain ⟨Z, Y, rfl, rz, ry⟩ := rvs2 rv1
      cases ry
      cases rz
      split at g1
      · rename_i hz
        exact ⟨i, j, rfl, ⟨hz.1.1, hz.1.2, hz.2.1, hz.2.2⟩, g1 _ H1 mp1 f1 rl1 jok_range⟩
      · exact False.elim g1
    · exact False.elim g1
/-- enumerate -/
def enumM (xs : List MV) : List MV := xs.zipIdx.map fun p => .tup [.int (p.2 : Nat), p.1]
theorem enumM_get {xs : List MV} {i : Nat} {y : MV} (e : (enumM xs)[i]? = some y) : ∃ x, xs[i]? = some x ∧ y = .tup [.int (i : Nat), x] := by
  unfold enumM at e
  rw [List.getElem?_map, Option.map_eq_some_iff] at e
  obtain ⟨q, e1, e2⟩ := e
  rw [List.getElem?_zipIdx, Option.map_eq_some_iff] at e1
  obtain ⟨x, e3, e4⟩ := e1
  subst e4
  exact ⟨x, e3, by simpa using e2.symm⟩
theorem jok_enum {K : PySem.W.Frag} {mp0 : Mp} {H0 : Hp} {a : Addr} {xs : List MV} {gs : Gs} (hs : ∀ mp h H, Fut K mp0 mp H0 H → Rl K cl mp h H → gOk gs h → ∃ vs, SqL K H a vs ∧ RVs K mp H xs vs) : JOk K cl (Ite K a) (enumM xs) gs mp0 H0 where
  step := fun i x mp h H f rl g e => by
    obtain ⟨vs, h1, h2⟩ := hs mp h H f rl g
    obtain ⟨y, e0, rfl⟩ := enumM_get e
    obtain ⟨v, e1, r1⟩ := h2.get e0
    refine ⟨⟨vs, v, h1, e1⟩, fun V H' ⟨T, w, e2, hT, e3, e4⟩ => ?_⟩
    subst e2 e3
    have := e4 vs h1
    rw [e1] at this
    have := Option.some.inj this
    subst this
    exact ⟨Fut.new hT, rl.new hT, .tup (SqT.of upd_same) (.cons (.int _) (.cons (r1.fut (Fut.new hT)) .nil))⟩
  stop := fun i mp h H f rl g l => by
    obtain ⟨vs, h1, h2⟩ := hs mp h H f rl g
    exact ⟨vs, h1, by rw [← h2.length]; simpa [enumM] using l⟩
@[simp] def iEnumE (m : ME) : MI := fun ρ h => (m ρ h).bind fun x h1 => match x with
  | .ref n => (match h1[n]? with | some (.lst xs) => .ok (enumM xs, [(n, xs)]) h1 | _ => .bad)
  | _ => .bad
@[simp] def iEnumL (la : MA) : MI := fun ρ h => (la ρ h).bind fun xs h1 => .ok (enumM xs, []) h1
variable {elts : List Expr} {kk : Nat} {tpos : Pos}
theorem si_enumE (hg : Gl X "enumerate") (hm : X.mg "enumerate" = none) (he : SE X cl W e m) (hs : starEach [e] X.env = [(false, eval e X.env)] := by rfl) : SI X cl W (.Tuple elts kk tpos) (.Call (.Name "enumerate" p) [e] [] pos) (iEnumE m) :=
  piW (pi_enum hg hm (pa_cons he pa_nil hs) hs) fun σ H R ⟨ρ, h, mp, rl, rs, g⟩ => tM_bind rl rs g (fun _ _ z => z) fun x h1 V H1 mp1 f1 rl1 rs1 rv1 g1 => by
    cases rv1 with
    | @ref n a e1 =>
      dsimp only at g1
      split at g1
      · rename_i xs cc
        obtain ⟨vs, h2, q2⟩ := rl1.obj n _ a cc e1
        exact ⟨a, vs, rfl, SqL.of h2, g1 _ H1 mp1 f1 rl1 (jok_enum (cell_list e1))⟩
      · exact False.elim g1
    | _ => exact False.elim g1
theorem si_enumL (hg : Gl X "enumerate") (hm : X.mg "enumerate" = none) (he : SL X cl W e la) (hs : starEach [e] X.env = [(false, eval e X.env)] := by rfl) : SI X cl W (.Tuple elts kk tpos) (.Call (.Name "enumerate" p) [e] [] pos) (iEnumL la) :=
  piW (pi_enum hg hm (pa_cons he pa_nil hs) hs) fun σ H R ⟨ρ, h, mp, rl, rs, g⟩ => tML_bind rl rs g (fun _ _ z => z) fun xs h1 p vs H1 mp1 f1 rl1 rs1 h0 np hp rv g1 =>
    ⟨p, vs, rfl, SqL.of hp, g1 _ H1 mp1 f1 rl1 (jok_enum fun mp h H f rl g => ⟨vs, SqL.of (f.fr p _ hp np).1, rv.fut f⟩)⟩
/-- zip of two tuples -/
def zipM (xs ys : List MV) : List MV := (xs.zip ys).map fun p => .tup [p.1, p.2]
theorem zipM_get {xs ys : List MV} {i : Nat} {z : MV} (e : (zipM xs ys)[i]? = some z) : ∃ x y, xs[i]? = some x ∧ ys[i]? = some y ∧ z = .tup [x, y] := by
  unfold zipM at e
  rw [List.getElem?_map, Option.map_eq_some_iff] at e
  obtain ⟨q, e1, e2⟩ := e
  rw [List.getElem?_zip_eq_some] at e1
  exact ⟨q.1, q.2, e1.1, e1.2, e2.symm⟩
theorem jok_zip {K : PySem.W.Frag} {mp0 : Mp} {H0 : Hp} {a b : Addr} {xs ys : List MV} {vs ws : List L2.V} (h1 : TpA K H0 a vs) (q1 : RVs K mp0 H0 xs vs) (h2 : TpA K H0 b ws) (q2 : RVs K mp0 H0 ys ws) : JOk K cl (RZ.ItzT K a b) (zipM xs ys) [] mp0 H0 where
  step := fun i x mp h H f rl g e => by
    obtain ⟨u, w, e1, e2, rfl⟩ := zipM_get e
    obtain ⟨U, e3, r3⟩ := (q1.fut f).get e1
    obtain ⟨Z, e4, r4⟩ := (q2.fut f).get e2
    refine ⟨⟨vs, ws, U, Z, f.tt _ _ h1, f.tt _ _ h2, e3, e4⟩, fun V H' ⟨T, x, y, e5, hT, e6, e7, e8⟩ => ?_⟩
    subst e5 e6
    have z1 := e7 vs (f.tt _ _ h1)
    rw [e3] at z1
    have z2 := e8 ws (f.tt _ _ h2)
    rw [e4] at z2
    have z1 := Option.some.inj z1
    have z2 := Option.some.inj z2
    subst z1 z2
    exact ⟨Fut.new hT, rl.new hT, .tup (SqT.of upd_same) (.cons (r3.fut (Fut.new hT)) (.cons (r4.fut (Fut.new hT)) .nil))⟩
  stop := fun i mp h H f rl g l => ⟨vs, ws, f.tt _ _ h1, f.tt _ _ h2, by
    have : min xs.length ys.length ≤ i := by simpa [zipM] using l
    rw [← q1.length, ← q2.length]
    omega⟩
@[simp] def iZip2 (ms : MA) : MI := fun ρ h => (ms ρ h).bind fun xs h1 => match xs with
  | [.tup xs, .tup ys] => .ok (zipM xs ys, []) h1
  | _ => .bad
theorem si_zip (hg : Gl X "zip") (hm : X.mg "zip" = none) (ha : SA X cl W [a, b] ms) (hs : starEach [a, b] X.env = (false, eval a X.env) :: starEach [b] X.env := by rfl) (hpl : (backTo pos (starEach [b] X.env)).any (·.1) = false := by rfl) : SI X cl W (.Tuple elts kk tpos) (.Call (.Name "zip" p) [a, b] [] pos) (iZip2 ms) :=
  piW (RZ.pi_zipA hg hm ha hs hpl) fun σ H R ⟨ρ, h, mp, rl, rs, g⟩ => tMA_bind rl rs g (fun _ _ z => z) fun xs h1 V H1 mp1 f1 rl1 rs1 rv1 g1 => by
    split at g1
    · obtain ⟨Z, Y, rfl, rz, ry⟩ := rvs2 rv1
      cases rz with
      | tup h1 q1 =>
        cases ry with
        | tup h2 q2 => exact ⟨_, _, _, _, rfl, .inr ⟨h1, h2, g1 _ H1 mp1 f1 rl1 (jok_zip h1 q1 h2 q2)⟩⟩
    · exact False.elim g1
end
/-! ### for -/
open Classical in
noncomputable def forGo (gs : Gs) (t : Tg) (body : MSt) : List MV → MSt
  | [], ρ, h => if gOk gs h then .nx ρ h else .bad
  | x :: xs, ρ, h => if gOk gs h then match t.set x ρ with
    | some ρ1 => match body ρ1 h with
      | .nx ρ2 h2 => forGo gs t body xs ρ2 h2
      | .ct ρ2 h2 => forGo gs t body xs ρ2 h2
      | .bk ρ2 h2 => .nx ρ2 h2
      | .rt v h2 => .rt v h2
      | .ex e ρ2 h2 => .ex e ρ2 h2
      | .bad => .bad
    | none => .bad
    else .bad
@[simp] noncomputable def sFor (mi : MI) (t : Tg) (body : MSt) : MSt := fun ρ h => (mi ρ h).st ρ fun xg h1 => forGo xg.2 t body xg.1 ρ h1
section
variable {X : Cx} {cl : Str → Option Addr} {W : Wsh} {tg iter : Expr} {body : List Stmt} {mi : MI} {t : Tg} {mb : MSt} {pos : Pos}
theorem ss_for (hp : PassesOwn (model X.prog X.w) X.A X.env X.xe) (hc : X.calm = true) (hi : SI X cl W tg iter mi) (hg : PG X tg (t.g X.K)) (hb : SSs X cl W body mb) (hs : ∀ x, foldedSetIterable iter X.env x = pure x := by intro _; rfl) :
    SS X cl W (.For tg iter body [] pos) (sFor mi t mb) := psW (ps_for hp hc hi hg hb hs) fun D σ H ⟨ρ, h, mp, rl, rs, g⟩ => by
  refine ⟨ρ, h, mp, rl, rs, (SGood.st.mp g).mono (fun xg h1 g1 J H1 mp1 f1 rl1 jok => ?_) fun e h' q => QX.ew rs q⟩
  obtain ⟨xs, gs⟩ := xg
  dsimp only at g1 jok
  have g1 := SGood.mono g1 (wD.fut f1)
  have rs1 := rs.fut f1
  refine ⟨fun i m σ' H' => m = xs.length - i ∧ i ≤ xs.length ∧ ∃ ρ' h' mp', Fut X.K mp1 mp' H1 H' ∧ Rl X.K cl mp' h' H' ∧ RS X.K mp' H' ρ' σ' ∧ SGood (forGo gs t mb (xs.drop i) ρ' h') (wD X.K cl mp1 H1 W D),
    ⟨_, rfl, Nat.zero_le _, ρ, h1, mp1, .refl, rl1, rs1, g1⟩, ?_⟩
  rintro i m σ' H' ⟨rfl, hi, ρ', h', mp', f', rl', rs', g'⟩
  by_cases hlt : i < xs.length
  · have hd : xs.drop i = xs[i] :: xs.drop (i + 1) := List.drop_eq_getElem_cons hlt
    rw [hd] at g'
    unfold forGo at g'
    split at g'
    · rename_i gok
      obtain ⟨go, yl⟩ := jok.step i xs[i] mp' h' H' f' rl' gok (by simp [hlt])
      refine .inr ⟨go, fun σ3 H3 => ∃ ρ3 h3 mp3, Fut X.K mp1 mp3 H1 H3 ∧ Rl X.K cl mp3 h3 H3 ∧ RS X.K mp3 H3 ρ3 σ3 ∧ SGood (forGo gs t mb (xs.drop (i + 1)) ρ3 h3) (wD X.K cl mp1 H1 W D), fun σ3 H3 z => ⟨xs.length - (i + 1), by omega, rfl, hlt, z⟩, fun V H'' y => ?_⟩
      obtain ⟨f2, rl2, rv2⟩ := yl V H'' y
      split at g'
      · rename_i ρ1 et
        obtain ⟨σ2, rs2, q2, _⟩ := tg_ok et rv2 (rs'.fut f2)
        refine q2 _ ⟨ρ1, h', mp', rl2, rs2, ?_⟩
        have f3 := f'.trans f2
        cases eb : mb ρ1 h' with
        | nx ρ2 h2 =>
          rw [eb] at g'
          exact fun σ4 H4 mp4 f4 rl4 rs4 => ⟨ρ2, h2, mp4, f3.trans f4, rl4, rs4, g'⟩
        | ct ρ2 h2 =>
          rw [eb] at g'
          exact fun σ4 H4 mp4 f4 rl4 rs4 => ⟨ρ2, h2, mp4, f3.trans f4, rl4, rs4, g'⟩
        | bk ρ2 h2 => rw [eb] at g'; exact QN.fut f3 g'
        | rt v h2 => rw [eb] at g'; exact QV.fut f3 g'
        | ex v ρ2 h2 => rw [eb] at g'; exact QX.fut f3 g'
        | bad => rw [eb] at g'; exact False.elim g'
      · exact False.elim g'
    · exact False.elim g'
  · have e : i = xs.length := by omega
    subst e
    rw [List.drop_length] at g'
    unfold forGo at g'
    split at g'
    · rename_i gok
      exact .inl ⟨jok.stop _ mp' h' H' f' rl' gok (Nat.le_refl _), g' σ' H' mp' f' rl' rs'⟩
    · exact False.elim g'
/-! ### while -/
def whileGo (mt : MS → MH → Res Bool) (body : MSt) : Nat → MSt
  | 0, _, _ => .bad
  | n + 1, ρ, h => (mt ρ h).st ρ fun c h1 => if c = true then (match body ρ h1 with
      | .nx ρ2 h2 => whileGo mt body n ρ2 h2
      | .ct ρ2 h2 => whileGo mt body n ρ2 h2
      | .bk ρ2 h2 => .nx ρ2 h2
      | .rt v h2 => .rt v h2
      | .ex e ρ2 h2 => .ex e ρ2 h2
      | .bad => .bad) else .nx ρ h1
/-- how often at most -/
def manyTurns : Nat := 1000000000
def sWhile (mt : MS → MH → Res Bool) (body : MSt) : MSt := whileGo mt body manyTurns
variable {c : Expr} {mt : MS → MH → Res Bool}
theorem ss_while (hp : PassesOwn (model X.prog X.w) X.A X.env X.xe) (hc : ST X cl W c mt) (hb : SSs X cl W body mb) : SS X cl W (.While c body [] pos) (sWhile mt mb) := psW (ps_while hp hc hb) fun D σ H ⟨ρ, h, mp, rl, rs, g⟩ => by
  refine ⟨fun m σ' H' => ∃ ρ' h' mp', Fut X.K mp mp' H H' ∧ Rl X.K cl mp' h' H' ∧ RS X.K mp' H' ρ' σ' ∧ SGood (whileGo mt mb m ρ' h') (wD X.K cl mp H W D), ⟨manyTurns, ρ, h, mp, .refl, rl, rs, g⟩, ?_⟩
  rintro m σ' H' ⟨ρ', h', mp', f', rl', rs', g'⟩
  cases m with
  | zero => exact False.elim g'
  | succ n =>
    unfold whileGo at g'
    refine tMT_st rl' rs' g' (fun e h' q => (QX.fut f' q).ew rs') fun c h1 H1 mp1 f1 rl1 rs1 g1 => ?_
    have f2 := f'.trans f1
    cases c with
    | true =>
      refine ⟨fun σ3 H3 => ∃ ρ3 h3 mp3, Fut X.K mp mp3 H H3 ∧ Rl X.K cl mp3 h3 H3 ∧ RS X.K mp3 H3 ρ3 σ3 ∧ SGood (whileGo mt mb n ρ3 h3) (wD X.K cl mp H W D), fun σ3 H3 z => ⟨n, Nat.lt_succ_self n, z⟩, ρ', h1, mp1, rl1, rs1, ?_⟩
      rw [if_pos rfl] at g1
      cases eb : mb ρ' h1 with
      | nx ρ2 h2 =>
        rw [eb] at g1
        exact fun σ4 H4 mp4 f4 rl4 rs4 => ⟨ρ2, h2, mp4, f2.trans f4, rl4, rs4, g1⟩
      | ct ρ2 h2 =>
        rw [eb] at g1
        exact fun σ4 H4 mp4 f4 rl4 rs4 => ⟨ρ2, h2, mp4, f2.trans f4, rl4, rs4, g1⟩
      | bk ρ2 h2 => rw [eb] at g1; exact QN.fut f2 g1
      | rt v h2 => rw [eb] at g1; exact QV.fut f2 g1
      | ex v ρ2 h2 => rw [eb] at g1; exact QX.fut f2 g1
      | bad => rw [eb] at g1; exact False.elim g1
    | false => exact g1 σ' H1 mp1 f2 rl1 rs1
/-! ### a, b = e -/
@[simp] def sSetT (t : Tg) (m : ME) : MSt := fun ρ h => (m ρ h).st ρ fun x h1 => match t.set x ρ with | some ρ1 => .nx ρ1 h1 | none => .bad
theorem ss_setT {e : Expr} {m : ME} (he : SE X cl W e m) (hg : PG X tg (t.g X.K)) (hs : swapsWithSole [tg] e pos.line X.env = pure false := by rfl) (hw : swappedStores [tg] e X.env = pure none := by rfl)
    (h1 : (assignEach [tg] X.env).map (·.2) = [assign tg X.env] := by rfl) : SS X cl W (.Assign [tg] e pos) (sSetT t m) := psW (ps_asg he hg hs hw h1) fun D σ H ⟨ρ, h, mp, rl, rs, g⟩ =>
  tM_st rl rs g (fun _ _ q => q.ew rs) fun x h1 V H1 mp1 f1 rl1 rs1 rv1 g1 => by
    split at g1
    · rename_i ρ1 et
      obtain ⟨σ2, rs2, q2, _⟩ := tg_ok et rv1 rs1
      exact q2 _ (g1 σ2 H1 mp1 f1 rl1 rs2)
    · exact False.elim g1
end
end Sm

set_option Elab.async false
set_option linter.all false
set_option maxRecDepth 100000
set_option maxHeartbeats 4000000
/-! comprehensions, defs -/
namespace Sm
open PySem PySem.Spec PyProof.Rows L2
/-- an exception is no end here -/
def Res.nx {α : Type} (r : Res α) : Res α := match r with | .ok a h => .ok a h | _ => .bad
@[simp] theorem Res.nx_ok {α : Type} (a : α) (h : MH) : (Res.ok a h).nx = .ok a h := rfl
@[simp] theorem Res.nx_bad {α : Type} : (Res.bad : Res α).nx = .bad := rfl
theorem Good.nx {α : Type} {r : Res α} {Q : α → MH → Prop} {E E' : MV → MH → Prop} (g : Good r.nx Q E) : Good r Q E' := by
  cases r with
  | ok a h => exact g
  | ex e h => exact False.elim g
  | bad => exact g
abbrev W0 : Wsh := fun _ _ _ _ => False
/-- slots forgotten -/
def wipeM (ρ : MS) : List Nat → MS
  | [] => ρ
  | v :: vs => (wipeM ρ vs).set v none
theorem rs_wipe {K : PySem.W.Frag} {mp : Mp} {H : Hp} {ρ : MS} {σ : L2.St} (rs : RS K mp H ρ σ) : ∀ vs, RS K mp H (wipeM ρ vs) (wipe σ vs)
  | [] => rs
  | v :: vs => by
    have ih := rs_wipe rs vs
    unfold wipeM wipe
    refine ⟨by simp [ih.len], fun i x e => ?_⟩
    by_cases hi : i = v
    · subst hi
      by_cases hl : i < (wipeM ρ vs).length
      · rw [List.getElem?_set_self hl] at e; cases e
      · rw [List.getElem?_eq_none (by simpa using hl)] at e; cases e
    · rw [List.getElem?_set_ne (Ne.symm hi)] at e
      obtain ⟨v', h1, h2⟩ := ih.at_ i x e
      exact ⟨v', by rw [List.getElem?_set_ne (Ne.symm hi)]; exact h1, h2⟩
open Classical in
noncomputable def compGo (gs : Gs) (t : Tg) (mt : MS → MH → Res Bool) (me : ME) (ρ : MS) : List MV → MH → Res (List MV)
  | [], h => if gOk gs h then .ok [] h else .bad
  | x :: xs, h => if gOk gs h then match t.set x ρ with
    | some ρ1 => (mt ρ1 h).nx.bind fun b h1 => if b = true then (me ρ1 h1).nx.bind fun y h2 => (compGo gs t mt me ρ xs h2).bind fun ys h3 => .ok (y :: ys) h3 else compGo gs t mt me ρ xs h1
    | none => .bad
    else .bad
noncomputable def lComp (mi : MI) (t : Tg) (vs : List Nat) (mt : MS → MH → Res Bool) (me : ME) : MA := fun ρ h => (mi ρ h).bind fun xg h1 => if szOk xg.1.length then compGo xg.2 t mt me (wipeM ρ vs) xg.1 h1 else .bad
@[simp] def tYesM : MS → MH → Res Bool := fun _ h => .ok true h
abbrev STs (X : Cx) (cl : Str → Option Addr) (W : Wsh) (ifs : List Expr) (m : MS → MH → Res Bool) : Prop := PTs X ifs (tMT X.K cl W m)
theorem ptsW {X : Cx} {e : List Expr} {t t' : TT} (h : PTs X e t) (w : ∀ σ H Q, t' σ H Q → t σ H Q) : PTs X e t' := ⟨fun pins s σ H Q I q => h.run pins s σ H Q I (w σ H Q q)⟩
section
variable {X : Cx} {cl : Str → Option Addr} {W : Wsh} {tg iter elt c : Expr} {mi : MI} {t : Tg} {mt : MS → MH → Res Bool} {me : ME} {pos spos py : Pos} {ifs : List Expr} {scope : Scope} {own : List (Str × Nat)}
theorem sts_nil : STs X cl W [] tYesM := ptsW pts_nil fun σ H Q ⟨ρ, h, mp, rl, rs, g⟩ => g H mp .refl rl
theorem sts_one (hc : ST X cl W c mt) : STs X cl W [c] mt := pts_one hc
theorem lc_read {K : PySem.W.Frag} {vs : List Nat} (hv : ∀ i, i ∈ t.slots → i ∈ vs) : ∀ σ H Q, tML K cl W (lComp mi t vs mt me) σ H Q → tLc (tMI K cl W mi) (t.g K) (tMT K cl W0 mt) (tM K cl W0 me) vs σ H Q := fun σ H Q ⟨ρ, h, mp, rl, rs, g⟩ => by
  refine ⟨ρ, h, mp, rl, rs, (Good.bind.mp g).mono (fun xg h1 g1 J H1 mp1 f1 rl1 jok D hD => ?_) fun _ _ z => z⟩
  obtain ⟨xs, gs⟩ := xg
  dsimp only at g1 jok
  split at g1
  · rename_i hz
    have h0 : H D = none := f1.back rl1 hD
    have rs1 := rs_wipe (rs.fut f1) vs
    have np1 := rl1.np hD
    have hz' : xs.length ≤ 1000000 := hz
    refine ⟨fun i m H' => m = xs.length - i ∧ i ≤ xs.length ∧ ∃ h' mp' acc accV, Fut K mp1 mp' H1 H' ∧ Rl K cl mp' h' H' ∧ (∀ n, mp' n ≠ some D) ∧ H' D = some (.lst accV) ∧ RVs K mp' H' acc accV ∧ acc.length ≤ i ∧
      Good (compGo gs t mt me (wipeM ρ vs) (xs.drop i) h') (fun ys h'' => QL K cl mp H Q (acc ++ ys) h'') (EW K cl mp H W σ), ⟨_, rfl, Nat.zero_le _, h1, mp1, [], [], Fut.new hD, rl1.new hD, np1, upd_same, .nil, Nat.le_refl _, g1⟩, ?_⟩
    rintro i m H' ⟨rfl, hi, h', mp', acc, accV, f', rl', np', hD', rv', la, g'⟩
    by_cases hlt : i < xs.length
    · have hd : xs.drop i = xs[i] :: xs.drop (i + 1) := List.drop_eq_getElem_cons hlt
      rw [hd] at g'
      unfold compGo at g'
      split at g'
      · rename_i gok
        obtain ⟨go, yl⟩ := jok.step i xs[i] mp' h' H' f' rl' gok (by simp [hlt])
        refine .inr ⟨go, fun H3 => ∃ h3 mp3 acc3 accV3, Fut K mp1 mp3 H1 H3 ∧ Rl K cl mp3 h3 H3 ∧ (∀ n, mp3 n ≠ some D) ∧ H3 D = some (.lst accV3) ∧ RVs K mp3 H3 acc3 accV3 ∧ acc3.length ≤ i + 1 ∧
          Good (compGo gs t mt me (wipeM ρ vs) (xs.drop (i + 1)) h3) (fun ys h'' => QL K cl mp H Q (acc3 ++ ys) h'') (EW K cl mp H W σ), fun H3 z => ⟨xs.length - (i + 1), by omega, rfl, hlt, z⟩, fun V H'' y => ?_⟩
        obtain ⟨f2, rl2, rv2⟩ := yl V H'' y
        split at g'
        · rename_i ρ1 et
          obtain ⟨σ2, rs2, q2, w2⟩ := tg_ok et rv2 ((rs1.fut f').fut f2)
          obtain ⟨hD2, np2⟩ := f2.fr D _ hD' np'
          refine q2 _ ⟨(w2 vs hv).trans (wipe_wipe σ vs), ρ1, h', mp', rl2, rs2, ?_⟩
          refine Good.nx ((Good.bind.mp g').mono (fun b hb gb H3 mp3 f3 rl3 => ?_) fun _ _ z => z)
          obtain ⟨hD3, np3⟩ := f3.fr D _ hD2 np2
          cases b with
          | true =>
            rw [if_pos rfl] at gb
            refine ⟨ρ1, hb, mp3, rl3, rs2.fut f3, Good.nx ((Good.bind.mp gb).mono (fun y hy gy Y H4 mp4 f4 rl4 rv4 => ?_) fun _ _ z => z)⟩
            obtain ⟨hD4, np4⟩ := f4.fr D _ hD3 np3
            have f14 : Fut K mp1 mp4 H1 H4 := f'.trans (f2.trans (f3.trans f4))
            have fu := Fu.tmp (K := K) (mp := mp4) (ws := accV ++ [Y]) hD4
            refine ⟨accV, hD4, ?_, hy, mp4, acc ++ [y], accV ++ [Y], f14.tmp hD hD4, rl4.tmp hD4 np4, np4, upd_same, ?_, by simp; omega, ?_⟩
            · rw [← rv'.length]
              exact Nat.lt_of_le_of_lt la (Nat.lt_of_lt_of_le hlt (Nat.le_trans hz' (by decide)))
            · exact ((rv'.fut (f2.trans (f3.trans f4))).append (.cons rv4 .nil)).fu fu
            · refine (Good.bind.mp gy).mono (fun ys h3 q => ?_) fun _ _ z => z
              rw [List.append_assoc]
              exact q
          | false =>
            rw [if_neg (by decide)] at gb
            exact ⟨hb, mp3, acc, accV, f'.trans (f2.trans f3), rl3, np3, hD3, rv'.fut (f2.trans f3), by omega, gb⟩
        · exact False.elim g'
      · exact False.elim g'
    · have e : i = xs.length := by omega
      subst e
      rw [List.drop_length] at g'
      unfold compGo at g'
      split at g'
      · rename_i gok
        refine .inl ⟨jok.stop _ mp' h' H' f' rl' gok (Nat.le_refl _), ?_⟩
        have q : QL K cl mp H Q (acc ++ []) h' := g'
        rw [List.append_nil] at q
        exact q D accV H' mp' (f1.trans f') rl' h0 np' hD' rv'
      · exact False.elim g'
  · exact False.elim g1
theorem sl_comp (hv : ∀ i, i ∈ t.slots → i ∈ own.map (·.2) := by decide) (hc : X.calm = true) (hN : X.N.Nodup) (hi : SI X cl W tg iter mi) (ok : BlkOk X.N X.env.scope scope own)
    (hg : ∀ (s : Shared) (H : Hp) (C : Addr) (cl' : List (Str × Addr)) (fp : List Addr), PG (X.blk s H scope (compEnvC scope cl' C X.env) fp) tg (t.g X.K)) (ht : ∀ (s : Shared) (H : Hp) (C : Addr) (cl' : List (Str × Addr)) (fp : List Addr), STs (X.blk s H scope (compEnvC scope cl' C X.env) fp) cl W0 ifs mt)
    (he : ∀ (s : Shared) (H : Hp) (C : Addr) (cl' : List (Str × Addr)) (fp : List Addr), SE (X.blk s H scope (compEnvC scope cl' C X.env) fp) cl W0 elt me) (hs : ∀ x, foldedSetIterable iter X.env x = pure x := by intro _; rfl) :
    SL X cl W (.ListComp elt [⟨tg, iter, ifs, 0⟩] scope pos) (lComp mi t (own.map (·.2)) mt me) := peW (pe_lc hc hN hi ok hg ht he hs) (lc_read hv)
theorem st_bind {α β : Type} (r : Res α) (f : α → MH → Res β) (ρ : MS) (g : β → MH → SRes) : (r.bind f).st ρ g = r.st ρ fun a h => (f a h).st ρ g := by cases r <;> rfl
theorem ss_setLc {i : Nat} {y : Str} (hv : ∀ i, i ∈ t.slots → i ∈ own.map (·.2) := by decide) (hc : X.calm = true) (hN : X.N.Nodup) (hy : X.N[i]? = some y) (hyl : X.env.scope.names.lookup y = some .local)
    (hsw : swapsWith (.ListComp elt [⟨tg, iter, ifs, 0⟩] scope pos) (some (.Name y py)) spos.line X.env = pure true) (hi : SI X cl W tg iter mi) (ok : BlkOk X.N X.env.scope scope own)
    (hg : ∀ (s : Shared) (H : Hp) (C : Addr) (cl' : List (Str × Addr)) (fp : List Addr), PG (X.blk s H scope (compEnvC scope cl' C X.env) fp) tg (t.g X.K)) (ht : ∀ (s : Shared) (H : Hp) (C : Addr) (cl' : List (Str × Addr)) (fp : List Addr), STs (X.blk s H scope (compEnvC scope cl' C X.env) fp) cl W0 ifs mt)
    (he : ∀ (s : Shared) (H : Hp) (C : Addr) (cl' : List (Str × Addr)) (fp : List Addr), SE (X.blk s H scope (compEnvC scope cl' C X.env) fp) cl W0 elt me) (hs : ∀ x, foldedSetIterable iter X.env x = pure x := by intro _; rfl) :
    SS X cl W (.Assign [.Name y py] (.ListComp elt [⟨tg, iter, ifs, 0⟩] scope pos) spos) (sSet i (eNew (lComp mi t (own.map (·.2)) mt me))) := psW (ps_setLc hc hN hy hyl hsw hi ok hg ht he hs) fun D σ H ⟨ρ, h, mp, rl, rs, g⟩ => by
  refine lc_read (mt := mt) (me := me) hv σ H _ ⟨ρ, h, mp, rl, rs, ?_⟩
  unfold sSet eNew at g
  rw [st_bind] at g
  refine (SGood.st.mp g).mono (fun xs h1 g1 p vs H1 mp1 f1 rl1 h0 np hp rv => ?_) fun e h' q => QX.ew rs q
  have f2 := f1.toCell rl1 h0
  exact g1 (σ.set i (some (.ref p))) H1 (Mp.put mp1 h1.length p) f2 (rl1.toCell np ⟨vs, hp, rv⟩) ((rs.fut f2).set (.ref Mp.put_same))
end
/-! ### what nothing knows any more goes -/
mutual
def bel (n : Nat) : MV → Bool
  | .ref k => decide (k < n)
  | .tup xs => bels n xs
  | .scr xs => bels n xs
  | .exn _ _ vs => bels n vs
  | .non => true
  | .bl _ => true
  | .int _ => true
  | .str _ => true
def bels (n : Nat) : List MV → Bool
  | [] => true
  | x :: xs => bel n x && bels n xs
end
def belO (n : Nat) : MO → Bool
  | .lst xs => bels n xs
  | .ins _ fs => bels n (fs.map (·.2))
  | .dct kvs => bels n (kvs.map (·.2))
def gcOk (h : MH) (v : MV) (h' : MH) : Prop := bel h.length v = true ∧ ∀ i, i < h.length → ∃ o, h'[i]? = some o ∧ (h[i]? = some o ∨ belO h.length o = true)
open Classical in
noncomputable def gc (h : MH) (v : MV) (h' : MH) : MH := if gcOk h v h' then h'.take h.length else h'
def Mp.cut (mp : Mp) (n : Nat) : Mp := fun k => if k < n then mp k else none
section
variable {K : PySem.W.Frag} {cl : Str → Option Addr} {mp mp' : Mp} {H H' : Hp} {h h' : MH}
mutual
theorem RV.cut {n : Nat} : ∀ {x : MV} {v : L2.V}, RV K mp H x v → bel n x = true → RV K (mp.cut n) H x v
  | _, _, .non, _ => .non
  | _, _, .bl b, _ => .bl b
  | _, _, .int i, _ => .int i
  | _, _, .str x, _ => .str x
  | _, _, @RV.ref _ _ _ k a h, e => .ref (by
    have e : k < n := by simpa [bel] using e
    simp [Mp.cut, e, h])
  | _, _, .tup h r, e => .tup h (RVs.cut r (by simpa [bel] using e))
  | _, _, .scr h r, e => .scr h (RVs.cut r (by simpa [bel] using e))
theorem RVs.cut {n : Nat} : ∀ {xs : List MV} {vs : List L2.V}, RVs K mp H xs vs → bels n xs = true → RVs K (mp.cut n) H xs vs
  | _, _, .nil, _ => .nil
  | x :: xs, _, .cons r t, e => by
    have e : bel n x = true ∧ bels n xs = true := by simpa [bels] using e
    exact .cons (RV.cut r e.1) (RVs.cut t e.2)
end
mutual
theorem RV.bel {n : Nat} (hn : ∀ k a, mp k = some a → k < n) : ∀ {x : MV} {v : L2.V}, RV K mp H x v → bel n x = true
  | _, _, .non => by simp [Sm.bel]
  | _, _, .bl b => by simp [Sm.bel]
  | _, _, .int i => by simp [Sm.bel]
  | _, _, .str x => by simp [Sm.bel]
  | _, _, .ref h => by simp [Sm.bel, hn _ _ h]
  | _, _, .tup h r => by simp only [Sm.bel]; exact RVs.bel hn r
  | _, _, .scr h r => by simp only [Sm.bel]; exact RVs.bel hn r
theorem RVs.bel {n : Nat} (hn : ∀ k a, mp k = some a → k < n) : ∀ {xs : List MV} {vs : List L2.V}, RVs K mp H xs vs → bels n xs = true
  | _, _, .nil => by simp [Sm.bels]
  | _, _, .cons r t => by simp [Sm.bels, RV.bel hn r, RVs.bel hn t]
end
theorem ro_bel {n : Nat} (hn : ∀ k a, mp k = Option.some a → k < n) {o : MO} {a : Addr} (r : RO K cl mp H o a) : belO n o = true := by
  cases o with
  | lst xs => obtain ⟨vs, _, q⟩ := r; exact q.bel hn
  | ins c fs => obtain ⟨C, dx, vs, _, _, q⟩ := r; exact q.2.bel hn
  | dct kvs => obtain ⟨vs, _, q⟩ := r; exact q.2.bel hn
theorem RO.cut {n : Nat} {o : MO} {a : Addr} (r : RO K cl mp H o a) (e : belO n o = true) : RO K cl (mp.cut n) H o a := by
  cases o with
  | lst xs => obtain ⟨vs, h1, q⟩ := r; exact ⟨vs, h1, q.cut e⟩
  | ins c fs => obtain ⟨C, dx, vs, h0, h1, q⟩ := r; exact ⟨C, dx, vs, h0, h1, q.1, q.2.cut e⟩
  | dct kvs => obtain ⟨vs, h1, q⟩ := r; exact ⟨vs, h1, q.1, q.2.cut e⟩
theorem gc_ok {v : MV} {V : L2.V} (rl : Rl K cl mp h H) (f : Fut K mp mp' H H') (rl' : Rl K cl mp' h' H') (rv : RV K mp' H' v V) : ∃ mp'', Fut K mp mp'' H H' ∧ Rl K cl mp'' (gc h v h') H' ∧ RV K mp'' H' v V := by
  unfold gc
  split
  · rename_i ok
    obtain ⟨ok1, ok2⟩ := ok
    have cutE : ∀ {k a}, mp'.cut h.length k = some a → k < h.length ∧ mp' k = some a := fun {k a} e => by
      unfold Mp.cut at e
      split at e
      · rename_i l; exact ⟨l, e⟩
      · cases e
    have len : h.length ≤ h'.length := by
      by_cases hz : h.length = 0
      · omega
      · obtain ⟨o, e, _⟩ := ok2 (h.length - 1) (by omega)
        have := (List.getElem?_eq_some_iff.mp e).1
        omega
    refine ⟨mp'.cut h.length, ⟨fun n a e => ?_, f.tt, f.sf, fun a o e n => ?_⟩, ⟨fun n a e => ?_, fun n l => ?_, fun n k a e1 e2 => ?_, fun n o a e q => ?_⟩, rv.cut ok1⟩
    · have := rl.dom n a e
      simp [Mp.cut, this, f.le n a e]
    · obtain ⟨h1, h2⟩ := f.fr a o e n
      exact ⟨h1, fun k q => h2 k (cutE q).2⟩
    · have := (cutE e).1
      rw [List.length_take]; omega
    · rw [List.length_take] at l
      obtain ⟨a, e⟩ := rl'.has n (by omega)
      exact ⟨a, by simp [Mp.cut, show n < h.length by omega, e]⟩
    · exact rl'.inj n k a (cutE e1).2 (cutE e2).2
    · obtain ⟨l, q'⟩ := cutE q
      rw [List.getElem?_take_of_lt l] at e
      have ro := rl'.obj n o a e q'
      refine ro.cut ?_
      obtain ⟨o', e1, e2⟩ := ok2 n l
      rw [e] at e1
      have := Option.some.inj e1
      subst this
      rcases e2 with e2 | e2
      · obtain ⟨b, _, ro0⟩ := rl.at e2
        exact ro_bel rl.dom ro0
      · exact e2
  · exact ⟨mp', f, rl', rv⟩
end
/-! ### a def -/
noncomputable def mfun (np n : Nat) (body : MSt) : List MV → MH → Res MV := fun args h => if args.length = np then (match body (args.map some ++ List.replicate (n - np) none) h with
  | .rt v h' => .ok v (gc h v h')
  | .nx _ h' => .ok .non (gc h .non h')
  | _ => .bad) else .bad
theorem mfun_noEx {np n : Nat} {body : MSt} : NoEx1 (mfun np n body) := by
  intro xs h e h' z
  unfold mfun at z
  repeat' split at z
  all_goals cases z
theorem rs_start {K : PySem.W.Frag} {mp : Mp} {H : Hp} {xs : List MV} {vs : List L2.V} (r : RVs K mp H xs vs) (n : Nat) : RS K mp H (xs.map some ++ List.replicate n none) (vs.map some ++ List.replicate n none) :=
  ⟨by simp [r.length], fun i x e => by
    by_cases hl : i < xs.length
    · rw [List.getElem?_append_left (by simpa using hl), List.getElem?_map, Option.map_eq_some_iff] at e
      obtain ⟨y, e1, e2⟩ := e
      have := Option.some.inj e2
      subst this
      obtain ⟨v, e3, r3⟩ := r.get e1
      exact ⟨v, by rw [List.getElem?_append_left (by rw [List.length_map, ← r.length]; exact hl), List.getElem?_map, e3]; rfl, r3⟩
    · rw [List.getElem?_append_right (by simpa using hl), List.getElem?_replicate] at e
      split at e
      · cases Option.some.inj e
      · cases e⟩
section
variable {P : Program} {w : World} {K : PySem.W.Frag} {mg : Str → Option Value} {base : Heap} {cl : Str → Option Addr}
/-- the reading of a def's body -/
theorem fun_read {N ps : List Str} {mb : MSt} {vs : List L2.V} {H : Hp} {Q : VK} {E : XK} (h : spM K cl (mfun ps.length N.length mb) vs H Q E) : tMS K cl W0 mb { nx := fun _ H' => Q .non H', rt := Q } (L2.start N vs) H := by
  obtain ⟨xs, h, mp, rl, rv, g⟩ := h
  unfold mfun at g
  split at g
  · rename_i hl
    refine ⟨xs.map some ++ List.replicate (N.length - ps.length) none, h, mp, rl, ?_, ?_⟩
    · unfold L2.start
      rw [← hl, rv.length]
      exact rs_start rv _
    · cases e : mb (xs.map some ++ List.replicate (N.length - ps.length) none) h with
      | rt v h' =>
        rw [e] at g
        exact fun V H' mp' f rl' rv' => by
          obtain ⟨mp2, f2, rl2, rv2⟩ := gc_ok rl f rl' rv'
          exact g V H' mp2 f2 rl2 rv2
      | nx ρ h' =>
        rw [e] at g
        exact fun σ' H' mp' f rl' rs' => by
          obtain ⟨mp2, f2, rl2, rv2⟩ := gc_ok (v := .non) rl f rl' .non
          exact g _ H' mp2 f2 rl2 rv2
      | bk ρ h' => rw [e] at g; exact False.elim g
      | ct ρ h' => rw [e] at g; exact False.elim g
      | ex v ρ h' => rw [e] at g; exact False.elim g
      | bad => rw [e] at g; exact False.elim g
  · exact False.elim g
theorem spM_len {np n : Nat} {mb : MSt} {vs : List L2.V} {H : Hp} {Q : VK} {E : XK} (h : spM K cl (mfun np n mb) vs H Q E) : vs.length = np := by
  obtain ⟨xs, h, mp, rl, rv, g⟩ := h
  unfold mfun at g
  split at g
  · rename_i hl
    rw [← rv.length]; exact hl
  · exact False.elim g
theorem fnM {x qual : Str} {st : Stmt} {f : Addr} {fd : FuncData} {N ps : List Str} {k : Nat} {mb : MSt} (F : L2.Fun K x qual st f fd) (S : FnScope N ps (defScope st))
    (hb : ∀ (cdv : Value) (A : Around) (outer : List Env) (s : Shared) (H : Hp) (E : XK), Room k (A.deeper (envOfC qual (defScope st) s.heap.objs.size f cdv)) → SSs (cxOf CX0 P w K mg base N qual (defScope st) f cdv A outer s H E).nox cl W0 (defBody st) mb) :
    FnOk P w K mg base CX0 (k + 1) f fd ps (spM K cl (mfun ps.length N.length mb)) :=
  F.ok S (fun vs H Q E h => spM_len h) fun cdv A outer s H vs Q E hr h => ⟨_, hb cdv A outer s H E hr, fun_read h⟩
theorem fnMD {x qual : Str} {params : Arguments} {body : List Stmt} {scope : Scope} {dvs : List L2.V} {kws : List (Str × L2.V)} {f : Addr} {fd : FuncData} {N ps : List Str} {k : Nat} {mb : MSt} (F : FunD K x qual params body scope dvs kws f fd) (S : FnScope N ps scope)
    (hb : ∀ (cdv : Value) (A : Around) (outer : List Env) (s : Shared) (H : Hp) (E : XK), Room k (A.deeper (envOfC qual scope s.heap.objs.size f cdv)) → SSs (cxOf CX0 P w K mg base N qual scope f cdv A outer s H E).nox cl W0 body mb) :
    FnOk P w K mg base CX0 (k + 1) f fd ps (spM K cl (mfun ps.length N.length mb)) :=
  F.ok S (fun vs H Q E h => spM_len h) fun cdv A outer s H vs Q E hr h => ⟨_, (hb cdv A outer s H E hr).nox, fun_read h⟩
/-- the law itself -/
theorem law_read {m : List MV → MH → Res MV} (hm : ∀ ns : List Int, ns.length ≤ 63 → ∃ h, m [.scr (ns.map MV.int)] [] = .ok (.bl true) h) (H : Hp) (a : Addr) (ns : List Int) (hl : ns.length ≤ 63) (hO : Only H) (hS : SqL K H a (ns.map L2.V.int)) :
    spM K cl m [.ref a] H (fun v _ => v = .bl true) fun _ _ _ => False := by
  obtain ⟨h', e⟩ := hm ns hl
  have rvI : ∀ (ns : List Int), RVs K (fun _ => none) H (ns.map MV.int) (ns.map L2.V.int) := fun ns => by
    induction ns with
    | nil => exact .nil
    | cons n ns ih => exact .cons (.int n) ih
  refine ⟨[.scr (ns.map MV.int)], [], fun _ => none, Rl.mk (fun n a e => nomatch e) (fun n l => absurd l (Nat.not_lt_zero n)) (fun n k a e => nomatch e) (fun n o a e => by simp at e), .cons (.scr ?_ (rvI ns)) .nil, ?_⟩
  · rcases hS with hS | hS
    · rcases hS with hS | ⟨o, hS⟩
      · rcases hO a with z | ⟨ob, xs, z⟩
        · rw [hS] at z; cases z
        · rw [hS] at z; cases z
      · exact .inl ⟨o, hS⟩
    · exact .inr hS
  · rw [e]
    intro V H' mp' f rl rv
    cases rv
    rfl
end
end Sm

set_option Elab.async false
set_option linter.all false
set_option maxRecDepth 100000
set_option maxHeartbeats 4000000
/-! the rules as the printer names them -/
namespace Sm
open PySem PySem.Spec PyProof.Rows L2
local macro_rules | `(tactic| trivial) => `(tactic| (intro x y h e h' z; simp only [mAdd, mSub, mMul, mMod, mDiv, mPow, mLt, mLe, mGt, mGe, mEq, mNe, mIs, mIsNot, mIn, mNotIn, mIx, ixL, ixS, ixD, optR] at z; (repeat' split at z); all_goals cases z))
theorem mAdd_noEx : NoEx2 mAdd := by trivial
theorem mSub_noEx : NoEx2 mSub := by trivial
theorem mMul_noEx : NoEx2 mMul := by trivial
theorem mMod_noEx : NoEx2 mMod := by trivial
theorem mDiv_noEx : NoEx2 mDiv := by trivial
theorem mPow_noEx : NoEx2 mPow := by trivial
theorem mLt_noEx : NoEx2 mLt := by trivial
theorem mLe_noEx : NoEx2 mLe := by trivial
theorem mGt_noEx : NoEx2 mGt := by trivial
theorem mGe_noEx : NoEx2 mGe := by trivial
theorem mEq_noEx : NoEx2 mEq := by trivial
theorem mNe_noEx : NoEx2 mNe := by trivial
theorem mIs_noEx : NoEx2 mIs := by trivial
theorem mIsNot_noEx : NoEx2 mIsNot := by trivial
theorem mIn_noEx : NoEx2 mIn := by trivial
theorem mNotIn_noEx : NoEx2 mNotIn := by trivial
theorem mIx_noEx : NoEx2 mIx := by trivial
theorem mLen_noEx : NoEx1 mLen := by
  intro xs h e h' z; unfold mLen at z; (repeat' split at z); all_goals cases z
theorem mTuple_noEx : NoEx1 mTuple := by
  intro xs h e h' z; unfold mTuple at z; (repeat' split at z); all_goals cases z
theorem mInt_noEx : NoEx1 mInt := by
  intro xs h e h' z; unfold mInt at z; (repeat' split at z); all_goals cases z
theorem mBool_noEx : NoEx1 mBool := by
  intro xs h e h' z; unfold mBool at z; (repeat' split at z); all_goals cases z
theorem mAbs_noEx : NoEx1 mAbs := by
  intro xs h e h' z; unfold mAbs at z; (repeat' split at z); all_goals cases z
theorem mMin_noEx : NoEx1 mMin := by
  intro xs h e h' z; unfold mMin at z; (repeat' split at z); all_goals cases z
theorem mMax_noEx : NoEx1 mMax := by
  intro xs h e h' z; unfold mMax at z; (repeat' split at z); all_goals cases z
theorem mStr_noEx : NoEx1 mStr := by
  intro xs h e h' z; unfold mStr at z; (repeat' split at z); all_goals cases z
section
variable {X : Cx} {cl : Str → Option Addr} {W : Wsh} {a b c e o : Expr} {es : List Expr} {ma mb mc m mo : ME} {ms la lb : MA} {pos apos cpos p p2 : Pos} {k : Nat}
theorem b_Add (ha : SE X cl W a ma) (hb : SE X cl W b mb) : SE X cl W (.BinOp a .Add b pos) (eBin mAdd ma mb) := se_bin op_addM rM_ok mAdd_noEx ha hb
theorem b_Sub (ha : SE X cl W a ma) (hb : SE X cl W b mb) : SE X cl W (.BinOp a .Sub b pos) (eBin mSub ma mb) := se_bin op_subM rM_ok mSub_noEx ha hb
theorem b_Mult (ha : SE X cl W a ma) (hb : SE X cl W b mb) : SE X cl W (.BinOp a .Mult b pos) (eBin mMul ma mb) := se_bin op_mulM rM_ok mMul_noEx ha hb
theorem b_Mod (ha : SE X cl W a ma) (hb : SE X cl W b mb) : SE X cl W (.BinOp a .Mod b pos) (eBin mMod ma mb) := se_bin op_modM rM_ok mMod_noEx ha hb
theorem b_FloorDiv (ha : SE X cl W a ma) (hb : SE X cl W b mb) : SE X cl W (.BinOp a .FloorDiv b pos) (eBin mDiv ma mb) := se_bin op_divM rM_ok mDiv_noEx ha hb
theorem b_Pow (ha : SE X cl W a ma) (hb : SE X cl W b mb) : SE X cl W (.BinOp a .Pow b pos) (eBin mPow ma mb) := se_bin op_powM rM_ok mPow_noEx ha hb
theorem c_Lt (ha : SE X cl W a ma) (hb : SE X cl W b mb) : SE X cl W (.Compare a [.Lt] [b] pos) (eBin mLt ma mb) := se_cmp op_ltM rM_ok mLt_noEx ha hb (nomark _)
theorem c_LtE (ha : SE X cl W a ma) (hb : SE X cl W b mb) : SE X cl W (.Compare a [.LtE] [b] pos) (eBin mLe ma mb) := se_cmp op_leM rM_ok mLe_noEx ha hb (nomark _)
theorem c_Gt (ha : SE X cl W a ma) (hb : SE X cl W b mb) : SE X cl W (.Compare a [.Gt] [b] pos) (eBin mGt ma mb) := se_cmp op_gtM rM_ok mGt_noEx ha hb (nomark _)
theorem c_GtE (ha : SE X cl W a ma) (hb : SE X cl W b mb) : SE X cl W (.Compare a [.GtE] [b] pos) (eBin mGe ma mb) := se_cmp op_geM rM_ok mGe_noEx ha hb (nomark _)
theorem c_Eq (hr : Room k X.A) (ha : SE X cl W a ma) (hb : SE X cl W b mb) : SE X cl W (.Compare a [.Eq] [b] pos) (eBin mEq ma mb) := se_cmp (op_eqM hr.units) rM_ok mEq_noEx ha hb (nomark _)
theorem c_NotEq (hr : Room k X.A) (ha : SE X cl W a ma) (hb : SE X cl W b mb) : SE X cl W (.Compare a [.NotEq] [b] pos) (eBin mNe ma mb) := se_cmp (op_neM hr.units) rM_ok mNe_noEx ha hb (nomark _)
theorem c_Is (ha : SE X cl W a ma) (hb : SE X cl W b mb) : SE X cl W (.Compare a [.Is] [b] pos) (eBin mIs ma mb) := se_cmp op_isM rM_ok mIs_noEx ha hb (nomark _)
theorem c_IsNot (ha : SE X cl W a ma) (hb : SE X cl W b mb) : SE X cl W (.Compare a [.IsNot] [b] pos) (eBin mIsNot ma mb) := se_cmp op_isNotM rM_ok mIsNot_noEx ha hb (nomark _)
theorem c_In (hr : Room k X.A) (ha : SE X cl W a ma) (hb : SE X cl W b mb) (hm : behindInMarks .In b = false := by with_unfolding_all rfl) : SE X cl W (.Compare a [.In] [b] pos) (eBin mIn ma mb) := se_cmp (op_inM (hu_of hr)) rM_ok mIn_noEx ha hb hm
theorem c_NotIn (hr : Room k X.A) (ha : SE X cl W a ma) (hb : SE X cl W b mb) (hm : behindInMarks .NotIn b = false := by with_unfolding_all rfl) : SE X cl W (.Compare a [.NotIn] [b] pos) (eBin mNotIn ma mb) := se_cmp (op_notInM (hu_of hr)) rM_ok mNotIn_noEx ha hb hm
theorem t_Lt (ha : SE X cl W a ma) (hb : SE X cl W b mb) : ST X cl W (.Compare a [.Lt] [b] pos) (tOfE (eBin mLt ma mb)) := st_cmp op_ltM rM_ok mLt_noEx ha hb (nomark _)
theorem t_LtE (ha : SE X cl W a ma) (hb : SE X cl W b mb) : ST X cl W (.Compare a [.LtE] [b] pos) (tOfE (eBin mLe ma mb)) := st_cmp op_leM rM_ok mLe_noEx ha hb (nomark _)
theorem t_Gt (ha : SE X cl W a ma) (hb : SE X cl W b mb) : ST X cl W (.Compare a [.Gt] [b] pos) (tOfE (eBin mGt ma mb)) := st_cmp op_gtM rM_ok mGt_noEx ha hb (nomark _)
theorem t_GtE (ha : SE X cl W a ma) (hb : SE X cl W b mb) : ST X cl W (.Compare a [.GtE] [b] pos) (tOfE (eBin mGe ma mb)) := st_cmp op_geM rM_ok mGe_noEx ha hb (nomark _)
theorem t_Eq (hr : Room k X.A) (ha : SE X cl W a ma) (hb : SE X cl W b mb) : ST X cl W (.Compare a [.Eq] [b] pos) (tOfE (eBin mEq ma mb)) := st_cmp (op_eqM hr.units) rM_ok mEq_noEx ha hb (nomark _)
theorem t_NotEq (hr : Room k X.A) (ha : SE X cl W a ma) (hb : SE X cl W b mb) : ST X cl W (.Compare a [.NotEq] [b] pos) (tOfE (eBin mNe ma mb)) := st_cmp (op_neM hr.units) rM_ok mNe_noEx ha hb (nomark _)
theorem t_Is (ha : SE X cl W a ma) (hb : SE X cl W b mb) : ST X cl W (.Compare a [.Is] [b] pos) (tOfE (eBin mIs ma mb)) := st_cmp op_isM rM_ok mIs_noEx ha hb (nomark _)
theorem t_IsNot (ha : SE X cl W a ma) (hb : SE X cl W b mb) : ST X cl W (.Compare a [.IsNot] [b] pos) (tOfE (eBin mIsNot ma mb)) := st_cmp op_isNotM rM_ok mIsNot_noEx ha hb (nomark _)
theorem t_In (hr : Room k X.A) (ha : SE X cl W a ma) (hb : SE X cl W b mb) (hm : behindInMarks .In b = false := by with_unfolding_all rfl) : ST X cl W (.Compare a [.In] [b] pos) (tOfE (eBin mIn ma mb)) := st_cmp (op_inM (hu_of hr)) rM_ok mIn_noEx ha hb hm
theorem t_NotIn (hr : Room k X.A) (ha : SE X cl W a ma) (hb : SE X cl W b mb) (hm : behindInMarks .NotIn b = false := by with_unfolding_all rfl) : ST X cl W (.Compare a [.NotIn] [b] pos) (tOfE (eBin mNotIn ma mb)) := st_cmp (op_notInM (hu_of hr)) rM_ok mNotIn_noEx ha hb hm
theorem x_ix (hr : Room k X.A) (ha : SE X cl W a ma) (hb : SE X cl W b mb) (hs : PlainIx b) : SE X cl W (.Subscript a b pos) (eBin mIx ma mb) := se_ix (hu_of hr) mIx_noEx ha hb hs
/-! what is never come to -/
@[simp] def eBad : ME := fun _ _ => .bad
@[simp] def lBad : MA := fun _ _ => .bad
theorem se_never : SE X cl W e eBad := ⟨fun pins s σ H Q I ⟨ρ, h, mp, rl, rs, g⟩ => False.elim g⟩
theorem sl_never : SL X cl W e lBad := ⟨fun pins s σ H Q I ⟨ρ, h, mp, rl, rs, g⟩ => False.elim g⟩
/-- {} -/
@[simp] def eDict0 : ME := fun _ h => .ok (.ref h.length) (h ++ [.dct []])
theorem se_dict0 : SE X cl W (.Dict [] [] pos) eDict0 := peW pe_dnewK fun σ H Q ⟨ρ, h, mp, rl, rs, g⟩ p hp =>
  g _ _ (Mp.put mp h.length p) ((Fut.new hp).toCell (rl.new hp) hp) ((rl.new hp).toCell (rl.np hp) ⟨[], upd_same, rfl, .nil⟩) (.ref Mp.put_same)
/-- the class of names -/
theorem fld1 {K : PySem.W.Frag} {c f : Str} {C : Addr} (hc : cl c = some C) (h1 : Cls K C) (h2 : NoAttr K C f) : FldOk K cl [c] f := fun c' hc' C' e => by
  have : c' = c := by simpa using hc'
  subst this
  rw [hc] at e
  have := Option.some.inj e
  subst this
  exact ⟨h1, h2⟩
theorem fldCons {K : PySem.W.Frag} {c f : Str} {cs : List Str} {C : Addr} (hc : cl c = some C) (h1 : Cls K C) (h2 : NoAttr K C f) (h : FldOk K cl cs f) : FldOk K cl (c :: cs) f := fun c' hc' C' e => by
  rcases List.mem_cons.mp hc' with z | z
  · subst z
    rw [hc] at e
    have := Option.some.inj e
    subst this
    exact ⟨h1, h2⟩
  · exact h c' z C' e
end
theorem fnNever {P : Program} {w : World} {K : PySem.W.Frag} {mg : Str → Option Value} {base : Heap} {cl : Str → Option Addr} {k : Nat} {f : Addr} {fd : FuncData} {ps : List Str} : FnOk P w K mg base CX0 k f fd ps (spM K cl fun _ _ => .bad) :=
  ⟨fun vs H Q E h => by obtain ⟨_, _, _, _, _, g⟩ := h; exact False.elim g, fun A outer s H args us vs Q E _ _ _ _ h => by obtain ⟨_, _, _, _, _, g⟩ := h; exact False.elim g⟩
theorem neBad : NoEx1 (fun (_ : List MV) (_ : MH) => (Res.bad : Res MV)) := fun _ _ _ _ z => by cases z
end Sm

set_option Elab.async false
set_option linter.all false
set_option maxRecDepth 100000
namespace My
open PySem L2
/-! ### the text by places -/
def top (i : Nat) : Stmt := PySem.Challenge.pw_sendstead_k59_rows_judged.main.body.getD i (.Pass ⟨0, 0, 0, 0⟩)
abbrev s_parts_of : Stmt := top 4
abbrev N_parts_of : List Str := ["node", "word"]
theorem sc_parts_of : FnScope N_parts_of ["node"] (defScope s_parts_of) := ⟨rfl, rfl, rfl, by decide +kernel, rfl, by decide +kernel, by decide +kernel⟩
abbrev s_Shape_init__ : Stmt := inClass (top 5) 0
abbrev N_Shape_init__ : List Str := ["self", "method", "statement", "at", "node"]
theorem sc_Shape_init__ : FnScope N_Shape_init__ ["self", "method"] (defScope s_Shape_init__) := ⟨rfl, rfl, rfl, by decide +kernel, rfl, by decide +kernel, by decide +kernel⟩
abbrev s_Shape_add : Stmt := inClass (top 5) 1
abbrev N_Shape_add : List Str := ["self", "node", "above", "code", "at", "inner", "part"]
theorem sc_Shape_add : FnScope N_Shape_add ["self", "node", "above", "code"] (defScope s_Shape_add) := ⟨rfl, rfl, rfl, by decide +kernel, rfl, by decide +kernel, by decide +kernel⟩
abbrev s_Shape_is_parameter : Stmt := inClass (top 5) 2
abbrev N_Shape_is_parameter : List Str := ["self", "word", "code"]
theorem sc_Shape_is_parameter : FnScope N_Shape_is_parameter ["self", "word", "code"] (defScope s_Shape_is_parameter) := ⟨rfl, rfl, rfl, by decide +kernel, rfl, by decide +kernel, by decide +kernel⟩
abbrev s_Shape_all_names : Stmt := inClass (top 5) 3
abbrev N_Shape_all_names : List Str := ["self", "found", "at", "node", "word"]
theorem sc_Shape_all_names : FnScope N_Shape_all_names ["self"] (defScope s_Shape_all_names) := ⟨rfl, rfl, rfl, by decide +kernel, rfl, by decide +kernel, by decide +kernel⟩
abbrev s_Shape_parameters : Stmt := inClass (top 5) 4
abbrev N_Shape_parameters : List Str := ["self", "code"]
theorem sc_Shape_parameters : FnScope N_Shape_parameters ["self", "code"] (defScope s_Shape_parameters) := ⟨rfl, rfl, rfl, by decide +kernel, rfl, by decide +kernel, by decide +kernel⟩
abbrev s_Shape_firsts : Stmt := inClass (top 5) 7
abbrev N_Shape_firsts : List Str := ["self", "code", "at"]
theorem sc_Shape_firsts : FnScope N_Shape_firsts ["self", "code"] (defScope s_Shape_firsts) := ⟨rfl, rfl, rfl, by decide +kernel, rfl, by decide +kernel, by decide +kernel⟩
abbrev s_Shape_found : Stmt := inClass (top 5) 8
abbrev N_Shape_found : List Str := ["self", "word", "code", "out"]
theorem sc_Shape_found : FnScope N_Shape_found ["self", "word", "code"] (defScope s_Shape_found) := ⟨rfl, rfl, rfl, by decide +kernel, rfl, by decide +kernel, by decide +kernel⟩
abbrev s_Compiler_init__ : Stmt := inClass (top 9) 0
abbrev N_Compiler_init__ : List Str := ["self", "form", "code"]
theorem sc_Compiler_init__ : FnScope N_Compiler_init__ ["self", "form", "code"] (defScope s_Compiler_init__) := ⟨rfl, rfl, rfl, by decide +kernel, rfl, by decide +kernel, by decide +kernel⟩
abbrev s_Compiler_come : Stmt := inClass (top 9) 1
abbrev N_Compiler_come : List Str := ["self", "at", "word", "more"]
theorem sc_Compiler_come : FnScope N_Compiler_come ["self", "at", "word", "more"] (defScope s_Compiler_come) := ⟨rfl, rfl, rfl, by decide +kernel, rfl, by decide +kernel, by decide +kernel⟩
abbrev s_Compiler_mend : Stmt := inClass (top 9) 2
abbrev N_Compiler_mend : List Str := ["self", "number", "at", "word"]
theorem sc_Compiler_mend : FnScope N_Compiler_mend ["self", "number"] (defScope s_Compiler_mend) := ⟨rfl, rfl, rfl, by decide +kernel, rfl, by decide +kernel, by decide +kernel⟩
abbrev s_Compiler_worked : Stmt := inClass (top 9) 3
abbrev N_Compiler_worked : List Str := ["self", "at", "node", "word", "kids", "kid"]
theorem sc_Compiler_worked : FnScope N_Compiler_worked ["self", "at"] (defScope s_Compiler_worked) := ⟨rfl, rfl, rfl, by decide +kernel, rfl, by decide +kernel, by decide +kernel⟩
abbrev s_Compiler_used : Stmt := inClass (top 9) 4
abbrev N_Compiler_used : List Str := ["self", "at", "node"]
theorem sc_Compiler_used : FnScope N_Compiler_used ["self", "at", "node"] (defScope s_Compiler_used) := ⟨rfl, rfl, rfl, by decide +kernel, rfl, by decide +kernel, by decide +kernel⟩
abbrev s_Compiler_all_done : Stmt := inClass (top 9) 5
abbrev N_Compiler_all_done : List Str := ["self", "numbers", "at"]
theorem sc_Compiler_all_done : FnScope N_Compiler_all_done ["self", "numbers"] (defScope s_Compiler_all_done) := ⟨rfl, rfl, rfl, by decide +kernel, rfl, by decide +kernel, by decide +kernel⟩
abbrev s_Compiler_done : Stmt := inClass (top 9) 6
abbrev N_Compiler_done : List Str := ["self", "at", "node", "kids", "beat"]
theorem sc_Compiler_done : FnScope N_Compiler_done ["self", "at"] (defScope s_Compiler_done) := ⟨rfl, rfl, rfl, by decide +kernel, rfl, by decide +kernel, by decide +kernel⟩
abbrev s_Compiler_chosen : Stmt := inClass (top 9) 7
abbrev N_Compiler_chosen : List Str := ["self", "at", "node", "kids", "beat", "first", "unless", "jump"]
theorem sc_Compiler_chosen : FnScope N_Compiler_chosen ["self", "at", "node", "kids", "beat"] (defScope s_Compiler_chosen) := ⟨rfl, rfl, rfl, by decide +kernel, rfl, by decide +kernel, by decide +kernel⟩
abbrev s_Compiler_tried : Stmt := inClass (top 9) 8
abbrev N_Compiler_tried : List Str := ["self", "at", "node", "kids", "first", "taken", "jump"]
theorem sc_Compiler_tried : FnScope N_Compiler_tried ["self", "at", "node", "kids"] (defScope s_Compiler_tried) := ⟨rfl, rfl, rfl, by decide +kernel, rfl, by decide +kernel, by decide +kernel⟩
abbrev s_Compiler_whole : Stmt := inClass (top 9) 9
abbrev N_Compiler_whole : List Str := ["self"]
theorem sc_Compiler_whole : FnScope N_Compiler_whole ["self"] (defScope s_Compiler_whole) := ⟨rfl, rfl, rfl, by decide +kernel, rfl, by decide +kernel, by decide +kernel⟩
abbrev s_compiled : Stmt := top 10
abbrev N_compiled : List Str := ["form", "code"]
theorem sc_compiled : FnScope N_compiled ["form", "code"] (defScope s_compiled) := ⟨rfl, rfl, rfl, by decide +kernel, rfl, by decide +kernel, by decide +kernel⟩
abbrev s_rows_of : Stmt := top 11
abbrev N_rows_of : List Str := ["method", "node"]
theorem sc_rows_of : FnScope N_rows_of ["method", "node"] (defScope s_rows_of) := ⟨rfl, rfl, rfl, by decide +kernel, rfl, by decide +kernel, by decide +kernel⟩
abbrev s_is_just : Stmt := top 12
abbrev N_is_just : List Str := ["thing", "due", "one", "other"]
theorem sc_is_just : FnScope N_is_just ["thing", "due"] (defScope s_is_just) := ⟨rfl, rfl, rfl, by decide +kernel, rfl, by decide +kernel, by decide +kernel⟩
abbrev s_rows_stand : Stmt := top 13
abbrev N_rows_stand : List Str := ["method", "node", "thing"]
theorem sc_rows_stand : FnScope N_rows_stand ["method", "node", "thing"] (defScope s_rows_stand) := ⟨rfl, rfl, rfl, by decide +kernel, rfl, by decide +kernel, by decide +kernel⟩
abbrev s_law_deck : Stmt := top 15
abbrev N_law_deck : List Str := ["_law_script", "_law_cell"]
theorem sc_law_deck : FnScope N_law_deck ["_law_script"] (defScope s_law_deck) := ⟨rfl, rfl, rfl, by decide +kernel, rfl, by decide +kernel, by decide +kernel⟩
abbrev s_law_draw : Stmt := top 16
abbrev N_law_draw : List Str := ["_law_deck_here", "_law_many", "_law_cell", "_law_place"]
theorem sc_law_draw : FnScope N_law_draw ["_law_deck_here", "_law_many"] (defScope s_law_draw) := ⟨rfl, rfl, rfl, by decide +kernel, rfl, by decide +kernel, by decide +kernel⟩
abbrev s_law_plain : Stmt := top 17
abbrev N_law_plain : List Str := ["_law_deck_here", "_law_at", "_law_way", "_law_number", "_law_node", "_law_made"]
theorem sc_law_plain : FnScope N_law_plain ["_law_deck_here", "_law_at"] (defScope s_law_plain) := ⟨rfl, rfl, rfl, by decide +kernel, rfl, by decide +kernel, by decide +kernel⟩
abbrev s_law_method : Stmt := top 18
abbrev N_law_method : List Str := ["_law_deck_here", "_law_way", "_law_first", "_law_node", "_law_many", "_law_inner", "_law_size", "_law_whole", "_law_made", "_law_statements", "_law_at"]
theorem sc_law_method : FnScope N_law_method ["_law_deck_here"] (defScope s_law_method) := ⟨rfl, rfl, rfl, by decide +kernel, rfl, by decide +kernel, by decide +kernel⟩
abbrev s_law_bad_part : Stmt := top 19
abbrev N_law_bad_part : List Str := ["_law_deck_here", "_law_part", "_law_way"]
theorem sc_law_bad_part : FnScope N_law_bad_part ["_law_deck_here", "_law_part"] (defScope s_law_bad_part) := ⟨rfl, rfl, rfl, by decide +kernel, rfl, by decide +kernel, by decide +kernel⟩
abbrev s_law_spoilt : Stmt := top 20
abbrev N_law_spoilt : List Str := ["_law_deck_here", "_law_made", "_law_way", "_law_at", "_law_row", "_law_place"]
theorem sc_law_spoilt : FnScope N_law_spoilt ["_law_deck_here", "_law_made"] (defScope s_law_spoilt) := ⟨rfl, rfl, rfl, by decide +kernel, rfl, by decide +kernel, by decide +kernel⟩
abbrev s_law : Stmt := top 21
abbrev N_law : List Str := ["_law_script", "_law_deck_here", "_law_method_here", "_law_made", "_law_k"]
theorem sc_law : FnScope N_law ["_law_script"] (defScope s_law) := ⟨rfl, rfl, rfl, by decide +kernel, rfl, by decide +kernel, by decide +kernel⟩
/-! ### what the top has left -/
structure DefT (K : PySem.W.Frag) (mg : Str → Option Value) (x qual : Str) (st : Stmt) (ps : List Str) where
  f : Addr
  fd : FuncData
  fn : Fun K x qual st f fd
  m : mg x = some (.ref f)
  b : Binds K fd ps []
theorem DefT.kp {K : PySem.W.Frag} {mg : Str → Option Value} {x qual : Str} {st : Stmt} {ps : List Str} (D : DefT K mg x qual st ps) : PySem.W.keepIn K (.ref D.f) = true := D.fn.kp
structure MetT (K : PySem.W.Frag) (C : Addr) (x qual : Str) (st : Stmt) (ps : List Str) where
  f : Addr
  fd : FuncData
  fn : Fun K x qual st f fd
  me : Meth K C x f
  b : Binds K fd ps []
structure InitT (K : PySem.W.Frag) (C : Addr) (x qual : Str) (st : Stmt) (ps : List Str) where
  f : Addr
  fd : FuncData
  fn : Fun K x qual st f fd
  mkk : Mk K C f
  b : Binds K fd ps []
/-- a method whose last parameter's default is an empty tuple at E -/
structure MetD (K : PySem.W.Frag) (C : Addr) (x qual : Str) (st : Stmt) (ps : List Str) where
  f : Addr
  fd : FuncData
  E : Addr
  e0 : ∀ H : Hp, SqT K H E []
  fn : FunD K x qual (defArgs st) (defBody st) (defScope st) [.ref E] [] f fd
  me : Meth K C x f
  b : Binds K fd ps []
  bd : Binds K fd ps [.ref E]
/-- a constant tuple of texts -/
structure TupT (K : PySem.W.Frag) (mg : Str → Option Value) (x : Str) (xs : List V) where
  a : Addr
  m : mg x = some (.ref a)
  t : ∀ H : Hp, SqT K H a xs
structure ShapeT (K : PySem.W.Frag) (mg : Str → Option Value) where
  C : Addr
  cl : Cls K C
  m : mg "Shape" = some (.ref C)
  n_tree : NoAttr K C "tree"
  n_nodes : NoAttr K C "nodes"
  n_above : NoAttr K C "above"
  n_children : NoAttr K C "children"
  n_code : NoAttr K C "code"
  n_codes : NoAttr K C "codes"
  n_names : NoAttr K C "names"
structure CompilerT (K : PySem.W.Frag) (mg : Str → Option Value) where
  C : Addr
  cl : Cls K C
  m : mg "Compiler" = some (.ref C)
  n_form : NoAttr K C "form"
  n_code : NoAttr K C "code"
  n_made : NoAttr K C "made"
structure Tx (K : PySem.W.Frag) (mg : Str → Option Value) where
  z_len : mg "len" = none
  z_range : mg "range" = none
  z_tuple : mg "tuple" = none
  z_list : mg "list" = none
  z_isinstance : mg "isinstance" = none
  z_abs : mg "abs" = none
  z_str : mg "str" = none
  z_int : mg "int" = none
  z_bool : mg "bool" = none
  z_enumerate : mg "enumerate" = none
  z_zip : mg "zip" = none
  z_all : mg "all" = none
  t_PARAMETERS : Tok
  c_PARAMETERS : mg "PARAMETERS" = some (.int 2 t_PARAMETERS)
  t_BODY : Tok
  c_BODY : mg "BODY" = some (.int 3 t_BODY)
  k_PLAIN : TupT K mg "PLAIN" [.str "number", .str "text", .str "truth"]
  k_ONE : TupT K mg "ONE" [.str "do", .str "say", .str "return", .str "raise"]
  Shape : ShapeT K mg
  Compiler : CompilerT K mg
  d_parts_of : DefT K mg "parts_of" "parts_of" s_parts_of ["node"]
  d_Shape_init__ : InitT K Shape.C "__init__" "Shape.__init__" s_Shape_init__ ["self", "method"]
  d_Shape_add : MetT K Shape.C "add" "Shape.add" s_Shape_add ["self", "node", "above", "code"]
  d_Shape_is_parameter : MetT K Shape.C "is_parameter" "Shape.is_parameter" s_Shape_is_parameter ["self", "word", "code"]
  d_Shape_all_names : MetT K Shape.C "all_names" "Shape.all_names" s_Shape_all_names ["self"]
  d_Shape_parameters : MetT K Shape.C "parameters" "Shape.parameters" s_Shape_parameters ["self", "code"]
  d_Shape_firsts : MetT K Shape.C "firsts" "Shape.firsts" s_Shape_firsts ["self", "code"]
  d_Shape_found : MetT K Shape.C "found" "Shape.found" s_Shape_found ["self", "word", "code"]
  d_Compiler_init__ : InitT K Compiler.C "__init__" "Compiler.__init__" s_Compiler_init__ ["self", "form", "code"]
  d_Compiler_come : MetD K Compiler.C "come" "Compiler.come" s_Compiler_come ["self", "at", "word", "more"]
  d_Compiler_mend : MetT K Compiler.C "mend" "Compiler.mend" s_Compiler_mend ["self", "number"]
  d_Compiler_worked : MetT K Compiler.C "worked" "Compiler.worked" s_Compiler_worked ["self", "at"]
  d_Compiler_used : MetT K Compiler.C "used" "Compiler.used" s_Compiler_used ["self", "at", "node"]
  d_Compiler_all_done : MetT K Compiler.C "all_done" "Compiler.all_done" s_Compiler_all_done ["self", "numbers"]
  d_Compiler_done : MetT K Compiler.C "done" "Compiler.done" s_Compiler_done ["self", "at"]
  d_Compiler_chosen : MetT K Compiler.C "chosen" "Compiler.chosen" s_Compiler_chosen ["self", "at", "node", "kids", "beat"]
  d_Compiler_tried : MetT K Compiler.C "tried" "Compiler.tried" s_Compiler_tried ["self", "at", "node", "kids"]
  d_Compiler_whole : MetT K Compiler.C "whole" "Compiler.whole" s_Compiler_whole ["self"]
  d_compiled : DefT K mg "compiled" "compiled" s_compiled ["form", "code"]
  d_rows_of : DefT K mg "rows_of" "rows_of" s_rows_of ["method", "node"]
  d_is_just : DefT K mg "is_just" "is_just" s_is_just ["thing", "due"]
  d_rows_stand : DefT K mg "rows_stand" "rows_stand" s_rows_stand ["method", "node", "thing"]
  d_law_deck : DefT K mg "_law_deck" "_law_deck" s_law_deck ["_law_script"]
  d_law_draw : DefT K mg "_law_draw" "_law_draw" s_law_draw ["_law_deck_here", "_law_many"]
  d_law_plain : DefT K mg "_law_plain" "_law_plain" s_law_plain ["_law_deck_here", "_law_at"]
  d_law_method : DefT K mg "_law_method" "_law_method" s_law_method ["_law_deck_here"]
  d_law_bad_part : DefT K mg "_law_bad_part" "_law_bad_part" s_law_bad_part ["_law_deck_here", "_law_part"]
  d_law_spoilt : DefT K mg "_law_spoilt" "_law_spoilt" s_law_spoilt ["_law_deck_here", "_law_made"]
  d_law : DefT K mg "law" "law" s_law ["_law_script"]
end My

set_option Elab.async false
set_option linter.all false
set_option maxRecDepth 100000
set_option maxHeartbeats 4000000
namespace My
open PySem L2 Sm
abbrev c_PARAMETERS : MV := (.int 2)
abbrev c_BODY : MV := (.int 3)
abbrev c_PLAIN : MV := (.tup [(.str "number"), (.str "text"), (.str "truth")])
abbrev c_ONE : MV := (.tup [(.str "do"), (.str "say"), (.str "return"), (.str "raise")])
@[irreducible] noncomputable def b_parts_of : MSt :=
    (sSeq (sSet 1 (eBin mIx (eVar 0) (eC (.int 0))))
    (sSeq (sIf (tOfE (eBin mIn (eVar 1) (eTup (aCons (eC (.str "set")) (aCons (eC (.str "setfield")) aNil)))))
    (sRet (eTup (aCons (eBin mIx (eVar 0) (eC (.int 2))) aNil)))
    sNil)
    (sSeq (sIf (tOfE (eBin mIn (eVar 1) (eTup (aCons (eC (.str "do")) (aCons (eC (.str "say")) (aCons (eC (.str "return")) (aCons (eC (.str "raise")) aNil)))))))
    (sRet (eTup (aCons (eBin mIx (eVar 0) (eC (.int 1))) aNil)))
    sNil)
    (sSeq (sIf (tOfE (eBin mEq (eVar 1) (eC (.str "if"))))
    (sRet (eBin mAdd (eBin mAdd (eTup (aCons (eBin mIx (eVar 0) (eC (.int 1))) aNil)) (eBin mIx (eVar 0) (eC (.int 2)))) (eBin mIx (eVar 0) (eC (.int 3)))))
    sNil)
    (sSeq (sIf (tOfE (eBin mEq (eVar 1) (eC (.str "while"))))
    (sRet (eBin mAdd (eTup (aCons (eBin mIx (eVar 0) (eC (.int 1))) aNil)) (eBin mIx (eVar 0) (eC (.int 2)))))
    sNil)
    (sSeq (sIf (tOfE (eBin mEq (eVar 1) (eC (.str "try"))))
    (sRet (eBin mAdd (eBin mIx (eVar 0) (eC (.int 1))) (eBin mIx (eVar 0) (eC (.int 3)))))
    sNil)
    (sSeq (sIf (tOfE (eBin mEq (eVar 1) (eC (.str "send"))))
    (sRet (eBin mAdd (eTup (aCons (eBin mIx (eVar 0) (eC (.int 1))) aNil)) (eBin mIx (eVar 0) (eC (.int 3)))))
    sNil)
    (sSeq (sIf (tOrM (tOfE (eBin mEq (eVar 1) (eC (.str "up")))) (tOfE (eBin mEq (eVar 1) (eC (.str "block")))))
    (sRet (eBin mIx (eVar 0) (eC (.int 2))))
    sNil)
    (sSeq (sIf (tOfE (eBin mEq (eVar 1) (eC (.str "list"))))
    (sRet (eBin mIx (eVar 0) (eC (.int 1))))
    sNil)
    (sRet (eTup aNil)))))))))))
noncomputable def m_parts_of : List MV → MH → Res MV := mfun 1 2 b_parts_of
theorem ne_parts_of : NoEx1 m_parts_of := mfun_noEx
@[irreducible] noncomputable def b_Shape_add (r_Shape_add : List MV → MH → Res MV) : MSt :=
    (sSeq (sSet 4 (eCallB mLen (aCons (eUn (mFld ["Shape"] "nodes") (eVar 0)) aNil)))
    (sSeq (sExpr (eBM "list" mAppend (eUn (mFld ["Shape"] "nodes") (eVar 0)) (aCons (eVar 1) aNil)))
    (sSeq (sExpr (eBM "list" mAppend (eUn (mFld ["Shape"] "above") (eVar 0)) (aCons (eVar 2) aNil)))
    (sSeq (sExpr (eBM "list" mAppend (eUn (mFld ["Shape"] "children") (eVar 0)) (aCons (eNew (lDisp aNil)) aNil)))
    (sSeq (sExpr (eBM "list" mAppend (eUn (mFld ["Shape", "Compiler"] "code") (eVar 0)) (aCons (eVar 3) aNil)))
    (sSeq (sSet 5 (eVar 3))
    (sSeq (sIf (tOfE (eBin mEq (eBin mIx (eVar 1) (eC (.int 0))) (eC (.str "block"))))
    (sSet 5 (eVar 4))
    sNil)
    (sSeq (sFor (iOf (eCallD m_parts_of [] (aCons (eVar 1) aNil))) (.one 6)
    (sExpr (eBM "list" mAppend (eBin mIx (eUn (mFld ["Shape"] "children") (eVar 0)) (eVar 4)) (aCons (eMeth "Shape" "add" r_Shape_add [] (eVar 0) (aCons (eVar 6) (aCons (eVar 4) (aCons (eVar 5) aNil)))) aNil))))
    (sRet (eVar 4))))))))))
noncomputable def m_Shape_add : Nat → List MV → MH → Res MV
  | 0 => fun _ _ => .bad
  | n + 1 => mfun 4 7 (b_Shape_add (m_Shape_add n))
theorem mZ_Shape_add : m_Shape_add 0 = fun _ _ => .bad := by rw [m_Shape_add]
theorem mS_Shape_add (n : Nat) : m_Shape_add (n + 1) = mfun 4 7 (b_Shape_add (m_Shape_add n)) := by rw [m_Shape_add]
theorem ne_Shape_add : ∀ n, NoEx1 (m_Shape_add n)
  | 0 => by rw [mZ_Shape_add]; exact neBad
  | n + 1 => by rw [mS_Shape_add]; exact mfun_noEx
@[irreducible] noncomputable def b_Shape_is_parameter : MSt :=
    (sSeq (sWhile (tOfE (eBin mGe (eVar 2) (eC (.int 0))))
    (sSeq (sIf (tOfE (eBin mIn (eVar 1) (eBin mIx (eBin mIx (eUn (mFld ["Shape"] "nodes") (eVar 0)) (eVar 2)) (eC (.int 1)))))
    (sRet (eC (.bl true)))
    sNil)
    (sSet 2 (eBin mIx (eUn (mFld ["Shape", "Compiler"] "code") (eVar 0)) (eVar 2)))))
    (sRet (eC (.bl false))))
noncomputable def m_Shape_is_parameter : List MV → MH → Res MV := mfun 3 3 b_Shape_is_parameter
theorem ne_Shape_is_parameter : NoEx1 m_Shape_is_parameter := mfun_noEx
@[irreducible] noncomputable def b_Shape_all_names : MSt :=
    (sSeq (sSet 1 (eNew (lOf (eBin mIx (eUn (mFld ["Shape"] "tree") (eVar 0)) (eC c_PARAMETERS)))))
    (sSeq (sFor (iEnumE (eUn (mFld ["Shape"] "nodes") (eVar 0))) (.many [2, 3])
    (sSeq (sSet 4 (eC .non))
    (sSeq (sIf (tOfE (eBin mEq (eBin mIx (eVar 3) (eC (.int 0))) (eC (.str "set"))))
    (sSet 4 (eBin mIx (eVar 3) (eC (.int 1))))
    (sIf (tOfE (eBin mEq (eBin mIx (eVar 3) (eC (.int 0))) (eC (.str "try"))))
    (sSet 4 (eBin mIx (eVar 3) (eC (.int 2))))
    sNil))
    (sIf (tAndM (tOfE (eBin mIsNot (eVar 4) (eC .non))) (tAndM (tOfE (eBin mNotIn (eVar 4) (eVar 1))) (tNotM (tOfE (eMeth "Shape" "is_parameter" m_Shape_is_parameter [] (eVar 0) (aCons (eVar 4) (aCons (eBin mIx (eUn (mFld ["Shape", "Compiler"] "code") (eVar 0)) (eVar 2)) aNil)))))))
    (sExpr (eBM "list" mAppend (eVar 1) (aCons (eVar 4) aNil)))
    sNil))))
    (sRet (eVar 1))))
noncomputable def m_Shape_all_names : List MV → MH → Res MV := mfun 1 5 b_Shape_all_names
theorem ne_Shape_all_names : NoEx1 m_Shape_all_names := mfun_noEx
@[irreducible] noncomputable def b_Shape_init__ : MSt :=
    (sSeq (sSetF ["Shape"] "tree" (eVar 0) (eVar 1))
    (sSeq (sSetF ["Shape"] "nodes" (eVar 0) (eNew (lDisp aNil)))
    (sSeq (sSetF ["Shape"] "above" (eVar 0) (eNew (lDisp aNil)))
    (sSeq (sSetF ["Shape"] "children" (eVar 0) (eNew (lDisp aNil)))
    (sSeq (sSetF ["Shape", "Compiler"] "code" (eVar 0) (eNew (lDisp aNil)))
    (sSeq (sFor (iOf (eBin mIx (eVar 1) (eC c_BODY))) (.one 2)
    (sExpr (eMeth "Shape" "add" (m_Shape_add 60) [] (eVar 0) (aCons (eVar 2) (aCons (eUn mNeg (eC (.int 1))) (aCons (eUn mNeg (eC (.int 1))) aNil))))))
    (sSeq (sSetF ["Shape"] "codes" (eVar 0) (eNew (lCat (lDisp (aCons (eUn mNeg (eC (.int 1))) aNil)) (lComp (iEnumE (eUn (mFld ["Shape"] "nodes") (eVar 0))) (.many [3, 4]) [3, 4] (tOfE (eBin mEq (eBin mIx (eVar 4) (eC (.int 0))) (eC (.str "block")))) (eVar 3)))))
    (sSetF ["Shape"] "names" (eVar 0) (eMeth "Shape" "all_names" m_Shape_all_names [] (eVar 0) aNil)))))))))
noncomputable def m_Shape_init__ : List MV → MH → Res MV := mfun 2 5 b_Shape_init__
theorem ne_Shape_init__ : NoEx1 m_Shape_init__ := mfun_noEx
@[irreducible] noncomputable def b_Shape_firsts : MSt :=
    (sSeq (sIf (tOfE (eBin mEq (eVar 1) (eUn mNeg (eC (.int 1)))))
    (sRet (eNew (lComp (iRange1 (aCons (eCallB mLen (aCons (eUn (mFld ["Shape"] "nodes") (eVar 0)) aNil)) aNil)) (.one 2) [2] (tOfE (eBin mEq (eBin mIx (eUn (mFld ["Shape"] "above") (eVar 0)) (eVar 2)) (eUn mNeg (eC (.int 1))))) (eVar 2))))
    sNil)
    (sRet (eNew (lOf (eBin mIx (eUn (mFld ["Shape"] "children") (eVar 0)) (eVar 1))))))
noncomputable def m_Shape_firsts : List MV → MH → Res MV := mfun 2 3 b_Shape_firsts
theorem ne_Shape_firsts : NoEx1 m_Shape_firsts := mfun_noEx
@[irreducible] noncomputable def b_Shape_found : MSt :=
    (sSeq (sSet 3 (eC (.int 0)))
    (sSeq (sWhile (tOfE (eBin mGe (eVar 2) (eC (.int 0))))
    (sSeq (sIf (tOfE (eBin mIn (eVar 1) (eBin mIx (eBin mIx (eUn (mFld ["Shape"] "nodes") (eVar 0)) (eVar 2)) (eC (.int 1)))))
    (sRet (eTup (aCons (eVar 3) (aCons (eBM "list" mIndex (eBin mIx (eBin mIx (eUn (mFld ["Shape"] "nodes") (eVar 0)) (eVar 2)) (eC (.int 1))) (aCons (eVar 1) aNil)) aNil))))
    sNil)
    (sSeq (sSet 2 (eBin mIx (eUn (mFld ["Shape", "Compiler"] "code") (eVar 0)) (eVar 2)))
    (sAug 3 mIadd (eC (.int 1))))))
    (sSeq (sIf (tOfE (eBin mIn (eVar 1) (eUn (mFld ["Shape"] "names") (eVar 0))))
    (sRet (eTup (aCons (eVar 3) (aCons (eBM "list" mIndex (eUn (mFld ["Shape"] "names") (eVar 0)) (aCons (eVar 1) aNil)) aNil))))
    sNil)
    (sRet (eC .non)))))
noncomputable def m_Shape_found : List MV → MH → Res MV := mfun 3 4 b_Shape_found
theorem ne_Shape_found : NoEx1 m_Shape_found := mfun_noEx
@[irreducible] noncomputable def b_Compiler_init__ : MSt :=
    (sSeq (sSetF ["Compiler"] "form" (eVar 0) (eVar 1))
    (sSeq (sSetF ["Shape", "Compiler"] "code" (eVar 0) (eVar 2))
    (sSetF ["Compiler"] "made" (eVar 0) (eNew (lDisp aNil)))))
noncomputable def m_Compiler_init__ : List MV → MH → Res MV := mfun 3 3 b_Compiler_init__
theorem ne_Compiler_init__ : NoEx1 m_Compiler_init__ := mfun_noEx
@[irreducible] noncomputable def b_Compiler_come : MSt :=
    (sSeq (sExpr (eBM "list" mAppend (eUn (mFld ["Compiler"] "made") (eVar 0)) (aCons (eBin mAdd (eTup (aCons (eVar 1) (aCons (eVar 2) aNil))) (eVar 3)) aNil)))
    (sRet (eBin mSub (eCallB mLen (aCons (eUn (mFld ["Compiler"] "made") (eVar 0)) aNil)) (eC (.int 1)))))
noncomputable def m_Compiler_come : List MV → MH → Res MV := mfun 4 4 b_Compiler_come
theorem ne_Compiler_come : NoEx1 m_Compiler_come := mfun_noEx
@[irreducible] noncomputable def b_Compiler_mend : MSt :=
    (sSeq (sSetT (.many [2, 3]) (eSl (eBin mIx (eUn (mFld ["Compiler"] "made") (eVar 0)) (eVar 1)) pNone (pSome (eC (.int 2)))))
    (sSetI (eUn (mFld ["Compiler"] "made") (eVar 0)) (eVar 1) (eTup (aCons (eVar 2) (aCons (eVar 3) (aCons (eCallB mLen (aCons (eUn (mFld ["Compiler"] "made") (eVar 0)) aNil)) aNil))))))
noncomputable def m_Compiler_mend : List MV → MH → Res MV := mfun 2 4 b_Compiler_mend
theorem ne_Compiler_mend : NoEx1 m_Compiler_mend := mfun_noEx
@[irreducible] noncomputable def b_Compiler_used : MSt :=
    (sIf (tOfE (eBin mEq (eBin mIx (eVar 2) (eC (.int 0))) (eC (.str "send"))))
    (sExpr (eMeth "Compiler" "come" m_Compiler_come [] (eVar 0) (aCons (eVar 1) (aCons (eC (.str "send")) (aCons (eTup (aCons (eBin mIx (eVar 2) (eC (.int 2))) (aCons (eCallB mLen (aCons (eBin mIx (eVar 2) (eC (.int 3))) aNil)) aNil))) aNil)))))
    (sIf (tOfE (eBin mEq (eBin mIx (eVar 2) (eC (.int 0))) (eC (.str "up"))))
    (sExpr (eMeth "Compiler" "come" m_Compiler_come [] (eVar 0) (aCons (eVar 1) (aCons (eC (.str "up")) (aCons (eTup (aCons (eBin mIx (eVar 2) (eC (.int 1))) (aCons (eCallB mLen (aCons (eBin mIx (eVar 2) (eC (.int 2))) aNil)) aNil))) aNil)))))
    (sExpr (eMeth "Compiler" "come" m_Compiler_come [] (eVar 0) (aCons (eVar 1) (aCons (eC (.str "list")) (aCons (eTup (aCons (eCallB mLen (aCons (eBin mIx (eVar 2) (eC (.int 1))) aNil)) aNil)) aNil)))))))
noncomputable def m_Compiler_used : List MV → MH → Res MV := mfun 3 3 b_Compiler_used
theorem ne_Compiler_used : NoEx1 m_Compiler_used := mfun_noEx
@[irreducible] noncomputable def b_Compiler_worked (r_Compiler_worked : List MV → MH → Res MV) : MSt :=
    (sSeq (sSet 2 (eBin mIx (eUn (mFld ["Shape"] "nodes") (eUn (mFld ["Compiler"] "form") (eVar 0))) (eVar 1)))
    (sSeq (sSet 3 (eBin mIx (eVar 2) (eC (.int 0))))
    (sSeq (sSet 4 (eBin mIx (eUn (mFld ["Shape"] "children") (eUn (mFld ["Compiler"] "form") (eVar 0))) (eVar 1)))
    (sIf (tOfE (eBin mIn (eVar 3) (eC c_PLAIN)))
    (sExpr (eMeth "Compiler" "come" m_Compiler_come [] (eVar 0) (aCons (eVar 1) (aCons (eC (.str "push")) (aCons (eTup (aCons (eBin mIx (eVar 2) (eC (.int 1))) aNil)) aNil)))))
    (sIf (tOfE (eBin mEq (eVar 3) (eC (.str "none"))))
    (sExpr (eMeth "Compiler" "come" m_Compiler_come [] (eVar 0) (aCons (eVar 1) (aCons (eC (.str "push")) (aCons (eTup (aCons (eC .non) aNil)) aNil)))))
    (sIf (tOfE (eBin mEq (eVar 3) (eC (.str "self"))))
    (sExpr (eMeth "Compiler" "come" m_Compiler_come [.tup []] (eVar 0) (aCons (eVar 1) (aCons (eC (.str "self")) aNil))))
    (sIf (tOfE (eBin mEq (eVar 3) (eC (.str "name"))))
    (sExpr (eMeth "Compiler" "come" m_Compiler_come [] (eVar 0) (aCons (eVar 1) (aCons (eC (.str "name")) (aCons (eMeth "Shape" "found" m_Shape_found [] (eUn (mFld ["Compiler"] "form") (eVar 0)) (aCons (eBin mIx (eVar 2) (eC (.int 1))) (aCons (eBin mIx (eUn (mFld ["Shape", "Compiler"] "code") (eUn (mFld ["Compiler"] "form") (eVar 0))) (eVar 1)) aNil))) aNil)))))
    (sIf (tOfE (eBin mEq (eVar 3) (eC (.str "block"))))
    (sExpr (eMeth "Compiler" "come" m_Compiler_come [] (eVar 0) (aCons (eVar 1) (aCons (eC (.str "block")) (aCons (eTup (aCons (eVar 1) aNil)) aNil)))))
    (sIf (tOfE (eBin mIn (eVar 3) (eTup (aCons (eC (.str "field")) (aCons (eC (.str "new")) aNil)))))
    (sExpr (eMeth "Compiler" "come" m_Compiler_come [] (eVar 0) (aCons (eVar 1) (aCons (eVar 3) (aCons (eTup (aCons (eBin mIx (eVar 2) (eC (.int 1))) aNil)) aNil)))))
    (sSeq (sFor (iOf (eVar 4)) (.one 5)
    (sExpr (eMeth "Compiler" "worked" r_Compiler_worked [] (eVar 0) (aCons (eVar 5) aNil))))
    (sExpr (eMeth "Compiler" "used" m_Compiler_used [] (eVar 0) (aCons (eVar 1) (aCons (eVar 2) aNil))))))))))))))
noncomputable def m_Compiler_worked : Nat → List MV → MH → Res MV
  | 0 => fun _ _ => .bad
  | n + 1 => mfun 2 6 (b_Compiler_worked (m_Compiler_worked n))
theorem mZ_Compiler_worked : m_Compiler_worked 0 = fun _ _ => .bad := by rw [m_Compiler_worked]
theorem mS_Compiler_worked (n : Nat) : m_Compiler_worked (n + 1) = mfun 2 6 (b_Compiler_worked (m_Compiler_worked n)) := by rw [m_Compiler_worked]
theorem ne_Compiler_worked : ∀ n, NoEx1 (m_Compiler_worked n)
  | 0 => by rw [mZ_Compiler_worked]; exact neBad
  | n + 1 => by rw [mS_Compiler_worked]; exact mfun_noEx
@[irreducible] noncomputable def b_Compiler_all_done (r_Compiler_all_done r_Compiler_done r_Compiler_chosen r_Compiler_tried : List MV → MH → Res MV) : MSt :=
    (sFor (iOf (eVar 1)) (.one 2)
    (sExpr (eMeth "Compiler" "done" r_Compiler_done [] (eVar 0) (aCons (eVar 2) aNil))))
@[irreducible] noncomputable def b_Compiler_done (r_Compiler_all_done r_Compiler_done r_Compiler_chosen r_Compiler_tried : List MV → MH → Res MV) : MSt :=
    (sSeq (sSet 2 (eBin mIx (eUn (mFld ["Shape"] "nodes") (eUn (mFld ["Compiler"] "form") (eVar 0))) (eVar 1)))
    (sSeq (sSet 3 (eBin mIx (eUn (mFld ["Shape"] "children") (eUn (mFld ["Compiler"] "form") (eVar 0))) (eVar 1)))
    (sSeq (sSet 4 (eMeth "Compiler" "come" m_Compiler_come [.tup []] (eVar 0) (aCons (eVar 1) (aCons (eC (.str "beat")) aNil))))
    (sIf (tOfE (eBin mIn (eBin mIx (eVar 2) (eC (.int 0))) (eC c_ONE)))
    (sSeq (sExpr (eMeth "Compiler" "worked" (m_Compiler_worked 60) [] (eVar 0) (aCons (eBin mIx (eVar 3) (eC (.int 0))) aNil)))
    (sExpr (eMeth "Compiler" "come" m_Compiler_come [.tup []] (eVar 0) (aCons (eVar 1) (aCons (eIf (tOfE (eBin mEq (eBin mIx (eVar 2) (eC (.int 0))) (eC (.str "do")))) (eC (.str "drop")) (eBin mIx (eVar 2) (eC (.int 0)))) aNil)))))
    (sIf (tOfE (eBin mEq (eBin mIx (eVar 2) (eC (.int 0))) (eC (.str "set"))))
    (sSeq (sExpr (eMeth "Compiler" "worked" (m_Compiler_worked 60) [] (eVar 0) (aCons (eBin mIx (eVar 3) (eC (.int 0))) aNil)))
    (sExpr (eMeth "Compiler" "come" m_Compiler_come [] (eVar 0) (aCons (eVar 1) (aCons (eC (.str "setname")) (aCons (eMeth "Shape" "found" m_Shape_found [] (eUn (mFld ["Compiler"] "form") (eVar 0)) (aCons (eBin mIx (eVar 2) (eC (.int 1))) (aCons (eBin mIx (eUn (mFld ["Shape", "Compiler"] "code") (eUn (mFld ["Compiler"] "form") (eVar 0))) (eVar 1)) aNil))) aNil))))))
    (sIf (tOfE (eBin mEq (eBin mIx (eVar 2) (eC (.int 0))) (eC (.str "setfield"))))
    (sSeq (sExpr (eMeth "Compiler" "worked" (m_Compiler_worked 60) [] (eVar 0) (aCons (eBin mIx (eVar 3) (eC (.int 0))) aNil)))
    (sExpr (eMeth "Compiler" "come" m_Compiler_come [] (eVar 0) (aCons (eVar 1) (aCons (eC (.str "setfield")) (aCons (eTup (aCons (eBin mIx (eVar 2) (eC (.int 1))) aNil)) aNil))))))
    (sIf (tOfE (eBin mEq (eBin mIx (eVar 2) (eC (.int 0))) (eC (.str "try"))))
    (sExpr (eMeth "Compiler" "tried" r_Compiler_tried [] (eVar 0) (aCons (eVar 1) (aCons (eVar 2) (aCons (eVar 3) aNil)))))
    (sExpr (eMeth "Compiler" "chosen" r_Compiler_chosen [] (eVar 0) (aCons (eVar 1) (aCons (eVar 2) (aCons (eVar 3) (aCons (eVar 4) aNil)))))))))))))
@[irreducible] noncomputable def b_Compiler_chosen (r_Compiler_all_done r_Compiler_done r_Compiler_chosen r_Compiler_tried : List MV → MH → Res MV) : MSt :=
    (sSeq (sSet 5 (eBin mAdd (eC (.int 1)) (eCallB mLen (aCons (eBin mIx (eVar 2) (eC (.int 2))) aNil))))
    (sSeq (sExpr (eMeth "Compiler" "worked" (m_Compiler_worked 60) [] (eVar 0) (aCons (eBin mIx (eVar 3) (eC (.int 0))) aNil)))
    (sSeq (sSet 6 (eMeth "Compiler" "come" m_Compiler_come [] (eVar 0) (aCons (eVar 1) (aCons (eC (.str "unless")) (aCons (eTup (aCons (eC (.int 0)) aNil)) aNil)))))
    (sSeq (sExpr (eMeth "Compiler" "all_done" r_Compiler_all_done [] (eVar 0) (aCons (eSl (eVar 3) (pSome (eC (.int 1))) (pSome (eVar 5))) aNil)))
    (sIf (tOfE (eBin mEq (eBin mIx (eVar 2) (eC (.int 0))) (eC (.str "while"))))
    (sSeq (sExpr (eMeth "Compiler" "come" m_Compiler_come [] (eVar 0) (aCons (eVar 1) (aCons (eC (.str "jump")) (aCons (eTup (aCons (eVar 4) aNil)) aNil)))))
    (sExpr (eMeth "Compiler" "mend" m_Compiler_mend [] (eVar 0) (aCons (eVar 6) aNil))))
    (sSeq (sSet 7 (eMeth "Compiler" "come" m_Compiler_come [] (eVar 0) (aCons (eVar 1) (aCons (eC (.str "jump")) (aCons (eTup (aCons (eC (.int 0)) aNil)) aNil)))))
    (sSeq (sExpr (eMeth "Compiler" "mend" m_Compiler_mend [] (eVar 0) (aCons (eVar 6) aNil)))
    (sSeq (sExpr (eMeth "Compiler" "all_done" r_Compiler_all_done [] (eVar 0) (aCons (eSl (eVar 3) (pSome (eVar 5)) pNone) aNil)))
    (sExpr (eMeth "Compiler" "mend" m_Compiler_mend [] (eVar 0) (aCons (eVar 7) aNil)))))))))))
@[irreducible] noncomputable def b_Compiler_tried (r_Compiler_all_done r_Compiler_done r_Compiler_chosen r_Compiler_tried : List MV → MH → Res MV) : MSt :=
    (sSeq (sSet 4 (eCallB mLen (aCons (eBin mIx (eVar 2) (eC (.int 1))) aNil)))
    (sSeq (sSet 5 (eMeth "Compiler" "come" m_Compiler_come [] (eVar 0) (aCons (eVar 1) (aCons (eC (.str "try")) (aCons (eTup (aCons (eC (.int 0)) aNil)) aNil)))))
    (sSeq (sExpr (eMeth "Compiler" "all_done" r_Compiler_all_done [] (eVar 0) (aCons (eSl (eVar 3) pNone (pSome (eVar 4))) aNil)))
    (sSeq (sExpr (eMeth "Compiler" "come" m_Compiler_come [.tup []] (eVar 0) (aCons (eVar 1) (aCons (eC (.str "untry")) aNil))))
    (sSeq (sSet 6 (eMeth "Compiler" "come" m_Compiler_come [] (eVar 0) (aCons (eVar 1) (aCons (eC (.str "jump")) (aCons (eTup (aCons (eC (.int 0)) aNil)) aNil)))))
    (sSeq (sExpr (eMeth "Compiler" "mend" m_Compiler_mend [] (eVar 0) (aCons (eVar 5) aNil)))
    (sSeq (sExpr (eMeth "Compiler" "come" m_Compiler_come [] (eVar 0) (aCons (eVar 1) (aCons (eC (.str "setname")) (aCons (eMeth "Shape" "found" m_Shape_found [] (eUn (mFld ["Compiler"] "form") (eVar 0)) (aCons (eBin mIx (eVar 2) (eC (.int 2))) (aCons (eBin mIx (eUn (mFld ["Shape", "Compiler"] "code") (eUn (mFld ["Compiler"] "form") (eVar 0))) (eVar 1)) aNil))) aNil)))))
    (sSeq (sExpr (eMeth "Compiler" "all_done" r_Compiler_all_done [] (eVar 0) (aCons (eSl (eVar 3) (pSome (eVar 4)) pNone) aNil)))
    (sExpr (eMeth "Compiler" "mend" m_Compiler_mend [] (eVar 0) (aCons (eVar 6) aNil)))))))))))
mutual
noncomputable def m_Compiler_all_done : Nat → List MV → MH → Res MV
  | 0 => fun _ _ => .bad
  | n + 1 => mfun 2 3 (b_Compiler_all_done (m_Compiler_all_done n) (m_Compiler_done n) (m_Compiler_chosen n) (m_Compiler_tried n))
noncomputable def m_Compiler_done : Nat → List MV → MH → Res MV
  | 0 => fun _ _ => .bad
  | n + 1 => mfun 2 5 (b_Compiler_done (m_Compiler_all_done n) (m_Compiler_done n) (m_Compiler_chosen n) (m_Compiler_tried n))
noncomputable def m_Compiler_chosen : Nat → List MV → MH → Res MV
  | 0 => fun _ _ => .bad
  | n + 1 => mfun 5 8 (b_Compiler_chosen (m_Compiler_all_done n) (m_Compiler_done n) (m_Compiler_chosen n) (m_Compiler_tried n))
noncomputable def m_Compiler_tried : Nat → List MV → MH → Res MV
  | 0 => fun _ _ => .bad
  | n + 1 => mfun 4 7 (b_Compiler_tried (m_Compiler_all_done n) (m_Compiler_done n) (m_Compiler_chosen n) (m_Compiler_tried n))
end
theorem mZ_Compiler_all_done : m_Compiler_all_done 0 = fun _ _ => .bad := by rw [m_Compiler_all_done]
theorem mS_Compiler_all_done (n : Nat) : m_Compiler_all_done (n + 1) = mfun 2 3 (b_Compiler_all_done (m_Compiler_all_done n) (m_Compiler_done n) (m_Compiler_chosen n) (m_Compiler_tried n)) := by rw [m_Compiler_all_done]
theorem mZ_Compiler_done : m_Compiler_done 0 = fun _ _ => .bad := by rw [m_Compiler_done]
theorem mS_Compiler_done (n : Nat) : m_Compiler_done (n + 1) = mfun 2 5 (b_Compiler_done (m_Compiler_all_done n) (m_Compiler_done n) (m_Compiler_chosen n) (m_Compiler_tried n)) := by rw [m_Compiler_done]
theorem mZ_Compiler_chosen : m_Compiler_chosen 0 = fun _ _ => .bad := by rw [m_Compiler_chosen]
theorem mS_Compiler_chosen (n : Nat) : m_Compiler_chosen (n + 1) = mfun 5 8 (b_Compiler_chosen (m_Compiler_all_done n) (m_Compiler_done n) (m_Compiler_chosen n) (m_Compiler_tried n)) := by rw [m_Compiler_chosen]
theorem mZ_Compiler_tried : m_Compiler_tried 0 = fun _ _ => .bad := by rw [m_Compiler_tried]
theorem mS_Compiler_tried (n : Nat) : m_Compiler_tried (n + 1) = mfun 4 7 (b_Compiler_tried (m_Compiler_all_done n) (m_Compiler_done n) (m_Compiler_chosen n) (m_Compiler_tried n)) := by rw [m_Compiler_tried]
theorem ne_Compiler_all_done : ∀ n, NoEx1 (m_Compiler_all_done n)
  | 0 => by rw [mZ_Compiler_all_done]; exact neBad
  | n + 1 => by rw [mS_Compiler_all_done]; exact mfun_noEx
theorem ne_Compiler_done : ∀ n, NoEx1 (m_Compiler_done n)
  | 0 => by rw [mZ_Compiler_done]; exact neBad
  | n + 1 => by rw [mS_Compiler_done]; exact mfun_noEx
theorem ne_Compiler_chosen : ∀ n, NoEx1 (m_Compiler_chosen n)
  | 0 => by rw [mZ_Compiler_chosen]; exact neBad
  | n + 1 => by rw [mS_Compiler_chosen]; exact mfun_noEx
theorem ne_Compiler_tried : ∀ n, NoEx1 (m_Compiler_tried n)
  | 0 => by rw [mZ_Compiler_tried]; exact neBad
  | n + 1 => by rw [mS_Compiler_tried]; exact mfun_noEx
@[irreducible] noncomputable def b_Compiler_whole : MSt :=
    (sSeq (sExpr (eMeth "Compiler" "all_done" (m_Compiler_all_done 60) [] (eVar 0) (aCons (eMeth "Shape" "firsts" m_Shape_firsts [] (eUn (mFld ["Compiler"] "form") (eVar 0)) (aCons (eUn (mFld ["Shape", "Compiler"] "code") (eVar 0)) aNil)) aNil)))
    (sSeq (sExpr (eMeth "Compiler" "come" m_Compiler_come [] (eVar 0) (aCons (eUn mNeg (eC (.int 1))) (aCons (eC (.str "push")) (aCons (eTup (aCons (eC .non) aNil)) aNil)))))
    (sSeq (sExpr (eMeth "Compiler" "come" m_Compiler_come [.tup []] (eVar 0) (aCons (eUn mNeg (eC (.int 1))) (aCons (eC (.str "return")) aNil))))
    (sRet (eCallB mTuple (aCons (eUn (mFld ["Compiler"] "made") (eVar 0)) aNil))))))
noncomputable def m_Compiler_whole : List MV → MH → Res MV := mfun 1 1 b_Compiler_whole
theorem ne_Compiler_whole : NoEx1 m_Compiler_whole := mfun_noEx
@[irreducible] noncomputable def b_compiled : MSt :=
    (sRet (eMeth "Compiler" "whole" m_Compiler_whole [] (eMake "Compiler" m_Compiler_init__ [] (aCons (eVar 0) (aCons (eVar 1) aNil))) aNil))
noncomputable def m_compiled : List MV → MH → Res MV := mfun 2 2 b_compiled
theorem ne_compiled : NoEx1 m_compiled := mfun_noEx
@[irreducible] noncomputable def b_rows_of : MSt :=
    (sRet (eCallD m_compiled [] (aCons (eMake "Shape" m_Shape_init__ [] (aCons (eVar 0) aNil)) (aCons (eVar 1) aNil))))
noncomputable def m_rows_of : List MV → MH → Res MV := mfun 2 2 b_rows_of
theorem ne_rows_of : NoEx1 m_rows_of := mfun_noEx
@[irreducible] noncomputable def b_is_just (r_is_just : List MV → MH → Res MV) : MSt :=
    (sSeq (sIf (tOfE (eUn (mIsi "tuple") (eVar 1)))
    (sSeq (sIf (tOrM (tNotM (tOfE (eUn (mIsi "tuple") (eVar 0)))) (tOfE (eBin mNe (eCallB mLen (aCons (eVar 0) aNil)) (eCallB mLen (aCons (eVar 1) aNil)))))
    (sRet (eC (.bl false)))
    sNil)
    (sRet (eCallB lAll (lComp (iZip2 (aCons (eVar 0) (aCons (eVar 1) aNil))) (.many [2, 3]) [2, 3] tYesM (eCallD r_is_just [] (aCons (eVar 2) (aCons (eVar 3) aNil)))))))
    sNil)
    (sSeq (sIf (tOfE (eBin mIs (eVar 1) (eC .non)))
    (sRet (eBin mIs (eVar 0) (eC .non)))
    sNil)
    (sSeq (sIf (tOrM (tOfE (eUn (mIsi "bool") (eVar 1))) (tOfE (eUn (mIsi "bool") (eVar 0))))
    (sRet (eAnd (eUn (mIsi "bool") (eVar 1)) (eAnd (eUn (mIsi "bool") (eVar 0)) (eBin mEq (eVar 0) (eVar 1)))))
    sNil)
    (sSeq (sIf (tOfE (eUn (mIsi "str") (eVar 1)))
    (sRet (eAnd (eUn (mIsi "str") (eVar 0)) (eBin mEq (eVar 0) (eVar 1))))
    sNil)
    (sRet (eAnd (eUn (mIsi "int") (eVar 0)) (eBin mEq (eVar 0) (eVar 1))))))))
noncomputable def m_is_just : Nat → List MV → MH → Res MV
  | 0 => fun _ _ => .bad
  | n + 1 => mfun 2 4 (b_is_just (m_is_just n))
theorem mZ_is_just : m_is_just 0 = fun _ _ => .bad := by rw [m_is_just]
theorem mS_is_just (n : Nat) : m_is_just (n + 1) = mfun 2 4 (b_is_just (m_is_just n)) := by rw [m_is_just]
theorem ne_is_just : ∀ n, NoEx1 (m_is_just n)
  | 0 => by rw [mZ_is_just]; exact neBad
  | n + 1 => by rw [mS_is_just]; exact mfun_noEx
@[irreducible] noncomputable def b_rows_stand : MSt :=
    (sRet (eCallD (m_is_just 60) [] (aCons (eVar 2) (aCons (eCallD m_rows_of [] (aCons (eVar 0) (aCons (eVar 1) aNil))) aNil))))
noncomputable def m_rows_stand : List MV → MH → Res MV := mfun 3 3 b_rows_stand
theorem ne_rows_stand : NoEx1 m_rows_stand := mfun_noEx
@[irreducible] noncomputable def b_law_deck : MSt :=
    (sRet (eNew (lDisp (aCons (eNew (lComp (iOf (eSl (eVar 0) pNone (pSome (eC (.int 63))))) (.one 1) [1] tYesM (eCallB mAbs (aCons (eVar 1) aNil)))) (aCons (eC (.int 0)) aNil)))))
noncomputable def m_law_deck : List MV → MH → Res MV := mfun 1 2 b_law_deck
theorem ne_law_deck : NoEx1 m_law_deck := mfun_noEx
@[irreducible] noncomputable def b_law_draw : MSt :=
    (sSeq (sSetI (eVar 0) (eC (.int 1)) (eBin mAdd (eBin mIx (eVar 0) (eC (.int 1))) (eC (.int 1))))
    (sSeq (sSet 2 (eC (.int 0)))
    (sSeq (sIf (tOfE (eBin mGt (eCallB mLen (aCons (eBin mIx (eVar 0) (eC (.int 0))) aNil)) (eC (.int 0))))
    (sSeq (sSet 3 (eBin mMod (eBin mIx (eVar 0) (eC (.int 1))) (eCallB mLen (aCons (eBin mIx (eVar 0) (eC (.int 0))) aNil))))
    (sSeq (sSet 2 (eBin mIx (eBin mIx (eVar 0) (eC (.int 0))) (eVar 3)))
    (sIf (tOfE (eBin mGe (eVar 2) (eBin mPow (eC (.int 10)) (eC (.int 18)))))
    (sSeq (sSetI (eBin mIx (eVar 0) (eC (.int 0))) (eVar 3) (eBin mDiv (eVar 2) (eVar 1)))
    (sRet (eBin mMod (eVar 2) (eVar 1))))
    sNil)))
    sNil)
    (sRet (eBin mMod (eBin mMod (eBin mPow (eBin mAdd (eBin mAdd (eBin mMod (eVar 2) (eC (.int 2147483587))) (eBin mMul (eC (.int 7919)) (eBin mIx (eVar 0) (eC (.int 1))))) (eC (.int 1))) (eC (.int 5))) (eC (.int 2147483647))) (eVar 1))))))
noncomputable def m_law_draw : List MV → MH → Res MV := mfun 2 4 b_law_draw
theorem ne_law_draw : NoEx1 m_law_draw := mfun_noEx
@[irreducible] noncomputable def b_law_plain : MSt :=
    (sSeq (sSet 2 (eCallD m_law_draw [] (aCons (eVar 0) (aCons (eC (.int 3)) aNil))))
    (sSeq (sSet 3 (eCallD m_law_draw [] (aCons (eVar 0) (aCons (eC (.int 3)) aNil))))
    (sSeq (sIf (tOfE (eBin mEq (eVar 2) (eC (.int 0))))
    (sSeq (sSet 4 (eTup (aCons (eC (.str "set")) (aCons (eC (.str "kept2")) (aCons (eTup (aCons (eC (.str "send")) (aCons (eTup (aCons (eC (.str "number")) (aCons (eVar 3) aNil))) (aCons (eC (.str "+")) (aCons (eTup (aCons (eTup (aCons (eC (.str "name")) (aCons (eC (.str "kept1")) aNil))) aNil)) aNil))))) aNil)))))
    (sSeq (sSet 5 (eNew (lDisp (aCons (eTup (aCons (eBin mAdd (eVar 1) (eC (.int 2))) (aCons (eC (.str "push")) (aCons (eVar 3) aNil)))) (aCons (eTup (aCons (eBin mAdd (eVar 1) (eC (.int 3))) (aCons (eC (.str "name")) (aCons (eC (.int 0)) (aCons (eC (.int 0)) aNil))))) (aCons (eTup (aCons (eBin mAdd (eVar 1) (eC (.int 1))) (aCons (eC (.str "send")) (aCons (eC (.str "+")) (aCons (eC (.int 1)) aNil))))) (aCons (eTup (aCons (eVar 1) (aCons (eC (.str "setname")) (aCons (eC (.int 0)) (aCons (eC (.int 1)) aNil))))) aNil)))))))
    (sRet (eTup (aCons (eVar 4) (aCons (eC (.int 4)) (aCons (eNew (lCatL (lDisp (aCons (eTup (aCons (eVar 1) (aCons (eC (.str "beat")) aNil))) aNil)) (eVar 5))) aNil)))))))
    sNil)
    (sSeq (sIf (tOfE (eBin mEq (eVar 2) (eC (.int 1))))
    (sSeq (sSet 4 (eTup (aCons (eC (.str "say")) (aCons (eTup (aCons (eC (.str "send")) (aCons (eTup (aCons (eC (.str "text")) (aCons (eC (.str "ab")) aNil))) (aCons (eC (.str "size")) (aCons (eTup aNil) aNil))))) aNil))))
    (sRet (eTup (aCons (eVar 4) (aCons (eC (.int 3)) (aCons (eNew (lDisp (aCons (eTup (aCons (eVar 1) (aCons (eC (.str "beat")) aNil))) (aCons (eTup (aCons (eBin mAdd (eVar 1) (eC (.int 2))) (aCons (eC (.str "push")) (aCons (eC (.str "ab")) aNil)))) (aCons (eTup (aCons (eBin mAdd (eVar 1) (eC (.int 1))) (aCons (eC (.str "send")) (aCons (eC (.str "size")) (aCons (eC (.int 0)) aNil))))) (aCons (eTup (aCons (eVar 1) (aCons (eC (.str "say")) aNil))) aNil)))))) aNil))))))
    sNil)
    (sSeq (sSet 4 (eTup (aCons (eC (.str "do")) (aCons (eTup (aCons (eC (.str "list")) (aCons (eTup (aCons (eTup (aCons (eC (.str "truth")) (aCons (eC (.bl true)) aNil))) (aCons (eTup (aCons (eC (.str "number")) (aCons (eC (.int 1)) aNil))) aNil))) aNil))) aNil))))
    (sSeq (sSet 5 (eNew (lDisp (aCons (eTup (aCons (eBin mAdd (eVar 1) (eC (.int 2))) (aCons (eC (.str "push")) (aCons (eC (.bl true)) aNil)))) (aCons (eTup (aCons (eBin mAdd (eVar 1) (eC (.int 3))) (aCons (eC (.str "push")) (aCons (eC (.int 1)) aNil)))) (aCons (eTup (aCons (eBin mAdd (eVar 1) (eC (.int 1))) (aCons (eC (.str "list")) (aCons (eC (.int 2)) aNil)))) (aCons (eTup (aCons (eVar 1) (aCons (eC (.str "drop")) aNil))) aNil)))))))
    (sRet (eTup (aCons (eVar 4) (aCons (eC (.int 4)) (aCons (eNew (lCatL (lDisp (aCons (eTup (aCons (eVar 1) (aCons (eC (.str "beat")) aNil))) aNil)) (eVar 5))) aNil)))))))))))
noncomputable def m_law_plain : List MV → MH → Res MV := mfun 2 6 b_law_plain
theorem ne_law_plain : NoEx1 m_law_plain := mfun_noEx
@[irreducible] noncomputable def b_law_method : MSt :=
    (sSeq (sSet 1 (eCallD m_law_draw [] (aCons (eVar 0) (aCons (eC (.int 3)) aNil))))
    (sSeq (sSet 2 (eBin mAdd (eC (.int 1)) (eCallB mInt (aCons (eBin mLt (eVar 1) (eC (.int 2))) aNil))))
    (sSeq (sSetT (.many [3, 4, 5]) (eCallD m_law_plain [] (aCons (eVar 0) (aCons (eVar 2) aNil))))
    (sSeq (sSet 6 (eCallB mLen (aCons (eVar 5) aNil)))
    (sSeq (sIf (tOfE (eBin mEq (eVar 1) (eC (.int 0))))
    (sSeq (sSet 7 (eTup (aCons (eC (.str "if")) (aCons (eTup (aCons (eC (.str "truth")) (aCons (eC (.bl true)) aNil))) (aCons (eTup (aCons (eVar 3) aNil)) (aCons (eTup aNil) aNil))))))
    (sSet 8 (eNew (lCat (lCatL (lDisp (aCons (eTup (aCons (eC (.int 0)) (aCons (eC (.str "beat")) aNil))) (aCons (eTup (aCons (eC (.int 1)) (aCons (eC (.str "push")) (aCons (eC (.bl true)) aNil)))) (aCons (eTup (aCons (eC (.int 0)) (aCons (eC (.str "unless")) (aCons (eBin mAdd (eVar 6) (eC (.int 4))) aNil)))) aNil)))) (eVar 5)) (lDisp (aCons (eTup (aCons (eC (.int 0)) (aCons (eC (.str "jump")) (aCons (eBin mAdd (eVar 6) (eC (.int 4))) aNil)))) aNil))))))
    (sIf (tOfE (eBin mEq (eVar 1) (eC (.int 1))))
    (sSeq (sSet 7 (eTup (aCons (eC (.str "while")) (aCons (eTup (aCons (eC (.str "truth")) (aCons (eC (.bl false)) aNil))) (aCons (eTup (aCons (eVar 3) aNil)) aNil)))))
    (sSet 8 (eNew (lCat (lCatL (lDisp (aCons (eTup (aCons (eC (.int 0)) (aCons (eC (.str "beat")) aNil))) (aCons (eTup (aCons (eC (.int 1)) (aCons (eC (.str "push")) (aCons (eC (.bl false)) aNil)))) (aCons (eTup (aCons (eC (.int 0)) (aCons (eC (.str "unless")) (aCons (eBin mAdd (eVar 6) (eC (.int 4))) aNil)))) aNil)))) (eVar 5)) (lDisp (aCons (eTup (aCons (eC (.int 0)) (aCons (eC (.str "jump")) (aCons (eC (.int 0)) aNil)))) aNil))))))
    (sSeq (sSet 7 (eTup (aCons (eC (.str "try")) (aCons (eTup (aCons (eVar 3) aNil)) (aCons (eC (.str "kept2")) (aCons (eTup aNil) aNil))))))
    (sSeq (sSet 8 (eNew (lCatL (lDisp (aCons (eTup (aCons (eC (.int 0)) (aCons (eC (.str "beat")) aNil))) (aCons (eTup (aCons (eC (.int 0)) (aCons (eC (.str "try")) (aCons (eBin mAdd (eVar 6) (eC (.int 4))) aNil)))) aNil))) (eVar 5))))
    (sSet 8 (eNew (lCatE (eVar 8) (lDisp (aCons (eTup (aCons (eC (.int 0)) (aCons (eC (.str "untry")) aNil))) (aCons (eTup (aCons (eC (.int 0)) (aCons (eC (.str "jump")) (aCons (eBin mAdd (eVar 6) (eC (.int 5))) aNil)))) (aCons (eTup (aCons (eC (.int 0)) (aCons (eC (.str "setname")) (aCons (eC (.int 0)) (aCons (eC (.int 1)) aNil))))) aNil)))))))))))
    (sSeq (sSet 9 (eNew (lDisp (aCons (eVar 7) (aCons (eTup (aCons (eC (.str "set")) (aCons (eC (.str "kept2")) (aCons (eTup (aCons (eC (.str "number")) (aCons (eC (.int 0)) aNil))) aNil)))) aNil)))))
    (sSeq (sSet 10 (eBin mAdd (eVar 2) (eVar 4)))
    (sSeq (sSet 8 (eNew (lCatE (eVar 8) (lDisp (aCons (eTup (aCons (eVar 10) (aCons (eC (.str "beat")) aNil))) (aCons (eTup (aCons (eBin mAdd (eVar 10) (eC (.int 1))) (aCons (eC (.str "push")) (aCons (eC (.int 0)) aNil)))) (aCons (eTup (aCons (eVar 10) (aCons (eC (.str "setname")) (aCons (eC (.int 0)) (aCons (eC (.int 1)) aNil))))) (aCons (eTup (aCons (eUn mNeg (eC (.int 1))) (aCons (eC (.str "push")) (aCons (eC .non) aNil)))) (aCons (eTup (aCons (eUn mNeg (eC (.int 1))) (aCons (eC (.str "return")) aNil))) aNil)))))))))
    (sRet (eTup (aCons (eTup (aCons (eC (.str "method")) (aCons (eC (.str "go")) (aCons (eTup (aCons (eC (.str "kept1")) aNil)) (aCons (eCallB mTuple (aCons (eVar 9) aNil)) aNil))))) (aCons (eVar 8) aNil))))))))))))
noncomputable def m_law_method : List MV → MH → Res MV := mfun 1 11 b_law_method
theorem ne_law_method : NoEx1 m_law_method := mfun_noEx
@[irreducible] noncomputable def b_law_bad_part : MSt :=
    (sSeq (sSet 2 (eCallD m_law_draw [] (aCons (eVar 0) (aCons (eC (.int 4)) aNil))))
    (sSeq (sIf (tOfE (eUn (mIsi "bool") (eVar 1)))
    (sRet (eIxL (lDisp (aCons (eNot (eVar 1)) (aCons (eCallB mInt (aCons (eVar 1) aNil)) (aCons (eC .non) (aCons (eCallB mStr (aCons (eVar 1) aNil)) aNil))))) (eVar 2)))
    sNil)
    (sSeq (sIf (tOfE (eUn (mIsi "int") (eVar 1)))
    (sRet (eIxL (lDisp (aCons (eBin mAdd (eVar 1) (eC (.int 1))) (aCons (eBin mSub (eVar 1) (eC (.int 1))) (aCons (eCallB mStr (aCons (eVar 1) aNil)) (aCons (eIxL (lDisp (aCons (eCallB mBool (aCons (eVar 1) aNil)) (aCons (eC .non) aNil))) (eCallB mInt (aCons (eOr (eBin mGt (eVar 1) (eC (.int 1))) (eBin mLt (eVar 1) (eC (.int 0)))) aNil))) aNil))))) (eVar 2)))
    sNil)
    (sSeq (sIf (tOfE (eBin mIs (eVar 1) (eC .non)))
    (sRet (eIxL (lDisp (aCons (eC (.bl false)) (aCons (eC (.int 0)) (aCons (eC (.str "None")) (aCons (eTup aNil) aNil))))) (eVar 2)))
    sNil)
    (sRet (eIxL (lDisp (aCons (eBin mAdd (eVar 1) (eC (.str "s"))) (aCons (eSl (eVar 1) pNone (pSome (eUn mNeg (eC (.int 1))))) (aCons (eC .non) (aCons (eTup (aCons (eVar 1) aNil)) aNil))))) (eVar 2)))))))
noncomputable def m_law_bad_part : List MV → MH → Res MV := mfun 2 3 b_law_bad_part
theorem ne_law_bad_part : NoEx1 m_law_bad_part := mfun_noEx
@[irreducible] noncomputable def b_law_spoilt : MSt :=
    (sSeq (sSet 2 (eCallD m_law_draw [] (aCons (eVar 0) (aCons (eC (.int 8)) aNil))))
    (sSeq (sSet 3 (eCallD m_law_draw [] (aCons (eVar 0) (aCons (eCallB mLen (aCons (eVar 1) aNil)) aNil))))
    (sSeq (sSet 4 (eBin mIx (eVar 1) (eVar 3)))
    (sSeq (sIf (tOfE (eBin mEq (eVar 2) (eC (.int 0))))
    (sRet (eCallB mTuple (aCons (eBin mAdd (eSl (eVar 1) pNone (pSome (eVar 3))) (eSl (eVar 1) (pSome (eBin mAdd (eVar 3) (eC (.int 1)))) pNone)) aNil)))
    sNil)
    (sSeq (sIf (tOfE (eBin mEq (eVar 2) (eC (.int 1))))
    (sRet (eCallB lTuple (lCatL (lCatE (eSl (eVar 1) pNone (pSome (eVar 3))) (lDisp (aCons (eVar 4) aNil))) (eSl (eVar 1) (pSome (eVar 3)) pNone))))
    sNil)
    (sSeq (sIf (tOfE (eBin mEq (eVar 2) (eC (.int 2))))
    (sRet (eCallB lTuple (lCatE (eVar 1) (lDisp (aCons (eBin mIx (eVar 1) (eUn mNeg (eC (.int 1)))) aNil)))))
    sNil)
    (sSeq (sIf (tOfE (eBin mEq (eVar 2) (eC (.int 3))))
    (sRet (eCallB lTuple (lCatL (lCatE (eSl (eVar 1) pNone (pSome (eVar 3))) (lDisp (aCons (eBin mAdd (eVar 4) (eTup (aCons (eC (.int 0)) aNil))) aNil))) (eSl (eVar 1) (pSome (eBin mAdd (eVar 3) (eC (.int 1)))) pNone))))
    sNil)
    (sSeq (sIf (tOfE (eBin mEq (eVar 2) (eC (.int 4))))
    (sRet (eCallB lTuple (lCatL (lCatE (eSl (eVar 1) pNone (pSome (eVar 3))) (lDisp (aCons (eNew (lOf (eVar 4))) aNil))) (eSl (eVar 1) (pSome (eBin mAdd (eVar 3) (eC (.int 1)))) pNone))))
    sNil)
    (sSeq (sIf (tOfE (eBin mEq (eVar 2) (eC (.int 5))))
    (sRet (eIxL (lDisp (aCons (eNew (lOf (eVar 1))) (aCons (eC .non) (aCons (eTup aNil) (aCons (eC (.str "rows")) (aCons (eC (.int 0)) (aCons eDict0 aNil))))))) (eCallD m_law_draw [] (aCons (eVar 0) (aCons (eC (.int 6)) aNil)))))
    sNil)
    (sSeq (sIf (tAndM (tOfE (eBin mEq (eVar 2) (eC (.int 6)))) (tOfE (eBin mGt (eVar 3) (eC (.int 0)))))
    (sRet (eCallB lTuple (lCatL (lCatE (eSl (eVar 1) pNone (pSome (eBin mSub (eVar 3) (eC (.int 1))))) (lDisp (aCons (eVar 4) (aCons (eBin mIx (eVar 1) (eBin mSub (eVar 3) (eC (.int 1)))) aNil)))) (eSl (eVar 1) (pSome (eBin mAdd (eVar 3) (eC (.int 1)))) pNone))))
    sNil)
    (sSeq (sSet 5 (eCallD m_law_draw [] (aCons (eVar 0) (aCons (eCallB mLen (aCons (eVar 4) aNil)) aNil))))
    (sRet (eCallB lTuple (lCatL (lCatE (eSl (eVar 1) pNone (pSome (eVar 3))) (lDisp (aCons (eBin mAdd (eBin mAdd (eSl (eVar 4) pNone (pSome (eVar 5))) (eTup (aCons (eCallD m_law_bad_part [] (aCons (eVar 0) (aCons (eBin mIx (eVar 4) (eVar 5)) aNil))) aNil))) (eSl (eVar 4) (pSome (eBin mAdd (eVar 5) (eC (.int 1)))) pNone)) aNil))) (eSl (eVar 1) (pSome (eBin mAdd (eVar 3) (eC (.int 1)))) pNone)))))))))))))))
noncomputable def m_law_spoilt : List MV → MH → Res MV := mfun 2 6 b_law_spoilt
theorem ne_law_spoilt : NoEx1 m_law_spoilt := mfun_noEx
@[irreducible] noncomputable def b_law : MSt :=
    (sSeq (sSet 1 (eCallD m_law_deck [] (aCons (eVar 0) aNil)))
    (sSeq (sSetT (.many [2, 3]) (eCallD m_law_method [] (aCons (eVar 1) aNil)))
    (sSeq (sIf (tNotM (tOfE (eCallD m_rows_stand [] (aCons (eVar 2) (aCons (eUn mNeg (eC (.int 1))) (aCons (eCallB mTuple (aCons (eVar 3) aNil)) aNil))))))
    (sRet (eC (.bl false)))
    sNil)
    (sSeq (sFor (iRange1 (aCons (eC (.int 4)) aNil)) (.one 4)
    (sIf (tOfE (eCallD m_rows_stand [] (aCons (eVar 2) (aCons (eUn mNeg (eC (.int 1))) (aCons (eCallD m_law_spoilt [] (aCons (eVar 1) (aCons (eVar 3) aNil))) aNil)))))
    (sRet (eC (.bl false)))
    sNil))
    (sRet (eC (.bl true)))))))
noncomputable def m_law : List MV → MH → Res MV := mfun 1 5 b_law
theorem ne_law : NoEx1 m_law := mfun_noEx
end My

set_option Elab.async false
set_option linter.all false
set_option maxRecDepth 100000
set_option maxHeartbeats 4000000
namespace My
open PySem L2 Sm
def clOf {K : PySem.W.Frag} {mg : Str → Option Value} (T : Tx K mg) : Str → Option Addr := fun c => if c = "Shape" then some T.Shape.C else if c = "Compiler" then some T.Compiler.C else none
theorem cl_Shape {K : PySem.W.Frag} {mg : Str → Option Value} (T : Tx K mg) : clOf T "Shape" = some T.Shape.C := by
  unfold clOf; rw [if_pos rfl]
theorem cl_Compiler {K : PySem.W.Frag} {mg : Str → Option Value} (T : Tx K mg) : clOf T "Compiler" = some T.Compiler.C := by
  unfold clOf; rw [if_neg (by decide +kernel), if_pos rfl]
theorem fl_tree {K : PySem.W.Frag} {mg : Str → Option Value} (T : Tx K mg) : FldOk K (clOf T) ["Shape"] "tree" := fld1 (cl_Shape T) T.Shape.cl T.Shape.n_tree
theorem fl_nodes {K : PySem.W.Frag} {mg : Str → Option Value} (T : Tx K mg) : FldOk K (clOf T) ["Shape"] "nodes" := fld1 (cl_Shape T) T.Shape.cl T.Shape.n_nodes
theorem fl_above {K : PySem.W.Frag} {mg : Str → Option Value} (T : Tx K mg) : FldOk K (clOf T) ["Shape"] "above" := fld1 (cl_Shape T) T.Shape.cl T.Shape.n_above
theorem fl_children {K : PySem.W.Frag} {mg : Str → Option Value} (T : Tx K mg) : FldOk K (clOf T) ["Shape"] "children" := fld1 (cl_Shape T) T.Shape.cl T.Shape.n_children
theorem fl_code {K : PySem.W.Frag} {mg : Str → Option Value} (T : Tx K mg) : FldOk K (clOf T) ["Shape", "Compiler"] "code" := fldCons (cl_Shape T) T.Shape.cl T.Shape.n_code (fld1 (cl_Compiler T) T.Compiler.cl T.Compiler.n_code)
theorem fl_codes {K : PySem.W.Frag} {mg : Str → Option Value} (T : Tx K mg) : FldOk K (clOf T) ["Shape"] "codes" := fld1 (cl_Shape T) T.Shape.cl T.Shape.n_codes
theorem fl_names {K : PySem.W.Frag} {mg : Str → Option Value} (T : Tx K mg) : FldOk K (clOf T) ["Shape"] "names" := fld1 (cl_Shape T) T.Shape.cl T.Shape.n_names
theorem fl_form {K : PySem.W.Frag} {mg : Str → Option Value} (T : Tx K mg) : FldOk K (clOf T) ["Compiler"] "form" := fld1 (cl_Compiler T) T.Compiler.cl T.Compiler.n_form
theorem fl_made {K : PySem.W.Frag} {mg : Str → Option Value} (T : Tx K mg) : FldOk K (clOf T) ["Compiler"] "made" := fld1 (cl_Compiler T) T.Compiler.cl T.Compiler.n_made
section
variable {P : Program} {w : World} {K : PySem.W.Frag} {mg : Str → Option Value} {base : Heap}
theorem ok_parts_of (T : Tx K mg) : FnOk P w K mg base CX0 1 T.d_parts_of.f T.d_parts_of.fd ["node"] (spM K (clOf T) m_parts_of) := by
  have nd := sc_parts_of.nd
  unfold m_parts_of b_parts_of
  exact fnM (k := 0) T.d_parts_of.fn sc_parts_of fun cdv A outer s H E hr =>
    (sss_cons (ss_set (i := 1) nd rfl (Or.inl rfl) (x_ix hr (se_var (pv 0)) se_int (fun _ _ => rfl)))
    (sss_cons (ss_if (t_In hr (se_var (pv 1)) (se_tup (sa_cons se_str (sa_cons se_str sa_nil))))
    (sss_one (ss_ret (se_tup (sa_cons (x_ix hr (se_var (pv 0)) se_int (fun _ _ => rfl)) sa_nil))))
    sss_nil)
    (sss_cons (ss_if (t_In hr (se_var (pv 1)) (se_tup (sa_cons se_str (sa_cons se_str (sa_cons se_str (sa_cons se_str sa_nil))))))
    (sss_one (ss_ret (se_tup (sa_cons (x_ix hr (se_var (pv 0)) se_int (fun _ _ => rfl)) sa_nil))))
    sss_nil)
    (sss_cons (ss_if (t_Eq hr (se_var (pv 1)) se_str)
    (sss_one (ss_ret (b_Add (b_Add (se_tup (sa_cons (x_ix hr (se_var (pv 0)) se_int (fun _ _ => rfl)) sa_nil)) (x_ix hr (se_var (pv 0)) se_int (fun _ _ => rfl))) (x_ix hr (se_var (pv 0)) se_int (fun _ _ => rfl)))))
    sss_nil)
    (sss_cons (ss_if (t_Eq hr (se_var (pv 1)) se_str)
    (sss_one (ss_ret (b_Add (se_tup (sa_cons (x_ix hr (se_var (pv 0)) se_int (fun _ _ => rfl)) sa_nil)) (x_ix hr (se_var (pv 0)) se_int (fun _ _ => rfl)))))
    sss_nil)
    (sss_cons (ss_if (t_Eq hr (se_var (pv 1)) se_str)
    (sss_one (ss_ret (b_Add (x_ix hr (se_var (pv 0)) se_int (fun _ _ => rfl)) (x_ix hr (se_var (pv 0)) se_int (fun _ _ => rfl)))))
    sss_nil)
    (sss_cons (ss_if (t_Eq hr (se_var (pv 1)) se_str)
    (sss_one (ss_ret (b_Add (se_tup (sa_cons (x_ix hr (se_var (pv 0)) se_int (fun _ _ => rfl)) sa_nil)) (x_ix hr (se_var (pv 0)) se_int (fun _ _ => rfl)))))
    sss_nil)
    (sss_cons (ss_if (PW.pt (sw_or (t_Eq hr (se_var (pv 1)) se_str) (sw_or1 (t_Eq hr (se_var (pv 1)) se_str))))
    (sss_one (ss_ret (x_ix hr (se_var (pv 0)) se_int (fun _ _ => rfl))))
    sss_nil)
    (sss_cons (ss_if (t_Eq hr (se_var (pv 1)) se_str)
    (sss_one (ss_ret (x_ix hr (se_var (pv 0)) se_int (fun _ _ => rfl))))
    sss_nil)
    (sss_one (ss_ret (se_tup sa_nil))))))))))))
theorem okb_Shape_add (T : Tx K mg) (n : Nat) {r_Shape_add : List MV → MH → Res MV} (ne0 : NoEx1 r_Shape_add) (F0 : FnOk P w K mg base CX0 (1 + n) T.d_Shape_add.f T.d_Shape_add.fd ["self", "node", "above", "code"] (spM K (clOf T) r_Shape_add)) :
    FnOk P w K mg base CX0 (1 + n + 1) T.d_Shape_add.f T.d_Shape_add.fd ["self", "node", "above", "code"] (spM K (clOf T) (mfun 4 7 (b_Shape_add r_Shape_add))) := by
  have nd := sc_Shape_add.nd
  unfold b_Shape_add
  exact fnM T.d_Shape_add.fn sc_Shape_add fun cdv A outer s H E hr =>
    (sss_cons (ss_set (i := 4) nd rfl (Or.inl rfl) (se_callB mLen_noEx lenM (by rfl) T.z_len (by decide +kernel) (sa_cons (se_fld (fl_nodes T) (se_var (pv 0))) sa_nil)))
    (sss_cons (ss_expr (se_bm mAppend_noEx PySem.F.plainAttrs_list PySem.F.slot_list_append PySem.F.type_list_append appendM (se_fld (fl_nodes T) (se_var (pv 0))) (sa_cons (se_var (pv 1)) sa_nil)))
    (sss_cons (ss_expr (se_bm mAppend_noEx PySem.F.plainAttrs_list PySem.F.slot_list_append PySem.F.type_list_append appendM (se_fld (fl_above T) (se_var (pv 0))) (sa_cons (se_var (pv 2)) sa_nil)))
    (sss_cons (ss_expr (se_bm mAppend_noEx PySem.F.plainAttrs_list PySem.F.slot_list_append PySem.F.type_list_append appendM (se_fld (fl_children T) (se_var (pv 0))) (sa_cons (se_new (sl_disp sa_nil)) sa_nil)))
    (sss_cons (ss_expr (se_bm mAppend_noEx PySem.F.plainAttrs_list PySem.F.slot_list_append PySem.F.type_list_append appendM (se_fld (fl_code T) (se_var (pv 0))) (sa_cons (se_var (pv 3)) sa_nil)))
    (sss_cons (ss_set (i := 5) nd rfl (Or.inl rfl) (se_var (pv 3)))
    (sss_cons (ss_if (t_Eq hr (x_ix hr (se_var (pv 1)) se_int (fun _ _ => rfl)) se_str)
    (sss_one (ss_set (i := 5) nd rfl (Or.inl rfl) (se_var (pv 4))))
    sss_nil)
    (sss_cons (ss_for (t := (Tg.one 6)) PassesOwn.never rfl (si_of (se_call ne_parts_of (ok_parts_of T) (hr.mono (by omega)) rfl T.d_parts_of.m T.d_parts_of.kp T.d_parts_of.b (sa_cons (se_var (pv 1)) sa_nil))) (pg_name (i := 6) nd rfl (Or.inl rfl))
    (sss_one (ss_expr (se_bm mAppend_noEx PySem.F.plainAttrs_list PySem.F.slot_list_append PySem.F.type_list_append appendM (x_ix hr (se_fld (fl_children T) (se_var (pv 0))) (se_var (pv 4)) (fun _ _ => rfl)) (sa_cons (se_meth ne0 (fun _ _ => .nil) (cl_Shape T) (se_var (pv 0)) T.Shape.cl T.d_Shape_add.me F0 (hr.mono (by omega)) T.d_Shape_add.b .nil (sa_cons (se_var (pv 6)) (sa_cons (se_var (pv 4)) (sa_cons (se_var (pv 5)) sa_nil)))) sa_nil)))))
    (sss_one (ss_ret (se_var (pv 4))))))))))))
theorem ok_Shape_add (T : Tx K mg) : ∀ n : Nat, FnOk P w K mg base CX0 (1 + n) T.d_Shape_add.f T.d_Shape_add.fd ["self", "node", "above", "code"] (spM K (clOf T) (m_Shape_add n))
  | 0 => by
    simp only [mZ_Shape_add]
    exact fnNever
  | n + 1 => by
    have ih := ok_Shape_add T n
    simp only [mS_Shape_add]
    exact okb_Shape_add T n (ne_Shape_add n) ih
theorem ok_Shape_is_parameter (T : Tx K mg) : FnOk P w K mg base CX0 1 T.d_Shape_is_parameter.f T.d_Shape_is_parameter.fd ["self", "word", "code"] (spM K (clOf T) m_Shape_is_parameter) := by
  have nd := sc_Shape_is_parameter.nd
  unfold m_Shape_is_parameter b_Shape_is_parameter
  exact fnM (k := 0) T.d_Shape_is_parameter.fn sc_Shape_is_parameter fun cdv A outer s H E hr =>
    (sss_cons (ss_while PassesOwn.never (t_GtE (se_var (pv 2)) se_int)
    (sss_cons (ss_if (t_In hr (se_var (pv 1)) (x_ix hr (x_ix hr (se_fld (fl_nodes T) (se_var (pv 0))) (se_var (pv 2)) (fun _ _ => rfl)) se_int (fun _ _ => rfl)))
    (sss_one (ss_ret se_bl))
    sss_nil)
    (sss_one (ss_set (i := 2) nd rfl (Or.inl rfl) (x_ix hr (se_fld (fl_code T) (se_var (pv 0))) (se_var (pv 2)) (fun _ _ => rfl))))))
    (sss_one (ss_ret se_bl)))
theorem ok_Shape_all_names (T : Tx K mg) : FnOk P w K mg base CX0 2 T.d_Shape_all_names.f T.d_Shape_all_names.fd ["self"] (spM K (clOf T) m_Shape_all_names) := by
  have nd := sc_Shape_all_names.nd
  unfold m_Shape_all_names b_Shape_all_names
  exact fnM (k := 1) T.d_Shape_all_names.fn sc_Shape_all_names fun cdv A outer s H E hr =>
    (sss_cons (ss_set (i := 1) nd rfl (Or.inl rfl) (se_new (sl_of (x := "list") (by rfl) T.z_list (x_ix hr (se_fld (fl_tree T) (se_var (pv 0))) (se_const (pe_glob (v := .int 2) rfl T.c_PARAMETERS ⟨_, rfl⟩) fun _ _ => .int _) (fun _ _ => rfl)))))
    (sss_cons (ss_for (t := (Tg.many [2, 3])) PassesOwn.never rfl (si_enumE (by rfl) T.z_enumerate (se_fld (fl_nodes T) (se_var (pv 0)))) (pg_tup rfl (pgs_cons (pg_name (i := 2) nd rfl (Or.inl rfl)) (pgs_cons (pg_name (i := 3) nd rfl (Or.inl rfl)) pgs_nil)))
    (sss_cons (ss_set (i := 4) nd rfl (Or.inl rfl) se_non)
    (sss_cons (ss_if (t_Eq hr (x_ix hr (se_var (pv 3)) se_int (fun _ _ => rfl)) se_str)
    (sss_one (ss_set (i := 4) nd rfl (Or.inl rfl) (x_ix hr (se_var (pv 3)) se_int (fun _ _ => rfl))))
    (sss_one (ss_if (t_Eq hr (x_ix hr (se_var (pv 3)) se_int (fun _ _ => rfl)) se_str)
    (sss_one (ss_set (i := 4) nd rfl (Or.inl rfl) (x_ix hr (se_var (pv 3)) se_int (fun _ _ => rfl))))
    sss_nil)))
    (sss_one (ss_if (PW.pt (sw_and (t_IsNot (se_var (pv 4)) se_non) (sw_and (t_NotIn hr (se_var (pv 4)) (se_var (pv 1))) (sw_and1 (st_not (st_val (se_meth ne_Shape_is_parameter (fun _ _ => .nil) (cl_Shape T) (se_var (pv 0)) T.Shape.cl T.d_Shape_is_parameter.me (ok_Shape_is_parameter T) (hr.mono (by omega)) T.d_Shape_is_parameter.b .nil (sa_cons (se_var (pv 4)) (sa_cons (x_ix hr (se_fld (fl_code T) (se_var (pv 0))) (se_var (pv 2)) (fun _ _ => rfl)) sa_nil)))))))))
    (sss_one (ss_expr (se_bm mAppend_noEx PySem.F.plainAttrs_list PySem.F.slot_list_append PySem.F.type_list_append appendM (se_var (pv 1)) (sa_cons (se_var (pv 4)) sa_nil))))
    sss_nil)))))
    (sss_one (ss_ret (se_var (pv 1))))))
theorem ok_Shape_init__ (T : Tx K mg) : FnOk P w K mg base CX0 62 T.d_Shape_init__.f T.d_Shape_init__.fd ["self", "method"] (spM K (clOf T) m_Shape_init__) := by
  have nd := sc_Shape_init__.nd
  unfold m_Shape_init__ b_Shape_init__
  exact fnM (k := 61) T.d_Shape_init__.fn sc_Shape_init__ fun cdv A outer s H E hr =>
    (sss_cons (ss_fld (fl_tree T) (se_var (pv 0)) (se_var (pv 1)))
    (sss_cons (ss_fld (fl_nodes T) (se_var (pv 0)) (se_new (sl_disp sa_nil)))
    (sss_cons (ss_fld (fl_above T) (se_var (pv 0)) (se_new (sl_disp sa_nil)))
    (sss_cons (ss_fld (fl_children T) (se_var (pv 0)) (se_new (sl_disp sa_nil)))
    (sss_cons (ss_fld (fl_code T) (se_var (pv 0)) (se_new (sl_disp sa_nil)))
    (sss_cons (ss_for (t := (Tg.one 2)) PassesOwn.never rfl (si_of (x_ix hr (se_var (pv 1)) (se_const (pe_glob (v := .int 3) rfl T.c_BODY ⟨_, rfl⟩) fun _ _ => .int _) (fun _ _ => rfl))) (pg_name (i := 2) nd rfl (Or.inl rfl))
    (sss_one (ss_expr (se_meth (ne_Shape_add 60) (fun _ _ => .nil) (cl_Shape T) (se_var (pv 0)) T.Shape.cl T.d_Shape_add.me (ok_Shape_add T 60) (hr.mono (by omega)) T.d_Shape_add.b .nil (sa_cons (se_var (pv 2)) (sa_cons (se_neg se_int) (sa_cons (se_neg se_int) sa_nil)))))))
    (sss_cons (ss_fld (fl_codes T) (se_var (pv 0)) (se_new (sl_cat (sl_disp (sa_cons (se_neg se_int) sa_nil)) (sl_comp (own := [("at", 3), ("node", 4)]) (t := (Tg.many [3, 4])) (by decide) rfl nd (si_enumE (by rfl) T.z_enumerate (se_fld (fl_nodes T) (se_var (pv 0)))) (blkOk_by (N := N_Shape_init__) (sc := defScope s_Shape_init__) (by decide +kernel)) (fun _ _ _ _ _ => (pg_tup rfl (pgs_cons (pg_name (i := 3) nd rfl (Or.inl rfl)) (pgs_cons (pg_name (i := 4) nd rfl (Or.inl rfl)) pgs_nil)))) (fun _ _ _ _ _ => (sts_one (t_Eq hr (x_ix hr (se_var (pv 4)) se_int (fun _ _ => rfl)) se_str))) (fun _ _ _ _ _ => (se_var (pv 3)))))))
    (sss_one (ss_fld (fl_names T) (se_var (pv 0)) (se_meth0 ne_Shape_all_names (fun _ _ => .nil) (cl_Shape T) (se_var (pv 0)) T.Shape.cl T.d_Shape_all_names.me (ok_Shape_all_names T) (hr.mono (by omega)) T.d_Shape_all_names.b .nil))))))))))
theorem ok_Shape_firsts (T : Tx K mg) : FnOk P w K mg base CX0 1 T.d_Shape_firsts.f T.d_Shape_firsts.fd ["self", "code"] (spM K (clOf T) m_Shape_firsts) := by
  have nd := sc_Shape_firsts.nd
  unfold m_Shape_firsts b_Shape_firsts
  exact fnM (k := 0) T.d_Shape_firsts.fn sc_Shape_firsts fun cdv A outer s H E hr =>
    (sss_cons (ss_if (t_Eq hr (se_var (pv 1)) (se_neg se_int))
    (sss_one (ss_ret (se_new (sl_comp (own := [("at", 2)]) (t := (Tg.one 2)) (by decide) rfl nd (si_range1 (by rfl) T.z_range (sa_cons (se_callB mLen_noEx lenM (by rfl) T.z_len (by decide +kernel) (sa_cons (se_fld (fl_nodes T) (se_var (pv 0))) sa_nil)) sa_nil)) (blkOk_by (N := N_Shape_firsts) (sc := defScope s_Shape_firsts) (by decide +kernel)) (fun _ _ _ _ _ => (pg_name (i := 2) nd rfl (Or.inl rfl))) (fun _ _ _ _ _ => (sts_one (t_Eq hr (x_ix hr (se_fld (fl_above T) (se_var (pv 0))) (se_var (pv 2)) (fun _ _ => rfl)) (se_neg se_int)))) (fun _ _ _ _ _ => (se_var (pv 2)))))))
    sss_nil)
    (sss_one (ss_ret (se_new (sl_of (x := "list") (by rfl) T.z_list (x_ix hr (se_fld (fl_children T) (se_var (pv 0))) (se_var (pv 1)) (fun _ _ => rfl)))))))
theorem ok_Shape_found (T : Tx K mg) : FnOk P w K mg base CX0 1 T.d_Shape_found.f T.d_Shape_found.fd ["self", "word", "code"] (spM K (clOf T) m_Shape_found) := by
  have nd := sc_Shape_found.nd
  unfold m_Shape_found b_Shape_found
  exact fnM (k := 0) T.d_Shape_found.fn sc_Shape_found fun cdv A outer s H E hr =>
    (sss_cons (ss_set (i := 3) nd rfl (Or.inl rfl) se_int)
    (sss_cons (ss_while PassesOwn.never (t_GtE (se_var (pv 2)) se_int)
    (sss_cons (ss_if (t_In hr (se_var (pv 1)) (x_ix hr (x_ix hr (se_fld (fl_nodes T) (se_var (pv 0))) (se_var (pv 2)) (fun _ _ => rfl)) se_int (fun _ _ => rfl)))
    (sss_one (ss_ret (se_tup (sa_cons (se_var (pv 3)) (sa_cons (se_bm mIndex_noEx PySem.F.plainAttrs_list PySem.F.slot_list_index PySem.F.type_list_index indexM (x_ix hr (x_ix hr (se_fld (fl_nodes T) (se_var (pv 0))) (se_var (pv 2)) (fun _ _ => rfl)) se_int (fun _ _ => rfl)) (sa_cons (se_var (pv 1)) sa_nil)) sa_nil)))))
    sss_nil)
    (sss_cons (ss_set (i := 2) nd rfl (Or.inl rfl) (x_ix hr (se_fld (fl_code T) (se_var (pv 0))) (se_var (pv 2)) (fun _ _ => rfl)))
    (sss_one (ss_aug (i := 3) mIadd_noEx nd rfl (Or.inl rfl) se_int iaddM)))))
    (sss_cons (ss_if (t_In hr (se_var (pv 1)) (se_fld (fl_names T) (se_var (pv 0))))
    (sss_one (ss_ret (se_tup (sa_cons (se_var (pv 3)) (sa_cons (se_bm mIndex_noEx PySem.F.plainAttrs_list PySem.F.slot_list_index PySem.F.type_list_index indexM (se_fld (fl_names T) (se_var (pv 0))) (sa_cons (se_var (pv 1)) sa_nil)) sa_nil)))))
    sss_nil)
    (sss_one (ss_ret se_non)))))
theorem ok_Compiler_init__ (T : Tx K mg) : FnOk P w K mg base CX0 1 T.d_Compiler_init__.f T.d_Compiler_init__.fd ["self", "form", "code"] (spM K (clOf T) m_Compiler_init__) := by
  have nd := sc_Compiler_init__.nd
  unfold m_Compiler_init__ b_Compiler_init__
  exact fnM (k := 0) T.d_Compiler_init__.fn sc_Compiler_init__ fun cdv A outer s H E hr =>
    (sss_cons (ss_fld (fl_form T) (se_var (pv 0)) (se_var (pv 1)))
    (sss_cons (ss_fld (fl_code T) (se_var (pv 0)) (se_var (pv 2)))
    (sss_one (ss_fld (fl_made T) (se_var (pv 0)) (se_new (sl_disp sa_nil))))))
theorem ok_Compiler_come (T : Tx K mg) : FnOk P w K mg base CX0 1 T.d_Compiler_come.f T.d_Compiler_come.fd ["self", "at", "word", "more"] (spM K (clOf T) m_Compiler_come) := by
  have nd := sc_Compiler_come.nd
  unfold m_Compiler_come b_Compiler_come
  exact fnMD (k := 0) T.d_Compiler_come.fn sc_Compiler_come fun cdv A outer s H E hr =>
    (sss_cons (ss_expr (se_bm mAppend_noEx PySem.F.plainAttrs_list PySem.F.slot_list_append PySem.F.type_list_append appendM (se_fld (fl_made T) (se_var (pv 0))) (sa_cons (b_Add (se_tup (sa_cons (se_var (pv 1)) (sa_cons (se_var (pv 2)) sa_nil))) (se_var (pv 3))) sa_nil)))
    (sss_one (ss_ret (b_Sub (se_callB mLen_noEx lenM (by rfl) T.z_len (by decide +kernel) (sa_cons (se_fld (fl_made T) (se_var (pv 0))) sa_nil)) se_int))))
theorem ok_Compiler_mend (T : Tx K mg) : FnOk P w K mg base CX0 1 T.d_Compiler_mend.f T.d_Compiler_mend.fd ["self", "number"] (spM K (clOf T) m_Compiler_mend) := by
  have nd := sc_Compiler_mend.nd
  unfold m_Compiler_mend b_Compiler_mend
  exact fnM (k := 0) T.d_Compiler_mend.fn sc_Compiler_mend fun cdv A outer s H E hr =>
    (sss_cons (ss_setT (t := (Tg.many [2, 3])) (se_sl (x_ix hr (se_fld (fl_made T) (se_var (pv 0))) (se_var (pv 1)) (fun _ _ => rfl)) sp_none (sp_some se_int)) (pg_tup rfl (pgs_cons (pg_name (i := 2) nd rfl (Or.inl rfl)) (pgs_cons (pg_name (i := 3) nd rfl (Or.inl rfl)) pgs_nil))))
    (sss_one (ss_setI (se_fld (fl_made T) (se_var (pv 0))) (se_var (pv 1)) (se_tup (sa_cons (se_var (pv 2)) (sa_cons (se_var (pv 3)) (sa_cons (se_callB mLen_noEx lenM (by rfl) T.z_len (by decide +kernel) (sa_cons (se_fld (fl_made T) (se_var (pv 0))) sa_nil)) sa_nil)))))))
theorem ok_Compiler_used (T : Tx K mg) : FnOk P w K mg base CX0 2 T.d_Compiler_used.f T.d_Compiler_used.fd ["self", "at", "node"] (spM K (clOf T) m_Compiler_used) := by
  have nd := sc_Compiler_used.nd
  unfold m_Compiler_used b_Compiler_used
  exact fnM (k := 1) T.d_Compiler_used.fn sc_Compiler_used fun cdv A outer s H E hr =>
    (sss_one (ss_if (t_Eq hr (x_ix hr (se_var (pv 2)) se_int (fun _ _ => rfl)) se_str)
    (sss_one (ss_expr (se_meth ne_Compiler_come (fun _ _ => .nil) (cl_Compiler T) (se_var (pv 0)) T.Compiler.cl T.d_Compiler_come.me (ok_Compiler_come T) (hr.mono (by omega)) T.d_Compiler_come.b .nil (sa_cons (se_var (pv 1)) (sa_cons se_str (sa_cons (se_tup (sa_cons (x_ix hr (se_var (pv 2)) se_int (fun _ _ => rfl)) (sa_cons (se_callB mLen_noEx lenM (by rfl) T.z_len (by decide +kernel) (sa_cons (x_ix hr (se_var (pv 2)) se_int (fun _ _ => rfl)) sa_nil)) sa_nil))) sa_nil))))))
    (sss_one (ss_if (t_Eq hr (x_ix hr (se_var (pv 2)) se_int (fun _ _ => rfl)) se_str)
    (sss_one (ss_expr (se_meth ne_Compiler_come (fun _ _ => .nil) (cl_Compiler T) (se_var (pv 0)) T.Compiler.cl T.d_Compiler_come.me (ok_Compiler_come T) (hr.mono (by omega)) T.d_Compiler_come.b .nil (sa_cons (se_var (pv 1)) (sa_cons se_str (sa_cons (se_tup (sa_cons (x_ix hr (se_var (pv 2)) se_int (fun _ _ => rfl)) (sa_cons (se_callB mLen_noEx lenM (by rfl) T.z_len (by decide +kernel) (sa_cons (x_ix hr (se_var (pv 2)) se_int (fun _ _ => rfl)) sa_nil)) sa_nil))) sa_nil))))))
    (sss_one (ss_expr (se_meth ne_Compiler_come (fun _ _ => .nil) (cl_Compiler T) (se_var (pv 0)) T.Compiler.cl T.d_Compiler_come.me (ok_Compiler_come T) (hr.mono (by omega)) T.d_Compiler_come.b .nil (sa_cons (se_var (pv 1)) (sa_cons se_str (sa_cons (se_tup (sa_cons (se_callB mLen_noEx lenM (by rfl) T.z_len (by decide +kernel) (sa_cons (x_ix hr (se_var (pv 2)) se_int (fun _ _ => rfl)) sa_nil)) sa_nil)) sa_nil))))))))))
theorem okb_Compiler_worked (T : Tx K mg) (n : Nat) {r_Compiler_worked : List MV → MH → Res MV} (ne0 : NoEx1 r_Compiler_worked) (F0 : FnOk P w K mg base CX0 (2 + n) T.d_Compiler_worked.f T.d_Compiler_worked.fd ["self", "at"] (spM K (clOf T) r_Compiler_worked)) :
    FnOk P w K mg base CX0 (2 + n + 1) T.d_Compiler_worked.f T.d_Compiler_worked.fd ["self", "at"] (spM K (clOf T) (mfun 2 6 (b_Compiler_worked r_Compiler_worked))) := by
  have nd := sc_Compiler_worked.nd
  unfold b_Compiler_worked
  exact fnM T.d_Compiler_worked.fn sc_Compiler_worked fun cdv A outer s H E hr =>
    (sss_cons (ss_set (i := 2) nd rfl (Or.inl rfl) (x_ix hr (se_fld (fl_nodes T) (se_fld (fl_form T) (se_var (pv 0)))) (se_var (pv 1)) (fun _ _ => rfl)))
    (sss_cons (ss_set (i := 3) nd rfl (Or.inl rfl) (x_ix hr (se_var (pv 2)) se_int (fun _ _ => rfl)))
    (sss_cons (ss_set (i := 4) nd rfl (Or.inl rfl) (x_ix hr (se_fld (fl_children T) (se_fld (fl_form T) (se_var (pv 0)))) (se_var (pv 1)) (fun _ _ => rfl)))
    (sss_one (ss_if (t_In hr (se_var (pv 3)) (se_const (pe_glob (v := .ref T.k_PLAIN.a) rfl T.k_PLAIN.m rfl) fun _ H => .tup (T.k_PLAIN.t H) (.cons (.str _) (.cons (.str _) (.cons (.str _) .nil)))))
    (sss_one (ss_expr (se_meth ne_Compiler_come (fun _ _ => .nil) (cl_Compiler T) (se_var (pv 0)) T.Compiler.cl T.d_Compiler_come.me (ok_Compiler_come T) (hr.mono (by omega)) T.d_Compiler_come.b .nil (sa_cons (se_var (pv 1)) (sa_cons se_str (sa_cons (se_tup (sa_cons (x_ix hr (se_var (pv 2)) se_int (fun _ _ => rfl)) sa_nil)) sa_nil))))))
    (sss_one (ss_if (t_Eq hr (se_var (pv 3)) se_str)
    (sss_one (ss_expr (se_meth ne_Compiler_come (fun _ _ => .nil) (cl_Compiler T) (se_var (pv 0)) T.Compiler.cl T.d_Compiler_come.me (ok_Compiler_come T) (hr.mono (by omega)) T.d_Compiler_come.b .nil (sa_cons (se_var (pv 1)) (sa_cons se_str (sa_cons (se_tup (sa_cons se_non sa_nil)) sa_nil))))))
    (sss_one (ss_if (t_Eq hr (se_var (pv 3)) se_str)
    (sss_one (ss_expr (se_meth (dm := [.tup []]) (dvs := [.ref T.d_Compiler_come.E]) ne_Compiler_come (fun _ H => .cons (.tup (T.d_Compiler_come.e0 H) .nil) .nil) (cl_Compiler T) (se_var (pv 0)) T.Compiler.cl T.d_Compiler_come.me (ok_Compiler_come T) (hr.mono (by omega)) T.d_Compiler_come.bd (.cons rfl .nil) (sa_cons (se_var (pv 1)) (sa_cons se_str sa_nil)))))
    (sss_one (ss_if (t_Eq hr (se_var (pv 3)) se_str)
    (sss_one (ss_expr (se_meth ne_Compiler_come (fun _ _ => .nil) (cl_Compiler T) (se_var (pv 0)) T.Compiler.cl T.d_Compiler_come.me (ok_Compiler_come T) (hr.mono (by omega)) T.d_Compiler_come.b .nil (sa_cons (se_var (pv 1)) (sa_cons se_str (sa_cons (se_meth ne_Shape_found (fun _ _ => .nil) (cl_Shape T) (se_fld (fl_form T) (se_var (pv 0))) T.Shape.cl T.d_Shape_found.me (ok_Shape_found T) (hr.mono (by omega)) T.d_Shape_found.b .nil (sa_cons (x_ix hr (se_var (pv 2)) se_int (fun _ _ => rfl)) (sa_cons (x_ix hr (se_fld (fl_code T) (se_fld (fl_form T) (se_var (pv 0)))) (se_var (pv 1)) (fun _ _ => rfl)) sa_nil))) sa_nil))))))
    (sss_one (ss_if (t_Eq hr (se_var (pv 3)) se_str)
    (sss_one (ss_expr (se_meth ne_Compiler_come (fun _ _ => .nil) (cl_Compiler T) (se_var (pv 0)) T.Compiler.cl T.d_Compiler_come.me (ok_Compiler_come T) (hr.mono (by omega)) T.d_Compiler_come.b .nil (sa_cons (se_var (pv 1)) (sa_cons se_str (sa_cons (se_tup (sa_cons (se_var (pv 1)) sa_nil)) sa_nil))))))
    (sss_one (ss_if (t_In hr (se_var (pv 3)) (se_tup (sa_cons se_str (sa_cons se_str sa_nil))))
    (sss_one (ss_expr (se_meth ne_Compiler_come (fun _ _ => .nil) (cl_Compiler T) (se_var (pv 0)) T.Compiler.cl T.d_Compiler_come.me (ok_Compiler_come T) (hr.mono (by omega)) T.d_Compiler_come.b .nil (sa_cons (se_var (pv 1)) (sa_cons (se_var (pv 3)) (sa_cons (se_tup (sa_cons (x_ix hr (se_var (pv 2)) se_int (fun _ _ => rfl)) sa_nil)) sa_nil))))))
    (sss_cons (ss_for (t := (Tg.one 5)) PassesOwn.never rfl (si_of (se_var (pv 4))) (pg_name (i := 5) nd rfl (Or.inl rfl))
    (sss_one (ss_expr (se_meth ne0 (fun _ _ => .nil) (cl_Compiler T) (se_var (pv 0)) T.Compiler.cl T.d_Compiler_worked.me F0 (hr.mono (by omega)) T.d_Compiler_worked.b .nil (sa_cons (se_var (pv 5)) sa_nil)))))
    (sss_one (ss_expr (se_meth ne_Compiler_used (fun _ _ => .nil) (cl_Compiler T) (se_var (pv 0)) T.Compiler.cl T.d_Compiler_used.me (ok_Compiler_used T) (hr.mono (by omega)) T.d_Compiler_used.b .nil (sa_cons (se_var (pv 1)) (sa_cons (se_var (pv 2)) sa_nil)))))))))))))))))))))
theorem ok_Compiler_worked (T : Tx K mg) : ∀ n : Nat, FnOk P w K mg base CX0 (2 + n) T.d_Compiler_worked.f T.d_Compiler_worked.fd ["self", "at"] (spM K (clOf T) (m_Compiler_worked n))
  | 0 => by
    simp only [mZ_Compiler_worked]
    exact fnNever
  | n + 1 => by
    have ih := ok_Compiler_worked T n
    simp only [mS_Compiler_worked]
    exact okb_Compiler_worked T n (ne_Compiler_worked n) ih
theorem okb_Compiler_all_done (T : Tx K mg) (n : Nat) {r_Compiler_all_done r_Compiler_done r_Compiler_chosen r_Compiler_tried : List MV → MH → Res MV} (ne0 : NoEx1 r_Compiler_all_done) (F0 : FnOk P w K mg base CX0 (62 + n) T.d_Compiler_all_done.f T.d_Compiler_all_done.fd ["self", "numbers"] (spM K (clOf T) r_Compiler_all_done)) (ne1 : NoEx1 r_Compiler_done) (F1 : FnOk P w K mg base CX0 (62 + n) T.d_Compiler_done.f T.d_Compiler_done.fd ["self", "at"] (spM K (clOf T) r_Compiler_done)) (ne2 : NoEx1 r_Compiler_chosen) (F2 : FnOk P w K mg base CX0 (62 + n) T.d_Compiler_chosen.f T.d_Compiler_chosen.fd ["self", "at", "node", "kids", "beat"] (spM K (clOf T) r_Compiler_chosen)) (ne3 : NoEx1 r_Compiler_tried) (F3 : FnOk P w K mg base CX0 (62 + n) T.d_Compiler_tried.f T.d_Compiler_tried.fd ["self", "at", "node", "kids"] (spM K (clOf T) r_Compiler_tried)) :
    FnOk P w K mg base CX0 (62 + n + 1) T.d_Compiler_all_done.f T.d_Compiler_all_done.fd ["self", "numbers"] (spM K (clOf T) (mfun 2 3 (b_Compiler_all_done r_Compiler_all_done r_Compiler_done r_Compiler_chosen r_Compiler_tried))) := by
  have nd := sc_Compiler_all_done.nd
  unfold b_Compiler_all_done
  exact fnM T.d_Compiler_all_done.fn sc_Compiler_all_done fun cdv A outer s H E hr =>
    (sss_one (ss_for (t := (Tg.one 2)) PassesOwn.never rfl (si_of (se_var (pv 1))) (pg_name (i := 2) nd rfl (Or.inl rfl))
    (sss_one (ss_expr (se_meth ne1 (fun _ _ => .nil) (cl_Compiler T) (se_var (pv 0)) T.Compiler.cl T.d_Compiler_done.me F1 (hr.mono (by omega)) T.d_Compiler_done.b .nil (sa_cons (se_var (pv 2)) sa_nil))))))
theorem okb_Compiler_done (T : Tx K mg) (n : Nat) {r_Compiler_all_done r_Compiler_done r_Compiler_chosen r_Compiler_tried : List MV → MH → Res MV} (ne0 : NoEx1 r_Compiler_all_done) (F0 : FnOk P w K mg base CX0 (62 + n) T.d_Compiler_all_done.f T.d_Compiler_all_done.fd ["self", "numbers"] (spM K (clOf T) r_Compiler_all_done)) (ne1 : NoEx1 r_Compiler_done) (F1 : FnOk P w K mg base CX0 (62 + n) T.d_Compiler_done.f T.d_Compiler_done.fd ["self", "at"] (spM K (clOf T) r_Compiler_done)) (ne2 : NoEx1 r_Compiler_chosen) (F2 : FnOk P w K mg base CX0 (62 + n) T.d_Compiler_chosen.f T.d_Compiler_chosen.fd ["self", "at", "node", "kids", "beat"] (spM K (clOf T) r_Compiler_chosen)) (ne3 : NoEx1 r_Compiler_tried) (F3 : FnOk P w K mg base CX0 (62 + n) T.d_Compiler_tried.f T.d_Compiler_tried.fd ["self", "at", "node", "kids"] (spM K (clOf T) r_Compiler_tried)) :
    FnOk P w K mg base CX0 (62 + n + 1) T.d_Compiler_done.f T.d_Compiler_done.fd ["self", "at"] (spM K (clOf T) (mfun 2 5 (b_Compiler_done r_Compiler_all_done r_Compiler_done r_Compiler_chosen r_Compiler_tried))) := by
  have nd := sc_Compiler_done.nd
  unfold b_Compiler_done
  exact fnM T.d_Compiler_done.fn sc_Compiler_done fun cdv A outer s H E hr =>
    (sss_cons (ss_set (i := 2) nd rfl (Or.inl rfl) (x_ix hr (se_fld (fl_nodes T) (se_fld (fl_form T) (se_var (pv 0)))) (se_var (pv 1)) (fun _ _ => rfl)))
    (sss_cons (ss_set (i := 3) nd rfl (Or.inl rfl) (x_ix hr (se_fld (fl_children T) (se_fld (fl_form T) (se_var (pv 0)))) (se_var (pv 1)) (fun _ _ => rfl)))
    (sss_cons (ss_set (i := 4) nd rfl (Or.inl rfl) (se_meth (dm := [.tup []]) (dvs := [.ref T.d_Compiler_come.E]) ne_Compiler_come (fun _ H => .cons (.tup (T.d_Compiler_come.e0 H) .nil) .nil) (cl_Compiler T) (se_var (pv 0)) T.Compiler.cl T.d_Compiler_come.me (ok_Compiler_come T) (hr.mono (by omega)) T.d_Compiler_come.bd (.cons rfl .nil) (sa_cons (se_var (pv 1)) (sa_cons se_str sa_nil))))
    (sss_one (ss_if (t_In hr (x_ix hr (se_var (pv 2)) se_int (fun _ _ => rfl)) (se_const (pe_glob (v := .ref T.k_ONE.a) rfl T.k_ONE.m rfl) fun _ H => .tup (T.k_ONE.t H) (.cons (.str _) (.cons (.str _) (.cons (.str _) (.cons (.str _) .nil))))))
    (sss_cons (ss_expr (se_meth (ne_Compiler_worked 60) (fun _ _ => .nil) (cl_Compiler T) (se_var (pv 0)) T.Compiler.cl T.d_Compiler_worked.me (ok_Compiler_worked T 60) (hr.mono (by omega)) T.d_Compiler_worked.b .nil (sa_cons (x_ix hr (se_var (pv 3)) se_int (fun _ _ => rfl)) sa_nil)))
    (sss_one (ss_expr (se_meth (dm := [.tup []]) (dvs := [.ref T.d_Compiler_come.E]) ne_Compiler_come (fun _ H => .cons (.tup (T.d_Compiler_come.e0 H) .nil) .nil) (cl_Compiler T) (se_var (pv 0)) T.Compiler.cl T.d_Compiler_come.me (ok_Compiler_come T) (hr.mono (by omega)) T.d_Compiler_come.bd (.cons rfl .nil) (sa_cons (se_var (pv 1)) (sa_cons (se_if (t_Eq hr (x_ix hr (se_var (pv 2)) se_int (fun _ _ => rfl)) se_str) se_str (x_ix hr (se_var (pv 2)) se_int (fun _ _ => rfl))) sa_nil))))))
    (sss_one (ss_if (t_Eq hr (x_ix hr (se_var (pv 2)) se_int (fun _ _ => rfl)) se_str)
    (sss_cons (ss_expr (se_meth (ne_Compiler_worked 60) (fun _ _ => .nil) (cl_Compiler T) (se_var (pv 0)) T.Compiler.cl T.d_Compiler_worked.me (ok_Compiler_worked T 60) (hr.mono (by omega)) T.d_Compiler_worked.b .nil (sa_cons (x_ix hr (se_var (pv 3)) se_int (fun _ _ => rfl)) sa_nil)))
    (sss_one (ss_expr (se_meth ne_Compiler_come (fun _ _ => .nil) (cl_Compiler T) (se_var (pv 0)) T.Compiler.cl T.d_Compiler_come.me (ok_Compiler_come T) (hr.mono (by omega)) T.d_Compiler_come.b .nil (sa_cons (se_var (pv 1)) (sa_cons se_str (sa_cons (se_meth ne_Shape_found (fun _ _ => .nil) (cl_Shape T) (se_fld (fl_form T) (se_var (pv 0))) T.Shape.cl T.d_Shape_found.me (ok_Shape_found T) (hr.mono (by omega)) T.d_Shape_found.b .nil (sa_cons (x_ix hr (se_var (pv 2)) se_int (fun _ _ => rfl)) (sa_cons (x_ix hr (se_fld (fl_code T) (se_fld (fl_form T) (se_var (pv 0)))) (se_var (pv 1)) (fun _ _ => rfl)) sa_nil))) sa_nil)))))))
    (sss_one (ss_if (t_Eq hr (x_ix hr (se_var (pv 2)) se_int (fun _ _ => rfl)) se_str)
    (sss_cons (ss_expr (se_meth (ne_Compiler_worked 60) (fun _ _ => .nil) (cl_Compiler T) (se_var (pv 0)) T.Compiler.cl T.d_Compiler_worked.me (ok_Compiler_worked T 60) (hr.mono (by omega)) T.d_Compiler_worked.b .nil (sa_cons (x_ix hr (se_var (pv 3)) se_int (fun _ _ => rfl)) sa_nil)))
    (sss_one (ss_expr (se_meth ne_Compiler_come (fun _ _ => .nil) (cl_Compiler T) (se_var (pv 0)) T.Compiler.cl T.d_Compiler_come.me (ok_Compiler_come T) (hr.mono (by omega)) T.d_Compiler_come.b .nil (sa_cons (se_var (pv 1)) (sa_cons se_str (sa_cons (se_tup (sa_cons (x_ix hr (se_var (pv 2)) se_int (fun _ _ => rfl)) sa_nil)) sa_nil)))))))
    (sss_one (ss_if (t_Eq hr (x_ix hr (se_var (pv 2)) se_int (fun _ _ => rfl)) se_str)
    (sss_one (ss_expr (se_meth ne3 (fun _ _ => .nil) (cl_Compiler T) (se_var (pv 0)) T.Compiler.cl T.d_Compiler_tried.me F3 (hr.mono (by omega)) T.d_Compiler_tried.b .nil (sa_cons (se_var (pv 1)) (sa_cons (se_var (pv 2)) (sa_cons (se_var (pv 3)) sa_nil))))))
    (sss_one (ss_expr (se_meth ne2 (fun _ _ => .nil) (cl_Compiler T) (se_var (pv 0)) T.Compiler.cl T.d_Compiler_chosen.me F2 (hr.mono (by omega)) T.d_Compiler_chosen.b .nil (sa_cons (se_var (pv 1)) (sa_cons (se_var (pv 2)) (sa_cons (se_var (pv 3)) (sa_cons (se_var (pv 4)) sa_nil))))))))))))))))))
theorem okb_Compiler_chosen (T : Tx K mg) (n : Nat) {r_Compiler_all_done r_Compiler_done r_Compiler_chosen r_Compiler_tried : List MV → MH → Res MV} (ne0 : NoEx1 r_Compiler_all_done) (F0 : FnOk P w K mg base CX0 (62 + n) T.d_Compiler_all_done.f T.d_Compiler_all_done.fd ["self", "numbers"] (spM K (clOf T) r_Compiler_all_done)) (ne1 : NoEx1 r_Compiler_done) (F1 : FnOk P w K mg base CX0 (62 + n) T.d_Compiler_done.f T.d_Compiler_done.fd ["self", "at"] (spM K (clOf T) r_Compiler_done)) (ne2 : NoEx1 r_Compiler_chosen) (F2 : FnOk P w K mg base CX0 (62 + n) T.d_Compiler_chosen.f T.d_Compiler_chosen.fd ["self", "at", "node", "kids", "beat"] (spM K (clOf T) r_Compiler_chosen)) (ne3 : NoEx1 r_Compiler_tried) (F3 : FnOk P w K mg base CX0 (62 + n) T.d_Compiler_tried.f T.d_Compiler_tried.fd ["self", "at", "node", "kids"] (spM K (clOf T) r_Compiler_tried)) :
    FnOk P w K mg base CX0 (62 + n + 1) T.d_Compiler_chosen.f T.d_Compiler_chosen.fd ["self", "at", "node", "kids", "beat"] (spM K (clOf T) (mfun 5 8 (b_Compiler_chosen r_Compiler_all_done r_Compiler_done r_Compiler_chosen r_Compiler_tried))) := by
  have nd := sc_Compiler_chosen.nd
  unfold b_Compiler_chosen
  exact fnM T.d_Compiler_chosen.fn sc_Compiler_chosen fun cdv A outer s H E hr =>
    (sss_cons (ss_set (i := 5) nd rfl (Or.inl rfl) (b_Add se_int (se_callB mLen_noEx lenM (by rfl) T.z_len (by decide +kernel) (sa_cons (x_ix hr (se_var (pv 2)) se_int (fun _ _ => rfl)) sa_nil))))
    (sss_cons (ss_expr (se_meth (ne_Compiler_worked 60) (fun _ _ => .nil) (cl_Compiler T) (se_var (pv 0)) T.Compiler.cl T.d_Compiler_worked.me (ok_Compiler_worked T 60) (hr.mono (by omega)) T.d_Compiler_worked.b .nil (sa_cons (x_ix hr (se_var (pv 3)) se_int (fun _ _ => rfl)) sa_nil)))
    (sss_cons (ss_set (i := 6) nd rfl (Or.inl rfl) (se_meth ne_Compiler_come (fun _ _ => .nil) (cl_Compiler T) (se_var (pv 0)) T.Compiler.cl T.d_Compiler_come.me (ok_Compiler_come T) (hr.mono (by omega)) T.d_Compiler_come.b .nil (sa_cons (se_var (pv 1)) (sa_cons se_str (sa_cons (se_tup (sa_cons se_int sa_nil)) sa_nil)))))
    (sss_cons (ss_expr (se_meth ne0 (fun _ _ => .nil) (cl_Compiler T) (se_var (pv 0)) T.Compiler.cl T.d_Compiler_all_done.me F0 (hr.mono (by omega)) T.d_Compiler_all_done.b .nil (sa_cons (se_sl (se_var (pv 3)) (sp_some se_int) (sp_some (se_var (pv 5)))) sa_nil)))
    (sss_one (ss_if (t_Eq hr (x_ix hr (se_var (pv 2)) se_int (fun _ _ => rfl)) se_str)
    (sss_cons (ss_expr (se_meth ne_Compiler_come (fun _ _ => .nil) (cl_Compiler T) (se_var (pv 0)) T.Compiler.cl T.d_Compiler_come.me (ok_Compiler_come T) (hr.mono (by omega)) T.d_Compiler_come.b .nil (sa_cons (se_var (pv 1)) (sa_cons se_str (sa_cons (se_tup (sa_cons (se_var (pv 4)) sa_nil)) sa_nil)))))
    (sss_one (ss_expr (se_meth ne_Compiler_mend (fun _ _ => .nil) (cl_Compiler T) (se_var (pv 0)) T.Compiler.cl T.d_Compiler_mend.me (ok_Compiler_mend T) (hr.mono (by omega)) T.d_Compiler_mend.b .nil (sa_cons (se_var (pv 6)) sa_nil)))))
    (sss_cons (ss_set (i := 7) nd rfl (Or.inl rfl) (se_meth ne_Compiler_come (fun _ _ => .nil) (cl_Compiler T) (se_var (pv 0)) T.Compiler.cl T.d_Compiler_come.me (ok_Compiler_come T) (hr.mono (by omega)) T.d_Compiler_come.b .nil (sa_cons (se_var (pv 1)) (sa_cons se_str (sa_cons (se_tup (sa_cons se_int sa_nil)) sa_nil)))))
    (sss_cons (ss_expr (se_meth ne_Compiler_mend (fun _ _ => .nil) (cl_Compiler T) (se_var (pv 0)) T.Compiler.cl T.d_Compiler_mend.me (ok_Compiler_mend T) (hr.mono (by omega)) T.d_Compiler_mend.b .nil (sa_cons (se_var (pv 6)) sa_nil)))
    (sss_cons (ss_expr (se_meth ne0 (fun _ _ => .nil) (cl_Compiler T) (se_var (pv 0)) T.Compiler.cl T.d_Compiler_all_done.me F0 (hr.mono (by omega)) T.d_Compiler_all_done.b .nil (sa_cons (se_sl (se_var (pv 3)) (sp_some (se_var (pv 5))) sp_none) sa_nil)))
    (sss_one (ss_expr (se_meth ne_Compiler_mend (fun _ _ => .nil) (cl_Compiler T) (se_var (pv 0)) T.Compiler.cl T.d_Compiler_mend.me (ok_Compiler_mend T) (hr.mono (by omega)) T.d_Compiler_mend.b .nil (sa_cons (se_var (pv 7)) sa_nil)))))))))))))
theorem okb_Compiler_tried (T : Tx K mg) (n : Nat) {r_Compiler_all_done r_Compiler_done r_Compiler_chosen r_Compiler_tried : List MV → MH → Res MV} (ne0 : NoEx1 r_Compiler_all_done) (F0 : FnOk P w K mg base CX0 (62 + n) T.d_Compiler_all_done.f T.d_Compiler_all_done.fd ["self", "numbers"] (spM K (clOf T) r_Compiler_all_done)) (ne1 : NoEx1 r_Compiler_done) (F1 : FnOk P w K mg base CX0 (62 + n) T.d_Compiler_done.f T.d_Compiler_done.fd ["self", "at"] (spM K (clOf T) r_Compiler_done)) (ne2 : NoEx1 r_Compiler_chosen) (F2 : FnOk P w K mg base CX0 (62 + n) T.d_Compiler_chosen.f T.d_Compiler_chosen.fd ["self", "at", "node", "kids", "beat"] (spM K (clOf T) r_Compiler_chosen)) (ne3 : NoEx1 r_Compiler_tried) (F3 : FnOk P w K mg base CX0 (62 + n) T.d_Compiler_tried.f T.d_Compiler_tried.fd ["self", "at", "node", "kids"] (spM K (clOf T) r_Compiler_tried)) :
    FnOk P w K mg base CX0 (62 + n + 1) T.d_Compiler_tried.f T.d_Compiler_tried.fd ["self", "at", "node", "kids"] (spM K (clOf T) (mfun 4 7 (b_Compiler_tried r_Compiler_all_done r_Compiler_done r_Compiler_chosen r_Compiler_tried))) := by
  have nd := sc_Compiler_tried.nd
  unfold b_Compiler_tried
  exact fnM T.d_Compiler_tried.fn sc_Compiler_tried fun cdv A outer s H E hr =>
    (sss_cons (ss_set (i := 4) nd rfl (Or.inl rfl) (se_callB mLen_noEx lenM (by rfl) T.z_len (by decide +kernel) (sa_cons (x_ix hr (se_var (pv 2)) se_int (fun _ _ => rfl)) sa_nil)))
    (sss_cons (ss_set (i := 5) nd rfl (Or.inl rfl) (se_meth ne_Compiler_come (fun _ _ => .nil) (cl_Compiler T) (se_var (pv 0)) T.Compiler.cl T.d_Compiler_come.me (ok_Compiler_come T) (hr.mono (by omega)) T.d_Compiler_come.b .nil (sa_cons (se_var (pv 1)) (sa_cons se_str (sa_cons (se_tup (sa_cons se_int sa_nil)) sa_nil)))))
    (sss_cons (ss_expr (se_meth ne0 (fun _ _ => .nil) (cl_Compiler T) (se_var (pv 0)) T.Compiler.cl T.d_Compiler_all_done.me F0 (hr.mono (by omega)) T.d_Compiler_all_done.b .nil (sa_cons (se_sl (se_var (pv 3)) sp_none (sp_some (se_var (pv 4)))) sa_nil)))
    (sss_cons (ss_expr (se_meth (dm := [.tup []]) (dvs := [.ref T.d_Compiler_come.E]) ne_Compiler_come (fun _ H => .cons (.tup (T.d_Compiler_come.e0 H) .nil) .nil) (cl_Compiler T) (se_var (pv 0)) T.Compiler.cl T.d_Compiler_come.me (ok_Compiler_come T) (hr.mono (by omega)) T.d_Compiler_come.bd (.cons rfl .nil) (sa_cons (se_var (pv 1)) (sa_cons se_str sa_nil))))
    (sss_cons (ss_set (i := 6) nd rfl (Or.inl rfl) (se_meth ne_Compiler_come (fun _ _ => .nil) (cl_Compiler T) (se_var (pv 0)) T.Compiler.cl T.d_Compiler_come.me (ok_Compiler_come T) (hr.mono (by omega)) T.d_Compiler_come.b .nil (sa_cons (se_var (pv 1)) (sa_cons se_str (sa_cons (se_tup (sa_cons se_int sa_nil)) sa_nil)))))
    (sss_cons (ss_expr (se_meth ne_Compiler_mend (fun _ _ => .nil) (cl_Compiler T) (se_var (pv 0)) T.Compiler.cl T.d_Compiler_mend.me (ok_Compiler_mend T) (hr.mono (by omega)) T.d_Compiler_mend.b .nil (sa_cons (se_var (pv 5)) sa_nil)))
    (sss_cons (ss_expr (se_meth ne_Compiler_come (fun _ _ => .nil) (cl_Compiler T) (se_var (pv 0)) T.Compiler.cl T.d_Compiler_come.me (ok_Compiler_come T) (hr.mono (by omega)) T.d_Compiler_come.b .nil (sa_cons (se_var (pv 1)) (sa_cons se_str (sa_cons (se_meth ne_Shape_found (fun _ _ => .nil) (cl_Shape T) (se_fld (fl_form T) (se_var (pv 0))) T.Shape.cl T.d_Shape_found.me (ok_Shape_found T) (hr.mono (by omega)) T.d_Shape_found.b .nil (sa_cons (x_ix hr (se_var (pv 2)) se_int (fun _ _ => rfl)) (sa_cons (x_ix hr (se_fld (fl_code T) (se_fld (fl_form T) (se_var (pv 0)))) (se_var (pv 1)) (fun _ _ => rfl)) sa_nil))) sa_nil)))))
    (sss_cons (ss_expr (se_meth ne0 (fun _ _ => .nil) (cl_Compiler T) (se_var (pv 0)) T.Compiler.cl T.d_Compiler_all_done.me F0 (hr.mono (by omega)) T.d_Compiler_all_done.b .nil (sa_cons (se_sl (se_var (pv 3)) (sp_some (se_var (pv 4))) sp_none) sa_nil)))
    (sss_one (ss_expr (se_meth ne_Compiler_mend (fun _ _ => .nil) (cl_Compiler T) (se_var (pv 0)) T.Compiler.cl T.d_Compiler_mend.me (ok_Compiler_mend T) (hr.mono (by omega)) T.d_Compiler_mend.b .nil (sa_cons (se_var (pv 6)) sa_nil))))))))))))
theorem ok_Compiler_all_done (T : Tx K mg) : ∀ n : Nat, FnOk P w K mg base CX0 (62 + n) T.d_Compiler_all_done.f T.d_Compiler_all_done.fd ["self", "numbers"] (spM K (clOf T) (m_Compiler_all_done n)) ∧
    FnOk P w K mg base CX0 (62 + n) T.d_Compiler_done.f T.d_Compiler_done.fd ["self", "at"] (spM K (clOf T) (m_Compiler_done n)) ∧
    FnOk P w K mg base CX0 (62 + n) T.d_Compiler_chosen.f T.d_Compiler_chosen.fd ["self", "at", "node", "kids", "beat"] (spM K (clOf T) (m_Compiler_chosen n)) ∧
    FnOk P w K mg base CX0 (62 + n) T.d_Compiler_tried.f T.d_Compiler_tried.fd ["self", "at", "node", "kids"] (spM K (clOf T) (m_Compiler_tried n))
  | 0 => by
    simp only [mZ_Compiler_all_done, mZ_Compiler_done, mZ_Compiler_chosen, mZ_Compiler_tried]
    exact ⟨fnNever, fnNever, fnNever, fnNever⟩
  | n + 1 => by
    have ih := ok_Compiler_all_done T n
    simp only [mS_Compiler_all_done, mS_Compiler_done, mS_Compiler_chosen, mS_Compiler_tried]
    exact ⟨okb_Compiler_all_done T n (ne_Compiler_all_done n) ih.1 (ne_Compiler_done n) ih.2.1 (ne_Compiler_chosen n) ih.2.2.1 (ne_Compiler_tried n) ih.2.2.2, okb_Compiler_done T n (ne_Compiler_all_done n) ih.1 (ne_Compiler_done n) ih.2.1 (ne_Compiler_chosen n) ih.2.2.1 (ne_Compiler_tried n) ih.2.2.2, okb_Compiler_chosen T n (ne_Compiler_all_done n) ih.1 (ne_Compiler_done n) ih.2.1 (ne_Compiler_chosen n) ih.2.2.1 (ne_Compiler_tried n) ih.2.2.2, okb_Compiler_tried T n (ne_Compiler_all_done n) ih.1 (ne_Compiler_done n) ih.2.1 (ne_Compiler_chosen n) ih.2.2.1 (ne_Compiler_tried n) ih.2.2.2⟩
theorem ok_Compiler_whole (T : Tx K mg) : FnOk P w K mg base CX0 123 T.d_Compiler_whole.f T.d_Compiler_whole.fd ["self"] (spM K (clOf T) m_Compiler_whole) := by
  have nd := sc_Compiler_whole.nd
  unfold m_Compiler_whole b_Compiler_whole
  exact fnM (k := 122) T.d_Compiler_whole.fn sc_Compiler_whole fun cdv A outer s H E hr =>
    (sss_cons (ss_expr (se_meth (ne_Compiler_all_done 60) (fun _ _ => .nil) (cl_Compiler T) (se_var (pv 0)) T.Compiler.cl T.d_Compiler_all_done.me (ok_Compiler_all_done T 60).1 (hr.mono (by omega)) T.d_Compiler_all_done.b .nil (sa_cons (se_meth ne_Shape_firsts (fun _ _ => .nil) (cl_Shape T) (se_fld (fl_form T) (se_var (pv 0))) T.Shape.cl T.d_Shape_firsts.me (ok_Shape_firsts T) (hr.mono (by omega)) T.d_Shape_firsts.b .nil (sa_cons (se_fld (fl_code T) (se_var (pv 0))) sa_nil)) sa_nil)))
    (sss_cons (ss_expr (se_meth ne_Compiler_come (fun _ _ => .nil) (cl_Compiler T) (se_var (pv 0)) T.Compiler.cl T.d_Compiler_come.me (ok_Compiler_come T) (hr.mono (by omega)) T.d_Compiler_come.b .nil (sa_cons (se_neg se_int) (sa_cons se_str (sa_cons (se_tup (sa_cons se_non sa_nil)) sa_nil)))))
    (sss_cons (ss_expr (se_meth (dm := [.tup []]) (dvs := [.ref T.d_Compiler_come.E]) ne_Compiler_come (fun _ H => .cons (.tup (T.d_Compiler_come.e0 H) .nil) .nil) (cl_Compiler T) (se_var (pv 0)) T.Compiler.cl T.d_Compiler_come.me (ok_Compiler_come T) (hr.mono (by omega)) T.d_Compiler_come.bd (.cons rfl .nil) (sa_cons (se_neg se_int) (sa_cons se_str sa_nil))))
    (sss_one (ss_ret (se_callTy mTuple_noEx tupleM (by rfl) T.z_tuple (by decide +kernel) (sa_cons (se_fld (fl_made T) (se_var (pv 0))) sa_nil)))))))
theorem ok_compiled (T : Tx K mg) : FnOk P w K mg base CX0 124 T.d_compiled.f T.d_compiled.fd ["form", "code"] (spM K (clOf T) m_compiled) := by
  have nd := sc_compiled.nd
  unfold m_compiled b_compiled
  exact fnM (k := 123) T.d_compiled.fn sc_compiled fun cdv A outer s H E hr =>
    (sss_one (ss_ret (se_meth0 ne_Compiler_whole (fun _ _ => .nil) (cl_Compiler T) (se_make ne_Compiler_init__ (fun _ _ => .nil) (cl_Compiler T) T.d_Compiler_init__.mkk (ok_Compiler_init__ T) (hr.mono (by omega)) rfl T.Compiler.m T.d_Compiler_init__.b .nil (sa_cons (se_var (pv 0)) (sa_cons (se_var (pv 1)) sa_nil))) T.Compiler.cl T.d_Compiler_whole.me (ok_Compiler_whole T) (hr.mono (by omega)) T.d_Compiler_whole.b .nil)))
theorem ok_rows_of (T : Tx K mg) : FnOk P w K mg base CX0 125 T.d_rows_of.f T.d_rows_of.fd ["method", "node"] (spM K (clOf T) m_rows_of) := by
  have nd := sc_rows_of.nd
  unfold m_rows_of b_rows_of
  exact fnM (k := 124) T.d_rows_of.fn sc_rows_of fun cdv A outer s H E hr =>
    (sss_one (ss_ret (se_call ne_compiled (ok_compiled T) (hr.mono (by omega)) rfl T.d_compiled.m T.d_compiled.kp T.d_compiled.b (sa_cons (se_make ne_Shape_init__ (fun _ _ => .nil) (cl_Shape T) T.d_Shape_init__.mkk (ok_Shape_init__ T) (hr.mono (by omega)) rfl T.Shape.m T.d_Shape_init__.b .nil (sa_cons (se_var (pv 0)) sa_nil)) (sa_cons (se_var (pv 1)) sa_nil)))))
theorem okb_is_just (T : Tx K mg) (n : Nat) {r_is_just : List MV → MH → Res MV} (ne0 : NoEx1 r_is_just) (F0 : FnOk P w K mg base CX0 (0 + n) T.d_is_just.f T.d_is_just.fd ["thing", "due"] (spM K (clOf T) r_is_just)) :
    FnOk P w K mg base CX0 (0 + n + 1) T.d_is_just.f T.d_is_just.fd ["thing", "due"] (spM K (clOf T) (mfun 2 4 (b_is_just r_is_just))) := by
  have nd := sc_is_just.nd
  unfold b_is_just
  exact fnM T.d_is_just.fn sc_is_just fun cdv A outer s H E hr =>
    (sss_cons (ss_if (st_val (se_isi (T := "tuple") (by decide) (by rfl) T.z_isinstance (se_var (pv 1)) (pe_bltn (v := .ty "tuple") (by rfl) T.z_tuple (by decide +kernel) rfl)))
    (sss_cons (ss_if (PW.pt (sw_or (st_not (st_val (se_isi (T := "tuple") (by decide) (by rfl) T.z_isinstance (se_var (pv 0)) (pe_bltn (v := .ty "tuple") (by rfl) T.z_tuple (by decide +kernel) rfl)))) (sw_or1 (t_NotEq hr (se_callB mLen_noEx lenM (by rfl) T.z_len (by decide +kernel) (sa_cons (se_var (pv 0)) sa_nil)) (se_callB mLen_noEx lenM (by rfl) T.z_len (by decide +kernel) (sa_cons (se_var (pv 1)) sa_nil))))))
    (sss_one (ss_ret se_bl))
    sss_nil)
    (sss_one (ss_ret (se_callBL lAll_ok lAll_noEx (cr_all rfl) (by rfl) T.z_all (by decide +kernel) (sl_comp (own := [("one", 2), ("other", 3)]) (t := (Tg.many [2, 3])) (by decide) rfl nd (si_zip (by rfl) T.z_zip (sa_cons (se_var (pv 0)) (sa_cons (se_var (pv 1)) sa_nil))) (blkOk_by (N := N_is_just) (sc := defScope s_is_just) (by decide +kernel)) (fun _ _ _ _ _ => (pg_tup rfl (pgs_cons (pg_name (i := 2) nd rfl (Or.inl rfl)) (pgs_cons (pg_name (i := 3) nd rfl (Or.inl rfl)) pgs_nil)))) (fun _ _ _ _ _ => sts_nil) (fun _ _ _ _ _ => (se_call ne0 F0 (hr.mono (by omega)) rfl T.d_is_just.m T.d_is_just.kp T.d_is_just.b (sa_cons (se_var (pv 2)) (sa_cons (se_var (pv 3)) sa_nil)))))))))
    sss_nil)
    (sss_cons (ss_if (t_Is (se_var (pv 1)) se_non)
    (sss_one (ss_ret (c_Is (se_var (pv 0)) se_non)))
    sss_nil)
    (sss_cons (ss_if (PW.pt (sw_or (st_val (se_isi (T := "bool") (by decide) (by rfl) T.z_isinstance (se_var (pv 1)) (pe_bltn (v := .ty "bool") (by rfl) T.z_bool (by decide +kernel) rfl))) (sw_or1 (st_val (se_isi (T := "bool") (by decide) (by rfl) T.z_isinstance (se_var (pv 0)) (pe_bltn (v := .ty "bool") (by rfl) T.z_bool (by decide +kernel) rfl))))))
    (sss_one (ss_ret (se_and (se_isi (T := "bool") (by decide) (by rfl) T.z_isinstance (se_var (pv 1)) (pe_bltn (v := .ty "bool") (by rfl) T.z_bool (by decide +kernel) rfl)) (se_and (se_isi (T := "bool") (by decide) (by rfl) T.z_isinstance (se_var (pv 0)) (pe_bltn (v := .ty "bool") (by rfl) T.z_bool (by decide +kernel) rfl)) (se_one (c_Eq hr (se_var (pv 0)) (se_var (pv 1))))))))
    sss_nil)
    (sss_cons (ss_if (st_val (se_isi (T := "str") (by decide) (by rfl) T.z_isinstance (se_var (pv 1)) (pe_bltn (v := .ty "str") (by rfl) T.z_str (by decide +kernel) rfl)))
    (sss_one (ss_ret (se_and (se_isi (T := "str") (by decide) (by rfl) T.z_isinstance (se_var (pv 0)) (pe_bltn (v := .ty "str") (by rfl) T.z_str (by decide +kernel) rfl)) (se_one (c_Eq hr (se_var (pv 0)) (se_var (pv 1)))))))
    sss_nil)
    (sss_one (ss_ret (se_and (se_isi (T := "int") (by decide) (by rfl) T.z_isinstance (se_var (pv 0)) (pe_bltn (v := .ty "int") (by rfl) T.z_int (by decide +kernel) rfl)) (se_one (c_Eq hr (se_var (pv 0)) (se_var (pv 1)))))))))))
theorem ok_is_just (T : Tx K mg) : ∀ n : Nat, FnOk P w K mg base CX0 (0 + n) T.d_is_just.f T.d_is_just.fd ["thing", "due"] (spM K (clOf T) (m_is_just n))
  | 0 => by
    simp only [mZ_is_just]
    exact fnNever
  | n + 1 => by
    have ih := ok_is_just T n
    simp only [mS_is_just]
    exact okb_is_just T n (ne_is_just n) ih
theorem ok_rows_stand (T : Tx K mg) : FnOk P w K mg base CX0 126 T.d_rows_stand.f T.d_rows_stand.fd ["method", "node", "thing"] (spM K (clOf T) m_rows_stand) := by
  have nd := sc_rows_stand.nd
  unfold m_rows_stand b_rows_stand
  exact fnM (k := 125) T.d_rows_stand.fn sc_rows_stand fun cdv A outer s H E hr =>
    (sss_one (ss_ret (se_call (ne_is_just 60) (ok_is_just T 60) (hr.mono (by omega)) rfl T.d_is_just.m T.d_is_just.kp T.d_is_just.b (sa_cons (se_var (pv 2)) (sa_cons (se_call ne_rows_of (ok_rows_of T) (hr.mono (by omega)) rfl T.d_rows_of.m T.d_rows_of.kp T.d_rows_of.b (sa_cons (se_var (pv 0)) (sa_cons (se_var (pv 1)) sa_nil))) sa_nil)))))
theorem ok_law_deck (T : Tx K mg) : FnOk P w K mg base CX0 1 T.d_law_deck.f T.d_law_deck.fd ["_law_script"] (spM K (clOf T) m_law_deck) := by
  have nd := sc_law_deck.nd
  unfold m_law_deck b_law_deck
  exact fnM (k := 0) T.d_law_deck.fn sc_law_deck fun cdv A outer s H E hr =>
    (sss_one (ss_ret (se_new (sl_disp (sa_cons (se_new (sl_comp (own := [("_law_cell", 1)]) (t := (Tg.one 1)) (by decide) rfl nd (si_of (se_sl (se_var (pv 0)) sp_none (sp_some se_int))) (blkOk_by (N := N_law_deck) (sc := defScope s_law_deck) (by decide +kernel)) (fun _ _ _ _ _ => (pg_name (i := 1) nd rfl (Or.inl rfl))) (fun _ _ _ _ _ => sts_nil) (fun _ _ _ _ _ => (se_callB mAbs_noEx absM (by rfl) T.z_abs (by decide +kernel) (sa_cons (se_var (pv 1)) sa_nil))))) (sa_cons se_int sa_nil))))))
theorem ok_law_draw (T : Tx K mg) : FnOk P w K mg base CX0 1 T.d_law_draw.f T.d_law_draw.fd ["_law_deck_here", "_law_many"] (spM K (clOf T) m_law_draw) := by
  have nd := sc_law_draw.nd
  unfold m_law_draw b_law_draw
  exact fnM (k := 0) T.d_law_draw.fn sc_law_draw fun cdv A outer s H E hr =>
    (sss_cons (ss_setI (se_var (pv 0)) se_int (b_Add (x_ix hr (se_var (pv 0)) se_int (fun _ _ => rfl)) se_int))
    (sss_cons (ss_set (i := 2) nd rfl (Or.inl rfl) se_int)
    (sss_cons (ss_if (t_Gt (se_callB mLen_noEx lenM (by rfl) T.z_len (by decide +kernel) (sa_cons (x_ix hr (se_var (pv 0)) se_int (fun _ _ => rfl)) sa_nil)) se_int)
    (sss_cons (ss_set (i := 3) nd rfl (Or.inl rfl) (b_Mod (x_ix hr (se_var (pv 0)) se_int (fun _ _ => rfl)) (se_callB mLen_noEx lenM (by rfl) T.z_len (by decide +kernel) (sa_cons (x_ix hr (se_var (pv 0)) se_int (fun _ _ => rfl)) sa_nil))))
    (sss_cons (ss_set (i := 2) nd rfl (Or.inl rfl) (x_ix hr (x_ix hr (se_var (pv 0)) se_int (fun _ _ => rfl)) (se_var (pv 3)) (fun _ _ => rfl)))
    (sss_one (ss_if (t_GtE (se_var (pv 2)) (b_Pow se_int se_int))
    (sss_cons (ss_setI (x_ix hr (se_var (pv 0)) se_int (fun _ _ => rfl)) (se_var (pv 3)) (b_FloorDiv (se_var (pv 2)) (se_var (pv 1))))
    (sss_one (ss_ret (b_Mod (se_var (pv 2)) (se_var (pv 1))))))
    sss_nil))))
    sss_nil)
    (sss_one (ss_ret (b_Mod (b_Mod (b_Pow (b_Add (b_Add (b_Mod (se_var (pv 2)) se_int) (b_Mult se_int (x_ix hr (se_var (pv 0)) se_int (fun _ _ => rfl)))) se_int) se_int) se_int) (se_var (pv 1))))))))
theorem ok_law_plain (T : Tx K mg) : FnOk P w K mg base CX0 2 T.d_law_plain.f T.d_law_plain.fd ["_law_deck_here", "_law_at"] (spM K (clOf T) m_law_plain) := by
  have nd := sc_law_plain.nd
  unfold m_law_plain b_law_plain
  exact fnM (k := 1) T.d_law_plain.fn sc_law_plain fun cdv A outer s H E hr =>
    (sss_cons (ss_set (i := 2) nd rfl (Or.inl rfl) (se_call ne_law_draw (ok_law_draw T) (hr.mono (by omega)) rfl T.d_law_draw.m T.d_law_draw.kp T.d_law_draw.b (sa_cons (se_var (pv 0)) (sa_cons se_int sa_nil))))
    (sss_cons (ss_set (i := 3) nd rfl (Or.inl rfl) (se_call ne_law_draw (ok_law_draw T) (hr.mono (by omega)) rfl T.d_law_draw.m T.d_law_draw.kp T.d_law_draw.b (sa_cons (se_var (pv 0)) (sa_cons se_int sa_nil))))
    (sss_cons (ss_if (t_Eq hr (se_var (pv 2)) se_int)
    (sss_cons (ss_set (i := 4) nd rfl (Or.inl rfl) (se_tup (sa_cons se_str (sa_cons se_str (sa_cons (se_tup (sa_cons se_str (sa_cons (se_tup (sa_cons se_str (sa_cons (se_var (pv 3)) sa_nil))) (sa_cons se_str (sa_cons (se_tup (sa_cons (se_tup (sa_cons se_str (sa_cons se_str sa_nil))) sa_nil)) sa_nil))))) sa_nil)))))
    (sss_cons (ss_set (i := 5) nd rfl (Or.inl rfl) (se_new (sl_disp (sa_cons (se_tup (sa_cons (b_Add (se_var (pv 1)) se_int) (sa_cons se_str (sa_cons (se_var (pv 3)) sa_nil)))) (sa_cons (se_tup (sa_cons (b_Add (se_var (pv 1)) se_int) (sa_cons se_str (sa_cons se_int (sa_cons se_int sa_nil))))) (sa_cons (se_tup (sa_cons (b_Add (se_var (pv 1)) se_int) (sa_cons se_str (sa_cons se_str (sa_cons se_int sa_nil))))) (sa_cons (se_tup (sa_cons (se_var (pv 1)) (sa_cons se_str (sa_cons se_int (sa_cons se_int sa_nil))))) sa_nil)))))))
    (sss_one (ss_ret (se_tup (sa_cons (se_var (pv 4)) (sa_cons se_int (sa_cons (se_new (sl_catL (sl_disp (sa_cons (se_tup (sa_cons (se_var (pv 1)) (sa_cons se_str sa_nil))) sa_nil)) (se_var (pv 5)))) sa_nil))))))))
    sss_nil)
    (sss_cons (ss_if (t_Eq hr (se_var (pv 2)) se_int)
    (sss_cons (ss_set (i := 4) nd rfl (Or.inl rfl) (se_tup (sa_cons se_str (sa_cons (se_tup (sa_cons se_str (sa_cons (se_tup (sa_cons se_str (sa_cons se_str sa_nil))) (sa_cons se_str (sa_cons (se_tup sa_nil) sa_nil))))) sa_nil))))
    (sss_one (ss_ret (se_tup (sa_cons (se_var (pv 4)) (sa_cons se_int (sa_cons (se_new (sl_disp (sa_cons (se_tup (sa_cons (se_var (pv 1)) (sa_cons se_str sa_nil))) (sa_cons (se_tup (sa_cons (b_Add (se_var (pv 1)) se_int) (sa_cons se_str (sa_cons se_str sa_nil)))) (sa_cons (se_tup (sa_cons (b_Add (se_var (pv 1)) se_int) (sa_cons se_str (sa_cons se_str (sa_cons se_int sa_nil))))) (sa_cons (se_tup (sa_cons (se_var (pv 1)) (sa_cons se_str sa_nil))) sa_nil)))))) sa_nil)))))))
    sss_nil)
    (sss_cons (ss_set (i := 4) nd rfl (Or.inl rfl) (se_tup (sa_cons se_str (sa_cons (se_tup (sa_cons se_str (sa_cons (se_tup (sa_cons (se_tup (sa_cons se_str (sa_cons se_bl sa_nil))) (sa_cons (se_tup (sa_cons se_str (sa_cons se_int sa_nil))) sa_nil))) sa_nil))) sa_nil))))
    (sss_cons (ss_set (i := 5) nd rfl (Or.inl rfl) (se_new (sl_disp (sa_cons (se_tup (sa_cons (b_Add (se_var (pv 1)) se_int) (sa_cons se_str (sa_cons se_bl sa_nil)))) (sa_cons (se_tup (sa_cons (b_Add (se_var (pv 1)) se_int) (sa_cons se_str (sa_cons se_int sa_nil)))) (sa_cons (se_tup (sa_cons (b_Add (se_var (pv 1)) se_int) (sa_cons se_str (sa_cons se_int sa_nil)))) (sa_cons (se_tup (sa_cons (se_var (pv 1)) (sa_cons se_str sa_nil))) sa_nil)))))))
    (sss_one (ss_ret (se_tup (sa_cons (se_var (pv 4)) (sa_cons se_int (sa_cons (se_new (sl_catL (sl_disp (sa_cons (se_tup (sa_cons (se_var (pv 1)) (sa_cons se_str sa_nil))) sa_nil)) (se_var (pv 5)))) sa_nil))))))))))))
theorem ok_law_method (T : Tx K mg) : FnOk P w K mg base CX0 3 T.d_law_method.f T.d_law_method.fd ["_law_deck_here"] (spM K (clOf T) m_law_method) := by
  have nd := sc_law_method.nd
  unfold m_law_method b_law_method
  exact fnM (k := 2) T.d_law_method.fn sc_law_method fun cdv A outer s H E hr =>
    (sss_cons (ss_set (i := 1) nd rfl (Or.inl rfl) (se_call ne_law_draw (ok_law_draw T) (hr.mono (by omega)) rfl T.d_law_draw.m T.d_law_draw.kp T.d_law_draw.b (sa_cons (se_var (pv 0)) (sa_cons se_int sa_nil))))
    (sss_cons (ss_set (i := 2) nd rfl (Or.inl rfl) (b_Add se_int (se_callTy mInt_noEx intM (by rfl) T.z_int (by decide +kernel) (sa_cons (c_Lt (se_var (pv 1)) se_int) sa_nil))))
    (sss_cons (ss_setT (t := (Tg.many [3, 4, 5])) (se_call ne_law_plain (ok_law_plain T) (hr.mono (by omega)) rfl T.d_law_plain.m T.d_law_plain.kp T.d_law_plain.b (sa_cons (se_var (pv 0)) (sa_cons (se_var (pv 2)) sa_nil))) (pg_tup rfl (pgs_cons (pg_name (i := 3) nd rfl (Or.inl rfl)) (pgs_cons (pg_name (i := 4) nd rfl (Or.inl rfl)) (pgs_cons (pg_name (i := 5) nd rfl (Or.inl rfl)) pgs_nil)))))
    (sss_cons (ss_set (i := 6) nd rfl (Or.inl rfl) (se_callB mLen_noEx lenM (by rfl) T.z_len (by decide +kernel) (sa_cons (se_var (pv 5)) sa_nil)))
    (sss_cons (ss_if (t_Eq hr (se_var (pv 1)) se_int)
    (sss_cons (ss_set (i := 7) nd rfl (Or.inl rfl) (se_tup (sa_cons se_str (sa_cons (se_tup (sa_cons se_str (sa_cons se_bl sa_nil))) (sa_cons (se_tup (sa_cons (se_var (pv 3)) sa_nil)) (sa_cons (se_tup sa_nil) sa_nil))))))
    (sss_one (ss_set (i := 8) nd rfl (Or.inl rfl) (se_new (sl_cat (sl_catL (sl_disp (sa_cons (se_tup (sa_cons se_int (sa_cons se_str sa_nil))) (sa_cons (se_tup (sa_cons se_int (sa_cons se_str (sa_cons se_bl sa_nil)))) (sa_cons (se_tup (sa_cons se_int (sa_cons se_str (sa_cons (b_Add (se_var (pv 6)) se_int) sa_nil)))) sa_nil)))) (se_var (pv 5))) (sl_disp (sa_cons (se_tup (sa_cons se_int (sa_cons se_str (sa_cons (b_Add (se_var (pv 6)) se_int) sa_nil)))) sa_nil)))))))
    (sss_one (ss_if (t_Eq hr (se_var (pv 1)) se_int)
    (sss_cons (ss_set (i := 7) nd rfl (Or.inl rfl) (se_tup (sa_cons se_str (sa_cons (se_tup (sa_cons se_str (sa_cons se_bl sa_nil))) (sa_cons (se_tup (sa_cons (se_var (pv 3)) sa_nil)) sa_nil)))))
    (sss_one (ss_set (i := 8) nd rfl (Or.inl rfl) (se_new (sl_cat (sl_catL (sl_disp (sa_cons (se_tup (sa_cons se_int (sa_cons se_str sa_nil))) (sa_cons (se_tup (sa_cons se_int (sa_cons se_str (sa_cons se_bl sa_nil)))) (sa_cons (se_tup (sa_cons se_int (sa_cons se_str (sa_cons (b_Add (se_var (pv 6)) se_int) sa_nil)))) sa_nil)))) (se_var (pv 5))) (sl_disp (sa_cons (se_tup (sa_cons se_int (sa_cons se_str (sa_cons se_int sa_nil)))) sa_nil)))))))
    (sss_cons (ss_set (i := 7) nd rfl (Or.inl rfl) (se_tup (sa_cons se_str (sa_cons (se_tup (sa_cons (se_var (pv 3)) sa_nil)) (sa_cons se_str (sa_cons (se_tup sa_nil) sa_nil))))))
    (sss_cons (ss_set (i := 8) nd rfl (Or.inl rfl) (se_new (sl_catL (sl_disp (sa_cons (se_tup (sa_cons se_int (sa_cons se_str sa_nil))) (sa_cons (se_tup (sa_cons se_int (sa_cons se_str (sa_cons (b_Add (se_var (pv 6)) se_int) sa_nil)))) sa_nil))) (se_var (pv 5)))))
    (sss_one (ss_set (i := 8) nd rfl (Or.inl rfl) (se_new (sl_catE (se_var (pv 8)) (sl_disp (sa_cons (se_tup (sa_cons se_int (sa_cons se_str sa_nil))) (sa_cons (se_tup (sa_cons se_int (sa_cons se_str (sa_cons (b_Add (se_var (pv 6)) se_int) sa_nil)))) (sa_cons (se_tup (sa_cons se_int (sa_cons se_str (sa_cons se_int (sa_cons se_int sa_nil))))) sa_nil)))))))))))))
    (sss_cons (ss_set (i := 9) nd rfl (Or.inl rfl) (se_new (sl_disp (sa_cons (se_var (pv 7)) (sa_cons (se_tup (sa_cons se_str (sa_cons se_str (sa_cons (se_tup (sa_cons se_str (sa_cons se_int sa_nil))) sa_nil)))) sa_nil)))))
    (sss_cons (ss_set (i := 10) nd rfl (Or.inl rfl) (b_Add (se_var (pv 2)) (se_var (pv 4))))
    (sss_cons (ss_set (i := 8) nd rfl (Or.inl rfl) (se_new (sl_catE (se_var (pv 8)) (sl_disp (sa_cons (se_tup (sa_cons (se_var (pv 10)) (sa_cons se_str sa_nil))) (sa_cons (se_tup (sa_cons (b_Add (se_var (pv 10)) se_int) (sa_cons se_str (sa_cons se_int sa_nil)))) (sa_cons (se_tup (sa_cons (se_var (pv 10)) (sa_cons se_str (sa_cons se_int (sa_cons se_int sa_nil))))) (sa_cons (se_tup (sa_cons (se_neg se_int) (sa_cons se_str (sa_cons se_non sa_nil)))) (sa_cons (se_tup (sa_cons (se_neg se_int) (sa_cons se_str sa_nil))) sa_nil)))))))))
    (sss_one (ss_ret (se_tup (sa_cons (se_tup (sa_cons se_str (sa_cons se_str (sa_cons (se_tup (sa_cons se_str sa_nil)) (sa_cons (se_callTy mTuple_noEx tupleM (by rfl) T.z_tuple (by decide +kernel) (sa_cons (se_var (pv 9)) sa_nil)) sa_nil))))) (sa_cons (se_var (pv 8)) sa_nil)))))))))))))
theorem ok_law_bad_part (T : Tx K mg) : FnOk P w K mg base CX0 2 T.d_law_bad_part.f T.d_law_bad_part.fd ["_law_deck_here", "_law_part"] (spM K (clOf T) m_law_bad_part) := by
  have nd := sc_law_bad_part.nd
  unfold m_law_bad_part b_law_bad_part
  exact fnM (k := 1) T.d_law_bad_part.fn sc_law_bad_part fun cdv A outer s H E hr =>
    (sss_cons (ss_set (i := 2) nd rfl (Or.inl rfl) (se_call ne_law_draw (ok_law_draw T) (hr.mono (by omega)) rfl T.d_law_draw.m T.d_law_draw.kp T.d_law_draw.b (sa_cons (se_var (pv 0)) (sa_cons se_int sa_nil))))
    (sss_cons (ss_if (st_val (se_isi (T := "bool") (by decide) (by rfl) T.z_isinstance (se_var (pv 1)) (pe_bltn (v := .ty "bool") (by rfl) T.z_bool (by decide +kernel) rfl)))
    (sss_one (ss_ret (se_ixL (sl_disp (sa_cons (se_not (se_var (pv 1))) (sa_cons (se_callTy mInt_noEx intM (by rfl) T.z_int (by decide +kernel) (sa_cons (se_var (pv 1)) sa_nil)) (sa_cons se_non (sa_cons (se_callTy mStr_noEx strM (by rfl) T.z_str (by decide +kernel) (sa_cons (se_var (pv 1)) sa_nil)) sa_nil))))) (se_var (pv 2)) (fun _ _ => rfl))))
    sss_nil)
    (sss_cons (ss_if (st_val (se_isi (T := "int") (by decide) (by rfl) T.z_isinstance (se_var (pv 1)) (pe_bltn (v := .ty "int") (by rfl) T.z_int (by decide +kernel) rfl)))
    (sss_one (ss_ret (se_ixL (sl_disp (sa_cons (b_Add (se_var (pv 1)) se_int) (sa_cons (b_Sub (se_var (pv 1)) se_int) (sa_cons (se_callTy mStr_noEx strM (by rfl) T.z_str (by decide +kernel) (sa_cons (se_var (pv 1)) sa_nil)) (sa_cons (se_ixL (sl_disp (sa_cons (se_callTy mBool_noEx boolM (by rfl) T.z_bool (by decide +kernel) (sa_cons (se_var (pv 1)) sa_nil)) (sa_cons se_non sa_nil))) (se_callTy mInt_noEx intM (by rfl) T.z_int (by decide +kernel) (sa_cons (se_or (c_Gt (se_var (pv 1)) se_int) (se_one (c_Lt (se_var (pv 1)) se_int))) sa_nil)) (fun _ _ => rfl)) sa_nil))))) (se_var (pv 2)) (fun _ _ => rfl))))
    sss_nil)
    (sss_cons (ss_if (t_Is (se_var (pv 1)) se_non)
    (sss_one (ss_ret (se_ixL (sl_disp (sa_cons se_bl (sa_cons se_int (sa_cons se_str (sa_cons (se_tup sa_nil) sa_nil))))) (se_var (pv 2)) (fun _ _ => rfl))))
    sss_nil)
    (sss_one (ss_ret (se_ixL (sl_disp (sa_cons (b_Add (se_var (pv 1)) se_str) (sa_cons (se_sl (se_var (pv 1)) sp_none (sp_some (se_neg se_int))) (sa_cons se_non (sa_cons (se_tup (sa_cons (se_var (pv 1)) sa_nil)) sa_nil))))) (se_var (pv 2)) (fun _ _ => rfl))))))))
theorem ok_law_spoilt (T : Tx K mg) : FnOk P w K mg base CX0 3 T.d_law_spoilt.f T.d_law_spoilt.fd ["_law_deck_here", "_law_made"] (spM K (clOf T) m_law_spoilt) := by
  have nd := sc_law_spoilt.nd
  unfold m_law_spoilt b_law_spoilt
  exact fnM (k := 2) T.d_law_spoilt.fn sc_law_spoilt fun cdv A outer s H E hr =>
    (sss_cons (ss_set (i := 2) nd rfl (Or.inl rfl) (se_call ne_law_draw (ok_law_draw T) (hr.mono (by omega)) rfl T.d_law_draw.m T.d_law_draw.kp T.d_law_draw.b (sa_cons (se_var (pv 0)) (sa_cons se_int sa_nil))))
    (sss_cons (ss_set (i := 3) nd rfl (Or.inl rfl) (se_call ne_law_draw (ok_law_draw T) (hr.mono (by omega)) rfl T.d_law_draw.m T.d_law_draw.kp T.d_law_draw.b (sa_cons (se_var (pv 0)) (sa_cons (se_callB mLen_noEx lenM (by rfl) T.z_len (by decide +kernel) (sa_cons (se_var (pv 1)) sa_nil)) sa_nil))))
    (sss_cons (ss_set (i := 4) nd rfl (Or.inl rfl) (x_ix hr (se_var (pv 1)) (se_var (pv 3)) (fun _ _ => rfl)))
    (sss_cons (ss_if (t_Eq hr (se_var (pv 2)) se_int)
    (sss_one (ss_ret (se_callTy mTuple_noEx tupleM (by rfl) T.z_tuple (by decide +kernel) (sa_cons (b_Add (se_sl (se_var (pv 1)) sp_none (sp_some (se_var (pv 3)))) (se_sl (se_var (pv 1)) (sp_some (b_Add (se_var (pv 3)) se_int)) sp_none)) sa_nil))))
    sss_nil)
    (sss_cons (ss_if (t_Eq hr (se_var (pv 2)) se_int)
    (sss_one (ss_ret (se_callTyL lTuple_ok lTuple_noEx call_tuple_of (by rfl) T.z_tuple (by decide +kernel) (sl_catL (sl_catE (se_sl (se_var (pv 1)) sp_none (sp_some (se_var (pv 3)))) (sl_disp (sa_cons (se_var (pv 4)) sa_nil))) (se_sl (se_var (pv 1)) (sp_some (se_var (pv 3))) sp_none)))))
    sss_nil)
    (sss_cons (ss_if (t_Eq hr (se_var (pv 2)) se_int)
    (sss_one (ss_ret (se_callTyL lTuple_ok lTuple_noEx call_tuple_of (by rfl) T.z_tuple (by decide +kernel) (sl_catE (se_var (pv 1)) (sl_disp (sa_cons (x_ix hr (se_var (pv 1)) (se_neg se_int) (fun _ _ => rfl)) sa_nil))))))
    sss_nil)
    (sss_cons (ss_if (t_Eq hr (se_var (pv 2)) se_int)
    (sss_one (ss_ret (se_callTyL lTuple_ok lTuple_noEx call_tuple_of (by rfl) T.z_tuple (by decide +kernel) (sl_catL (sl_catE (se_sl (se_var (pv 1)) sp_none (sp_some (se_var (pv 3)))) (sl_disp (sa_cons (b_Add (se_var (pv 4)) (se_tup (sa_cons se_int sa_nil))) sa_nil))) (se_sl (se_var (pv 1)) (sp_some (b_Add (se_var (pv 3)) se_int)) sp_none)))))
    sss_nil)
    (sss_cons (ss_if (t_Eq hr (se_var (pv 2)) se_int)
    (sss_one (ss_ret (se_callTyL lTuple_ok lTuple_noEx call_tuple_of (by rfl) T.z_tuple (by decide +kernel) (sl_catL (sl_catE (se_sl (se_var (pv 1)) sp_none (sp_some (se_var (pv 3)))) (sl_disp (sa_cons (se_new (sl_of (x := "list") (by rfl) T.z_list (se_var (pv 4)))) sa_nil))) (se_sl (se_var (pv 1)) (sp_some (b_Add (se_var (pv 3)) se_int)) sp_none)))))
    sss_nil)
    (sss_cons (ss_if (t_Eq hr (se_var (pv 2)) se_int)
    (sss_one (ss_ret (se_ixL (sl_disp (sa_cons (se_new (sl_of (x := "list") (by rfl) T.z_list (se_var (pv 1)))) (sa_cons se_non (sa_cons (se_tup sa_nil) (sa_cons se_str (sa_cons se_int (sa_cons se_dict0 sa_nil))))))) (se_call ne_law_draw (ok_law_draw T) (hr.mono (by omega)) rfl T.d_law_draw.m T.d_law_draw.kp T.d_law_draw.b (sa_cons (se_var (pv 0)) (sa_cons se_int sa_nil))) (fun _ _ => rfl))))
    sss_nil)
    (sss_cons (ss_if (PW.pt (sw_and (t_Eq hr (se_var (pv 2)) se_int) (sw_and1 (t_Gt (se_var (pv 3)) se_int))))
    (sss_one (ss_ret (se_callTyL lTuple_ok lTuple_noEx call_tuple_of (by rfl) T.z_tuple (by decide +kernel) (sl_catL (sl_catE (se_sl (se_var (pv 1)) sp_none (sp_some (b_Sub (se_var (pv 3)) se_int))) (sl_disp (sa_cons (se_var (pv 4)) (sa_cons (x_ix hr (se_var (pv 1)) (b_Sub (se_var (pv 3)) se_int) (fun _ _ => rfl)) sa_nil)))) (se_sl (se_var (pv 1)) (sp_some (b_Add (se_var (pv 3)) se_int)) sp_none)))))
    sss_nil)
    (sss_cons (ss_set (i := 5) nd rfl (Or.inl rfl) (se_call ne_law_draw (ok_law_draw T) (hr.mono (by omega)) rfl T.d_law_draw.m T.d_law_draw.kp T.d_law_draw.b (sa_cons (se_var (pv 0)) (sa_cons (se_callB mLen_noEx lenM (by rfl) T.z_len (by decide +kernel) (sa_cons (se_var (pv 4)) sa_nil)) sa_nil))))
    (sss_one (ss_ret (se_callTyL lTuple_ok lTuple_noEx call_tuple_of (by rfl) T.z_tuple (by decide +kernel) (sl_catL (sl_catE (se_sl (se_var (pv 1)) sp_none (sp_some (se_var (pv 3)))) (sl_disp (sa_cons (b_Add (b_Add (se_sl (se_var (pv 4)) sp_none (sp_some (se_var (pv 5)))) (se_tup (sa_cons (se_call ne_law_bad_part (ok_law_bad_part T) (hr.mono (by omega)) rfl T.d_law_bad_part.m T.d_law_bad_part.kp T.d_law_bad_part.b (sa_cons (se_var (pv 0)) (sa_cons (x_ix hr (se_var (pv 4)) (se_var (pv 5)) (fun _ _ => rfl)) sa_nil))) sa_nil))) (se_sl (se_var (pv 4)) (sp_some (b_Add (se_var (pv 5)) se_int)) sp_none)) sa_nil))) (se_sl (se_var (pv 1)) (sp_some (b_Add (se_var (pv 3)) se_int)) sp_none))))))))))))))))
theorem ok_law (T : Tx K mg) : FnOk P w K mg base CX0 127 T.d_law.f T.d_law.fd ["_law_script"] (spM K (clOf T) m_law) := by
  have nd := sc_law.nd
  unfold m_law b_law
  exact fnM (k := 126) T.d_law.fn sc_law fun cdv A outer s H E hr =>
    (sss_cons (ss_set (i := 1) nd rfl (Or.inl rfl) (se_call ne_law_deck (ok_law_deck T) (hr.mono (by omega)) rfl T.d_law_deck.m T.d_law_deck.kp T.d_law_deck.b (sa_cons (se_var (pv 0)) sa_nil)))
    (sss_cons (ss_setT (t := (Tg.many [2, 3])) (se_call ne_law_method (ok_law_method T) (hr.mono (by omega)) rfl T.d_law_method.m T.d_law_method.kp T.d_law_method.b (sa_cons (se_var (pv 1)) sa_nil)) (pg_tup rfl (pgs_cons (pg_name (i := 2) nd rfl (Or.inl rfl)) (pgs_cons (pg_name (i := 3) nd rfl (Or.inl rfl)) pgs_nil))))
    (sss_cons (ss_if (st_not (st_val (se_call ne_rows_stand (ok_rows_stand T) (hr.mono (by omega)) rfl T.d_rows_stand.m T.d_rows_stand.kp T.d_rows_stand.b (sa_cons (se_var (pv 2)) (sa_cons (se_neg se_int) (sa_cons (se_callTy mTuple_noEx tupleM (by rfl) T.z_tuple (by decide +kernel) (sa_cons (se_var (pv 3)) sa_nil)) sa_nil))))))
    (sss_one (ss_ret se_bl))
    sss_nil)
    (sss_cons (ss_for (t := (Tg.one 4)) PassesOwn.never rfl (si_range1 (by rfl) T.z_range (sa_cons se_int sa_nil)) (pg_name (i := 4) nd rfl (Or.inl rfl))
    (sss_one (ss_if (st_val (se_call ne_rows_stand (ok_rows_stand T) (hr.mono (by omega)) rfl T.d_rows_stand.m T.d_rows_stand.kp T.d_rows_stand.b (sa_cons (se_var (pv 2)) (sa_cons (se_neg se_int) (sa_cons (se_call ne_law_spoilt (ok_law_spoilt T) (hr.mono (by omega)) rfl T.d_law_spoilt.m T.d_law_spoilt.kp T.d_law_spoilt.b (sa_cons (se_var (pv 1)) (sa_cons (se_var (pv 3)) sa_nil))) sa_nil)))))
    (sss_one (ss_ret se_bl))
    sss_nil)))
    (sss_one (ss_ret se_bl))))))
end
end My

set_option Elab.async false
set_option linter.all false
set_option maxRecDepth 100000
set_option maxHeartbeats 4000000
/-! running the small machine -/
namespace Sm
open PySem L2
@[simp] theorem ofString_inj {a b : String} : (Str.ofString a = Str.ofString b) = (a = b) := by
  apply propext
  constructor
  · intro h
    rw [Str.ofString_eq_toList, Str.ofString_eq_toList] at h
    have h1 : (a.toList.map Char.toNat) = (b.toList.map Char.toNat) := by
      have := congrArg (fun z => z.cps.toList) h
      simpa using this
    have h2 : a.toList = b.toList := by
      have inj : ∀ (xs ys : List Char), xs.map Char.toNat = ys.map Char.toNat → xs = ys := by
        intro xs
        induction xs with
        | nil => intro ys h; cases ys with | nil => rfl | cons _ _ => simp at h
        | cons x xs ih =>
          intro ys h
          cases ys with
          | nil => simp at h
          | cons y ys =>
            simp only [List.map_cons, List.cons.injEq] at h
            have : x = y := by
              have := h.1
              exact Char.toNat_inj.mp this
            rw [this, ih ys h.2]
      exact inj _ _ h1
    exact String.toList_inj.mp h2
  · rintro rfl; rfl
end Sm
namespace Sm
open PySem L2
theorem mfun_rt {np n : Nat} {body : MSt} {args : List MV} {h h' : MH} {v : MV} (hl : args.length = np) (e : body (args.map some ++ List.replicate (n - np) none) h = .rt v h') : mfun np n body args h = .ok v (gc h v h') := by
  unfold mfun; rw [if_pos hl, e]
theorem mfun_nx {np n : Nat} {body : MSt} {args : List MV} {h h' : MH} {ρ : MS} (hl : args.length = np) (e : body (args.map some ++ List.replicate (n - np) none) h = .nx ρ h') : mfun np n body args h = .ok .non (gc h .non h') := by
  unfold mfun; rw [if_pos hl, e]
/-- nothing was made -/
theorem gc_len {h h' : MH} {v : MV} (e : h'.length = h.length) : gc h v h' = h' := by
  unfold gc
  split
  · rw [← e, List.take_length]
  · rfl
/-- what was made goes: the old cells are as they were -/
theorem gc_ext {h h' : MH} {v : MV} (hv : bel h.length v = true) (e : ∀ i, i < h.length → h'[i]? = h[i]?) : gc h v h' = h := by
  unfold gc
  rw [if_pos ⟨hv, fun i hi => ⟨h[i], by rw [e i hi]; simp [hi], .inl (by simp [hi])⟩⟩]
  apply List.ext_getElem?
  intro k
  by_cases hk : k < h.length
  · rw [List.getElem?_take_of_lt hk, e k hk]
  · rw [List.getElem?_eq_none (by rw [List.length_take]; omega), List.getElem?_eq_none (by omega)]
theorem gc_app {h g : MH} {v : MV} (hv : bel h.length v = true) : gc h v (h ++ g) = h := gc_ext hv fun i hi => List.getElem?_append_left hi
/-- cells apart -/
theorem cells_ne {h : MH} {a b : Nat} {o u : MO} (ha : h[a]? = some o) (hb : h[b]? = some u) (d : o ≠ u) : a ≠ b := fun e => by
  subst e; rw [ha] at hb; exact d (Option.some.inj hb)
theorem lt_of_get {α : Type} {h : List α} {a : Nat} {o : α} (ha : h[a]? = some o) : a < h.length := (List.getElem?_eq_some_iff.mp ha).1
end Sm
namespace Sm
open PySem L2
theorem runs {np n : Nat} {body : MSt} {args : List MV} {h h' h2 : MH} {v : MV} (hl : args.length = np) (e : body (args.map some ++ List.replicate (n - np) none) h = .rt v h') (g : gc h v h' = h2) : mfun np n body args h = .ok v h2 := by
  rw [mfun_rt hl e, g]
theorem runsN {np n : Nat} {body : MSt} {args : List MV} {h h' h2 : MH} {ρ : MS} (hl : args.length = np) (e : body (args.map some ++ List.replicate (n - np) none) h = .nx ρ h') (g : gc h .non h' = h2) : mfun np n body args h = .ok .non h2 := by
  rw [mfun_nx hl e, g]
end Sm
namespace Sm
open PySem L2
theorem gss {h : MH} {a : Nat} {u o : MO} (ha : h[a]? = some u) : (h.set a o)[a]? = some o := List.getElem?_set_self (lt_of_get ha)
theorem gsn {h : MH} {a b : Nat} {o : MO} (n : a ≠ b) : (h.set b o)[a]? = h[a]? := List.getElem?_set_ne (Ne.symm n)
/-- a cell behind which others come -/
theorem gap {h g : MH} {a : Nat} {u : MO} (ha : h[a]? = some u) : (h ++ g)[a]? = some u := by rw [List.getElem?_append_left (lt_of_get ha)]; exact ha
theorem gnew {h : MH} {o : MO} : (h ++ [o])[h.length]? = some o := by simp
end Sm
namespace Sm
open PySem L2
theorem ixNat {α : Type} {xs : List α} {i : Nat} {x : α} (h : xs[i]? = some x) : atI xs (i : Int) = some x := by
  have l := lt_of_get h
  unfold atI ixN
  simp only [Int.natCast_nonneg, if_true, Int.ofNat_lt]
  rw [if_pos l]
  simpa using h
section
variable {α : Type} {x y z u v : α} {xs : List α}
theorem i0 : atI (x :: xs) 0 = some x := ixNat (i := 0) rfl
theorem i1 : atI (x :: y :: xs) 1 = some y := ixNat (i := 1) rfl
theorem i2 : atI (x :: y :: z :: xs) 2 = some z := ixNat (i := 2) rfl
theorem i3 : atI (x :: y :: z :: u :: xs) 3 = some u := ixNat (i := 3) rfl
theorem i4 : atI (x :: y :: z :: u :: v :: xs) 4 = some v := ixNat (i := 4) rfl
end
end Sm
namespace Sm
open PySem L2
theorem seq_nx {m1 m2 : MSt} {ρ ρ1 : MS} {h h1 : MH} (e : m1 ρ h = .nx ρ1 h1) : sSeq m1 m2 ρ h = m2 ρ1 h1 := by unfold sSeq; rw [e]
theorem seq_rt {m1 m2 : MSt} {ρ : MS} {h h1 : MH} {v : MV} (e : m1 ρ h = .rt v h1) : sSeq m1 m2 ρ h = .rt v h1 := by unfold sSeq; rw [e]
theorem set0 {h0 ks : MH} {o o' : MO} : (h0 ++ o :: ks).set h0.length o' = h0 ++ o' :: ks := by rw [List.set_append_right _ _ (Nat.le_refl _)]; simp
theorem get0 {h0 ks : MH} {o : MO} : (h0 ++ o :: ks)[h0.length]? = some o := by simp
end Sm

set_option Elab.async false
set_option linter.all false
set_option maxRecDepth 100000
set_option maxHeartbeats 4000000
namespace My
open PySem L2 Sm
/-- a node: its value, its word, its other items, a block's parameters, how many first statements, the nodes within -/
inductive Nd where
  | mk (v : MV) (w : Str) (its : List MV) (ps : List Str) (m : Nat) (ks : List Nd)
def Nd.v : Nd → MV | .mk v _ _ _ _ _ => v
def Nd.w : Nd → Str | .mk _ w _ _ _ _ => w
def Nd.its : Nd → List MV | .mk _ _ its _ _ _ => its
def Nd.ps : Nd → List Str | .mk _ _ _ ps _ _ => ps
def Nd.m : Nd → Nat | .mk _ _ _ _ m _ => m
def Nd.ks : Nd → List Nd | .mk _ _ _ _ _ ks => ks
/-- what is told of a node by its number -/
structure Rec where
  v : MV
  w : Str
  its : List MV
  ps : List Str
  m : Nat
  above : Int
  code : Int
  hid : List (List Str)
  kids : List Int
mutual
def size : Nd → Nat
  | .mk _ _ _ _ _ ks => 1 + sizeL ks
def sizeL : List Nd → Nat
  | [] => 0
  | k :: ks => size k + sizeL ks
end
def kidNums (n : Nat) : List Nd → List Int
  | [] => []
  | k :: ks => (n : Int) :: kidNums (n + size k) ks
mutual
def recs (n : Nat) (above code : Int) (hid : List (List Str)) : Nd → List Rec
  | .mk v w its ps m ks => ⟨v, w, its, ps, m, above, code, hid, kidNums (n + 1) ks⟩ :: recsL (n + 1) n (if w = "block" then (n : Int) else code) (if w = "block" then ps :: hid else hid) ks
def recsL (n : Nat) (above code : Int) (hid : List (List Str)) : List Nd → List Rec
  | [] => []
  | k :: ks => recs n above code hid k ++ recsL (n + size k) above code hid ks
end
mutual
theorem recs_len : ∀ (t : Nd) (n : Nat) (a c : Int) (h : List (List Str)), (recs n a c h t).length = size t
  | .mk v w its ps m ks, n, a, c, h => by
    unfold recs size
    rw [List.length_cons, recsL_len ks]
    omega
theorem recsL_len : ∀ (ts : List Nd) (n : Nat) (a c : Int) (h : List (List Str)), (recsL n a c h ts).length = sizeL ts
  | [], n, a, c, h => by unfold recsL sizeL; rfl
  | k :: ks, n, a, c, h => by
    unfold recsL sizeL
    rw [List.length_append, recs_len k, recsL_len ks]
end
theorem recsL_append : ∀ (xs ys : List Nd) (n : Nat) (a c : Int) (h : List (List Str)), recsL n a c h (xs ++ ys) = recsL n a c h xs ++ recsL (n + sizeL xs) a c h ys
  | [], ys, n, a, c, h => by simp [recsL, sizeL]
  | k :: ks, ys, n, a, c, h => by
    simp only [List.cons_append, recsL, sizeL]
    rw [recsL_append ks ys, List.append_assoc, Nat.add_assoc]
theorem kidNums_append : ∀ (xs ys : List Nd) (n : Nat), kidNums n (xs ++ ys) = kidNums n xs ++ kidNums (n + sizeL xs) ys
  | [], ys, n => by simp [kidNums, sizeL]
  | k :: ks, ys, n => by
    simp only [List.cons_append, kidNums, sizeL]
    rw [kidNums_append ks ys, Nat.add_assoc]
theorem sizeL_append : ∀ (xs ys : List Nd), sizeL (xs ++ ys) = sizeL xs + sizeL ys
  | [], ys => by simp [sizeL]
  | k :: ks, ys => by
    simp only [List.cons_append, sizeL]
    rw [sizeL_append ks ys, Nat.add_assoc]
theorem kidNums_len : ∀ (xs : List Nd) (n : Nat), (kidNums n xs).length = xs.length
  | [], n => rfl
  | k :: ks, n => by simp [kidNums, kidNums_len ks]
theorem size_pos : ∀ t : Nd, 0 < size t
  | .mk _ _ _ _ _ ks => by unfold size; omega
theorem len_le_sizeL : ∀ ts : List Nd, ts.length ≤ sizeL ts
  | [] => Nat.le_refl _
  | k :: ks => by
    have h1 := size_pos k
    have h2 := len_le_sizeL ks
    simp only [List.length_cons, sizeL]
    omega
def oneW : List Str := ["do", "say", "return", "raise"]
def leafW : List Str := ["number", "text", "truth", "none", "self", "name", "field", "new"]
/-- a node's items and the nodes within -/
inductive Form : Str → List MV → List Str → Nat → List MV → Prop
  | set (x : Str) (e : MV) : Form "set" [.str x, e] [] 0 [e]
  | setfield (x : Str) (e : MV) : Form "setfield" [.str x, e] [] 0 [e]
  | one (w : Str) (h : w ∈ oneW) (e : MV) : Form w [e] [] 0 [e]
  | cond (e : MV) (xs ys : List MV) : Form "if" [e, .tup xs, .tup ys] [] xs.length ((e :: xs) ++ ys)
  | loop (e : MV) (xs : List MV) : Form "while" [e, .tup xs] [] xs.length (e :: xs)
  | tri (x : Str) (xs ys : List MV) : Form "try" [.tup xs, .str x, .tup ys] [] xs.length (xs ++ ys)
  | send (e : MV) (m : Str) (xs : List MV) : Form "send" [e, .str m, .tup xs] [] 0 (e :: xs)
  | up (m : Str) (xs : List MV) : Form "up" [.str m, .tup xs] [] 0 xs
  | block (ps : List Str) (xs : List MV) : Form "block" [.tup (ps.map MV.str), .tup xs] ps 0 xs
  | list (xs : List MV) : Form "list" [.tup xs] [] 0 xs
  | leaf (w : Str) (h : w ∈ leafW) (its : List MV) : Form w its [] 0 []
/-- the tree stands as its values tell -/
inductive NdOk : Nd → Prop
  | mk (w : Str) (its : List MV) (ps : List Str) (m : Nat) (ks : List Nd) (hf : Form w its ps m (ks.map Nd.v)) (hb : bels 0 its = true) (hl : ks.length ≤ 1000) (hk : ∀ k, k ∈ ks → NdOk k) : NdOk (.mk (.tup (.str w :: its)) w its ps m ks)
/-- whether a word is among some -/
def among (x : Str) (ps : List Str) : Bool := decide (x ∈ ps)
/-- whether a word is a parameter of a block around -/
def hidden (x : Str) (h : List (List Str)) : Bool := h.any fun ps => among x ps
def nameOf (w : Str) (its : List MV) : Option Str := if w = "set" then (match its with | .str x :: _ => some x | _ => none) else if w = "try" then (match its with | _ :: .str x :: _ => some x | _ => none) else none
/-- the code of a node is the one given, or a block ahead of it; what hides likewise -/
def Chain (b : Nat) (c : Int) (h : List (List Str)) (rs : List Rec) : Prop := ∀ (j : Nat) (r : Rec), rs[j]? = some r → (r.code = c ∧ r.hid = h) ∨ ∃ (i : Nat) (r' : Rec), r.code = ((b + i : Nat) : Int) ∧ i < j ∧ rs[i]? = some r' ∧ r'.w = "block" ∧ r.hid = r'.ps :: r'.hid
theorem Chain.append {b : Nat} {c : Int} {h : List (List Str)} {xs ys : List Rec} (hx : Chain b c h xs) (hy : Chain (b + xs.length) c h ys) : Chain b c h (xs ++ ys) := fun j r hj => by
  by_cases h : j < xs.length
  · rw [List.getElem?_append_left h] at hj
    rcases hx j r hj with e | ⟨i, r', e1, e2, e3, e4⟩
    · exact .inl e
    · exact .inr ⟨i, r', e1, e2, by rw [List.getElem?_append_left (by omega)]; exact e3, e4⟩
  · rw [List.getElem?_append_right (by omega)] at hj
    rcases hy _ r hj with e | ⟨i, r', e1, e2, e3, e4⟩
    · exact .inl e
    · refine .inr ⟨xs.length + i, r', by rw [e1]; congr 1; omega, by omega, ?_, e4⟩
      rw [List.getElem?_append_right (by omega), show xs.length + i - xs.length = i by omega]
      exact e3
mutual
theorem chain_recs : ∀ (t : Nd) (n : Nat) (a c : Int) (h : List (List Str)), Chain n c h (recs n a c h t)
  | .mk v w its ps m ks, n, a, c, h => by
    have ih := chain_recsL ks (n + 1) n (if w = "block" then (n : Int) else c) (if w = "block" then ps :: h else h)
    intro j r hj
    simp only [recs] at hj
    cases j with
    | zero =>
      have e := Option.some.inj hj
      subst e
      exact .inl ⟨rfl, rfl⟩
    | succ j =>
      rw [List.getElem?_cons_succ] at hj
      rcases ih j r hj with ⟨e, e'⟩ | ⟨i, r', e1, e2, e3, e4⟩
      · by_cases hw : w = "block"
        · rw [if_pos hw] at e e'
          refine .inr ⟨0, ⟨v, w, its, ps, m, a, c, h, kidNums (n + 1) ks⟩, by rw [e]; rfl, by omega, ?_, hw, e'⟩
          simp only [recs]
          rfl
        · rw [if_neg hw] at e e'
          exact .inl ⟨e, e'⟩
      · refine .inr ⟨i + 1, r', by rw [e1]; congr 1; omega, by omega, ?_, e4⟩
        simp only [recs]
        rw [List.getElem?_cons_succ]
        exact e3
theorem chain_recsL : ∀ (ts : List Nd) (n : Nat) (a c : Int) (h : List (List Str)), Chain n c h (recsL n a c h ts)
  | [], n, a, c, h => by
    intro j r hj
    simp only [recsL] at hj
    simp at hj
  | t :: ts, n, a, c, h => by
    simp only [recsL]
    refine Chain.append (chain_recs t n a c h) ?_
    rw [recs_len]
    exact chain_recsL ts (n + size t) a c h
end
/-- a code of rs: -1 or a block; what it and those around hide -/
def CodeOk (rs : List Rec) (c : Int) (h : List (List Str)) : Prop := (c = -1 ∧ h = []) ∨ ∃ (i : Nat) (r : Rec), c = (i : Int) ∧ rs[i]? = some r ∧ r.w = "block" ∧ h = r.ps :: r.hid
theorem Chain.code {rs : List Rec} (h : Chain 0 (-1) [] rs) {j : Nat} {r : Rec} (hj : rs[j]? = some r) : CodeOk rs r.code r.hid ∧ r.code < (j : Int) := by
  rcases h j r hj with ⟨e, e'⟩ | ⟨i, r', e1, e2, e3, e4, e5⟩
  · exact ⟨.inl ⟨e, e'⟩, by omega⟩
  · rw [Nat.zero_add] at e1
    exact ⟨.inr ⟨i, r', e1, e3, e4, e5⟩, by omega⟩
/-! ### where a name stands -/
def idx (x : Str) : List Str → Nat
  | [] => 0
  | y :: ys => if y = x then 0 else idx x ys + 1
def lookN (nm : List Str) (x : Str) : Nat → List (List Str) → Option (Nat × Nat)
  | out, [] => if among x nm = true then some (out, idx x nm) else none
  | out, ps :: h => if among x ps = true then some (out, idx x ps) else lookN nm x (out + 1) h
theorem among_mem {x : Str} {ps : List Str} (h : x ∈ ps) : among x ps = true := by unfold among; simpa using h
theorem among_iff {x : Str} {ps : List Str} (h : among x ps = true) : x ∈ ps := by unfold among at h; simpa using h
theorem among_not {x : Str} {ps : List Str} (h : x ∉ ps) : among x ps = false := by unfold among; simpa using h
theorem idx_at : ∀ {x : Str} {ps : List Str}, x ∈ ps → ps[idx x ps]? = some x ∧ ∀ m, m < idx x ps → ps[m]? ≠ some x
  | x, [], h => by simp at h
  | x, y :: ys, h => by
    unfold idx
    by_cases e : y = x
    · rw [if_pos e]
      exact ⟨by rw [e]; rfl, fun m hm => by omega⟩
    · rw [if_neg e]
      have hm : x ∈ ys := by
        rcases List.mem_cons.mp h with q | q
        · exact absurd q.symm e
        · exact q
      obtain ⟨h1, h2⟩ := idx_at hm
      refine ⟨by rw [List.getElem?_cons_succ]; exact h1, fun m hm => ?_⟩
      cases m with
      | zero => intro q; exact e (Option.some.inj q)
      | succ m => rw [List.getElem?_cons_succ]; exact h2 m (by omega)
/-! ### the rows of an e, of statements -/
def plainW : List Str := ["number", "text", "truth"]
def vi (n : Nat) : MV := .int (n : Int)
def nameRow (nm : List Str) (n : Nat) (word x : Str) (h : List (List Str)) : List MV := [vi n, .str word] ++ (match lookN nm x 0 h with | some (o, i) => [vi o, vi i] | none => [])
def usedRow (n : Nat) (w : Str) (its : List MV) (k : Nat) : List MV :=
  if w = "send" then [vi n, .str "send", its.getD 1 .non, vi (k - 1)] else if w = "up" then [vi n, .str "up", its.getD 0 .non, vi k] else [vi n, .str "list", vi k]
def xOf (its : List MV) (i : Nat) : Str := match its[i]? with | some (.str x) => x | _ => ""
mutual
def rE (nm : List Str) (n : Nat) (h : List (List Str)) : Nd → List (List MV)
  | .mk _ w its _ _ ks =>
    if w ∈ plainW then [[vi n, .str "push", its.getD 0 .non]]
    else if w = "none" then [[vi n, .str "push", .non]]
    else if w = "self" then [[vi n, .str "self"]]
    else if w = "name" then [nameRow nm n "name" (xOf its 0) h]
    else if w = "block" then [[vi n, .str "block", vi n]]
    else if w = "field" ∨ w = "new" then [[vi n, .str w, its.getD 0 .non]]
    else rEs nm (n + 1) h ks ++ [usedRow n w its ks.length]
def rEs (nm : List Str) (n : Nat) (h : List (List Str)) : List Nd → List (List MV)
  | [] => []
  | k :: ks => rE nm n h k ++ rEs nm (n + size k) h ks
end
mutual
def eOk (nm : List Str) (h : List (List Str)) : Nd → Prop
  | .mk _ w its _ _ ks => (w ∈ plainW ∧ ∃ y, its = [y]) ∨ w = "none" ∨ w = "self" ∨ (w = "name" ∧ ∃ x, its = [.str x] ∧ (lookN nm x 0 h).isSome = true) ∨ w = "block" ∨ ((w = "field" ∨ w = "new") ∧ ∃ x, its = [.str x]) ∨ ((w = "send" ∨ w = "up" ∨ w = "list") ∧ esOk nm h ks)
def esOk (nm : List Str) (h : List (List Str)) : List Nd → Prop
  | [] => True
  | k :: ks => eOk nm h k ∧ esOk nm h ks
end
mutual
/-- the rows of a statement whose first row has the number s -/
def rS (nm : List Str) (s n : Nat) (h : List (List Str)) : Nd → List (List MV)
  | .mk _ w its _ m ks => match ks with
    | [] => if w = "try" then [[vi n, .str "beat"], [vi n, .str "try", vi (s + 4)], [vi n, .str "untry"], [vi n, .str "jump", vi (s + 5)], nameRow nm n "setname" (xOf its 1) h] else []
    | k :: r =>
      if w ∈ oneW then [[vi n, .str "beat"]] ++ rE nm (n + 1) h k ++ [[vi n, .str (if w = "do" then "drop" else w)]]
      else if w = "set" then [[vi n, .str "beat"]] ++ rE nm (n + 1) h k ++ [nameRow nm n "setname" (xOf its 0) h]
      else if w = "setfield" then [[vi n, .str "beat"]] ++ rE nm (n + 1) h k ++ [[vi n, .str "setfield", its.getD 0 .non]]
      else if w = "try" then
        let one := rSf nm (s + 2) (n + 1) h m (k :: r)
        let two := rSr nm (s + 2 + one.length + 3) (n + 1) h m (k :: r)
        [[vi n, .str "beat"], [vi n, .str "try", vi (s + 2 + one.length + 2)]] ++ one ++ [[vi n, .str "untry"], [vi n, .str "jump", vi (s + 2 + one.length + 3 + two.length)], nameRow nm n "setname" (xOf its 1) h] ++ two
      else
        let test := rE nm (n + 1) h k
        let one := rSf nm (s + 1 + test.length + 1) (n + 1 + size k) h m r
        if w = "while" then [[vi n, .str "beat"]] ++ test ++ [[vi n, .str "unless", vi (s + 1 + test.length + 1 + one.length + 1)]] ++ one ++ [[vi n, .str "jump", vi s]]
        else
          let two := rSr nm (s + 1 + test.length + 1 + one.length + 1) (n + 1 + size k) h m r
          [[vi n, .str "beat"]] ++ test ++ [[vi n, .str "unless", vi (s + 1 + test.length + 1 + one.length + 1)]] ++ one ++ [[vi n, .str "jump", vi (s + 1 + test.length + 1 + one.length + 1 + two.length)]] ++ two
/-- the rows of the first m statements -/
def rSf (nm : List Str) (s n : Nat) (h : List (List Str)) : Nat → List Nd → List (List MV)
  | 0, _ => []
  | _ + 1, [] => []
  | m + 1, k :: ks => rS nm s n h k ++ rSf nm (s + (rS nm s n h k).length) (n + size k) h m ks
/-- the rows of the statements behind the first m -/
def rSr (nm : List Str) (s n : Nat) (h : List (List Str)) : Nat → List Nd → List (List MV)
  | _, [] => []
  | 0, k :: ks => rS nm s n h k ++ rSr nm (s + (rS nm s n h k).length) (n + size k) h 0 ks
  | m + 1, k :: ks => rSr nm s (n + size k) h m ks
end
/-- one node more -/
def nameStep (acc : List Str) (w : Str) (its : List MV) (h : List (List Str)) : List Str := match nameOf w its with
  | none => acc
  | some x => if (!among x acc && !hidden x h) = true then acc ++ [x] else acc
def namesOf (acc : List Str) (rs : List Rec) : List Str := rs.foldl (fun acc r => nameStep acc r.w r.its r.hid) acc
theorem nameStep_len (acc : List Str) (w : Str) (its : List MV) (h : List (List Str)) : (nameStep acc w its h).length ≤ acc.length + 1 := by
  unfold nameStep
  split
  · omega
  · split
    · rw [List.length_append, List.length_singleton]; omega
    · omega
/-! ### a tree's place among the records -/
structure Sub (rs : List Rec) (n : Nat) (c : Int) (h : List (List Str)) (t : Nd) : Prop where
  ex : ∃ (pre post : List Rec) (ab : Int), rs = pre ++ recs n ab c h t ++ post ∧ pre.length = n
structure SubL (rs : List Rec) (n : Nat) (c : Int) (h : List (List Str)) (ts : List Nd) : Prop where
  ex : ∃ (pre post : List Rec) (ab : Int), rs = pre ++ recsL n ab c h ts ++ post ∧ pre.length = n
theorem Sub.head {rs : List Rec} {n : Nat} {c : Int} {h : List (List Str)} {v : MV} {w : Str} {its : List MV} {ps : List Str} {m : Nat} {ks : List Nd} (s : Sub rs n c h (.mk v w its ps m ks)) : ∃ ab, rs[n]? = some ⟨v, w, its, ps, m, ab, c, h, kidNums (n + 1) ks⟩ := by
  obtain ⟨pre, post, ab, e, hl⟩ := s.ex
  refine ⟨ab, ?_⟩
  rw [e, List.append_assoc, List.getElem?_append_right (by omega), hl, Nat.sub_self]
  simp only [recs, List.cons_append]
  rfl
theorem Sub.kids {rs : List Rec} {n : Nat} {c : Int} {h : List (List Str)} {v : MV} {w : Str} {its : List MV} {ps : List Str} {m : Nat} {ks : List Nd} (s : Sub rs n c h (.mk v w its ps m ks)) : SubL rs (n + 1) (if w = "block" then (n : Int) else c) (if w = "block" then ps :: h else h) ks := by
  obtain ⟨pre, post, ab, e, hl⟩ := s.ex
  refine ⟨pre ++ [⟨v, w, its, ps, m, ab, c, h, kidNums (n + 1) ks⟩], post, n, ?_, by rw [List.length_append, hl]; rfl⟩
  rw [e]
  simp only [recs, List.append_assoc, List.cons_append, List.nil_append]
theorem SubL.cons {rs : List Rec} {n : Nat} {c : Int} {h : List (List Str)} {k : Nd} {ks : List Nd} (s : SubL rs n c h (k :: ks)) : Sub rs n c h k ∧ SubL rs (n + size k) c h ks := by
  obtain ⟨pre, post, ab, e, hl⟩ := s.ex
  simp only [recsL] at e
  refine ⟨⟨pre, recsL (n + size k) ab c h ks ++ post, ab, by rw [e]; simp only [List.append_assoc], hl⟩, ⟨pre ++ recs n ab c h k, post, ab, by rw [e]; simp only [List.append_assoc], by rw [List.length_append, recs_len, hl]⟩⟩
theorem SubL.get {rs : List Rec} {c : Int} {h : List (List Str)} : ∀ {ks : List Nd} {n i : Nat} {k : Nd}, SubL rs n c h ks → ks[i]? = some k → Sub rs (n + sizeL (ks.take i)) c h k
  | [], n, i, k, s, e => by simp at e
  | t :: ts, n, 0, k, s, e => by
    have e' : t = k := Option.some.inj e
    subst e'
    simp only [List.take_zero, sizeL, Nat.add_zero]
    exact s.cons.1
  | t :: ts, n, i + 1, k, s, e => by
    rw [List.getElem?_cons_succ] at e
    have := SubL.get s.cons.2 e
    simp only [List.take_succ_cons, sizeL]
    rw [← Nat.add_assoc]
    exact this
theorem kidNums_get : ∀ {ks : List Nd} {n i : Nat} {k : Nd}, ks[i]? = some k → (kidNums n ks)[i]? = some ((n + sizeL (ks.take i) : Nat) : Int)
  | [], n, i, k, e => by simp at e
  | t :: ts, n, 0, k, e => by simp [kidNums, sizeL]
  | t :: ts, n, i + 1, k, e => by
    rw [List.getElem?_cons_succ] at e
    simp only [kidNums, List.getElem?_cons_succ, List.take_succ_cons, sizeL]
    rw [kidNums_get e, Nat.add_assoc]
theorem rEs_append (nm : List Str) (h : List (List Str)) : ∀ (xs ys : List Nd) (n : Nat), rEs nm n h (xs ++ ys) = rEs nm n h xs ++ rEs nm (n + sizeL xs) h ys
  | [], ys, n => by simp only [List.nil_append, rEs, sizeL, Nat.add_zero]
  | x :: xs, ys, n => by
    simp only [List.cons_append, rEs, sizeL]
    rw [rEs_append nm h xs ys, List.append_assoc, Nat.add_assoc]
mutual
theorem rE_len (nm : List Str) (h : List (List Str)) : ∀ (t : Nd) (n : Nat), (rE nm n h t).length ≤ size t
  | .mk v w its ps m ks, n => by
    have ih := rEs_len nm h ks (n + 1)
    have hs : size (.mk v w its ps m ks) = 1 + sizeL ks := by simp only [size]
    unfold rE
    repeat' split
    all_goals first
      | (simp only [List.length_cons, List.length_nil]; omega)
      | (simp only [List.length_append, List.length_cons, List.length_nil]; omega)
theorem rEs_len (nm : List Str) (h : List (List Str)) : ∀ (ts : List Nd) (n : Nat), (rEs nm n h ts).length ≤ sizeL ts
  | [], n => by simp [rEs, sizeL]
  | t :: ts, n => by
    have h1 := rE_len nm h t n
    have h2 := rEs_len nm h ts (n + size t)
    simp only [rEs, sizeL, List.length_append]
    omega
end
theorem esOk_get {nm : List Str} {h : List (List Str)} : ∀ {ks : List Nd} {i : Nat} {k : Nd}, esOk nm h ks → ks[i]? = some k → eOk nm h k
  | [], i, k, s, e => by simp at e
  | t :: ts, 0, k, s, e => by
    have e' : t = k := Option.some.inj e
    subst e'
    simp only [esOk] at s
    exact s.1
  | t :: ts, i + 1, k, s, e => by
    rw [List.getElem?_cons_succ] at e
    simp only [esOk] at s
    exact esOk_get s.2 e
/-! ### rows of statements: their laws -/
abbrev rSs (nm : List Str) (s n : Nat) (h : List (List Str)) (ts : List Nd) : List (List MV) := rSr nm s n h 0 ts
theorem rSs_nil (nm : List Str) (s n : Nat) (h : List (List Str)) : rSs nm s n h [] = [] := by simp only [rSs, rSr]
theorem rSs_cons (nm : List Str) (s n : Nat) (h : List (List Str)) (k : Nd) (ks : List Nd) : rSs nm s n h (k :: ks) = rS nm s n h k ++ rSs nm (s + (rS nm s n h k).length) (n + size k) h ks := by simp only [rSs, rSr]
theorem rSf_take (nm : List Str) (h : List (List Str)) : ∀ (ks : List Nd) (m s n : Nat), rSf nm s n h m ks = rSs nm s n h (ks.take m)
  | [], m, s, n => by
    rw [List.take_nil, rSs_nil]
    cases m <;> simp only [rSf]
  | k :: ks, 0, s, n => by
    rw [List.take_zero, rSs_nil]
    simp only [rSf]
  | k :: ks, m + 1, s, n => by
    rw [List.take_succ_cons, rSs_cons]
    simp only [rSf]
    rw [rSf_take nm h ks m]
theorem rSr_drop (nm : List Str) (h : List (List Str)) : ∀ (ks : List Nd) (m s n : Nat), rSr nm s n h m ks = rSs nm s (n + sizeL (ks.take m)) h (ks.drop m)
  | [], m, s, n => by
    rw [List.drop_nil, rSs_nil]
    simp only [rSr]
  | k :: ks, 0, s, n => by
    rw [List.take_zero, List.drop_zero]
    simp only [sizeL, Nat.add_zero]
  | k :: ks, m + 1, s, n => by
    rw [List.take_succ_cons, List.drop_succ_cons]
    simp only [rSr, sizeL]
    rw [rSr_drop nm h ks m, Nat.add_assoc]
theorem rSs_append (nm : List Str) (h : List (List Str)) : ∀ (xs ys : List Nd) (s n : Nat), rSs nm s n h (xs ++ ys) = rSs nm s n h xs ++ rSs nm (s + (rSs nm s n h xs).length) (n + sizeL xs) h ys
  | [], ys, s, n => by
    rw [List.nil_append, rSs_nil]
    simp only [List.nil_append, List.length_nil, Nat.add_zero, sizeL]
  | x :: xs, ys, s, n => by
    rw [List.cons_append, rSs_cons, rSs_cons, rSs_append nm h xs ys, List.append_assoc, List.length_append]
    simp only [sizeL]
    rw [Nat.add_assoc, Nat.add_assoc]
theorem set_mid {α : Type} (A B : List α) (x y : α) {j : Nat} (hj : j = A.length) : (A ++ x :: B).set j y = A ++ y :: B := by
  subst hj
  rw [List.set_append_right _ _ (Nat.le_refl _), Nat.sub_self]
  rfl
theorem get_mid {α : Type} (A B : List α) (x : α) {j : Nat} (hj : j = A.length) : (A ++ x :: B)[j]? = some x := by
  subst hj
  rw [List.getElem?_append_right (Nat.le_refl _), Nat.sub_self]
  rfl
mutual
def hgt : Nd → Nat
  | .mk _ _ _ _ _ ks => 1 + hgtL ks
def hgtL : List Nd → Nat
  | [] => 0
  | k :: ks => max (hgt k) (hgtL ks)
end
theorem hgtL_mem : ∀ {ts : List Nd} {t : Nd}, t ∈ ts → hgt t ≤ hgtL ts
  | [], t, h => by simp at h
  | k :: ks, t, h => by
    simp only [hgtL]
    rcases List.mem_cons.mp h with e | e
    · subst e; omega
    · have := hgtL_mem e; omega
theorem hgtL_sub {N : Nat} : ∀ {ts : List Nd}, (∀ t, t ∈ ts → hgt t ≤ N) → hgtL ts ≤ N
  | [], h => by simp only [hgtL]; omega
  | k :: ks, h => by
    simp only [hgtL]
    have h1 := h k (by simp)
    have h2 := hgtL_sub (ts := ks) (fun t ht => h t (by simp [ht]))
    omega
mutual
def sOk (nm : List Str) (h : List (List Str)) : Nd → Prop
  | .mk _ w its _ _ ks => match ks with
    | [] => w = "try" ∧ ∃ a x b, its = [a, .str x, b] ∧ (lookN nm x 0 h).isSome = true
    | k :: r => (w ∈ oneW ∧ r = [] ∧ eOk nm h k) ∨ (w = "set" ∧ r = [] ∧ eOk nm h k ∧ ∃ x e, its = [.str x, e] ∧ (lookN nm x 0 h).isSome = true) ∨ (w = "setfield" ∧ r = [] ∧ eOk nm h k ∧ ∃ x e, its = [.str x, e]) ∨
        (w = "try" ∧ sOk nm h k ∧ ssOk nm h r ∧ ∃ a x b, its = [a, .str x, b] ∧ (lookN nm x 0 h).isSome = true) ∨ ((w = "if" ∨ w = "while") ∧ eOk nm h k ∧ ssOk nm h r)
def ssOk (nm : List Str) (h : List (List Str)) : List Nd → Prop
  | [] => True
  | k :: ks => sOk nm h k ∧ ssOk nm h ks
end
theorem ssOk_get {nm : List Str} {h : List (List Str)} : ∀ {ks : List Nd} {i : Nat} {k : Nd}, ssOk nm h ks → ks[i]? = some k → sOk nm h k
  | [], i, k, s, e => by simp at e
  | t :: ts, 0, k, s, e => by
    have e' : t = k := Option.some.inj e
    subst e'
    simp only [ssOk] at s
    exact s.1
  | t :: ts, i + 1, k, s, e => by
    rw [List.getElem?_cons_succ] at e
    simp only [ssOk] at s
    exact ssOk_get s.2 e
theorem ssOk_take {nm : List Str} {h : List (List Str)} : ∀ {ks : List Nd} {m : Nat}, ssOk nm h ks → ssOk nm h (ks.take m)
  | [], m, s => by rw [List.take_nil]; exact s
  | t :: ts, 0, s => by rw [List.take_zero]; simp only [ssOk]
  | t :: ts, m + 1, s => by
    simp only [ssOk] at s
    rw [List.take_succ_cons]
    simp only [ssOk]
    exact ⟨s.1, ssOk_take s.2⟩
theorem ssOk_drop {nm : List Str} {h : List (List Str)} : ∀ {ks : List Nd} {m : Nat}, ssOk nm h ks → ssOk nm h (ks.drop m)
  | [], m, s => by rw [List.drop_nil]; exact s
  | t :: ts, 0, s => by rw [List.drop_zero]; exact s
  | t :: ts, m + 1, s => by
    simp only [ssOk] at s
    rw [List.drop_succ_cons]
    exact ssOk_drop s.2
theorem SubL.take {rs : List Rec} {c : Int} {h : List (List Str)} {ks : List Nd} {n : Nat} (s : SubL rs n c h ks) (m : Nat) : SubL rs n c h (ks.take m) := by
  obtain ⟨pre, post, ab, e, hl⟩ := s.ex
  refine ⟨pre, recsL (n + sizeL (ks.take m)) ab c h (ks.drop m) ++ post, ab, ?_, hl⟩
  rw [e]
  have : recsL n ab c h ks = recsL n ab c h (ks.take m) ++ recsL (n + sizeL (ks.take m)) ab c h (ks.drop m) := by
    rw [← recsL_append, List.take_append_drop]
  rw [this]
  simp only [List.append_assoc]
theorem SubL.drop {rs : List Rec} {c : Int} {h : List (List Str)} {ks : List Nd} {n : Nat} (s : SubL rs n c h ks) (m : Nat) : SubL rs (n + sizeL (ks.take m)) c h (ks.drop m) := by
  obtain ⟨pre, post, ab, e, hl⟩ := s.ex
  refine ⟨pre ++ recsL n ab c h (ks.take m), post, ab, ?_, by rw [List.length_append, recsL_len, hl]⟩
  rw [e]
  have : recsL n ab c h ks = recsL n ab c h (ks.take m) ++ recsL (n + sizeL (ks.take m)) ab c h (ks.drop m) := by
    rw [← recsL_append, List.take_append_drop]
  rw [this]
  simp only [List.append_assoc]
theorem kidNums_take : ∀ (ks : List Nd) (n m : Nat), (kidNums n ks).take m = kidNums n (ks.take m)
  | [], n, m => by simp [kidNums]
  | k :: ks, n, 0 => by simp [kidNums]
  | k :: ks, n, m + 1 => by
    simp only [kidNums, List.take_succ_cons]
    rw [kidNums_take ks]
theorem kidNums_drop : ∀ (ks : List Nd) (n m : Nat), (kidNums n ks).drop m = kidNums (n + sizeL (ks.take m)) (ks.drop m)
  | [], n, m => by simp [kidNums]
  | k :: ks, n, 0 => by simp [kidNums, sizeL]
  | k :: ks, n, m + 1 => by
    simp only [kidNums, List.drop_succ_cons, List.take_succ_cons, sizeL]
    rw [kidNums_drop ks, Nat.add_assoc]
mutual
theorem rS_len (nm : List Str) (h : List (List Str)) : ∀ (t : Nd) (s n : Nat), (rS nm s n h t).length ≤ 5 * size t
  | .mk v w its ps m ks, s, n => by
    match ks with
    | [] =>
      simp only [rS, size, sizeL]
      split <;> simp
    | k :: r =>
      have e1 := rE_len nm h k (n + 1)
      have f1 := rSf_len nm h (k :: r) m
      have f2 := rSf_len nm h r m
      have hk := size_pos k
      have hs : size (.mk v w its ps m (k :: r)) = 1 + (size k + sizeL r) := by simp only [size, sizeL]
      rw [hs]
      simp only [rS]
      repeat' split
      all_goals try simp only [List.length_append, List.length_cons, List.length_nil]
      all_goals first
        | omega
        | (have g1 := f1 (s + 2) (n + 1) (s + 2 + (rSf nm (s + 2) (n + 1) h m (k :: r)).length + 3); simp only [sizeL] at g1; omega)
        | (have g2 := f2 (s + 1 + (rE nm (n + 1) h k).length + 1) (n + 1 + size k) (s + 1 + (rE nm (n + 1) h k).length + 1 + (rSf nm (s + 1 + (rE nm (n + 1) h k).length + 1) (n + 1 + size k) h m r).length + 1); omega)
theorem rSf_len (nm : List Str) (h : List (List Str)) : ∀ (ts : List Nd) (m s n s' : Nat), (rSf nm s n h m ts).length + (rSr nm s' n h m ts).length ≤ 5 * sizeL ts
  | [], m, s, n, s' => by
    cases m <;> simp [rSf, rSr, sizeL]
  | t :: ts, 0, s, n, s' => by
    have h1 := rS_len nm h t s' n
    have h2 := rSf_len nm h ts 0 s (n + size t) (s' + (rS nm s' n h t).length)
    simp only [rSf, rSr, sizeL, List.length_append, List.length_nil] at h2 ⊢
    omega
  | t :: ts, m + 1, s, n, s' => by
    have h1 := rS_len nm h t s n
    have h2 := rSf_len nm h ts m (s + (rS nm s n h t).length) (n + size t) s'
    simp only [rSf, rSr, sizeL, List.length_append]
    omega
end
theorem rSs_len (nm : List Str) (h : List (List Str)) (ts : List Nd) (s n : Nat) : (rSs nm s n h ts).length ≤ 5 * sizeL ts := by
  have := rSf_len nm h ts 0 s n s
  unfold rSs
  omega
section
variable {nm : List Str} {s n : Nat} {v : MV} {w : Str} {its : List MV} {ps : List Str} {m : Nat} {k : Nd} {r : List Nd} {h : List (List Str)}
theorem rS_one (hw : w ∈ oneW) : rS nm s n h (.mk v w its ps m (k :: r)) = [[vi n, .str "beat"]] ++ rE nm (n + 1) h k ++ [[vi n, .str (if w = "do" then "drop" else w)]] := by
  simp only [rS]
  rw [if_pos hw]
theorem rS_set : rS nm s n h (.mk v "set" its ps m (k :: r)) = [[vi n, .str "beat"]] ++ rE nm (n + 1) h k ++ [nameRow nm n "setname" (xOf its 0) h] := by
  simp only [rS]
  rw [if_neg (by unfold oneW; decide +kernel)]
  rfl
theorem rS_setfield : rS nm s n h (.mk v "setfield" its ps m (k :: r)) = [[vi n, .str "beat"]] ++ rE nm (n + 1) h k ++ [[vi n, .str "setfield", its.getD 0 .non]] := by
  simp only [rS]
  rw [if_neg (by unfold oneW; decide +kernel), if_neg (by decide +kernel)]
  rfl
theorem rS_while : rS nm s n h (.mk v "while" its ps m (k :: r)) =
    [[vi n, .str "beat"]] ++ rE nm (n + 1) h k ++ [[vi n, .str "unless", vi (s + 1 + (rE nm (n + 1) h k).length + 1 + (rSs nm (s + 1 + (rE nm (n + 1) h k).length + 1) (n + 1 + size k) h (r.take m)).length + 1)]] ++ rSs nm (s + 1 + (rE nm (n + 1) h k).length + 1) (n + 1 + size k) h (r.take m) ++ [[vi n, .str "jump", vi s]] := by
  simp only [rS]
  rw [if_neg (by unfold oneW; decide +kernel), if_neg (by decide +kernel), if_neg (by decide +kernel), if_neg (by decide +kernel), if_pos trivial, rSf_take]
theorem rS_if : rS nm s n h (.mk v "if" its ps m (k :: r)) =
    [[vi n, .str "beat"]] ++ rE nm (n + 1) h k ++ [[vi n, .str "unless", vi (s + 1 + (rE nm (n + 1) h k).length + 1 + (rSs nm (s + 1 + (rE nm (n + 1) h k).length + 1) (n + 1 + size k) h (r.take m)).length + 1)]] ++ rSs nm (s + 1 + (rE nm (n + 1) h k).length + 1) (n + 1 + size k) h (r.take m) ++
      [[vi n, .str "jump", vi (s + 1 + (rE nm (n + 1) h k).length + 1 + (rSs nm (s + 1 + (rE nm (n + 1) h k).length + 1) (n + 1 + size k) h (r.take m)).length + 1 + (rSs nm (s + 1 + (rE nm (n + 1) h k).length + 1 + (rSs nm (s + 1 + (rE nm (n + 1) h k).length + 1) (n + 1 + size k) h (r.take m)).length + 1) (n + 1 + size k + sizeL (r.take m)) h (r.drop m)).length)]] ++
      rSs nm (s + 1 + (rE nm (n + 1) h k).length + 1 + (rSs nm (s + 1 + (rE nm (n + 1) h k).length + 1) (n + 1 + size k) h (r.take m)).length + 1) (n + 1 + size k + sizeL (r.take m)) h (r.drop m) := by
  simp only [rS]
  rw [if_neg (by unfold oneW; decide +kernel), if_neg (by decide +kernel), if_neg (by decide +kernel), if_neg (by decide +kernel), if_neg (by decide +kernel), rSf_take, rSr_drop]
end
theorem rS_try {h : List (List Str)} {nm : List Str} {s n : Nat} {v : MV} {its : List MV} {ps : List Str} {m : Nat} {ks : List Nd} : rS nm s n h (.mk v "try" its ps m ks) =
    [[vi n, .str "beat"], [vi n, .str "try", vi (s + 2 + (rSs nm (s + 2) (n + 1) h (ks.take m)).length + 2)]] ++ rSs nm (s + 2) (n + 1) h (ks.take m) ++
      [[vi n, .str "untry"], [vi n, .str "jump", vi (s + 2 + (rSs nm (s + 2) (n + 1) h (ks.take m)).length + 3 + (rSs nm (s + 2 + (rSs nm (s + 2) (n + 1) h (ks.take m)).length + 3) (n + 1 + sizeL (ks.take m)) h (ks.drop m)).length)], nameRow nm n "setname" (xOf its 1) h] ++
      rSs nm (s + 2 + (rSs nm (s + 2) (n + 1) h (ks.take m)).length + 3) (n + 1 + sizeL (ks.take m)) h (ks.drop m) := by
  cases ks with
  | nil =>
    simp only [rS, List.take_nil, List.drop_nil, rSs_nil, List.length_nil, Nat.add_zero]
    rfl
  | cons k r =>
    simp only [rS]
    rw [if_neg (by unfold oneW; decide +kernel), if_neg (by decide +kernel), if_neg (by decide +kernel), if_pos trivial, rSf_take, rSr_drop]
/-- the numbers of the nodes that nothing stands above -/
def tops (k : Nat) : List Rec → List Int
  | [] => []
  | r :: rs => if r.above = -1 then (k : Int) :: tops (k + 1) rs else tops (k + 1) rs
theorem tops_snoc : ∀ (rs : List Rec) (k : Nat) (r : Rec), tops k (rs ++ [r]) = tops k rs ++ (if r.above = -1 then [((k + rs.length : Nat) : Int)] else [])
  | [], k, r => by
    simp only [List.nil_append, tops, List.length_nil, Nat.add_zero]
  | x :: rs, k, r => by
    simp only [List.cons_append, tops, List.length_cons]
    rw [tops_snoc rs (k + 1) r]
    have e : k + 1 + rs.length = k + (rs.length + 1) := by omega
    rw [e]
    split <;> simp
theorem tops_append : ∀ (xs ys : List Rec) (k : Nat), tops k (xs ++ ys) = tops k xs ++ tops (k + xs.length) ys
  | [], ys, k => by simp [tops]
  | x :: xs, ys, k => by
    simp only [List.cons_append, tops, List.length_cons]
    rw [tops_append xs ys (k + 1), show k + 1 + xs.length = k + (xs.length + 1) by omega]
    split <;> simp
theorem tops_le : ∀ (rs : List Rec) (k : Nat), (tops k rs).length ≤ rs.length
  | [], k => Nat.le_refl _
  | r :: rs, k => by
    have := tops_le rs (k + 1)
    simp only [tops, List.length_cons]
    split
    · simp only [List.length_cons]; omega
    · omega
mutual
theorem tops_in : ∀ (t : Nd) (k n : Nat) (a c : Int) (h : List (List Str)), 0 ≤ a → tops k (recs n a c h t) = []
  | .mk v w its ps m ks, k, n, a, c, h, ha => by
    simp only [recs, tops]
    rw [if_neg (by omega)]
    exact tops_inL ks _ _ _ _ _ (by omega)
theorem tops_inL : ∀ (ts : List Nd) (k n : Nat) (a c : Int) (h : List (List Str)), 0 ≤ a → tops k (recsL n a c h ts) = []
  | [], k, n, a, c, h, ha => by simp only [recsL, tops]
  | t :: ts, k, n, a, c, h, ha => by
    simp only [recsL]
    rw [tops_append, tops_in t _ _ _ _ _ ha, tops_inL ts _ _ _ _ _ ha]
    rfl
end
theorem tops_kids : ∀ (ts : List Nd) (n : Nat) (c : Int) (h : List (List Str)), tops n (recsL n (-1) c h ts) = kidNums n ts
  | [], n, c, h => by simp only [recsL, tops, kidNums]
  | .mk v w its ps m ks :: ts, n, c, h => by
    simp only [recsL, recs, kidNums, List.cons_append, tops]
    rw [if_pos trivial, tops_append, tops_inL ks _ _ _ _ _ (by omega), List.nil_append, recsL_len]
    have e : n + 1 + sizeL ks = n + size (.mk v w its ps m ks) := by simp only [size]; omega
    rw [e, tops_kids ts]
def blks (k : Nat) : List Rec → List Int
  | [] => []
  | r :: rs => if r.w = "block" then (k : Int) :: blks (k + 1) rs else blks (k + 1) rs
theorem blks_snoc : ∀ (rs : List Rec) (k : Nat) (r : Rec), blks k (rs ++ [r]) = blks k rs ++ (if r.w = "block" then [((k + rs.length : Nat) : Int)] else [])
  | [], k, r => by
    simp only [List.nil_append, blks, List.length_nil, Nat.add_zero]
  | x :: rs, k, r => by
    simp only [List.cons_append, blks, List.length_cons]
    rw [blks_snoc rs (k + 1) r]
    have e : k + 1 + rs.length = k + (rs.length + 1) := by omega
    rw [e]
    split <;> simp
theorem blks_le : ∀ (rs : List Rec) (k : Nat), (blks k rs).length ≤ rs.length
  | [], k => Nat.le_refl _
  | r :: rs, k => by
    have := blks_le rs (k + 1)
    simp only [blks, List.length_cons]
    split
    · simp only [List.length_cons]; omega
    · omega
theorem blks_mem : ∀ (rs : List Rec) (k : Nat) (z : Int), z ∈ blks k rs → ∃ (i : Nat) (r : Rec), z = ((k + i : Nat) : Int) ∧ rs[i]? = some r ∧ r.w = "block"
  | [], k, z, h => by simp [blks] at h
  | r :: rs, k, z, h => by
    simp only [blks] at h
    split at h
    · rename_i hw
      rcases List.mem_cons.mp h with e | e
      · exact ⟨0, r, e, rfl, hw⟩
      · obtain ⟨i, r', e1, e2, e3⟩ := blks_mem rs (k + 1) z e
        exact ⟨i + 1, r', by rw [e1]; congr 1; omega, e2, e3⟩
    · obtain ⟨i, r', e1, e2, e3⟩ := blks_mem rs (k + 1) z h
      exact ⟨i + 1, r', by rw [e1]; congr 1; omega, e2, e3⟩
end My

set_option Elab.async false
set_option linter.all false
set_option maxRecDepth 100000
set_option maxHeartbeats 4000000
namespace My
open PySem L2 Sm
/-! ### the nodes within -/
theorem parts_ok {w : Str} {its : List MV} {ps : List Str} {m : Nat} {ks : List MV} (f : Form w its ps m ks) (hl : ks.length ≤ 100000) (h : MH) : m_parts_of [.tup (.str w :: its)] h = .ok (.tup ks) h := by
  unfold m_parts_of
  refine runs (h' := h) rfl ?_ (gc_len rfl)
  unfold b_parts_of
  cases f with
  | one w hw e => simp only [oneW, List.mem_cons, List.not_mem_nil, or_false] at hw; rcases hw with rfl | rfl | rfl | rfl <;> simp [mIx, ixL, atI, ixN, mIn, mInB, flatM, eqM, mEq, mEqB, scalM]
  | leaf w hw its => simp only [leafW, List.mem_cons, List.not_mem_nil, or_false] at hw; rcases hw with rfl | rfl | rfl | rfl | rfl | rfl | rfl | rfl <;> simp [mIx, ixL, atI, ixN, mIn, mInB, flatM, eqM, mEq, mEqB, scalM]
  | cond e xs ys =>
    have h1 : 1 + xs.length ≤ 1000000 := by simp at hl; omega
    have h2 : xs.length + 1 + ys.length ≤ 1000000 := by simp at hl; omega
    have h3 : 1 + xs.length + ys.length ≤ 1000000 := by simp at hl; omega
    simp [mIx, ixL, atI, ixN, mIn, mInB, flatM, eqM, mEq, mEqB, scalM, mAdd, h1, h2, h3]
  | loop e xs =>
    have h1 : 1 + xs.length ≤ 1000000 := by simp at hl; omega
    simp [mIx, ixL, atI, ixN, mIn, mInB, flatM, eqM, mEq, mEqB, scalM, mAdd, h1]
  | tri x xs ys =>
    have h1 : xs.length + ys.length ≤ 1000000 := by simp at hl; omega
    simp [mIx, ixL, atI, ixN, mIn, mInB, flatM, eqM, mEq, mEqB, scalM, mAdd, h1]
  | send e x xs =>
    have h1 : 1 + xs.length ≤ 1000000 := by simp at hl; omega
    simp [mIx, ixL, atI, ixN, mIn, mInB, flatM, eqM, mEq, mEqB, scalM, mAdd, h1]
  | _ => simp [mIx, ixL, atI, ixN, mIn, mInB, flatM, eqM, mEq, mEqB, scalM, mAdd]
/-! ### five cells and more -/
def G (h0 : MH) (o A B C D : MO) (ks : List MO) : MH := h0 ++ (o :: A :: B :: C :: D :: ks)
section
variable {h0 : MH} {o A B C D A' B' C' D' x : MO} {ks : List MO}
theorem G_len : (G h0 o A B C D ks).length = h0.length + 5 + ks.length := by simp [G]; omega
theorem G0 : (G h0 o A B C D ks)[h0.length]? = some o := by simp [G]
theorem G1 : (G h0 o A B C D ks)[h0.length + 1]? = some A := by unfold G; rw [List.getElem?_append_right (by omega)]; simp
theorem G2 : (G h0 o A B C D ks)[h0.length + 2]? = some B := by unfold G; rw [List.getElem?_append_right (by omega)]; simp
theorem G3 : (G h0 o A B C D ks)[h0.length + 3]? = some C := by unfold G; rw [List.getElem?_append_right (by omega)]; simp
theorem G4 : (G h0 o A B C D ks)[h0.length + 4]? = some D := by unfold G; rw [List.getElem?_append_right (by omega)]; simp
theorem G5 {i : Nat} : (G h0 o A B C D ks)[h0.length + 5 + i]? = ks[i]? := by
  unfold G; rw [List.getElem?_append_right (by omega), show h0.length + 5 + i - h0.length = i + 5 by omega]; simp
theorem S1 : (G h0 o A B C D ks).set (h0.length + 1) A' = G h0 o A' B C D ks := by unfold G; rw [List.set_append_right _ _ (by omega)]; simp
theorem S2 : (G h0 o A B C D ks).set (h0.length + 2) B' = G h0 o A B' C D ks := by unfold G; rw [List.set_append_right _ _ (by omega)]; simp
theorem S3 : (G h0 o A B C D ks).set (h0.length + 3) C' = G h0 o A B C' D ks := by unfold G; rw [List.set_append_right _ _ (by omega)]; simp
theorem S4 : (G h0 o A B C D ks).set (h0.length + 4) D' = G h0 o A B C D' ks := by unfold G; rw [List.set_append_right _ _ (by omega)]; simp
theorem S5 {i : Nat} : (G h0 o A B C D ks).set (h0.length + 5 + i) x = G h0 o A B C D (ks.set i x) := by
  unfold G; rw [List.set_append_right _ _ (by omega), show h0.length + 5 + i - h0.length = i + 5 by omega]; simp
theorem Gpush : G h0 o A B C D ks ++ [x] = G h0 o A B C D (ks ++ [x]) := by unfold G; simp
end
/-- the Shape while it grows -/
def SH (h0 : MH) (fs : List (Str × MV)) (rs : List Rec) : MH := G h0 (.ins "Shape" fs) (.lst (rs.map Rec.v)) (.lst (rs.map fun r => .int r.above)) (.lst ((List.range rs.length).map fun i => .ref (h0.length + 5 + i))) (.lst (rs.map fun r => .int r.code)) (rs.map fun r => .lst (r.kids.map MV.int))
structure ShF (b : Nat) (fs : List (Str × MV)) : Prop where
  nodes : fs.lookup ("nodes" : Str) = some (.ref (b + 1))
  above : fs.lookup ("above" : Str) = some (.ref (b + 2))
  children : fs.lookup ("children" : Str) = some (.ref (b + 3))
  code : fs.lookup ("code" : Str) = some (.ref (b + 4))
  add : fs.lookup ("add" : Str) = none
theorem gc_not {h h' : MH} {v : MV} {i : Nat} {o : MO} (hi : i < h.length) (e : h'[i]? = some o) (n : h[i]? ≠ some o) (b : belO h.length o = false) : gc h v h' = h' := by
  unfold gc
  rw [if_neg]
  rintro ⟨_, z⟩
  obtain ⟨u, e1, e2⟩ := z i hi
  rw [e] at e1
  have := Option.some.inj e1
  subst this
  rcases e2 with e2 | e2
  · exact n e2
  · rw [b] at e2; cases e2
theorem bels_append (n : Nat) : ∀ (xs ys : List MV), bels n (xs ++ ys) = (bels n xs && bels n ys)
  | [], ys => by simp [bels]
  | x :: xs, ys => by simp [bels, bels_append n xs ys, Bool.and_assoc]
theorem range_ref {b : Nat} : ∀ {k : Nat}, (List.range (k + 1)).map (fun i => MV.ref (b + i)) = (List.range k).map (fun i => MV.ref (b + i)) ++ [.ref (b + k)] := by
  intro k; rw [List.range_succ]; simp
theorem SH_snoc_ne {h0 : MH} {fs : List (Str × MV)} {rs : List Rec} {r : Rec} {more : List Rec} {v : MV} : gc (SH h0 fs rs) v (SH h0 fs (rs ++ r :: more)) = SH h0 fs (rs ++ r :: more) := by
  have len : (SH h0 fs rs).length = h0.length + 5 + rs.length := by unfold SH; rw [G_len]; simp
  refine gc_not (i := h0.length + 3) (o := .lst ((List.range (rs ++ r :: more).length).map fun i => .ref (h0.length + 5 + i))) (by rw [len]; omega) (by unfold SH; exact G3) ?_ ?_
  · unfold SH
    rw [G3]
    intro z
    have := congrArg (fun o => match o with | some (MO.lst xs) => xs.length | _ => 0) z
    simp at this
  · rw [len]
    have : (List.range (rs ++ r :: more).length).map (fun i => MV.ref (h0.length + 5 + i)) = (List.range rs.length).map (fun i => MV.ref (h0.length + 5 + i)) ++ (.ref (h0.length + 5 + rs.length) :: ((List.range more.length).map fun i => MV.ref (h0.length + 5 + (rs.length + 1 + i)))) := by
      rw [List.length_append, List.length_cons, List.range_add, List.range_succ_eq_map]
      simp only [List.map_append, List.map_cons, List.map_map, Nat.add_zero]
      congr 2
      apply List.map_congr_left
      intro a _
      simp only [Function.comp]
      congr 1
      omega
    rw [this]
    simp [belO, bels_append, bels, bel]
section
variable {h0 : MH} {fs : List (Str × MV)}
theorem add_ok (F : ShF h0.length fs) : ∀ (N : Nat) (t : Nd), NdOk t → hgt t ≤ N → ∀ (rs : List Rec) (a c : Int) (hd : List (List Str)), rs.length + size t ≤ 900000 →
    m_Shape_add N [.ref h0.length, t.v, .int a, .int c] (SH h0 fs rs) = .ok (.int rs.length) (SH h0 fs (rs ++ recs rs.length a c hd t)) := by
  intro N
  induction N with
  | zero => intro t _ hh; cases t; simp only [hgt] at hh; omega
  | succ N ih =>
    intro t ok hh rs a c hd hz
    cases ok with
    | mk w its ps m ks hf hb hl hk =>
      rw [mS_Shape_add]
      have hs : size (.mk (.tup (.str w :: its)) w its ps m ks) = 1 + sizeL ks := by simp only [size]
      have hh' : hgtL ks ≤ N := by simp only [hgt] at hh; omega
      have len1 : rs.length < 1000000 := by omega
      obtain ⟨nw, hnw⟩ : ∃ nw : Int, nw = if w = "block" then (rs.length : Int) else c := ⟨_, rfl⟩
      obtain ⟨nh, hnh⟩ : ∃ nh : List (List Str), nh = if w = "block" then ps :: hd else hd := ⟨_, rfl⟩
      -- the loop over the nodes within
      have loop : ∀ (xs ys : List Nd), ks = xs ++ ys → ∀ (v6 : Option MV),
          ∃ ρ, forGo [] (.one 6) (sExpr (eBM "list" mAppend (eBin mIx (eUn (mFld ["Shape"] "children") (eVar 0)) (eVar 4)) (aCons (eMeth "Shape" "add" (m_Shape_add N) [] (eVar 0) (aCons (eVar 6) (aCons (eVar 4) (aCons (eVar 5) aNil)))) aNil))) (ys.map Nd.v)
            [some (.ref h0.length), some (.tup (.str w :: its)), some (.int a), some (.int c), some (.int rs.length), some (.int nw), v6]
            (SH h0 fs (rs ++ ⟨.tup (.str w :: its), w, its, ps, m, a, c, hd, kidNums (rs.length + 1) xs⟩ :: recsL (rs.length + 1) rs.length nw nh xs)) =
          .nx ρ (SH h0 fs (rs ++ ⟨.tup (.str w :: its), w, its, ps, m, a, c, hd, kidNums (rs.length + 1) ks⟩ :: recsL (rs.length + 1) rs.length nw nh ks)) ∧ ρ[4]? = some (some (.int rs.length)) := by
        intro xs ys
        induction ys generalizing xs with
        | nil =>
          intro e v6
          rw [List.append_nil] at e
          subst e
          exact ⟨[some (.ref h0.length), some (.tup (.str w :: its)), some (.int a), some (.int c), some (.int rs.length), some (.int nw), v6], by simp only [List.map_nil, forGo, gOk_nil, if_true], rfl⟩
        | cons y ys ih2 =>
          intro e v6
          have hy : y ∈ ks := by rw [e]; simp
          have e' : ks = (xs ++ [y]) ++ ys := by rw [e]; simp
          have hsz : sizeL ks = sizeL xs + (size y + sizeL ys) := by rw [e, sizeL_append]; simp only [sizeL]
          obtain ⟨RS, hRS⟩ : ∃ RS, RS = rs ++ (⟨.tup (.str w :: its), w, its, ps, m, a, c, hd, kidNums (rs.length + 1) xs⟩ : Rec) :: recsL (rs.length + 1) rs.length nw nh xs := ⟨_, rfl⟩
          have hRl : RS.length = rs.length + 1 + sizeL xs := by rw [hRS]; simp [recsL_len]; omega
          have call := ih y (hk y hy) (Nat.le_trans (hgtL_mem hy) hh') RS rs.length nw nh (by rw [hRl]; omega)
          rw [hRl] at call
          rw [← hRS]
          -- what comes of it
          have fin : SH h0 fs (RS ++ recs (rs.length + 1 + sizeL xs) rs.length nw nh y) = SH h0 fs (RS ++ recs (rs.length + 1 + sizeL xs) rs.length nw nh y) := rfl
          have kid0 : (SH h0 fs RS)[h0.length + 3]? = some (.lst ((List.range RS.length).map fun i => .ref (h0.length + 5 + i))) := by unfold SH; exact G3
          have at4 : atI ((List.range RS.length).map fun i => MV.ref (h0.length + 5 + i)) (rs.length : Int) = some (.ref (h0.length + 5 + rs.length)) := by
            unfold atI ixN
            have : rs.length < RS.length := by omega
            simp [this]
          have obj : ∀ R, (SH h0 fs R)[h0.length]? = some (.ins "Shape" fs) := fun R => by unfold SH; exact G0
          have cellK : ∀ (R : List Rec) (r : Rec), R[rs.length]? = some r → (SH h0 fs R)[h0.length + 5 + rs.length]? = some (.lst (r.kids.map MV.int)) := fun R r er => by
            unfold SH; rw [G5, List.getElem?_map, er]; rfl
          have get0 : ∀ more, (RS ++ more)[rs.length]? = some ⟨.tup (.str w :: its), w, its, ps, m, a, c, hd, kidNums (rs.length + 1) xs⟩ := fun more => by
            rw [hRS]; simp
          have ty : (SH h0 fs RS)[h0.length + 5 + rs.length]? = some (.lst ((kidNums (rs.length + 1) xs).map MV.int)) := by
            have := cellK RS _ (by have := get0 []; rwa [List.append_nil] at this)
            exact this
          have ty2 := cellK (RS ++ recs (rs.length + 1 + sizeL xs) rs.length nw nh y) _ (get0 _)
          have kl : (kidNums (rs.length + 1) xs).length < 1000000 := by rw [kidNums_len]; have := len_le_sizeL xs; omega
          have setK : (SH h0 fs (RS ++ recs (rs.length + 1 + sizeL xs) rs.length nw nh y)).set (h0.length + 5 + rs.length) (.lst ((kidNums (rs.length + 1) xs).map MV.int ++ [.int ((rs.length + 1 + sizeL xs : Nat) : Int)])) =
              SH h0 fs (rs ++ ⟨.tup (.str w :: its), w, its, ps, m, a, c, hd, kidNums (rs.length + 1) (xs ++ [y])⟩ :: recsL (rs.length + 1) rs.length nw nh (xs ++ [y])) := by
            unfold SH
            rw [S5, hRS, kidNums_append, recsL_append]
            simp only [List.append_assoc, List.cons_append, List.map_append, List.map_cons, recsL, kidNums, List.append_nil, List.length_append, List.length_cons, List.map_nil]
            congr 1
            rw [List.set_append_right _ _ (by simp)]
            simp
          obtain ⟨ρ, h1, h2⟩ := ih2 (xs ++ [y]) e' (some y.v)
          refine ⟨ρ, ?_, h2⟩
          rw [← h1, ← setK]
          rw [List.map_cons, forGo]
          simp only [gOk_nil, if_true, Tg.set]
          have step : sExpr (eBM "list" mAppend (eBin mIx (eUn (mFld ["Shape"] "children") (eVar 0)) (eVar 4)) (aCons (eMeth "Shape" "add" (m_Shape_add N) [] (eVar 0) (aCons (eVar 6) (aCons (eVar 4) (aCons (eVar 5) aNil)))) aNil))
              [some (.ref h0.length), some (.tup (.str w :: its)), some (.int a), some (.int c), some (.int rs.length), some (.int nw), some y.v] (SH h0 fs RS) =
              .nx [some (.ref h0.length), some (.tup (.str w :: its)), some (.int a), some (.int c), some (.int rs.length), some (.int nw), some y.v] ((SH h0 fs (RS ++ recs (rs.length + 1 + sizeL xs) rs.length nw nh y)).set (h0.length + 5 + rs.length) (.lst ((kidNums (rs.length + 1) xs).map MV.int ++ [.int ((rs.length + 1 + sizeL xs : Nat) : Int)]))) := by
            simp [mFld, obj, F.children, F.add, mIx, ixL, kid0, at4, tyOk, ty, call, ty2, kl]
          rw [show ([some (.ref h0.length), some (.tup (.str w :: its)), some (.int a), some (.int c), some (.int rs.length), some (.int nw), v6] : MS).set 6 (some y.v) = [some (.ref h0.length), some (.tup (.str w :: its)), some (.int a), some (.int c), some (.int rs.length), some (.int nw), some y.v] from rfl, step]
      refine runs (h' := SH h0 fs (rs ++ recs rs.length a c hd (.mk (.tup (.str w :: its)) w its ps m ks))) rfl ?_ (by simp only [recs]; exact SH_snoc_ne)
      obtain ⟨ρ, h1, h2⟩ := loop [] ks rfl none
      have pk : ∀ h, m_parts_of [.tup (.str w :: its)] h = .ok (.tup (ks.map Nd.v)) h := fun h => parts_ok hf (by rw [List.length_map]; omega) h
      have e0 : SH h0 fs (rs ++ ⟨.tup (.str w :: its), w, its, ps, m, a, c, hd, kidNums (rs.length + 1) []⟩ :: recsL (rs.length + 1) rs.length nw nh []) =
          G h0 (.ins "Shape" fs) (.lst (rs.map Rec.v ++ [.tup (.str w :: its)])) (.lst ((rs.map fun r => .int r.above) ++ [.int a])) (.lst (((List.range rs.length).map fun i => .ref (h0.length + 5 + i)) ++ [.ref (h0.length + 5 + rs.length)])) (.lst ((rs.map fun r => .int r.code) ++ [.int c])) ((rs.map fun r => .lst (r.kids.map MV.int)) ++ [.lst []]) := by
        unfold SH
        simp only [recsL, kidNums, List.map_append, List.map_cons, List.map_nil, List.length_append, List.length_cons, List.length_nil]
        rw [Nat.zero_add, range_ref]
      rw [e0] at h1
      have e1 : recs rs.length a c hd (.mk (.tup (.str w :: its)) w its ps m ks) = ⟨.tup (.str w :: its), w, its, ps, m, a, c, hd, kidNums (rs.length + 1) ks⟩ :: recsL (rs.length + 1) rs.length nw nh ks := by
        rw [hnw, hnh]; simp only [recs]
      rw [e1]
      unfold b_Shape_add
      by_cases hw : w = "block"
      · rw [if_pos hw] at hnw
        subst hw
        subst hnw
        simp only [SH] at h1 ⊢
        simp [mFld, G0, G1, G2, G3, G4, S1, S2, S3, S4, Gpush, G_len, F.nodes, F.above, F.children, F.code, mLen, tyOk, len1, mIx, ixL, atI, ixN, mEq, mEqB, scalM, Nd.v, pk, walkOf]
        simp at h1
        rw [h1]
        simp [h2]
      · rw [if_neg hw] at hnw
        subst hnw
        simp only [SH] at h1 ⊢
        simp [mFld, G0, G1, G2, G3, G4, S1, S2, S3, S4, Gpush, G_len, F.nodes, F.above, F.children, F.code, mLen, tyOk, len1, mIx, ixL, atI, ixN, mEq, mEqB, scalM, Nd.v, pk, walkOf, hw]
        simp at h1
        rw [h1]
        simp [h2]
end
end My

set_option Elab.async false
set_option linter.all false
set_option maxRecDepth 100000
set_option maxHeartbeats 4000000
namespace My
open PySem L2 Sm
/-! ### records as they stand -/
def RecOk (r : Rec) : Prop := r.v = .tup (.str r.w :: r.its) ∧ bels 0 r.its = true ∧ ∃ ks, Form r.w r.its r.ps r.m ks
theorem nd_recs {t : Nd} (h : NdOk t) : ∀ (n : Nat) (a c : Int) (hd : List (List Str)) (r : Rec), r ∈ recs n a c hd t → RecOk r := by
  induction h with
  | mk w its ps m ks hf hb hl hk ih =>
    intro n a c hd r hr
    simp only [recs] at hr
    rcases List.mem_cons.mp hr with e | e
    · subst e
      exact ⟨rfl, hb, _, hf⟩
    · have sub : ∀ (l : List Nd), (∀ k, k ∈ l → k ∈ ks) → ∀ (n : Nat) (a c : Int) (hd : List (List Str)), r ∈ recsL n a c hd l → RecOk r := by
        intro l
        induction l with
        | nil => intro _ n a c hd h; simp only [recsL] at h; simp at h
        | cons k l ih2 =>
          intro hm n a c hd h
          simp only [recsL] at h
          rcases List.mem_append.mp h with e | e
          · exact ih k (hm k (by simp)) _ _ _ _ r e
          · exact ih2 (fun k' hk' => hm k' (by simp [hk'])) _ _ _ _ e
      exact sub ks (fun _ h => h) _ _ _ _ e
theorem nds_recs : ∀ {ts : List Nd}, (∀ t, t ∈ ts → NdOk t) → ∀ (n : Nat) (a c : Int) (hd : List (List Str)) (r : Rec), r ∈ recsL n a c hd ts → RecOk r
  | [], _, n, a, c, hd, r, h => by simp only [recsL] at h; simp at h
  | t :: ts, ht, n, a, c, hd, r, h => by
    simp only [recsL] at h
    rcases List.mem_append.mp h with e | e
    · exact nd_recs (ht t (by simp)) _ _ _ _ r e
    · exact nds_recs (fun t' h' => ht t' (by simp [h'])) _ _ _ _ r e
theorem block_its {w : Str} {its : List MV} {ps : List Str} {m : Nat} {ks : List MV} (f : Form w its ps m ks) (hw : w = "block") : ∃ b, its = [.tup (ps.map MV.str), b] := by
  cases f with
  | block ps xs => exact ⟨_, rfl⟩
  | one w h e => exact absurd hw (by revert h; unfold oneW; subst hw; decide +kernel)
  | leaf w h its => exact absurd hw (by revert h; unfold leafW; subst hw; decide +kernel)
  | _ => exact absurd hw (by decide +kernel)
theorem set_its {w : Str} {its : List MV} {ps : List Str} {m : Nat} {ks : List MV} (f : Form w its ps m ks) (hw : w = "set") : ∃ x e, its = [.str x, e] := by
  cases f with
  | set x e => exact ⟨x, e, rfl⟩
  | one w h e => exact absurd hw (by revert h; unfold oneW; subst hw; decide +kernel)
  | leaf w h its => exact absurd hw (by revert h; unfold leafW; subst hw; decide +kernel)
  | _ => exact absurd hw (by decide +kernel)
theorem try_its {w : Str} {its : List MV} {ps : List Str} {m : Nat} {ks : List MV} (f : Form w its ps m ks) (hw : w = "try") : ∃ x xs ys, its = [.tup xs, .str x, .tup ys] ∧ m = xs.length ∧ ks = xs ++ ys := by
  cases f with
  | tri x xs ys => exact ⟨x, xs, ys, rfl, rfl, rfl⟩
  | one w h e => exact absurd hw (by revert h; unfold oneW; subst hw; decide +kernel)
  | leaf w h its => exact absurd hw (by revert h; unfold leafW; subst hw; decide +kernel)
  | _ => exact absurd hw (by decide +kernel)
theorem flats (ps : List Str) : (ps.map MV.str).all flatM = true := by
  rw [List.all_eq_true]
  intro x hx
  obtain ⟨y, _, rfl⟩ := List.mem_map.mp hx
  rfl
theorem any_among (x : Str) (ps : List Str) : ((ps.map MV.str).any fun y => eqM y (.str x)) = among x ps := by
  rw [List.any_map]
  unfold among
  rw [Bool.eq_iff_iff, List.any_eq_true]
  simp only [Function.comp, eqM, beq_iff_eq, decide_eq_true_eq]
  constructor
  · rintro ⟨y, h1, rfl⟩; exact h1
  · intro h; exact ⟨x, h, rfl⟩
theorem mIn_strs (x : Str) (ps : List Str) (h : MH) : mIn (.str x) (.tup (ps.map MV.str)) h = .ok (.bl (among x ps)) h := by
  unfold mIn mInB; simp only [flats, any_among]; rfl
theorem mIn_lst {x : Str} {ps : List Str} {h : MH} {n : Nat} (e : h[n]? = some (.lst (ps.map MV.str))) : mIn (.str x) (.ref n) h = .ok (.bl (among x ps)) h := by
  unfold mIn mInB; simp only [e, flats, any_among]; rfl
theorem mNotIn_lst {x : Str} {ps : List Str} {h : MH} {n : Nat} (e : h[n]? = some (.lst (ps.map MV.str))) : mNotIn (.str x) (.ref n) h = .ok (.bl (!among x ps)) h := by
  unfold mNotIn mInB; simp only [e, flats, any_among]; rfl
/-! ### a Shape that is read: its cells, none of them at mA -/
structure Fb (h : MH) (mA p : Nat) (fs : List (Str × MV)) (rs : List Rec) : Prop where
  o : h[p]? = some (.ins "Shape" fs)
  on : p ≠ mA
  nodes : ∃ n : Nat, fs.lookup ("nodes" : Str) = some (.ref n) ∧ h[n]? = some (.lst (rs.map Rec.v)) ∧ n ≠ mA
  above : ∃ n : Nat, fs.lookup ("above" : Str) = some (.ref n) ∧ h[n]? = some (.lst (rs.map fun r => .int r.above)) ∧ n ≠ mA
  code : ∃ n : Nat, fs.lookup ("code" : Str) = some (.ref n) ∧ h[n]? = some (.lst (rs.map fun r => .int r.code)) ∧ n ≠ mA
  kids : ∃ (n : Nat) (ch : List Nat), fs.lookup ("children" : Str) = some (.ref n) ∧ h[n]? = some (.lst (ch.map MV.ref)) ∧ n ≠ mA ∧ ch.length = rs.length ∧ ∀ (i : Nat) r k, rs[i]? = some r → ch[i]? = some k → h[k]? = some (.lst (r.kids.map MV.int)) ∧ k ≠ mA
  rok : ∀ r, r ∈ rs → RecOk r
  ch : Chain 0 (-1) [] rs
  few : rs.length ≤ 100000
theorem Fb.keep {h h' : MH} {mA p : Nat} {fs : List (Str × MV)} {rs : List Rec} (f : Fb h mA p fs rs) (k : ∀ i o, i ≠ mA → h[i]? = some o → h'[i]? = some o) : Fb h' mA p fs rs where
  o := k _ _ f.on f.o
  on := f.on
  nodes := by obtain ⟨n, h1, h2, h3⟩ := f.nodes; exact ⟨n, h1, k _ _ h3 h2, h3⟩
  above := by obtain ⟨n, h1, h2, h3⟩ := f.above; exact ⟨n, h1, k _ _ h3 h2, h3⟩
  code := by obtain ⟨n, h1, h2, h3⟩ := f.code; exact ⟨n, h1, k _ _ h3 h2, h3⟩
  kids := by
    obtain ⟨n, ch, h1, h2, h3, h4, h5⟩ := f.kids
    exact ⟨n, ch, h1, k _ _ h3 h2, h3, h4, fun i r c e1 e2 => ⟨k _ _ (h5 i r c e1 e2).2 (h5 i r c e1 e2).1, (h5 i r c e1 e2).2⟩⟩
  rok := f.rok
  ch := f.ch
  few := f.few
theorem is_parameter_ok {h : MH} {mA p : Nat} {fs : List (Str × MV)} {rs : List Rec} (f : Fb h mA p fs rs) (x : Str) (code : Int) (hd : List (List Str)) (hc : CodeOk rs code hd) :
    m_Shape_is_parameter [.ref p, .str x, .int code] h = .ok (.bl (hidden x hd)) h := by
  unfold m_Shape_is_parameter
  refine runs (h' := h) rfl ?_ (gc_len rfl)
  obtain ⟨n, n1, n2, _⟩ := f.nodes
  obtain ⟨d, d1, d2, _⟩ := f.code
  have fo := f.o
  obtain ⟨B, hB⟩ : ∃ B : MSt, B = (sSeq (sIf (tOfE (eBin mIn (eVar 1) (eBin mIx (eBin mIx (eUn (mFld ["Shape"] "nodes") (eVar 0)) (eVar 2)) (eC (.int 1))))) (sRet (eC (.bl true))) sNil) (sSet 2 (eBin mIx (eUn (mFld ["Shape", "Compiler"] "code") (eVar 0)) (eVar 2)))) := ⟨_, rfl⟩
  have loop : ∀ (k : Nat) (code : Int) (hd : List (List Str)), CodeOk rs code hd → code < (k : Int) →
      (hidden x hd = true → whileGo (tOfE (eBin mGe (eVar 2) (eC (.int 0)))) B (k + 2) [some (.ref p), some (.str x), some (.int code)] h = .rt (.bl true) h) ∧
      (hidden x hd = false → whileGo (tOfE (eBin mGe (eVar 2) (eC (.int 0)))) B (k + 2) [some (.ref p), some (.str x), some (.int code)] h = .nx [some (.ref p), some (.str x), some (.int (-1))] h) := by
    intro k
    induction k with
    | zero =>
      intro code hd hc hk
      rcases hc with ⟨rfl, rfl⟩ | ⟨i, r, rfl, _⟩
      · refine ⟨fun z => (by simp [hidden] at z), fun _ => ?_⟩
        simp [whileGo, mGe]
      · omega
    | succ k ih =>
      intro code hd hc hk
      rcases hc with ⟨rfl, rfl⟩ | ⟨i, r, rfl, hi, hw, rfl⟩
      · refine ⟨fun z => (by simp [hidden] at z), fun _ => ?_⟩
        simp [whileGo, mGe]
      · obtain ⟨rv, _, ks, rf⟩ := f.rok r (List.mem_of_getElem? hi)
        obtain ⟨b, hits⟩ := block_its rf hw
        have a1 : atI (rs.map Rec.v) (i : Int) = some r.v := ixNat (by rw [List.getElem?_map, hi]; rfl)
        have a2 : atI (rs.map fun r => MV.int r.code) (i : Int) = some (.int r.code) := ixNat (by rw [List.getElem?_map, hi]; rfl)
        have a3 : atI (MV.str r.w :: .tup (r.ps.map MV.str) :: [b]) 1 = some (.tup (r.ps.map MV.str)) := by unfold atI ixN; simp
        obtain ⟨c1, c2⟩ := f.ch.code hi
        have i0 : (0 : Int) ≤ (i : Int) := by omega
        have hh : hidden x (r.ps :: r.hid) = (among x r.ps || hidden x r.hid) := rfl
        by_cases hx : among x r.ps = true
        · refine ⟨fun _ => ?_, fun z => (by rw [hh, hx] at z; cases z)⟩
          rw [whileGo, hB]
          simp [mGe, mFld, fo, n1, n2, mIx, ixL, a1, rv, hits, a3, mIn_strs, hx, i0]
        · have hx' : among x r.ps = false := by simpa using hx
          obtain ⟨q1, q2⟩ := ih r.code r.hid c1 (by omega)
          have step : whileGo (tOfE (eBin mGe (eVar 2) (eC (.int 0)))) B (k + 1 + 2) [some (.ref p), some (.str x), some (.int (i : Int))] h = whileGo (tOfE (eBin mGe (eVar 2) (eC (.int 0)))) B (k + 2) [some (.ref p), some (.str x), some (.int r.code)] h := by
            rw [show k + 1 + 2 = (k + 2) + 1 by omega, whileGo]
            conv => lhs; rw [hB]
            simp [mGe, mFld, fo, n1, n2, d1, d2, mIx, ixL, a1, a2, rv, hits, a3, mIn_strs, hx', i0]
            rw [hB]
          rw [step, hh, hx', Bool.false_or]
          exact ⟨q1, q2⟩
  have lt : code < ((manyTurns - 2 : Nat) : Int) := by
    have := f.few
    rcases hc with ⟨rfl, _⟩ | ⟨i, r, rfl, hi, _⟩
    · unfold manyTurns; omega
    · have := lt_of_get hi; unfold manyTurns; omega
  obtain ⟨q1, q2⟩ := loop (manyTurns - 2) code hd hc lt
  rw [show manyTurns - 2 + 2 = manyTurns by unfold manyTurns; rfl] at q1 q2
  unfold b_Shape_is_parameter sWhile
  rw [← hB]
  cases e : hidden x hd with
  | true => simp [q1 e]
  | false => simp [q2 e]
end My

set_option Elab.async false
set_option linter.all false
set_option maxRecDepth 100000
set_option maxHeartbeats 4000000
namespace My
open PySem L2 Sm
/-- enumerate from a number on -/
def enumF (k : Nat) (xs : List MV) : List MV := (xs.zipIdx k).map fun p => .tup [.int (p.2 : Nat), p.1]
theorem enumM_F (xs : List MV) : enumM xs = enumF 0 xs := rfl
theorem enumF_cons (k : Nat) (x : MV) (xs : List MV) : enumF k (x :: xs) = .tup [.int (k : Nat), x] :: enumF (k + 1) xs := by simp [enumF, List.zipIdx_cons]
theorem enumF_nil (k : Nat) : enumF k [] = [] := rfl
theorem gc_new {h h' : MH} {v : MV} (hv : bel h.length v = false) : gc h v h' = h' := by
  unfold gc
  rw [if_neg]
  rintro ⟨z, _⟩
  rw [hv] at z; cases z
theorem namesOf_snoc (acc : List Str) (rs : List Rec) (r : Rec) : namesOf acc (rs ++ [r]) = nameStep (namesOf acc rs) r.w r.its r.hid := by simp [namesOf]
theorem namesOf_len (acc : List Str) : ∀ rs : List Rec, (namesOf acc rs).length ≤ acc.length + rs.length := by
  intro rs
  induction rs generalizing acc with
  | nil => simp [namesOf]
  | cons r rs ih =>
    have h1 := ih (nameStep acc r.w r.its r.hid)
    have h2 := nameStep_len acc r.w r.its r.hid
    have e : namesOf acc (r :: rs) = namesOf (nameStep acc r.w r.its r.hid) rs := by simp [namesOf]
    rw [e, List.length_cons]
    omega
theorem all_names_ok {h : MH} {p : Nat} {fs : List (Str × MV)} {rs : List Rec} {msg body : MV} {ps : List Str} (f : Fb h h.length p fs rs) (ht : fs.lookup ("tree" : Str) = some (.tup [.str "method", msg, .tup (ps.map MV.str), body])) (hm : fs.lookup ("is_parameter" : Str) = none) (hp : ps.length ≤ 1000) :
    m_Shape_all_names [.ref p] h = .ok (.ref h.length) (h ++ [.lst ((namesOf ps rs).map MV.str)]) := by
  unfold m_Shape_all_names
  refine runs (h' := h ++ [.lst ((namesOf ps rs).map MV.str)]) rfl ?_ (gc_new (by simp [bel]))
  obtain ⟨n, n1, n2, n3⟩ := f.nodes
  obtain ⟨d, d1, d2, d3⟩ := f.code
  have fo := f.o
  have few := f.few
  obtain ⟨B, hB⟩ : ∃ B : MSt, B = (sSeq (sSet 4 (eC .non))
    (sSeq (sIf (tOfE (eBin mEq (eBin mIx (eVar 3) (eC (.int 0))) (eC (.str "set"))))
    (sSet 4 (eBin mIx (eVar 3) (eC (.int 1))))
    (sIf (tOfE (eBin mEq (eBin mIx (eVar 3) (eC (.int 0))) (eC (.str "try"))))
    (sSet 4 (eBin mIx (eVar 3) (eC (.int 2))))
    sNil))
    (sIf (tAndM (tOfE (eBin mIsNot (eVar 4) (eC .non))) (tAndM (tOfE (eBin mNotIn (eVar 4) (eVar 1))) (tNotM (tOfE (eMeth "Shape" "is_parameter" m_Shape_is_parameter [] (eVar 0) (aCons (eVar 4) (aCons (eBin mIx (eUn (mFld ["Shape", "Compiler"] "code") (eVar 0)) (eVar 2)) aNil)))))))
    (sExpr (eBM "list" mAppend (eVar 1) (aCons (eVar 4) aNil)))
    sNil))) := ⟨_, rfl⟩
  have loop : ∀ (post pre : List Rec), rs = pre ++ post → ∀ (v2 v3 v4 : Option MV), ∃ v2' v3' v4',
      forGo [(n, rs.map Rec.v)] (.many [2, 3]) B (enumF pre.length (post.map Rec.v)) [some (.ref p), some (.ref h.length), v2, v3, v4] (h ++ [.lst ((namesOf ps pre).map MV.str)]) =
      .nx [some (.ref p), some (.ref h.length), v2', v3', v4'] (h ++ [.lst ((namesOf ps rs).map MV.str)]) := by
    intro post
    induction post with
    | nil =>
      intro pre e v2 v3 v4
      rw [List.append_nil] at e
      subst e
      refine ⟨v2, v3, v4, ?_⟩
      have g : gOk [(n, rs.map Rec.v)] (h ++ [.lst ((namesOf ps rs).map MV.str)]) := by
        intro q hq
        simp only [List.mem_singleton] at hq
        subst hq
        exact gap n2
      simp only [List.map_nil, enumF_nil, forGo, g, if_true]
    | cons r post ih =>
      intro pre e v2 v3 v4
      have hi : rs[pre.length]? = some r := by rw [e]; simp
      obtain ⟨rv, _, ks, rf⟩ := f.rok r (List.mem_of_getElem? hi)
      obtain ⟨c1, c2⟩ := f.ch.code hi
      obtain ⟨acc, hacc⟩ : ∃ acc, acc = namesOf ps pre := ⟨_, rfl⟩
      have hal : acc.length < 1000000 := by
        have h1 := namesOf_len ps pre
        have h2 : pre.length ≤ rs.length := by rw [e]; simp
        rw [hacc]; omega
      obtain ⟨h1, hh1⟩ : ∃ h1 : MH, h1 = h ++ [.lst (acc.map MV.str)] := ⟨_, rfl⟩
      have f1 : Fb h1 h.length p fs rs := f.keep fun i o ne q => by rw [hh1]; exact gap q
      have fo1 := f1.o
      have cN : h1[n]? = some (.lst (rs.map Rec.v)) := by rw [hh1]; exact gap n2
      have cD : h1[d]? = some (.lst (rs.map fun r => MV.int r.code)) := by rw [hh1]; exact gap d2
      have cA : h1[h.length]? = some (.lst (acc.map MV.str)) := by rw [hh1]; exact gnew
      have g : gOk [(n, rs.map Rec.v)] h1 := by
        intro q hq
        simp only [List.mem_singleton] at hq
        subst hq
        exact cN
      have a2 : atI (rs.map fun r => MV.int r.code) (pre.length : Int) = some (.int r.code) := ixNat (by rw [List.getElem?_map, hi]; rfl)
      have isp : ∀ x : Str, m_Shape_is_parameter [.ref p, .str x, .int r.code] h1 = .ok (.bl (hidden x r.hid)) h1 := fun x => is_parameter_ok f1 x _ _ c1
      have setA : ∀ ys, h1.set h.length (.lst ys) = h ++ [.lst ys] := fun ys => by rw [hh1]; simp
      -- one turn
      have turn : ∃ v4', B [some (.ref p), some (.ref h.length), some (.int (pre.length : Nat)), some r.v, v4] h1 = .nx [some (.ref p), some (.ref h.length), some (.int (pre.length : Nat)), some r.v, v4'] (h ++ [.lst ((nameStep acc r.w r.its r.hid).map MV.str)]) := by
        rw [hB]
        have named : ∀ x : Str, nameOf r.w r.its = some x → ∃ v4', (sIf (tAndM (tOfE (eBin mIsNot (eVar 4) (eC .non))) (tAndM (tOfE (eBin mNotIn (eVar 4) (eVar 1))) (tNotM (tOfE (eMeth "Shape" "is_parameter" m_Shape_is_parameter [] (eVar 0) (aCons (eVar 4) (aCons (eBin mIx (eUn (mFld ["Shape", "Compiler"] "code") (eVar 0)) (eVar 2)) aNil)))))))
            (sExpr (eBM "list" mAppend (eVar 1) (aCons (eVar 4) aNil))) sNil) [some (.ref p), some (.ref h.length), some (.int (pre.length : Nat)), some r.v, some (.str x)] h1 = .nx [some (.ref p), some (.ref h.length), some (.int (pre.length : Nat)), some r.v, v4'] (h ++ [.lst ((nameStep acc r.w r.its r.hid).map MV.str)]) := by
          intro x hx
          refine ⟨some (.str x), ?_⟩
          unfold nameStep
          rw [hx]
          cases e1 : among x acc with
          | true =>
            simp [mIsNot, noneM, mNotIn_lst cA, e1]
            exact hh1
          | false =>
            cases e2 : hidden x r.hid with
            | true =>
              simp [mIsNot, noneM, mNotIn_lst cA, e1, fo1, hm, mFld, d1, cD, mIx, ixL, a2, isp, e2]
              exact hh1
            | false =>
              simp [mIsNot, noneM, mNotIn_lst cA, e1, fo1, hm, mFld, d1, cD, mIx, ixL, a2, isp, e2, tyOk, cA, hal, setA]
        by_cases hs : r.w = "set"
        · obtain ⟨x, y, hits⟩ := set_its rf hs
          obtain ⟨v4', q⟩ := named x (by unfold nameOf; rw [if_pos hs, hits])
          refine ⟨v4', ?_⟩
          rw [← q]
          simp [rv, hits, mIx, ixL, i0, i1, i2, mEq, mEqB, scalM, hs]
        · by_cases ht : r.w = "try"
          · obtain ⟨x, xs, ys, hits, _⟩ := try_its rf ht
            obtain ⟨v4', q⟩ := named x (by unfold nameOf; rw [if_neg hs, if_pos ht, hits])
            refine ⟨v4', ?_⟩
            rw [← q]
            simp [rv, hits, mIx, ixL, i0, i1, i2, mEq, mEqB, scalM, ht]
          · refine ⟨some .non, ?_⟩
            have : nameStep acc r.w r.its r.hid = acc := by unfold nameStep nameOf; rw [if_neg hs, if_neg ht]
            rw [this, ← hh1]
            simp [rv, mIx, ixL, i0, mEq, mEqB, scalM, hs, ht, mIsNot, noneM]
      obtain ⟨v4', ht⟩ := turn
      obtain ⟨w2, w3, w4, q⟩ := ih (pre ++ [r]) (by rw [e]; simp) (some (.int (pre.length : Nat))) (some r.v) v4'
      refine ⟨w2, w3, w4, ?_⟩
      rw [List.length_append, List.length_singleton, namesOf_snoc, ← hacc] at q
      rw [List.map_cons, enumF_cons, forGo, ← hacc, ← hh1]
      simp only [g, if_true, Tg.set, List.length_cons, List.length_nil, setMany]
      rw [show (([some (.ref p), some (.ref h.length), v2, v3, v4] : MS).set 2 (some (MV.int (pre.length : Nat)))).set 3 (some r.v) = [some (.ref p), some (.ref h.length), some (.int (pre.length : Nat)), some r.v, v4] from rfl, ht]
      exact q
  obtain ⟨v2, v3, v4, q⟩ := loop rs [] rfl none none none
  simp only [List.length_nil] at q
  unfold b_Shape_all_names
  rw [← hB]
  have a2 : ∀ a b c d : MV, atI [a, b, c, d] 2 = some c := fun a b c d => by unfold atI ixN; simp
  have n0 : namesOf ps [] = ps := rfl
  rw [n0] at q
  simp [mFld, fo, ht, mIx, ixL, a2, itemsOf, gap fo, n1, gap n2, enumM_F, q]
end My

set_option Elab.async false
set_option linter.all false
set_option maxRecDepth 100000
set_option maxHeartbeats 4000000
namespace My
open PySem L2 Sm
/-- the numbers of the blocks -/
theorem blks_comp {h : MH} {n : Nat} {rs : List Rec} {ρ : MS} (hn : h[n]? = some (.lst (rs.map Rec.v))) (hr : ∀ r, r ∈ rs → RecOk r) (hl : 4 < ρ.length) :
    ∀ (post : List Rec) (k : Nat), (∀ r, r ∈ post → r ∈ rs) → compGo [(n, rs.map Rec.v)] (.many [3, 4]) (tOfE (eBin mEq (eBin mIx (eVar 4) (eC (.int 0))) (eC (.str "block")))) (eVar 3) ρ (enumF k (post.map Rec.v)) h = .ok ((blks k post).map MV.int) h := by
  intro post
  have g : gOk [(n, rs.map Rec.v)] h := by
    intro q hq
    simp only [List.mem_singleton] at hq
    subst hq
    exact hn
  induction post with
  | nil => intro k _; simp [enumF_nil, compGo, g, blks]
  | cons r post ih =>
    intro k hm
    obtain ⟨rv, _⟩ := hr r (hm r (by simp))
    have ih2 := ih (k + 1) fun z hz => hm z (by simp [hz])
    have s3 : ∀ x : MV, ((ρ.set 3 (some (MV.int (k : Nat)))).set 4 (some x))[3]? = some (some (.int (k : Nat))) := fun x => by
      rw [List.getElem?_set_ne (by decide), List.getElem?_set_self (by omega)]
    have s4 : ∀ x : MV, ((ρ.set 3 (some (MV.int (k : Nat)))).set 4 (some x))[4]? = some (some x) := fun x => by
      rw [List.getElem?_set_self (by simpa using hl)]
    rw [List.map_cons, enumF_cons, compGo]
    by_cases hw : r.w = "block"
    · simp [g, Tg.set, setMany, s3, s4, rv, mIx, ixL, i0, mEq, mEqB, scalM, hw, ih2, blks]
    · simp [g, Tg.set, setMany, s3, s4, rv, mIx, ixL, i0, mEq, mEqB, scalM, hw, ih2, blks]
def fs0 (b : Nat) (M : MV) : List (Str × MV) := [("tree", M), ("nodes", .ref (b + 1)), ("above", .ref (b + 2)), ("children", .ref (b + 3)), ("code", .ref (b + 4))]
def FS (b k : Nat) (M : MV) : List (Str × MV) := [("tree", M), ("nodes", .ref (b + 1)), ("above", .ref (b + 2)), ("children", .ref (b + 3)), ("code", .ref (b + 4)), ("codes", .ref (b + 5 + k)), ("names", .ref (b + 5 + k + 1))]
theorem fs0_ok (b : Nat) (M : MV) : ShF b (fs0 b M) := ⟨rfl, rfl, rfl, rfl, rfl⟩
/-- the loop over the body -/
theorem body_loop {h0 : MH} {M : MV} {v3 v4 : Option MV} (F : ShF h0.length (fs0 h0.length M)) : ∀ (ts : List Nd), (∀ t, t ∈ ts → NdOk t) → hgtL ts ≤ 60 → ∀ (rs : List Rec), rs.length + sizeL ts ≤ 90000 → ∀ v2, ∃ v2',
    forGo [] (.one 2) (sExpr (eMeth "Shape" "add" (m_Shape_add 60) [] (eVar 0) (aCons (eVar 2) (aCons (eUn mNeg (eC (.int 1))) (aCons (eUn mNeg (eC (.int 1))) aNil))))) (ts.map Nd.v) [some (.ref h0.length), some M, v2, v3, v4] (SH h0 (fs0 h0.length M) rs) =
      .nx [some (.ref h0.length), some M, v2', v3, v4] (SH h0 (fs0 h0.length M) (rs ++ recsL rs.length (-1) (-1) [] ts)) := by
  intro ts
  induction ts with
  | nil => intro _ _ rs _ v2; exact ⟨v2, by simp [forGo, recsL]⟩
  | cons t ts ih =>
    intro ok hh rs hz v2
    simp only [hgtL] at hh
    simp only [sizeL] at hz
    have a := add_ok F 60 t (ok t (by simp)) (by omega) rs (-1) (-1) [] (by omega)
    have o : (SH h0 (fs0 h0.length M) rs)[h0.length]? = some (.ins "Shape" (fs0 h0.length M)) := by unfold SH; exact G0
    obtain ⟨v2', q⟩ := ih (fun z hz => ok z (by simp [hz])) (by omega) (rs ++ recs rs.length (-1) (-1) [] t) (by rw [List.length_append, recs_len]; omega) (some t.v)
    refine ⟨v2', ?_⟩
    rw [List.length_append, recs_len, List.append_assoc] at q
    simp only [recsL]
    rw [← q, List.map_cons, forGo]
    simp [Tg.set, o, F.add, a]
/-- what is read of the Shape, cells behind it or not -/
theorem SH_fb {h0 g : MH} {b : Nat} {fs : List (Str × MV)} {rs : List Rec} {mA : Nat} (F : ShF h0.length fs) (hm : h0.length + 5 + rs.length ≤ mA) (rok : ∀ r, r ∈ rs → RecOk r) (ch : Chain 0 (-1) [] rs) (few : rs.length ≤ 100000) : Fb (SH h0 fs rs ++ g) mA h0.length fs rs where
  o := gap (by unfold SH; exact G0)
  on := by omega
  nodes := ⟨_, F.nodes, gap (by unfold SH; exact G1), by omega⟩
  above := ⟨_, F.above, gap (by unfold SH; exact G2), by omega⟩
  code := ⟨_, F.code, gap (by unfold SH; exact G4), by omega⟩
  kids := ⟨_, (List.range rs.length).map fun i => h0.length + 5 + i, F.children, gap (by unfold SH; rw [G3, List.map_map]; rfl), by omega, by simp, fun i r k e1 e2 => by
    have l := lt_of_get e1
    have : k = h0.length + 5 + i := by
      rw [List.getElem?_map, List.getElem?_range l] at e2
      exact (Option.some.inj e2).symm
    subst this
    exact ⟨gap (by unfold SH; rw [G5, List.getElem?_map, e1]; rfl), by omega⟩⟩
  rok := rok
  ch := ch
  few := few
end My

set_option Elab.async false
set_option linter.all false
set_option maxRecDepth 100000
set_option maxHeartbeats 4000000
namespace My
open PySem L2 Sm
theorem S0 {h0 : MH} {o A B C D o' : MO} {ks : List MO} : (G h0 o A B C D ks).set h0.length o' = G h0 o' A B C D ks := by unfold G; exact set0
theorem SH_set0 {h0 g : MH} {f f' : List (Str × MV)} {rs : List Rec} : (SH h0 f rs ++ g).set h0.length (.ins "Shape" f') = SH h0 f' rs ++ g := by
  unfold SH G
  simp only [List.append_assoc, List.cons_append, set0]
theorem SH_o {h0 : MH} {f : List (Str × MV)} {rs : List Rec} : (SH h0 f rs)[h0.length]? = some (.ins "Shape" f) := by unfold SH; exact G0
theorem recsL_ok {ts : List Nd} (ok : ∀ t, t ∈ ts → NdOk t) : ∀ r, r ∈ recsL 0 (-1) (-1) [] ts → RecOk r := fun r h => nds_recs ok 0 (-1) (-1) [] r h
theorem init_ok {h0 : MH} {msg : MV} {ps : List Str} {ts : List Nd} (ok : ∀ t, t ∈ ts → NdOk t) (hh : hgtL ts ≤ 60) (hz : sizeL ts ≤ 80000) (hp : ps.length ≤ 1000) (hb : ts.length ≤ 100000) :
    m_Shape_init__ [.ref h0.length, .tup [.str "method", msg, .tup (ps.map MV.str), .tup (ts.map Nd.v)]] (h0 ++ [.ins "Shape" []]) =
      .ok .non (SH h0 (FS h0.length (sizeL ts) (.tup [.str "method", msg, .tup (ps.map MV.str), .tup (ts.map Nd.v)])) (recsL 0 (-1) (-1) [] ts) ++ [.lst (((-1) :: blks 0 (recsL 0 (-1) (-1) [] ts)).map MV.int), .lst ((namesOf ps (recsL 0 (-1) (-1) [] ts)).map MV.str)]) := by
  obtain ⟨M, hM⟩ : ∃ M : MV, M = .tup [.str "method", msg, .tup (ps.map MV.str), .tup (ts.map Nd.v)] := ⟨_, rfl⟩
  obtain ⟨rs, hrs⟩ : ∃ rs : List Rec, rs = recsL 0 (-1) (-1) [] ts := ⟨_, rfl⟩
  have rl : rs.length = sizeL ts := by rw [hrs, recsL_len]
  have rok : ∀ r, r ∈ rs → RecOk r := by rw [hrs]; exact recsL_ok ok
  have rch : Chain 0 (-1) [] rs := by rw [hrs]; exact chain_recsL ts 0 (-1) (-1) []
  rw [← hM, ← hrs]
  have F0 := fs0_ok h0.length M
  unfold m_Shape_init__
  obtain ⟨v2', lp⟩ := body_loop (v3 := none) (v4 := none) F0 ts ok hh [] (by simp; omega) none
  simp only [List.nil_append, List.length_nil, ← hrs] at lp
  -- what is there behind the loop
  obtain ⟨f1, hf1⟩ : ∃ f1, f1 = fs0 h0.length M := ⟨_, rfl⟩
  rw [← hf1] at lp F0
  have cB := blks_comp (h := SH h0 f1 rs) (n := h0.length + 1) (rs := rs) (ρ := wipeM [some (.ref h0.length), some M, v2', none, none] [3, 4]) (by unfold SH; exact G1) rok (by simp [wipeM]) rs 0 (fun _ z => z)
  have bl := blks_le rs 0
  -- the fields behind codes
  obtain ⟨f2, hf2⟩ : ∃ f2, f2 = f1 ++ [(("codes" : Str), MV.ref (h0.length + 5 + rs.length))] := ⟨_, rfl⟩
  have F2 : ShF h0.length f2 := by rw [hf2, hf1]; exact ⟨rfl, rfl, rfl, rfl, rfl⟩
  have put1 : putM "codes" (.ref (h0.length + 5 + rs.length)) f1 = f2 := by rw [hf2, hf1]; rfl
  have put2 : putM "names" (.ref (h0.length + 5 + rs.length + 1)) f2 = FS h0.length (sizeL ts) M := by rw [hf2, hf1, ← rl]; rfl
  have len1 : (SH h0 f1 rs).length = h0.length + 5 + rs.length := by unfold SH; rw [G_len]; simp
  have len2 : (SH h0 f2 rs).length = h0.length + 5 + rs.length := by unfold SH; rw [G_len]; simp
  have an := all_names_ok (h := SH h0 f2 rs ++ [.lst (((-1) :: blks 0 rs).map MV.int)]) (p := h0.length) (fs := f2) (rs := rs) (msg := msg) (body := .tup (ts.map Nd.v)) (ps := ps)
    (SH_fb (b := 0) F2 (by rw [List.length_append, len2]; omega) rok rch (by omega)) (by rw [hf2, hf1, hM]; rfl) (by rw [hf2, hf1]; rfl) hp
  refine runsN (ρ := [some (.ref h0.length), some M, v2', none, none]) (h' := SH h0 (FS h0.length (sizeL ts) M) rs ++ [.lst (((-1) :: blks 0 rs).map MV.int), .lst ((namesOf ps rs).map MV.str)]) rfl ?_ ?_
  · unfold b_Shape_init__
    rw [seq_nx (ρ1 := [some (.ref h0.length), some M, none, none, none]) (h1 := h0 ++ [.ins "Shape" [("tree", M)]])]
    rw [seq_nx (ρ1 := [some (.ref h0.length), some M, none, none, none]) (h1 := h0 ++ [.ins "Shape" [("tree", M), ("nodes", .ref (h0.length + 1))], .lst []])]
    rw [seq_nx (ρ1 := [some (.ref h0.length), some M, none, none, none]) (h1 := h0 ++ [.ins "Shape" [("tree", M), ("nodes", .ref (h0.length + 1)), ("above", .ref (h0.length + 2))], .lst [], .lst []])]
    rw [seq_nx (ρ1 := [some (.ref h0.length), some M, none, none, none]) (h1 := h0 ++ [.ins "Shape" [("tree", M), ("nodes", .ref (h0.length + 1)), ("above", .ref (h0.length + 2)), ("children", .ref (h0.length + 3))], .lst [], .lst [], .lst []])]
    rw [seq_nx (ρ1 := [some (.ref h0.length), some M, none, none, none]) (h1 := SH h0 f1 [])]
    rw [seq_nx (ρ1 := [some (.ref h0.length), some M, v2', none, none]) (h1 := SH h0 f1 rs)]
    rw [seq_nx (ρ1 := [some (.ref h0.length), some M, v2', none, none]) (h1 := SH h0 f2 rs ++ [.lst (((-1) :: blks 0 rs).map MV.int)])]
    · -- names
      have o2 : (SH h0 f2 rs ++ [.lst (((-1) :: blks 0 rs).map MV.int)])[h0.length]? = some (.ins "Shape" f2) := gap SH_o
      have o3 : (SH h0 f2 rs ++ [.lst (((-1) :: blks 0 rs).map MV.int)] ++ [.lst ((namesOf ps rs).map MV.str)])[h0.length]? = some (.ins "Shape" f2) := gap o2
      have nl : f2.lookup ("all_names" : Str) = none := by rw [hf2, hf1]; rfl
      have fl : f2.length < 1000 := by simp [hf2, hf1, fs0]
      have e1 : (SH h0 f2 rs ++ [MO.lst (((-1) :: blks 0 rs).map MV.int)]).length = h0.length + 5 + rs.length + 1 := by rw [List.length_append, len2]; rfl
      rw [e1] at an
      generalize hX : SH h0 f2 rs ++ [MO.lst (((-1) :: blks 0 rs).map MV.int)] = X at o2 o3 an ⊢
      simp only [sSetF, eMeth, eVar, aNil, List.getElem?_cons_zero, Res.bind_ok, o2, nl, and_self, if_true, List.append_nil, an, Res.st_ok, mSetF, o3, List.mem_singleton, fl, put2]
      rw [← hX, List.append_assoc, SH_set0]
      rfl
    · -- codes
      have n1 : f1.lookup ("nodes" : Str) = some (.ref (h0.length + 1)) := F0.nodes
      have c1 : (SH h0 f1 rs)[h0.length + 1]? = some (.lst (rs.map Rec.v)) := by unfold SH; exact G1
      have fl : f1.length < 1000 := by simp [hf1, fs0]
      have o2 : (SH h0 f1 rs ++ [.lst (.int (-1) :: (blks 0 rs).map MV.int)])[h0.length]? = some (.ins "Shape" f1) := gap SH_o
      have z1 : (enumF 0 (rs.map Rec.v)).length ≤ 1000000 := by simp [enumF]; omega
      have z2 : 1 + (blks 0 rs).length ≤ 1000000 := by omega
      have cB2 : lComp (iEnumE (eUn (mFld ["Shape"] "nodes") (eVar 0))) (.many [3, 4]) [3, 4] (tOfE (eBin mEq (eBin mIx (eVar 4) (eC (.int 0))) (eC (.str "block")))) (eVar 3) [some (.ref h0.length), some M, v2', none, none] (SH h0 f1 rs) = .ok ((blks 0 rs).map MV.int) (SH h0 f1 rs) := by
        unfold lComp
        simp only [iEnumE, eUn, eVar, List.getElem?_cons_zero, Res.bind_ok, mFld, SH_o, List.mem_singleton, if_true, n1, optR, c1, szOk, enumM_F, z1]
        exact cB
      have eA : lDisp (aCons (eUn mNeg (eC (.int 1))) aNil) [some (.ref h0.length), some M, v2', none, none] (SH h0 f1 rs) = .ok [.int (-1)] (SH h0 f1 rs) := by simp
      have eL : lCat (lDisp (aCons (eUn mNeg (eC (.int 1))) aNil)) (lComp (iEnumE (eUn (mFld ["Shape"] "nodes") (eVar 0))) (.many [3, 4]) [3, 4] (tOfE (eBin mEq (eBin mIx (eVar 4) (eC (.int 0))) (eC (.str "block")))) (eVar 3)) [some (.ref h0.length), some M, v2', none, none] (SH h0 f1 rs) = .ok (.int (-1) :: (blks 0 rs).map MV.int) (SH h0 f1 rs) := by
        unfold lCat
        rw [eA, Res.bind_ok, cB2, Res.bind_ok]
        simp [z2]
      unfold sSetF eNew
      rw [eL]
      simp [mSetF, o2, fl, len1, put1, SH_set0]
    · -- the loop
      have : walkOf (.tup (ts.map Nd.v)) (SH h0 f1 []) = some (ts.map Nd.v, []) := rfl
      simp [hM, mIx, ixL, i3, this]
      rw [← hM]
      exact lp
    · simp [mSetF, set0, putM, SH, G, hf1, fs0]
    · simp [mSetF, set0, putM]
    · simp [mSetF, set0, putM]
    · simp [mSetF, set0, putM]
    · simp [mSetF, set0, putM]
  · refine gc_not (i := h0.length) (o := .ins "Shape" (FS h0.length (sizeL ts) M)) (by simp) (gap (by unfold SH; exact G0)) (by simp [FS]) ?_
    simp [belO, FS, bels, bel]
end My

set_option Elab.async false
set_option linter.all false
set_option maxRecDepth 100000
set_option maxHeartbeats 4000000
namespace My
open PySem L2 Sm
theorem bel_mono {n : Nat} : (∀ x : MV, bel 0 x = true → bel n x = true) ∧ ∀ xs : List MV, bels 0 xs = true → bels n xs = true := by
  have both : ∀ k : Nat, (∀ x : MV, sizeOf x ≤ k → bel 0 x = true → bel n x = true) ∧ ∀ xs : List MV, sizeOf xs ≤ k → bels 0 xs = true → bels n xs = true := by
    intro k
    induction k with
    | zero =>
      refine ⟨fun x h => ?_, fun xs h => ?_⟩
      · cases x <;> simp at h
      · cases xs <;> simp at h
    | succ k ih =>
      refine ⟨fun x h e => ?_, fun xs h e => ?_⟩
      · cases x with
        | ref m => simp [bel] at e
        | tup xs => simp only [bel] at e ⊢; exact ih.2 xs (by simp at h; omega) e
        | scr xs => simp only [bel] at e ⊢; exact ih.2 xs (by simp at h; omega) e
        | exn c ns vs => simp only [bel] at e ⊢; exact ih.2 vs (by simp at h; omega) e
        | _ => simp [bel]
      · cases xs with
        | nil => simp [bels]
        | cons x xs =>
          simp only [bels, Bool.and_eq_true] at e ⊢
          exact ⟨ih.1 x (by simp at h; omega) e.1, ih.2 xs (by simp at h; omega) e.2⟩
  exact ⟨fun x => (both (sizeOf x)).1 x (Nat.le_refl _), fun xs => (both (sizeOf xs)).2 xs (Nat.le_refl _)⟩
def tups (rows : List (List MV)) : List MV := rows.map MV.tup
theorem tups_app (a b : List (List MV)) : tups (a ++ b) = tups a ++ tups b := by simp [tups]
theorem tups_len (a : List (List MV)) : (tups a).length = a.length := by simp [tups]
def cpF (p : Nat) (code : Int) (mA : Nat) : List (Str × MV) := [("form", .ref p), ("code", .int code), ("made", .ref mA)]
/-- what a method's word is not -/
structure NoM (fs : List (Str × MV)) : Prop where
  found : fs.lookup ("found" : Str) = none
  firsts : fs.lookup ("firsts" : Str) = none
structure Cp (h : MH) (q p mA : Nat) (code : Int) (fs : List (Str × MV)) (rs : List Rec) (nm : List Str) (rows : List (List MV)) : Prop where
  o : h[q]? = some (.ins "Compiler" (cpF p code mA))
  m : h[mA]? = some (.lst (tups rows))
  f : Fb h mA p fs rs
  nm : ∃ n : Nat, fs.lookup ("names" : Str) = some (.ref n) ∧ h[n]? = some (.lst (nm.map MV.str)) ∧ n ≠ mA
  no : NoM fs
section
variable {h : MH} {q p mA : Nat} {code : Int} {fs : List (Str × MV)} {rs : List Rec} {nm : List Str} {rows : List (List MV)}
theorem Cp.qn (c : Cp h q p mA code fs rs nm rows) : q ≠ mA := cells_ne c.o c.m (by intro z; cases z)
theorem Cp.put (c : Cp h q p mA code fs rs nm rows) (rows' : List (List MV)) : Cp (h.set mA (.lst (tups rows'))) q p mA code fs rs nm rows' where
  o := by rw [gsn c.qn]; exact c.o
  m := gss c.m
  f := c.f.keep fun i o ne e => by rw [gsn ne]; exact e
  nm := by obtain ⟨n, h1, h2, h3⟩ := c.nm; exact ⟨n, h1, by rw [gsn h3]; exact h2, h3⟩
  no := c.no
theorem Cp.grow {g : MH} (c : Cp h q p mA code fs rs nm rows) : Cp (h ++ g) q p mA code fs rs nm rows where
  o := gap c.o
  m := gap c.m
  f := c.f.keep fun i o ne e => gap e
  nm := by obtain ⟨n, h1, h2, h3⟩ := c.nm; exact ⟨n, h1, gap h2, h3⟩
  no := c.no
theorem cF : (cpF p code mA).lookup ("form" : Str) = some (.ref p) := rfl
theorem cC : (cpF p code mA).lookup ("code" : Str) = some (.int code) := rfl
theorem cM : (cpF p code mA).lookup ("made" : Str) = some (.ref mA) := rfl
theorem cN1 : (cpF p code mA).lookup ("come" : Str) = none := rfl
theorem cN2 : (cpF p code mA).lookup ("worked" : Str) = none := rfl
theorem cN3 : (cpF p code mA).lookup ("used" : Str) = none := rfl
theorem cN4 : (cpF p code mA).lookup ("done" : Str) = none := rfl
theorem cN5 : (cpF p code mA).lookup ("all_done" : Str) = none := rfl
theorem cN6 : (cpF p code mA).lookup ("chosen" : Str) = none := rfl
theorem cN7 : (cpF p code mA).lookup ("tried" : Str) = none := rfl
theorem cN8 : (cpF p code mA).lookup ("mend" : Str) = none := rfl
theorem cN9 : (cpF p code mA).lookup ("whole" : Str) = none := rfl
theorem come_ok (c : Cp h q p mA code fs rs nm rows) (at_ word : MV) (more : List MV) (hl : rows.length < 100000) (hl2 : more.length < 1000) :
    m_Compiler_come [.ref q, at_, word, .tup more] h = .ok (.int rows.length) (h.set mA (.lst (tups (rows ++ [at_ :: word :: more])))) := by
  have hc := c.o
  have hm := c.m
  have ne := c.qn
  unfold m_Compiler_come
  refine runs (h' := h.set mA (.lst (tups (rows ++ [at_ :: word :: more])))) rfl ?_ (gc_len (by simp))
  unfold b_Compiler_come
  have e2 : rows.length < 1000000 := by omega
  have e3 : 2 + more.length ≤ 1000000 := by omega
  simp [mFld, hc, cM, hm, tyOk, mAdd, mSub, mLen, gss hm, gsn ne, e2, e3, tups_app, tups_len]
  simp [tups]
theorem mend_ok (c : Cp h q p mA code fs rs nm rows) {j : Nat} {a w : MV} {more : List MV} (hj : rows[j]? = some (a :: w :: more)) (hl : rows.length < 100000) :
    m_Compiler_mend [.ref q, .int j] h = .ok .non (h.set mA (.lst (tups (rows.set j [a, w, .int rows.length])))) := by
  have hc := c.o
  have hm := c.m
  have ne := c.qn
  have lj := lt_of_get hj
  unfold m_Compiler_mend
  refine runsN (ρ := [some (.ref q), some (.int j), some a, some w]) (h' := h.set mA (.lst (tups (rows.set j [a, w, .int rows.length])))) rfl ?_ (gc_len (by simp))
  unfold b_Compiler_mend
  have a1 : atI (tups rows) (j : Int) = some (.tup (a :: w :: more)) := ixNat (by unfold tups; rw [List.getElem?_map, hj]; rfl)
  have a2 : cutM (a :: w :: more) none (some 2) = [a, w] := by simp [cutM, HT.sIx]
  have a3 : ixN (tups rows).length (j : Int) = some j := by unfold ixN; rw [tups_len]; simp [lj]
  have a4 : (tups rows).set j (.tup [a, w, .int rows.length]) = tups (rows.set j [a, w, .int rows.length]) := by unfold tups; rw [List.map_set]
  simp [mFld, hc, cM, hm, mIx, ixL, a1, mSl, a2, Tg.set, setMany, mLen, tups_len, mSetI]
  rw [tups_len] at a3
  simp [tups_len, a3, a4]
end
end My

set_option Elab.async false
set_option linter.all false
set_option maxRecDepth 100000
set_option maxHeartbeats 4000000
namespace My
open PySem L2 Sm
section
variable {h : MH} {q p mA : Nat} {code : Int} {fs : List (Str × MV)} {rs : List Rec} {nm : List Str} {rows : List (List MV)}
theorem used_ok (c : Cp h q p mA code fs rs nm rows) {n : Nat} {w : Str} {its : List MV} {ps : List Str} {m : Nat} {ks : List MV} (f : Form w its ps m ks) (hw : w = "send" ∨ w = "up" ∨ w = "list") (hl : rows.length < 100000) :
    m_Compiler_used [.ref q, .int n, .tup (.str w :: its)] h = .ok .non (h.set mA (.lst (tups (rows ++ [usedRow n w its ks.length])))) := by
  have hc := c.o
  unfold m_Compiler_used
  refine runsN (ρ := [some (.ref q), some (.int n), some (.tup (.str w :: its))]) (h' := h.set mA (.lst (tups (rows ++ [usedRow n w its ks.length])))) rfl ?_ (gc_len (by simp))
  unfold b_Compiler_used
  cases f with
  | send e x xs =>
    have cm := come_ok c (.int n) (.str "send") [.str x, .int xs.length] hl (by simp)
    simp [mIx, ixL, i0, i1, i2, i3, mEq, mEqB, scalM, hc, cN1, mLen, cm, usedRow, vi]
  | up x _ =>
    have cm := come_ok c (.int n) (.str "up") [.str x, .int ks.length] hl (by simp)
    simp [mIx, ixL, i0, i1, i2, i3, mEq, mEqB, scalM, hc, cN1, mLen, cm, usedRow, vi]
  | list _ =>
    have cm := come_ok c (.int n) (.str "list") [.int ks.length] hl (by simp)
    simp [mIx, ixL, i0, i1, i2, i3, mEq, mEqB, scalM, hc, cN1, mLen, cm, usedRow, vi]
  | one w h e => exact absurd hw (by revert h; unfold oneW; intro h; rintro (rfl | rfl | rfl) <;> exact absurd h (by decide +kernel))
  | leaf w h its => exact absurd hw (by revert h; unfold leafW; intro h; rintro (rfl | rfl | rfl) <;> exact absurd h (by decide +kernel))
  | _ => exact absurd hw (by decide +kernel)
/-- where a name stands, as found tells it -/
def Fnd (p mA : Nat) (fs : List (Str × MV)) (rs : List Rec) (nm : List Str) (q : Nat) (code : Int) (c : Int) (hd : List (List Str)) : Prop := ∀ (h : MH) (rows : List (List MV)) (x : Str) (o i : Nat), Cp h q p mA code fs rs nm rows → lookN nm x 0 hd = some (o, i) → m_Shape_found [.ref p, .str x, .int c] h = .ok (.tup [vi o, vi i]) h
theorem plain_in (w : Str) (h : MH) : mIn (.str w) c_PLAIN h = .ok (.bl (decide (w ∈ plainW))) h := mIn_strs w plainW h
theorem fieldnew_in (w : Str) (h : MH) : mIn (.str w) (.tup [.str "field", .str "new"]) h = .ok (.bl (decide (w = "field" ∨ w = "new"))) h := by
  rw [show ([.str "field", .str "new"] : List MV) = (["field", "new"] : List Str).map MV.str from rfl, mIn_strs]
  simp [among]
theorem set_set {h : MH} {a : Nat} {o o' : MO} : (h.set a o).set a o' = h.set a o' := by simp
theorem worked_ok {c : Int} {hd : List (List Str)} (fnd : Fnd p mA fs rs nm q code c hd) : ∀ (N : Nat) (t : Nd), NdOk t → hgt t ≤ N → ∀ (n : Nat) (h : MH) (rows : List (List MV)), Cp h q p mA code fs rs nm rows → Sub rs n c hd t → eOk nm hd t → rows.length + size t ≤ 90000 →
    m_Compiler_worked N [.ref q, .int n] h = .ok .non (h.set mA (.lst (tups (rows ++ rE nm n hd t)))) := by
  intro N
  induction N with
  | zero => intro t _ hh; cases t; simp only [hgt] at hh; omega
  | succ N ih =>
    intro t ok hh n h rows cp sub eo hz
    cases ok with
    | mk w its ps m ks hf hb hkl hk =>
      rw [mS_Compiler_worked]
      have hs : size (.mk (.tup (.str w :: its)) w its ps m ks) = 1 + sizeL ks := by simp only [size]
      have hh' : hgtL ks ≤ N := by simp only [hgt] at hh; omega
      obtain ⟨ab, hr⟩ := sub.head
      have hc := cp.o
      have ho := cp.f.o
      obtain ⟨nn, n1, n2, n3⟩ := cp.f.nodes
      obtain ⟨dd, d1, d2, d3⟩ := cp.f.code
      obtain ⟨kn, ch, k1, k2, k3, k4, k5⟩ := cp.f.kids
      have ln := lt_of_get hr
      obtain ⟨kc, hkc⟩ : ∃ kc, ch[n]? = some kc := ⟨ch[n], by simp [k4, ln]⟩
      obtain ⟨kk, kkn⟩ := k5 n _ kc hr hkc
      have a1 : atI (rs.map Rec.v) (n : Int) = some (.tup (.str w :: its)) := ixNat (by rw [List.getElem?_map, hr]; rfl)
      have a2 : atI (ch.map MV.ref) (n : Int) = some (.ref kc) := ixNat (by rw [List.getElem?_map, hkc]; rfl)
      have a3 : atI (rs.map fun r => MV.int r.code) (n : Int) = some (.int c) := ixNat (by rw [List.getElem?_map, hr]; rfl)
      have hl : rows.length < 100000 := by omega
      suffices H : ∃ ρ, b_Compiler_worked (m_Compiler_worked N) [some (.ref q), some (.int n), none, none, none, none] h = .nx ρ (h.set mA (.lst (tups (rows ++ rE nm n hd (.mk (.tup (.str w :: its)) w its ps m ks))))) by
        obtain ⟨ρ, e⟩ := H
        exact runsN rfl e (gc_len (by simp))
      unfold b_Compiler_worked
      rw [seq_nx (ρ1 := [some (.ref q), some (.int n), some (.tup (.str w :: its)), none, none, none]) (h1 := h) (by simp [mFld, hc, cF, ho, n1, n2, mIx, ixL, a1])]
      rw [seq_nx (ρ1 := [some (.ref q), some (.int n), some (.tup (.str w :: its)), some (.str w), none, none]) (h1 := h) (by simp [mIx, ixL, i0])]
      rw [seq_nx (ρ1 := [some (.ref q), some (.int n), some (.tup (.str w :: its)), some (.str w), some (.ref kc), none]) (h1 := h) (by simp [mFld, hc, cF, ho, k1, k2, mIx, ixL, a2])]
      have cm := fun (word : MV) (more : List MV) (hm : more.length < 1000) => come_ok cp (.int n) word more hl hm
      simp only [eOk] at eo
      rcases eo with ⟨hw, y, rfl⟩ | rfl | rfl | ⟨rfl, x, rfl, hx⟩ | rfl | ⟨hw, x, rfl⟩ | ⟨hw, hes⟩
      · have e := cm (.str "push") [y] (by simp)
        refine ⟨[some (.ref q), some (.int n), some (.tup [.str w, y]), some (.str w), some (.ref kc), none], ?_⟩
        simp [plain_in, hw, hc, cN1, mIx, ixL, i1, e, rE, vi]
      · have e := cm (.str "push") [.non] (by simp)
        refine ⟨[some (.ref q), some (.int n), some (.tup (.str "none" :: its)), some (.str "none"), some (.ref kc), none], ?_⟩
        simp [plain_in, plainW, mEq, mEqB, scalM, hc, cN1, e, rE, vi]
      · have e := cm (.str "self") [] (by simp)
        refine ⟨[some (.ref q), some (.int n), some (.tup (.str "self" :: its)), some (.str "self"), some (.ref kc), none], ?_⟩
        simp [plain_in, plainW, mEq, mEqB, scalM, hc, cN1, e, rE, vi]
      · obtain ⟨⟨o, i⟩, hlk⟩ := Option.isSome_iff_exists.mp hx
        have fd := fnd h rows x o i cp hlk
        have e := cm (.str "name") [vi o, vi i] (by simp)
        refine ⟨[some (.ref q), some (.int n), some (.tup [.str "name", .str x]), some (.str "name"), some (.ref kc), none], ?_⟩
        simp [plain_in, plainW, mEq, mEqB, scalM, hc, cN1, cF, mFld, ho, cp.no.found, mIx, ixL, i1, d1, d2, a3, fd, e, rE, nameRow, xOf, hlk]
        rfl
      · have e := cm (.str "block") [.int n] (by simp)
        refine ⟨[some (.ref q), some (.int n), some (.tup (.str "block" :: its)), some (.str "block"), some (.ref kc), none], ?_⟩
        simp [plain_in, plainW, mEq, mEqB, scalM, hc, cN1, e, rE, vi]
      · have e := cm (.str w) [.str x] (by simp)
        refine ⟨[some (.ref q), some (.int n), some (.tup [.str w, .str x]), some (.str w), some (.ref kc), none], ?_⟩
        rcases hw with rfl | rfl <;> simp [plain_in, plainW, mEq, mEqB, scalM, fieldnew_in, hc, cN1, mIx, ixL, i1, e, rE, vi]
      · have wb : ¬ w = "block" := by rcases hw with rfl | rfl | rfl <;> decide +kernel
        have sk := sub.kids
        rw [if_neg wb, if_neg wb] at sk
        obtain ⟨B, hB⟩ : ∃ B : MSt, B = sExpr (eMeth "Compiler" "worked" (m_Compiler_worked N) [] (eVar 0) (aCons (eVar 5) aNil)) := ⟨_, rfl⟩
        have loop : ∀ (ys xs : List Nd), ks = xs ++ ys → ∀ v5, ∃ v5',
            forGo [(kc, (kidNums (n + 1) ks).map MV.int)] (.one 5) B ((kidNums (n + 1 + sizeL xs) ys).map MV.int) [some (.ref q), some (.int n), some (.tup (.str w :: its)), some (.str w), some (.ref kc), v5] (h.set mA (.lst (tups (rows ++ rEs nm (n + 1) hd xs)))) =
            .nx [some (.ref q), some (.int n), some (.tup (.str w :: its)), some (.str w), some (.ref kc), v5'] (h.set mA (.lst (tups (rows ++ rEs nm (n + 1) hd ks)))) := by
          intro ys
          induction ys with
          | nil =>
            intro xs e v5
            rw [List.append_nil] at e
            subst e
            refine ⟨v5, ?_⟩
            have g : gOk [(kc, (kidNums (n + 1) ks).map MV.int)] (h.set mA (.lst (tups (rows ++ rEs nm (n + 1) hd ks)))) := by
              intro z hz
              simp only [List.mem_singleton] at hz
              subst hz
              rw [gsn kkn]; exact kk
            simp only [kidNums, List.map_nil, forGo, g, if_true]
          | cons y ys ih2 =>
            intro xs e v5
            have hy : y ∈ ks := by rw [e]; simp
            have hsz : sizeL ks = sizeL xs + (size y + sizeL ys) := by rw [e, sizeL_append]; simp only [sizeL]
            have gy : ks[xs.length]? = some y := by rw [e]; simp
            have tk : ks.take xs.length = xs := by rw [e]; simp
            have sy := sk.get gy
            rw [tk] at sy
            have ey := esOk_get hes gy
            have cp2 := cp.put (rows ++ rEs nm (n + 1) hd xs)
            have lx := rEs_len nm hd xs (n + 1)
            have call := ih y (hk y hy) (Nat.le_trans (hgtL_mem hy) hh') (n + 1 + sizeL xs) _ _ cp2 sy ey (by rw [List.length_append]; omega)
            rw [set_set] at call
            have g : gOk [(kc, (kidNums (n + 1) ks).map MV.int)] (h.set mA (.lst (tups (rows ++ rEs nm (n + 1) hd xs)))) := by
              intro z hz
              simp only [List.mem_singleton] at hz
              subst hz
              rw [gsn kkn]; exact kk
            obtain ⟨v5', q5⟩ := ih2 (xs ++ [y]) (by rw [e]; simp) (some (.int ((n + 1 + sizeL xs : Nat) : Int)))
            refine ⟨v5', ?_⟩
            rw [sizeL_append, rEs_append] at q5
            simp only [rEs, sizeL, List.append_nil, Nat.add_zero] at q5
            rw [kidNums, List.map_cons, forGo]
            have o2 := cp2.o
            have turn : B [some (.ref q), some (.int n), some (.tup (.str w :: its)), some (.str w), some (.ref kc), some (.int ((n + 1 + sizeL xs : Nat) : Int))] (h.set mA (.lst (tups (rows ++ rEs nm (n + 1) hd xs)))) =
                .nx [some (.ref q), some (.int n), some (.tup (.str w :: its)), some (.str w), some (.ref kc), some (.int ((n + 1 + sizeL xs : Nat) : Int))] (h.set mA (.lst (tups (rows ++ rEs nm (n + 1) hd xs ++ rE nm (n + 1 + sizeL xs) hd y)))) := by
              rw [hB]
              simp only [sExpr, eMeth, eVar, aCons, aNil, List.getElem?_cons_zero, Res.bind_ok, o2, cN2, and_self, if_true, List.getElem?_cons_succ, List.append_nil, List.cons_append, List.nil_append, call, Res.st_ok]
            simp only [g, if_true, Tg.set]
            rw [show ([some (.ref q), some (.int n), some (.tup (.str w :: its)), some (.str w), some (.ref kc), v5] : MS).set 5 (some (.int ((n + 1 + sizeL xs : Nat) : Int))) = [some (.ref q), some (.int n), some (.tup (.str w :: its)), some (.str w), some (.ref kc), some (.int ((n + 1 + sizeL xs : Nat) : Int))] from rfl, turn]
            simp only []
            rw [List.append_assoc, Nat.add_assoc (n + 1)]
            exact q5
        obtain ⟨v5', lp⟩ := loop ks [] rfl none
        simp only [rEs, List.append_nil, sizeL, Nat.add_zero] at lp
        have hh0 : h.set mA (.lst (tups rows)) = h := by
          have := cp.m
          apply List.ext_getElem?
          intro k
          by_cases hk : k = mA
          · subst hk; rw [gss this, this]
          · rw [gsn hk]
        rw [hh0] at lp
        have cp2 := cp.put (rows ++ rEs nm (n + 1) hd ks)
        have lx := rEs_len nm hd ks (n + 1)
        have us := used_ok cp2 (n := n) hf hw (by rw [List.length_append]; omega)
        rw [set_set] at us
        have o2 := cp2.o
        refine ⟨[some (.ref q), some (.int n), some (.tup (.str w :: its)), some (.str w), some (.ref kc), v5'], ?_⟩
        have er : rE nm n hd (.mk (.tup (.str w :: its)) w its ps m ks) = rEs nm (n + 1) hd ks ++ [usedRow n w its ks.length] := by
          rcases hw with rfl | rfl | rfl <;> simp [rE, plainW]
        rw [er, ← List.append_assoc]
        rw [List.length_map] at us
        have wk : walkOf (.ref kc) h = some ((kidNums (n + 1) ks).map MV.int, [(kc, (kidNums (n + 1) ks).map MV.int)]) := by
          unfold walkOf; simp only [kk]
        have els : (sSeq (sFor (iOf (eVar 4)) (.one 5) B) (sExpr (eMeth "Compiler" "used" m_Compiler_used [] (eVar 0) (aCons (eVar 1) (aCons (eVar 2) aNil))))) [some (.ref q), some (.int n), some (.tup (.str w :: its)), some (.str w), some (.ref kc), none] h =
            .nx [some (.ref q), some (.int n), some (.tup (.str w :: its)), some (.str w), some (.ref kc), v5'] (h.set mA (.lst (tups (rows ++ rEs nm (n + 1) hd ks ++ [usedRow n w its ks.length])))) := by
          rw [seq_nx (ρ1 := [some (.ref q), some (.int n), some (.tup (.str w :: its)), some (.str w), some (.ref kc), v5']) (h1 := h.set mA (.lst (tups (rows ++ rEs nm (n + 1) hd ks))))]
          · simp only [sExpr, eMeth, eVar, aCons, aNil, List.getElem?_cons_zero, Res.bind_ok, o2, cN3, and_self, if_true, List.getElem?_cons_succ, List.append_nil, List.cons_append, List.nil_append, us, Res.st_ok]
          · simp only [sFor, iOf, eVar, List.getElem?_cons_zero, List.getElem?_cons_succ, Res.bind_ok, wk, Res.st_ok]
            exact lp
        rw [← hB]
        rcases hw with rfl | rfl | rfl
        all_goals
          rw [← els]
          simp [plain_in, plainW, mEq, mEqB, scalM, fieldnew_in]
end
end My

set_option Elab.async false
set_option linter.all false
set_option maxRecDepth 100000
set_option maxHeartbeats 4000000
namespace My
open PySem L2 Sm
/-- rows without cells -/
def rf (rows : List (List MV)) : Prop := bels 0 (tups rows) = true
theorem rf_nil : rf [] := by simp [rf, tups, bels]
theorem rf_app {a b : List (List MV)} : rf (a ++ b) ↔ rf a ∧ rf b := by unfold rf; rw [tups_app, bels_append, Bool.and_eq_true]
theorem rf_cons {r : List MV} {b : List (List MV)} : rf (r :: b) ↔ bels 0 r = true ∧ rf b := by unfold rf tups; simp [bels, bel]
theorem bel_getD {its : List MV} (h : bels 0 its = true) : ∀ i : Nat, bel 0 (its.getD i .non) = true := by
  induction its with
  | nil => intro i; simp [bel]
  | cons x xs ih =>
    intro i
    simp only [bels, Bool.and_eq_true] at h
    cases i with
    | zero => simpa using h.1
    | succ i => simpa using ih h.2 i
theorem rf_name (nm : List Str) (n : Nat) (word x : Str) (h : List (List Str)) : bels 0 (nameRow nm n word x h) = true := by
  unfold nameRow
  split <;> simp [bels, bel, vi]
theorem rf_used (n : Nat) (w : Str) (its : List MV) (k : Nat) (hb : bels 0 its = true) : bels 0 (usedRow n w its k) = true := by
  unfold usedRow
  have h0 := bel_getD hb 0
  have h1 := bel_getD hb 1
  repeat' split
  all_goals simp [bels, bel, vi] at *
  · exact h1
  · exact h0
mutual
theorem rE_rf (nm : List Str) (h : List (List Str)) : ∀ (t : Nd) (n : Nat), NdOk t → rf (rE nm n h t)
  | .mk v w its ps m ks, n, ok => by
    cases ok with
    | mk _ _ _ _ _ hf hb hl hk =>
      have ih := rEs_rf nm h ks (n + 1) hk
      have h0 := bel_getD hb 0
      unfold rE
      repeat' split
      all_goals first
        | exact rf_app.mpr ⟨ih, rf_cons.mpr ⟨rf_used n w its _ hb, rf_nil⟩⟩
        | exact rf_cons.mpr ⟨rf_name _ _ _ _ _, rf_nil⟩
        | exact rf_cons.mpr ⟨by simp only [bels, bel, vi, Bool.and_true, Bool.true_and, Bool.and_self, h0], rf_nil⟩
theorem rEs_rf (nm : List Str) (h : List (List Str)) : ∀ (ts : List Nd) (n : Nat), (∀ t, t ∈ ts → NdOk t) → rf (rEs nm n h ts)
  | [], n, _ => by simp only [rEs]; exact rf_nil
  | t :: ts, n, ok => by
    simp only [rEs]
    exact rf_app.mpr ⟨rE_rf nm h t n (ok t (by simp)), rEs_rf nm h ts _ fun z hz => ok z (by simp [hz])⟩
end
theorem rf3 {a b c : MV} (h1 : bel 0 a = true) (h2 : bel 0 b = true) (h3 : bel 0 c = true) : bels 0 [a, b, c] = true := by simp [bels, h1, h2, h3]
mutual
theorem rS_rf (nm : List Str) (h : List (List Str)) : ∀ (t : Nd) (s n : Nat), NdOk t → rf (rS nm s n h t)
  | .mk v w its ps m ks, s, n, ok => by
    cases ok with
    | mk _ _ _ _ _ hf hb hl hk =>
      have h0 := bel_getD hb 0
      match ks, hk with
      | [], _ =>
        simp only [rS]
        split
        · simp only [rf_cons, rf_name, rf_nil, and_true]
          simp [bels, bel, vi]
        · exact rf_nil
      | k :: r, hk =>
        have e1 := rE_rf nm h k (n + 1) (hk k (by simp))
        have f1 := fun s' => rSf_rf nm h (k :: r) m s' (n + 1) hk
        have f1' := fun s' => rSr_rf nm h (k :: r) m s' (n + 1) hk
        have f2 := fun s' => rSf_rf nm h r m s' (n + 1 + size k) fun z hz => hk z (by simp [hz])
        have f2' := fun s' => rSr_rf nm h r m s' (n + 1 + size k) fun z hz => hk z (by simp [hz])
        simp only [rS]
        repeat' split
        all_goals simp only [rf_app, rf_cons, rf_name, rf_nil, and_true, e1, f1, f1', f2, f2']
        all_goals simp only [bels, bel, vi, Bool.and_true, Bool.true_and, Bool.and_self, and_self, h0]
theorem rSf_rf (nm : List Str) (h : List (List Str)) : ∀ (ts : List Nd) (m s n : Nat), (∀ t, t ∈ ts → NdOk t) → rf (rSf nm s n h m ts)
  | [], m, s, n, _ => by cases m <;> simp only [rSf] <;> exact rf_nil
  | t :: ts, 0, s, n, ok => by simp only [rSf]; exact rf_nil
  | t :: ts, m + 1, s, n, ok => by
    simp only [rSf]
    exact rf_app.mpr ⟨rS_rf nm h t s n (ok t (by simp)), rSf_rf nm h ts m _ _ fun z hz => ok z (by simp [hz])⟩
theorem rSr_rf (nm : List Str) (h : List (List Str)) : ∀ (ts : List Nd) (m s n : Nat), (∀ t, t ∈ ts → NdOk t) → rf (rSr nm s n h m ts)
  | [], m, s, n, _ => by simp only [rSr]; exact rf_nil
  | t :: ts, 0, s, n, ok => by
    simp only [rSr]
    exact rf_app.mpr ⟨rS_rf nm h t s n (ok t (by simp)), rSr_rf nm h ts 0 _ _ fun z hz => ok z (by simp [hz])⟩
  | t :: ts, m + 1, s, n, ok => by
    simp only [rSr]
    exact rSr_rf nm h ts m _ _ fun z hz => ok z (by simp [hz])
end
/-- cells made meanwhile go -/
theorem gc_put {h g : MH} {mA : Nat} {xs : List (List MV)} {v : MV} (hm : mA < h.length) (hx : rf xs) (hv : bel h.length v = true) : gc h v (h.set mA (.lst (tups xs)) ++ g) = h.set mA (.lst (tups xs)) := by
  unfold gc
  rw [if_pos]
  · rw [List.take_append_of_le_length (by simp)]
    apply List.take_of_length_le
    simp
  · refine ⟨hv, fun i hi => ?_⟩
    by_cases e : i = mA
    · subst e
      exact ⟨.lst (tups xs), by rw [List.getElem?_append_left (by simpa using hi), List.getElem?_set_self hi], .inr (bel_mono.2 _ hx)⟩
    · exact ⟨h[i], by rw [List.getElem?_append_left (by simpa using hi), List.getElem?_set_ne (Ne.symm e)]; simp [hi], .inl (by simp [hi])⟩
theorem app_set {h g : MH} {mA : Nat} {a b : MO} (hm : mA < h.length) : (h.set mA a ++ g).set mA b = h.set mA b ++ g := by
  rw [List.set_append_left _ _ (by simpa using hm), set_set]
end My

set_option Elab.async false
set_option linter.all false
set_option maxRecDepth 100000
set_option maxHeartbeats 4000000
namespace My
open PySem L2 Sm
/-- what stays the same while one code is compiled -/
structure Ctx where
  q : Nat
  p : Nat
  mA : Nat
  code : Int
  fs : List (Str × MV)
  rs : List Rec
  nm : List Str
  c : Int
  hd : List (List Str)
abbrev Ctx.Cp (X : Ctx) (h : MH) (rows : List (List MV)) : Prop := My.Cp h X.q X.p X.mA X.code X.fs X.rs X.nm rows
abbrev Ctx.put (X : Ctx) (h : MH) (rows : List (List MV)) : MH := h.set X.mA (.lst (tups rows))
section
variable (X : Ctx)
def SpA (r : List MV → MH → Res MV) (B : Nat) : Prop := ∀ (ts : List Nd) (n : Nat) (h : MH) (rows : List (List MV)) (L : Nat), (∀ t, t ∈ ts → NdOk t) → hgtL ts ≤ B → X.Cp h rows → rf rows → SubL X.rs n X.c X.hd ts → ssOk X.nm X.hd ts → rows.length + 5 * sizeL ts ≤ 80000 →
  h[L]? = some (.lst ((kidNums n ts).map MV.int)) → L ≠ X.mA → r [.ref X.q, .ref L] h = .ok .non (X.put h (rows ++ rSs X.nm rows.length n X.hd ts))
def SpD (r : List MV → MH → Res MV) (B : Nat) : Prop := ∀ (t : Nd) (n : Nat) (h : MH) (rows : List (List MV)), NdOk t → hgt t ≤ B → X.Cp h rows → rf rows → Sub X.rs n X.c X.hd t → sOk X.nm X.hd t → rows.length + 5 * size t ≤ 80000 →
  r [.ref X.q, .int n] h = .ok .non (X.put h (rows ++ rS X.nm rows.length n X.hd t))
def SpC (r : List MV → MH → Res MV) (B : Nat) : Prop := ∀ (w : Str) (its : List MV) (ps : List Str) (m : Nat) (ks : List Nd) (n : Nat) (h : MH) (rows : List (List MV)) (kc : Nat), NdOk (.mk (.tup (.str w :: its)) w its ps m ks) → (w = "if" ∨ w = "while") → hgt (.mk (.tup (.str w :: its)) w its ps m ks) ≤ B →
  X.Cp h (rows ++ [[vi n, .str "beat"]]) → rf rows → Sub X.rs n X.c X.hd (.mk (.tup (.str w :: its)) w its ps m ks) → sOk X.nm X.hd (.mk (.tup (.str w :: its)) w its ps m ks) → rows.length + 5 * size (.mk (.tup (.str w :: its)) w its ps m ks) ≤ 80000 →
  h[kc]? = some (.lst ((kidNums (n + 1) ks).map MV.int)) → kc ≠ X.mA → r [.ref X.q, .int n, .tup (.str w :: its), .ref kc, .int rows.length] h = .ok .non (X.put h (rows ++ rS X.nm rows.length n X.hd (.mk (.tup (.str w :: its)) w its ps m ks)))
def SpT (r : List MV → MH → Res MV) (B : Nat) : Prop := ∀ (its : List MV) (ps : List Str) (m : Nat) (ks : List Nd) (n : Nat) (h : MH) (rows : List (List MV)) (kc : Nat), NdOk (.mk (.tup (.str "try" :: its)) "try" its ps m ks) → hgt (.mk (.tup (.str "try" :: its)) "try" its ps m ks) ≤ B →
  X.Cp h (rows ++ [[vi n, .str "beat"]]) → rf rows → Sub X.rs n X.c X.hd (.mk (.tup (.str "try" :: its)) "try" its ps m ks) → sOk X.nm X.hd (.mk (.tup (.str "try" :: its)) "try" its ps m ks) → rows.length + 5 * size (.mk (.tup (.str "try" :: its)) "try" its ps m ks) ≤ 80000 →
  h[kc]? = some (.lst ((kidNums (n + 1) ks).map MV.int)) → kc ≠ X.mA → r [.ref X.q, .int n, .tup (.str "try" :: its), .ref kc] h = .ok .non (X.put h (rows ++ rS X.nm rows.length n X.hd (.mk (.tup (.str "try" :: its)) "try" its ps m ks)))
end
variable {X : Ctx}
theorem Cp.same {h : MH} {rows : List (List MV)} (cp : X.Cp h rows) : X.put h rows = h := by
  have := cp.m
  apply List.ext_getElem?
  intro k
  by_cases hk : k = X.mA
  · subst hk; show (h.set X.mA _)[X.mA]? = _; rw [gss this, this]
  · show (h.set X.mA _)[k]? = _; rw [gsn hk]
theorem A_step {r1 r2 r3 r4 : List MV → MH → Res MV} {B : Nat} (hD : SpD X r2 B) : SpA X (mfun 2 3 (b_Compiler_all_done r1 r2 r3 r4)) B := by
  intro ts n h rows L ok hh cp rfr sub so hz hL neL
  suffices H : ∃ ρ, b_Compiler_all_done r1 r2 r3 r4 [some (.ref X.q), some (.ref L), none] h = .nx ρ (X.put h (rows ++ rSs X.nm rows.length n X.hd ts)) by
    obtain ⟨ρ, e⟩ := H
    exact runsN rfl e (gc_len (by simp))
  unfold b_Compiler_all_done
  obtain ⟨Bd, hB⟩ : ∃ Bd : MSt, Bd = sExpr (eMeth "Compiler" "done" r2 [] (eVar 0) (aCons (eVar 2) aNil)) := ⟨_, rfl⟩
  rw [← hB]
  have loop : ∀ (ys xs : List Nd), ts = xs ++ ys → ∀ v2, ∃ v2',
      forGo [(L, (kidNums n ts).map MV.int)] (.one 2) Bd ((kidNums (n + sizeL xs) ys).map MV.int) [some (.ref X.q), some (.ref L), v2] (X.put h (rows ++ rSs X.nm rows.length n X.hd xs)) =
      .nx [some (.ref X.q), some (.ref L), v2'] (X.put h (rows ++ rSs X.nm rows.length n X.hd ts)) := by
    intro ys
    induction ys with
    | nil =>
      intro xs e v2
      rw [List.append_nil] at e
      subst e
      refine ⟨v2, ?_⟩
      have g : gOk [(L, (kidNums n ts).map MV.int)] (X.put h (rows ++ rSs X.nm rows.length n X.hd ts)) := by
        intro z hz
        simp only [List.mem_singleton] at hz
        subst hz
        show (h.set _ _)[L]? = _
        rw [gsn neL]; exact hL
      simp only [kidNums, List.map_nil, forGo, g, if_true]
    | cons y ys ih2 =>
      intro xs e v2
      have hy : y ∈ ts := by rw [e]; simp
      have hsz : sizeL ts = sizeL xs + (size y + sizeL ys) := by rw [e, sizeL_append]; simp only [sizeL]
      have gy : ts[xs.length]? = some y := by rw [e]; simp
      have tk : ts.take xs.length = xs := by rw [e]; simp
      have sy := sub.get gy
      rw [tk] at sy
      have ey := ssOk_get so gy
      have cp2 := cp.put (rows ++ rSs X.nm rows.length n X.hd xs)
      have lx := rSs_len X.nm X.hd xs rows.length n
      have okx : ∀ z, z ∈ xs → NdOk z := fun z hz => ok z (by rw [e]; simp [hz])
      have rfx : rf (rows ++ rSs X.nm rows.length n X.hd xs) := rf_app.mpr ⟨rfr, rSr_rf X.nm X.hd xs 0 _ _ okx⟩
      have call := hD y (n + sizeL xs) _ _ (ok y hy) (Nat.le_trans (hgtL_mem hy) hh) cp2 rfx sy ey (by rw [List.length_append]; omega)
      have ss : ∀ Z, X.put (h.set X.mA (.lst (tups (rows ++ rSs X.nm rows.length n X.hd xs)))) Z = X.put h Z := fun Z => set_set
      rw [ss] at call
      have g : gOk [(L, (kidNums n ts).map MV.int)] (X.put h (rows ++ rSs X.nm rows.length n X.hd xs)) := by
        intro z hz
        simp only [List.mem_singleton] at hz
        subst hz
        show (h.set _ _)[L]? = _
        rw [gsn neL]; exact hL
      obtain ⟨v2', q2⟩ := ih2 (xs ++ [y]) (by rw [e]; simp) (some (.int ((n + sizeL xs : Nat) : Int)))
      refine ⟨v2', ?_⟩
      rw [sizeL_append, rSs_append, rSs_cons, rSs_nil, List.append_nil] at q2
      simp only [sizeL, Nat.add_zero] at q2
      rw [kidNums, List.map_cons, forGo]
      have o2 := cp2.o
      have turn : Bd [some (.ref X.q), some (.ref L), some (.int ((n + sizeL xs : Nat) : Int))] (X.put h (rows ++ rSs X.nm rows.length n X.hd xs)) =
          .nx [some (.ref X.q), some (.ref L), some (.int ((n + sizeL xs : Nat) : Int))] (X.put h (rows ++ rSs X.nm rows.length n X.hd xs ++ rS X.nm (rows ++ rSs X.nm rows.length n X.hd xs).length (n + sizeL xs) X.hd y)) := by
        rw [hB]
        simp only [sExpr, eMeth, eVar, aCons, aNil, List.getElem?_cons_zero, Res.bind_ok, o2, cN4, and_self, if_true, List.getElem?_cons_succ, List.append_nil, List.cons_append, List.nil_append, call, Res.st_ok]
      simp only [g, if_true, Tg.set]
      rw [show ([some (.ref X.q), some (.ref L), v2] : MS).set 2 (some (.int ((n + sizeL xs : Nat) : Int))) = [some (.ref X.q), some (.ref L), some (.int ((n + sizeL xs : Nat) : Int))] from rfl, turn]
      simp only []
      rw [List.append_assoc, List.length_append, Nat.add_assoc n]
      exact q2
  obtain ⟨v2', lp⟩ := loop ts [] rfl none
  rw [rSs_nil, List.append_nil] at lp
  simp only [sizeL, Nat.add_zero] at lp
  rw [cp.same] at lp
  refine ⟨[some (.ref X.q), some (.ref L), v2'], ?_⟩
  have wk : walkOf (.ref L) h = some ((kidNums n ts).map MV.int, [(L, (kidNums n ts).map MV.int)]) := by unfold walkOf; simp only [hL]
  simp only [sFor, iOf, eVar, List.getElem?_cons_zero, List.getElem?_cons_succ, Res.bind_ok, wk, Res.st_ok]
  exact lp
end My

set_option Elab.async false
set_option linter.all false
set_option maxRecDepth 100000
set_option maxHeartbeats 4000000
namespace My
open PySem L2 Sm
variable {X : Ctx}
theorem one_in (w : Str) (h : MH) : mIn (.str w) c_ONE h = .ok (.bl (decide (w ∈ oneW))) h := mIn_strs w oneW h
theorem put_put {h : MH} {a b : List (List MV)} : X.put (X.put h a) b = X.put h b := set_set
theorem D_step {r1 r2 r3 r4 : List MV → MH → Res MV} {B : Nat} (hB : B ≤ 60) (fnd : Fnd X.p X.mA X.fs X.rs X.nm X.q X.code X.c X.hd) (hC : SpC X r3 B) (hT : SpT X r4 B) : SpD X (mfun 2 5 (b_Compiler_done r1 r2 r3 r4)) B := by
  intro t n h rows ok hh cp rfr sub so hz
  suffices H : ∃ ρ, b_Compiler_done r1 r2 r3 r4 [some (.ref X.q), some (.int n), none, none, none] h = .nx ρ (X.put h (rows ++ rS X.nm rows.length n X.hd t)) by
    obtain ⟨ρ, e⟩ := H
    exact runsN rfl e (gc_len (by simp))
  have ok0 := ok
  cases ok with
  | mk w its ps m ks hf hb hkl hk =>
    have hs : size (.mk (.tup (.str w :: its)) w its ps m ks) = 1 + sizeL ks := by simp only [size]
    have hh0 := hh
    have hh' : 1 + hgtL ks ≤ B := by simp only [hgt] at hh; exact hh
    obtain ⟨ab, hr⟩ := sub.head
    have hc := cp.o
    have ho := cp.f.o
    obtain ⟨nn, n1, n2, n3⟩ := cp.f.nodes
    obtain ⟨dd, d1, d2, d3⟩ := cp.f.code
    obtain ⟨kn, ch, k1, k2, k3, k4, k5⟩ := cp.f.kids
    have ln := lt_of_get hr
    obtain ⟨kc, hkc⟩ : ∃ kc, ch[n]? = some kc := ⟨ch[n], by simp [k4, ln]⟩
    obtain ⟨kk, kkn⟩ := k5 n _ kc hr hkc
    have a1 : atI (X.rs.map Rec.v) (n : Int) = some (.tup (.str w :: its)) := ixNat (by rw [List.getElem?_map, hr]; rfl)
    have a2 : atI (ch.map MV.ref) (n : Int) = some (.ref kc) := ixNat (by rw [List.getElem?_map, hkc]; rfl)
    have a3 : atI (X.rs.map fun r => MV.int r.code) (n : Int) = some (.int X.c) := ixNat (by rw [List.getElem?_map, hr]; rfl)
    have hl : rows.length < 100000 := by omega
    have cb := come_ok cp (.int n) (.str "beat") [] hl (by simp)
    have cp1 : X.Cp (X.put h (rows ++ [[vi n, .str "beat"]])) (rows ++ [[vi n, .str "beat"]]) := cp.put _
    have rf1 : rf (rows ++ [[vi n, .str "beat"]]) := rf_app.mpr ⟨rfr, by simp [rf, tups, bels, bel, vi]⟩
    have len1 : (rows ++ [[vi n, .str "beat"]]).length = rows.length + 1 := by simp
    have o1 := cp1.o
    have ho1 := cp1.f.o
    have m1 := cp1.m
    obtain ⟨dd', d1', d2', d3'⟩ := cp1.f.code
    have kk1 : (X.put h (rows ++ [[vi n, .str "beat"]]))[kc]? = some (.lst ((kidNums (n + 1) ks).map MV.int)) := by show (h.set _ _)[kc]? = _; rw [gsn kkn]; exact kk
    unfold b_Compiler_done
    rw [seq_nx (ρ1 := [some (.ref X.q), some (.int n), some (.tup (.str w :: its)), none, none]) (h1 := h) (by simp [mFld, hc, cF, ho, n1, n2, mIx, ixL, a1])]
    rw [seq_nx (ρ1 := [some (.ref X.q), some (.int n), some (.tup (.str w :: its)), some (.ref kc), none]) (h1 := h) (by simp [mFld, hc, cF, ho, k1, k2, mIx, ixL, a2])]
    rw [seq_nx (ρ1 := [some (.ref X.q), some (.int n), some (.tup (.str w :: its)), some (.ref kc), some (.int rows.length)]) (h1 := X.put h (rows ++ [[vi n, .str "beat"]])) (by simp [hc, cN1, cb, vi])]
    -- an e, then one row
    have eRow : ∀ (k : Nd) (r : List Nd), ks = k :: r → eOk X.nm X.hd k → m_Compiler_worked 60 [.ref X.q, .int ((n : Int) + 1)] (X.put h (rows ++ [[vi n, .str "beat"]])) = .ok .non (X.put h (rows ++ [[vi n, .str "beat"]] ++ rE X.nm (n + 1) X.hd k)) := fun k r ek eo => by
      have hkm : k ∈ ks := by rw [ek]; simp
      have hk2 := Nat.le_trans (hgtL_mem hkm) (Nat.le_trans (Nat.le_add_left _ 1) hh')
      have sk : Sub X.rs (n + 1) X.c X.hd k := by
        have wb : ¬ w = "block" := by
          intro z
          subst z
          subst ek
          simp only [sOk] at so
          rcases so with ⟨z, _⟩ | ⟨z, _⟩ | ⟨z, _⟩ | ⟨z, _⟩ | ⟨z, _⟩
          · exact absurd z (by unfold oneW; decide +kernel)
          · exact absurd z (by decide +kernel)
          · exact absurd z (by decide +kernel)
          · exact absurd z (by decide +kernel)
          · rcases z with z | z <;> exact absurd z (by decide +kernel)
        have := sub.kids
        rw [if_neg wb, if_neg wb, ek] at this
        exact this.cons.1
      have lk : size k ≤ sizeL ks := by rw [ek]; simp only [sizeL]; omega
      have := worked_ok fnd 60 k (hk k hkm) (by omega) (n + 1) _ _ cp1 sk eo (by rw [len1]; omega)
      rw [show ((n + 1 : Nat) : Int) = (n : Int) + 1 by omega] at this
      rw [this]
      show Res.ok MV.non ((h.set _ _).set _ _) = _
      rw [set_set]
    have comeRow : ∀ (k : Nd) (r : List Nd), ks = k :: r → ∀ (word : MV) (more : List MV), more.length < 1000 → m_Compiler_come [.ref X.q, .int n, word, .tup more] (X.put h (rows ++ [[vi n, .str "beat"]] ++ rE X.nm (n + 1) X.hd k)) = .ok (.int (rows ++ [[vi n, .str "beat"]] ++ rE X.nm (n + 1) X.hd k).length) (X.put h (rows ++ [[vi n, .str "beat"]] ++ rE X.nm (n + 1) X.hd k ++ [.int n :: word :: more])) := fun k r ek word more hm => by
      have lk := rE_len X.nm X.hd k (n + 1)
      have lk2 : size k ≤ sizeL ks := by rw [ek]; simp only [sizeL]; omega
      have := come_ok (cp.put (rows ++ [[vi n, .str "beat"]] ++ rE X.nm (n + 1) X.hd k)) (.int n) word more (by rw [List.length_append, len1]; omega) hm
      rw [set_set] at this
      exact this
    have o3 : ∀ (k : Nd), (X.put h (rows ++ [[vi n, .str "beat"]] ++ rE X.nm (n + 1) X.hd k))[X.q]? = some (.ins "Compiler" (cpF X.p X.code X.mA)) := fun k => (cp.put (rows ++ [[vi n, .str "beat"]] ++ rE X.nm (n + 1) X.hd k)).o
    have kid0 : ∀ (k : Nd) (r : List Nd), ks = k :: r → atI ((kidNums (n + 1) ks).map MV.int) 0 = some (.int ((n : Int) + 1)) := fun k r ek => by rw [ek, kidNums, List.map_cons, i0, show ((n + 1 : Nat) : Int) = (n : Int) + 1 by omega]
    have trd : w = "try" → ∃ ρ, r4 [.ref X.q, .int n, .tup (.str w :: its), .ref kc] (X.put h (rows ++ [[vi n, .str "beat"]])) = .ok .non (X.put h (rows ++ rS X.nm rows.length n X.hd (.mk (.tup (.str w :: its)) w its ps m ks))) ∧ ρ = True := fun hw => by
      subst hw
      have := hT its ps m ks n _ rows kc ok0 hh0 cp1 rfr sub so hz kk1 kkn
      rw [put_put] at this
      exact ⟨_, this, rfl⟩
    match ks, so, kk, hf, hk, sub, ok0, hh0, hs, hz, hkl, hh', hr, kk1, eRow, comeRow, kid0, trd with
    | [], so, kk, hf, hk, sub, ok0, hh0, hs, hz, hkl, hh', hr, kk1, eRow, comeRow, kid0, trd =>
      simp only [sOk] at so
      obtain ⟨rfl, _⟩ := so
      obtain ⟨_, e, _⟩ := trd rfl
      refine ⟨[some (.ref X.q), some (.int n), some (.tup (.str "try" :: its)), some (.ref kc), some (.int rows.length)], ?_⟩
      simp [mIx, ixL, i0, one_in, oneW, mEq, mEqB, scalM, o1, cN7, e]
    | k :: r, so, kk, hf, hk, sub, ok0, hh0, hs, hz, hkl, hh', hr, kk1, eRow, comeRow, kid0, trd =>
      simp only [sOk] at so
      have k0 := kid0 k r rfl
      refine ⟨[some (.ref X.q), some (.int n), some (.tup (.str w :: its)), some (.ref kc), some (.int rows.length)], ?_⟩
      rcases so with ⟨hw, rfl, eo⟩ | ⟨rfl, rfl, eo, x, ev, rfl, hx⟩ | ⟨rfl, rfl, eo, x, ev, rfl⟩ | ⟨rfl, so1, so2, x, y, z, rfl, hx⟩ | ⟨hw, eo, so2⟩
      · have e1 := eRow k [] rfl eo
        rw [rS_one hw, ← List.append_assoc, ← List.append_assoc]
        have e2 := comeRow k [] rfl (.str (if w = "do" then "drop" else w)) [] (by simp)
        have o3k := o3 k
        generalize X.put h (rows ++ [[vi n, .str "beat"]]) = H1 at o1 kk1 e1 ⊢
        generalize X.put h (rows ++ [[vi n, .str "beat"]] ++ rE X.nm (n + 1) X.hd k) = H2 at e1 o3k e2 ⊢
        by_cases hdo : w = "do"
        · subst hdo
          simp [mIx, ixL, i0, one_in, hw, mEq, mEqB, scalM, o1, cN2, kk1, k0, e1, o3k, cN1] at e2 ⊢
          simp [e2, vi]
        · simp [mIx, ixL, i0, one_in, hw, mEq, mEqB, scalM, o1, cN2, kk1, k0, e1, o3k, cN1, hdo] at e2 ⊢
          simp [e2, vi]
      · have e1 := eRow k [] rfl eo
        rw [rS_set, ← List.append_assoc, ← List.append_assoc]
        obtain ⟨⟨o, i⟩, hlk⟩ := Option.isSome_iff_exists.mp hx
        have e2 := comeRow k [] rfl (.str "setname") [vi o, vi i] (by simp)
        have cp2 : X.Cp (X.put h (rows ++ [[vi n, .str "beat"]] ++ rE X.nm (n + 1) X.hd k)) (rows ++ [[vi n, .str "beat"]] ++ rE X.nm (n + 1) X.hd k) := cp.put _
        have fd := fnd _ _ x o i cp2 hlk
        have ho3 := cp2.f.o
        obtain ⟨d5, d6, d7, d8⟩ := cp2.f.code
        have o3k := o3 k
        have nr : nameRow X.nm n "setname" (xOf [MV.str x, ev] 0) X.hd = [.int n, .str "setname", vi o, vi i] := by simp [nameRow, xOf, hlk, vi]
        rw [nr]
        generalize X.put h (rows ++ [[vi n, .str "beat"]]) = H1 at o1 kk1 e1 ⊢
        generalize X.put h (rows ++ [[vi n, .str "beat"]] ++ rE X.nm (n + 1) X.hd k) = H2 at e1 o3k e2 fd ho3 d7 ⊢
        simp [mIx, ixL, i0, i1, one_in, oneW, mEq, mEqB, scalM, o1, cN2, kk1, k0, e1, o3k, cN1, cF, mFld, ho3, cp.no.found, d6, d7, a3, fd, e2]
      · have e1 := eRow k [] rfl eo
        rw [rS_setfield, ← List.append_assoc, ← List.append_assoc]
        have e2 := comeRow k [] rfl (.str "setfield") [.str x] (by simp)
        have o3k := o3 k
        generalize X.put h (rows ++ [[vi n, .str "beat"]]) = H1 at o1 kk1 e1 ⊢
        generalize X.put h (rows ++ [[vi n, .str "beat"]] ++ rE X.nm (n + 1) X.hd k) = H2 at e1 o3k e2 ⊢
        simp [mIx, ixL, i0, i1, one_in, oneW, mEq, mEqB, scalM, o1, cN2, kk1, k0, e1, o3k, cN1, e2, vi]
      · obtain ⟨_, e, _⟩ := trd rfl
        generalize X.put h (rows ++ [[vi n, .str "beat"]]) = H1 at o1 kk1 e ⊢
        simp [mIx, ixL, i0, one_in, oneW, mEq, mEqB, scalM, o1, cN7, e]
      · have e := hC w its ps m (k :: r) n _ rows kc ok0 hw hh0 cp1 rfr sub (by simp only [sOk]; exact .inr (.inr (.inr (.inr ⟨hw, eo, so2⟩)))) hz kk1 kkn
        rw [put_put] at e
        generalize X.put h (rows ++ [[vi n, .str "beat"]]) = H1 at o1 kk1 e ⊢
        rcases hw with rfl | rfl <;> simp [mIx, ixL, i0, one_in, oneW, mEq, mEqB, scalM, o1, cN6, e]
end My

set_option Elab.async false
set_option linter.all false
set_option maxRecDepth 100000
set_option maxHeartbeats 4000000
namespace My
open PySem L2 Sm
variable {X : Ctx}
section
variable {h : MH} {R0 : List (List MV)}
theorem lmG (cp : X.Cp h R0) : X.mA < h.length := lt_of_get cp.m
theorem cpG (cp : X.Cp h R0) (R : List (List MV)) (g : MH) : X.Cp (X.put h R ++ g) R := (cp.put R).grow
theorem setG (cp : X.Cp h R0) (R R' : List (List MV)) (g : MH) : X.put (X.put h R ++ g) R' = X.put h R' ++ g := app_set (lmG cp)
theorem comeG (cp : X.Cp h R0) {R : List (List MV)} {g : MH} (at_ word : MV) (more : List MV) (hl : R.length < 100000) (hm : more.length < 1000) : m_Compiler_come [.ref X.q, at_, word, .tup more] (X.put h R ++ g) = .ok (.int R.length) (X.put h (R ++ [at_ :: word :: more]) ++ g) := by
  have := come_ok (cpG cp R g) at_ word more hl hm
  rw [this]
  exact congrArg _ (setG cp R _ g)
theorem mendG (cp : X.Cp h R0) {R : List (List MV)} {g : MH} {j : Nat} {a w : MV} {more : List MV} (hj : R[j]? = some (a :: w :: more)) (hl : R.length < 100000) : m_Compiler_mend [.ref X.q, .int j] (X.put h R ++ g) = .ok .non (X.put h (R.set j [a, w, .int R.length]) ++ g) := by
  have := mend_ok (cpG cp R g) hj hl
  rw [this]
  exact congrArg _ (setG cp R _ g)
theorem oG (cp : X.Cp h R0) (R : List (List MV)) (g : MH) : (X.put h R ++ g)[X.q]? = some (.ins "Compiler" (cpF X.p X.code X.mA)) := (cpG cp R g).o
theorem kcG (cp : X.Cp h R0) (R : List (List MV)) (g : MH) {kc : Nat} {o : MO} (hk : h[kc]? = some o) (ne : kc ≠ X.mA) : (X.put h R ++ g)[kc]? = some o := gap (by show (h.set _ _)[kc]? = _; rw [gsn ne]; exact hk)
theorem lenG (R : List (List MV)) (g : MH) : (X.put h R ++ g).length = h.length + g.length := by simp
end
theorem turn_its {w : Str} {its : List MV} {ps : List Str} {m : Nat} {k : Nd} {r : List Nd} (f : Form w its ps m ((k :: r).map Nd.v)) (hw : w = "if" ∨ w = "while") : ∃ e xs rest, its = e :: .tup xs :: rest ∧ xs.length = m ∧ m ≤ r.length ∧ (w = "while" → m = r.length) := by
  generalize hks : (k :: r).map Nd.v = kv at f
  have hl : kv.length = r.length + 1 := by rw [← hks]; simp
  cases f with
  | cond e xs ys => exact ⟨e, xs, _, rfl, rfl, by simp at hl; omega, fun z => absurd z (by decide +kernel)⟩
  | loop e xs => exact ⟨e, xs, _, rfl, rfl, by simp at hl; omega, fun _ => by simp at hl; omega⟩
  | one w h e => exact absurd hw (by revert h; unfold oneW; intro h; rintro (rfl | rfl) <;> exact absurd h (by decide +kernel))
  | leaf w h its => exact absurd hw (by revert h; unfold leafW; intro h; rintro (rfl | rfl) <;> exact absurd h (by decide +kernel))
  | _ => exact absurd hw (by decide +kernel)
theorem cut_mid {xs : List MV} {l m : Nat} (hl : l ≤ m) (hm : m ≤ xs.length) : cutM xs (some (l : Int)) (some (m : Int)) = (xs.drop l).take (m - l) := by
  unfold cutM HT.sIx
  simp [show ¬ ((l : Int) < 0) by omega, show ¬ ((m : Int) < 0) by omega]
  rw [Nat.min_eq_left hm, Nat.min_eq_left (by omega)]
theorem cut_from {xs : List MV} {l : Nat} (hl : l ≤ xs.length) : cutM xs (some (l : Int)) none = xs.drop l := by
  unfold cutM HT.sIx
  simp
  rw [Nat.min_eq_left hl]
  exact List.take_of_length_le (by simp)
theorem cut_to {xs : List MV} {m : Nat} (hm : m ≤ xs.length) : cutM xs none (some (m : Int)) = xs.take m := by
  unfold cutM HT.sIx
  simp [show ¬ ((m : Int) < 0) by omega]
theorem C_step {r1 r2 r3 r4 : List MV → MH → Res MV} {B : Nat} (hB : B + 1 ≤ 60) (fnd : Fnd X.p X.mA X.fs X.rs X.nm X.q X.code X.c X.hd) (hA : SpA X r1 B) : SpC X (mfun 5 8 (b_Compiler_chosen r1 r2 r3 r4)) (B + 1) := by
  intro w its ps m ks n h rows kc ok hw hh cp rfr sub so hz hkc nkc
  have ok0 := ok
  cases ok with
  | mk _ _ _ _ _ hf hb hkl hk =>
  match ks, so, hf, hk, sub, ok0, hh, hz, hkl, hkc with
  | [], so, hf, hk, sub, ok0, hh, hz, hkl, hkc =>
    simp only [sOk] at so
    rcases hw with z | z <;> rw [z] at so <;> exact absurd so.1 (by decide +kernel)
  | k :: r, so, hf, hk, sub, ok0, hh, hz, hkl, hkc =>
    obtain ⟨ev, xs, rest, rfl, hm, hmr, hwm⟩ := turn_its hf hw
    have so2 : eOk X.nm X.hd k ∧ ssOk X.nm X.hd r := by
      simp only [sOk] at so
      rcases so with ⟨z, _⟩ | ⟨z, _⟩ | ⟨z, _⟩ | ⟨z, _⟩ | ⟨_, z⟩
      · exact absurd z (by rcases hw with rfl | rfl <;> unfold oneW <;> decide +kernel)
      · exact absurd z (by rcases hw with rfl | rfl <;> decide +kernel)
      · exact absurd z (by rcases hw with rfl | rfl <;> decide +kernel)
      · exact absurd z (by rcases hw with rfl | rfl <;> decide +kernel)
      · exact z
    have wb : ¬ w = "block" := by rcases hw with rfl | rfl <;> decide +kernel
    have sk := sub.kids
    rw [if_neg wb, if_neg wb] at sk
    obtain ⟨s1, s2⟩ := sk.cons
    have hsz : size (.mk (.tup (.str w :: ev :: .tup xs :: rest)) w (ev :: .tup xs :: rest) ps m (k :: r)) = 1 + (size k + sizeL r) := by simp only [size, sizeL]
    rw [hsz] at hz
    have hh2 : hgt k ≤ B ∧ hgtL r ≤ B := by simp only [hgt, hgtL] at hh; omega
    have okr : ∀ z, z ∈ r → NdOk z := fun z hz => hk z (by simp [hz])
    -- the rows
    obtain ⟨R1, hR1⟩ : ∃ R, R = rows ++ [[vi n, .str "beat"]] := ⟨_, rfl⟩
    obtain ⟨R2, hR2⟩ : ∃ R, R = R1 ++ rE X.nm (n + 1) X.hd k := ⟨_, rfl⟩
    obtain ⟨R3, hR3⟩ : ∃ R : List (List MV), R = R2 ++ [[.int n, .str "unless", .int 0]] := ⟨_, rfl⟩
    obtain ⟨R4, hR4⟩ : ∃ R, R = R3 ++ rSs X.nm R3.length (n + 1 + size k) X.hd (r.take m) := ⟨_, rfl⟩
    have tl := rE_len X.nm X.hd k (n + 1)
    have l1 : R1.length = rows.length + 1 := by rw [hR1]; simp
    have l2 : R2.length = rows.length + 1 + (rE X.nm (n + 1) X.hd k).length := by rw [hR2, List.length_append, l1]
    have l3 : R3.length = rows.length + 1 + (rE X.nm (n + 1) X.hd k).length + 1 := by rw [hR3, List.length_append, l2]; rfl
    have szt : sizeL (r.take m) + sizeL (r.drop m) = sizeL r := by rw [← sizeL_append, List.take_append_drop]
    have ol := rSs_len X.nm X.hd (r.take m) R3.length (n + 1 + size k)
    have l4 : R4.length = R3.length + (rSs X.nm R3.length (n + 1 + size k) X.hd (r.take m)).length := by rw [hR4, List.length_append]
    rw [← hR1] at cp
    have rf1 : rf R1 := by rw [hR1]; exact rf_app.mpr ⟨rfr, by simp [rf, tups, bels, bel, vi]⟩
    have rf2 : rf R2 := by rw [hR2]; exact rf_app.mpr ⟨rf1, rE_rf _ _ _ _ (hk k (by simp))⟩
    have rf3 : rf R3 := by rw [hR3]; exact rf_app.mpr ⟨rf2, by simp [rf, tups, bels, bel]⟩
    have rf4 : rf R4 := by rw [hR4]; exact rf_app.mpr ⟨rf3, rSr_rf _ _ _ _ _ _ fun z hz => okr z (List.mem_of_mem_take hz)⟩
    -- the slices
    have kl : (kidNums (n + 1) (k :: r)).length = r.length + 1 := by rw [kidNums_len]; rfl
    have sl1 : cutM ((kidNums (n + 1) (k :: r)).map MV.int) (some 1) (some (1 + (m : Int))) = (kidNums (n + 1 + size k) (r.take m)).map MV.int := by
      rw [show (1 + (m : Int)) = ((1 + m : Nat) : Int) by omega, show (some (1 : Int)) = some ((1 : Nat) : Int) from rfl, cut_mid (by omega) (by rw [List.length_map, kl]; omega)]
      rw [kidNums, List.map_cons, List.drop_one, List.tail_cons, show 1 + m - 1 = m by omega, ← List.map_take, kidNums_take]
    have sl2 : cutM ((kidNums (n + 1) (k :: r)).map MV.int) (some (1 + (m : Int))) none = (kidNums (n + 1 + size k + sizeL (r.take m)) (r.drop m)).map MV.int := by
      rw [show (1 + (m : Int)) = ((1 + m : Nat) : Int) by omega, cut_from (by rw [List.length_map, kl]; omega)]
      rw [kidNums, List.map_cons, Nat.add_comm 1 m, List.drop_succ_cons, ← List.map_drop, kidNums_drop]
    have e0 : X.put h R1 = h := cp.same
    -- the first statements
    have w1 : m_Compiler_worked 60 [.ref X.q, .int ((n : Int) + 1)] h = .ok .non (X.put h R2) := by
      have := worked_ok fnd 60 k (hk k (by simp)) (by omega) (n + 1) _ _ cp s1 so2.1 (by omega)
      rw [show ((n + 1 : Nat) : Int) = (n : Int) + 1 by omega, ← hR2] at this
      exact this
    have c1 : m_Compiler_come [.ref X.q, .int n, .str "unless", .tup [.int 0]] (X.put h R2) = .ok (.int R2.length) (X.put h R3) := by
      have := comeG cp (R := R2) (g := []) (.int n) (.str "unless") [.int 0] (by omega) (by simp)
      rw [List.append_nil, List.append_nil, ← hR3] at this
      exact this
    obtain ⟨g1, hg1⟩ : ∃ g : MH, g = [MO.lst ((kidNums (n + 1 + size k) (r.take m)).map MV.int)] := ⟨_, rfl⟩
    have d1 : r1 [.ref X.q, .ref h.length] (X.put h R3 ++ g1) = .ok .non (X.put h R4 ++ g1) := by
      have := hA (r.take m) (n + 1 + size k) _ R3 h.length (fun z hz => okr z (List.mem_of_mem_take hz)) (hgtL_sub fun t ht => Nat.le_trans (hgtL_mem (List.mem_of_mem_take ht)) hh2.2) (cpG cp R3 g1) rf3 (s2.take m) (ssOk_take so2.2) (by omega)
        (by rw [List.getElem?_append_right (by simp), hg1]; simp) (Nat.ne_of_gt (lmG cp))
      rw [← hR4] at this
      rw [this]
      exact congrArg _ (setG cp R3 R4 g1)
    have kk := kidNums (n + 1) (k :: r)
    have k0 : atI ((kidNums (n + 1) (k :: r)).map MV.int) 0 = some (.int ((n : Int) + 1)) := by rw [kidNums, List.map_cons, i0, show ((n + 1 : Nat) : Int) = (n : Int) + 1 by omega]
    have oo := cp.o
    have kc2 : (X.put h R2)[kc]? = some (.lst ((kidNums (n + 1) (k :: r)).map MV.int)) := by have := kcG cp R2 [] hkc nkc; rwa [List.append_nil] at this
    have kc3 : (X.put h R3)[kc]? = some (.lst ((kidNums (n + 1) (k :: r)).map MV.int)) := by have := kcG cp R3 [] hkc nkc; rwa [List.append_nil] at this
    have o2 : (X.put h R2)[X.q]? = some (.ins "Compiler" (cpF X.p X.code X.mA)) := by have := oG cp R2 []; rwa [List.append_nil] at this
    have o3 : (X.put h R3)[X.q]? = some (.ins "Compiler" (cpF X.p X.code X.mA)) := by have := oG cp R3 []; rwa [List.append_nil] at this
    have ln3 : (X.put h R3).length = h.length := by simp
    have lm := lmG cp
    obtain ⟨g2, hg2⟩ : ∃ g : MH, g = g1 ++ [MO.lst ((kidNums (n + 1 + size k + sizeL (r.take m)) (r.drop m)).map MV.int)] := ⟨_, rfl⟩
    have sl1' : eSl (eVar 3) (pSome (eC (.int 1))) (pSome (eVar 5)) [some (.ref X.q), some (.int n), some (.tup (.str w :: ev :: .tup xs :: rest)), some (.ref kc), some (.int rows.length), some (.int (1 + (m : Int))), some (.int R2.length), none] (X.put h R3) = .ok (.ref h.length) (X.put h R3 ++ g1) := by
      simp [eSl, pSome, kc3, mSl, sl1, hg1, ln3]
    have P : ∀ tl : MSt, sSeq (sSet 5 (eBin mAdd (eC (.int 1)) (eCallB mLen (aCons (eBin mIx (eVar 2) (eC (.int 2))) aNil))))
        (sSeq (sExpr (eMeth "Compiler" "worked" (m_Compiler_worked 60) [] (eVar 0) (aCons (eBin mIx (eVar 3) (eC (.int 0))) aNil)))
        (sSeq (sSet 6 (eMeth "Compiler" "come" m_Compiler_come [] (eVar 0) (aCons (eVar 1) (aCons (eC (.str "unless")) (aCons (eTup (aCons (eC (.int 0)) aNil)) aNil)))))
        (sSeq (sExpr (eMeth "Compiler" "all_done" r1 [] (eVar 0) (aCons (eSl (eVar 3) (pSome (eC (.int 1))) (pSome (eVar 5))) aNil))) tl)))
        [some (.ref X.q), some (.int n), some (.tup (.str w :: ev :: .tup xs :: rest)), some (.ref kc), some (.int rows.length), none, none, none] h =
        tl [some (.ref X.q), some (.int n), some (.tup (.str w :: ev :: .tup xs :: rest)), some (.ref kc), some (.int rows.length), some (.int (1 + (m : Int))), some (.int R2.length), none] (X.put h R4 ++ g1) := fun tl => by
      rw [seq_nx (ρ1 := [some (.ref X.q), some (.int n), some (.tup (.str w :: ev :: .tup xs :: rest)), some (.ref kc), some (.int rows.length), some (.int (1 + (m : Int))), none, none]) (h1 := h) (by simp [mIx, ixL, i2, mLen, mAdd, hm])]
      rw [seq_nx (ρ1 := [some (.ref X.q), some (.int n), some (.tup (.str w :: ev :: .tup xs :: rest)), some (.ref kc), some (.int rows.length), some (.int (1 + (m : Int))), none, none]) (h1 := X.put h R2) (by simp [mIx, ixL, hkc, k0, oo, cN2, w1])]
      rw [seq_nx (ρ1 := [some (.ref X.q), some (.int n), some (.tup (.str w :: ev :: .tup xs :: rest)), some (.ref kc), some (.int rows.length), some (.int (1 + (m : Int))), some (.int R2.length), none]) (h1 := X.put h R3) (by simp [o2, cN1, c1])]
      rw [seq_nx (ρ1 := [some (.ref X.q), some (.int n), some (.tup (.str w :: ev :: .tup xs :: rest)), some (.ref kc), some (.int rows.length), some (.int (1 + (m : Int))), some (.int R2.length), none]) (h1 := X.put h R4 ++ g1) (by
        have o3' := oG cp R3 g1
        simp only [sExpr, eMeth, eVar, aCons, aNil, List.getElem?_cons_zero, Res.bind_ok, o3, cN5, and_self, if_true, List.append_nil, List.cons_append, List.nil_append, sl1', d1, Res.st_ok])]
    have un : R3 = R2 ++ [[vi n, .str "unless", .int 0]] := hR3
    have E4 : R4 = R2 ++ [vi n, .str "unless", .int 0] :: rSs X.nm R3.length (n + 1 + size k) X.hd (r.take m) := by rw [hR4, un]; simp
    rcases hw with hw | hw
    · -- if
      obtain ⟨R5, hR5⟩ : ∃ R : List (List MV), R = R4 ++ [[.int n, .str "jump", .int 0]] := ⟨_, rfl⟩
      have l5 : R5.length = R4.length + 1 := by rw [hR5]; simp
      obtain ⟨R6, hR6⟩ : ∃ R : List (List MV), R = R5.set R2.length [vi n, .str "unless", .int R5.length] := ⟨_, rfl⟩
      have l6 : R6.length = R5.length := by rw [hR6]; simp
      obtain ⟨R7, hR7⟩ : ∃ R, R = R6 ++ rSs X.nm R6.length (n + 1 + size k + sizeL (r.take m)) X.hd (r.drop m) := ⟨_, rfl⟩
      have ol2 := rSs_len X.nm X.hd (r.drop m) R6.length (n + 1 + size k + sizeL (r.take m))
      have l7 : R7.length = R6.length + (rSs X.nm R6.length (n + 1 + size k + sizeL (r.take m)) X.hd (r.drop m)).length := by rw [hR7, List.length_append]
      obtain ⟨R8, hR8⟩ : ∃ R : List (List MV), R = R7.set R4.length [vi n, .str "jump", .int R7.length] := ⟨_, rfl⟩
      have E5 : R5 = R2 ++ [vi n, .str "unless", .int 0] :: (rSs X.nm R3.length (n + 1 + size k) X.hd (r.take m) ++ [[.int n, .str "jump", .int 0]]) := by rw [hR5, E4]; simp
      have E6 : R6 = R2 ++ [vi n, .str "unless", .int R5.length] :: (rSs X.nm R3.length (n + 1 + size k) X.hd (r.take m) ++ [[.int n, .str "jump", .int 0]]) := by rw [hR6, E5, set_mid _ _ _ _ rfl, ← E5]
      have E7 : R7 = (R2 ++ [vi n, .str "unless", .int R5.length] :: rSs X.nm R3.length (n + 1 + size k) X.hd (r.take m)) ++ [.int n, .str "jump", .int 0] :: rSs X.nm R6.length (n + 1 + size k + sizeL (r.take m)) X.hd (r.drop m) := by rw [hR7, E6]; simp
      have L7 : R4.length = (R2 ++ [vi n, .str "unless", .int R5.length] :: rSs X.nm R3.length (n + 1 + size k) X.hd (r.take m)).length := by rw [E4]; simp
      have E8 : R8 = (R2 ++ [vi n, .str "unless", .int R5.length] :: rSs X.nm R3.length (n + 1 + size k) X.hd (r.take m)) ++ [vi n, .str "jump", .int R7.length] :: rSs X.nm R6.length (n + 1 + size k + sizeL (r.take m)) X.hd (r.drop m) := by rw [hR8, E7, set_mid _ _ _ _ L7, ← E7]
      have rf6 : rf R6 := by
        rw [E6]
        exact rf_app.mpr ⟨rf2, rf_cons.mpr ⟨by simp [bels, bel, vi], rf_app.mpr ⟨rSr_rf _ _ _ _ _ _ fun z hz => okr z (List.mem_of_mem_take hz), by simp [rf, tups, bels, bel]⟩⟩⟩
      have rf8 : rf R8 := by
        rw [E8]
        exact rf_app.mpr ⟨rf_app.mpr ⟨rf2, rf_cons.mpr ⟨by simp [bels, bel, vi], rSr_rf _ _ _ _ _ _ fun z hz => okr z (List.mem_of_mem_take hz)⟩⟩, rf_cons.mpr ⟨by simp [bels, bel, vi], rSr_rf _ _ _ _ _ _ fun z hz => okr z (List.mem_of_mem_drop hz)⟩⟩
      have j1 := comeG cp (R := R4) (g := g1) (.int n) (.str "jump") [.int 0] (by omega) (by simp)
      rw [← hR5] at j1
      have j2 := mendG cp (R := R5) (g := g1) (j := R2.length) (a := vi n) (w := .str "unless") (more := [.int 0]) (by rw [E5]; exact get_mid _ _ _ rfl) (by omega)
      rw [← hR6] at j2
      have d2 : r1 [.ref X.q, .ref (h.length + 1)] (X.put h R6 ++ g2) = .ok .non (X.put h R7 ++ g2) := by
        have := hA (r.drop m) (n + 1 + size k + sizeL (r.take m)) _ R6 (h.length + 1) (fun z hz => okr z (List.mem_of_mem_drop hz)) (hgtL_sub fun t ht => Nat.le_trans (hgtL_mem (List.mem_of_mem_drop ht)) hh2.2) (cpG cp R6 g2) rf6 (s2.drop m) (ssOk_drop so2.2) (by omega)
          (by rw [List.getElem?_append_right (by simp), hg2, hg1]; simp) (by omega)
        rw [← hR7] at this
        rw [this]
        exact congrArg _ (setG cp R6 R7 g2)
      have j3 := mendG cp (R := R7) (g := g2) (j := R4.length) (a := vi n) (w := .str "jump") (more := [.int 0]) (by rw [E7]; exact get_mid _ _ _ L7) (by omega)
      rw [← hR8] at j3
      have o4 := oG cp R4 g1
      have o5 := oG cp R5 g1
      have o6 := oG cp R6 g1
      have o7 := oG cp R7 g2
      have kc6 := kcG cp R6 g1 hkc nkc
      have ln6 : (X.put h R6 ++ g1).length = h.length + 1 := by rw [lenG, hg1]; rfl
      have sl2' : eSl (eVar 3) (pSome (eVar 5)) pNone [some (.ref X.q), some (.int n), some (.tup (.str w :: ev :: .tup xs :: rest)), some (.ref kc), some (.int rows.length), some (.int (1 + (m : Int))), some (.int R2.length), some (.int R4.length)] (X.put h R6 ++ g1) = .ok (.ref (h.length + 1)) (X.put h R6 ++ g2) := by
        rw [hg2, ← List.append_assoc]
        generalize X.put h R6 ++ g1 = H6 at kc6 ln6 ⊢
        simp [eSl, pSome, pNone, kc6, mSl, sl2, ln6]
      have fin : R8 = rows ++ rS X.nm rows.length n X.hd (.mk (.tup (.str w :: ev :: .tup xs :: rest)) w (ev :: .tup xs :: rest) ps m (k :: r)) := by
        rw [hw, rS_if, E8, hR2, hR1, l7, l6, l5, l4, l3]
        simp only [vi, List.append_assoc, List.cons_append, List.nil_append]
      rw [← fin]
      refine runsN (ρ := [some (.ref X.q), some (.int n), some (.tup (.str w :: ev :: .tup xs :: rest)), some (.ref kc), some (.int rows.length), some (.int (1 + (m : Int))), some (.int R2.length), some (.int R4.length)]) rfl (h' := X.put h R8 ++ g2) ?_ (gc_put lm rf8 (by simp [bel]))
      unfold b_Compiler_chosen
      refine (P _).trans ?_
      have nw : ¬ w = "while" := by rw [hw]; decide +kernel
      generalize X.put h R4 ++ g1 = H4 at o4 j1 ⊢
      generalize X.put h R5 ++ g1 = H5 at o5 j1 j2 ⊢
      generalize X.put h R6 ++ g1 = H6 at o6 j2 sl2' ⊢
      generalize X.put h R6 ++ g2 = H6' at d2 sl2' ⊢
      generalize X.put h R7 ++ g2 = H7 at d2 o7 j3 ⊢
      generalize X.put h R8 ++ g2 = H8 at j3 ⊢
      simp [-eSl, mIx, ixL, i0, mEq, mEqB, scalM, nw, o4, o5, o6, o7, cN1, cN5, cN8, j1, j2, sl2', d2, j3, szOk]
    · -- while
      obtain ⟨R5, hR5⟩ : ∃ R : List (List MV), R = R4 ++ [[.int n, .str "jump", .int rows.length]] := ⟨_, rfl⟩
      have l5 : R5.length = R4.length + 1 := by rw [hR5]; simp
      obtain ⟨R6, hR6⟩ : ∃ R : List (List MV), R = R5.set R2.length [vi n, .str "unless", .int R5.length] := ⟨_, rfl⟩
      have E5 : R5 = R2 ++ [vi n, .str "unless", .int 0] :: (rSs X.nm R3.length (n + 1 + size k) X.hd (r.take m) ++ [[.int n, .str "jump", .int rows.length]]) := by rw [hR5, E4]; simp
      have E6 : R6 = R2 ++ [vi n, .str "unless", .int R5.length] :: (rSs X.nm R3.length (n + 1 + size k) X.hd (r.take m) ++ [[.int n, .str "jump", .int rows.length]]) := by rw [hR6, E5, set_mid _ _ _ _ rfl, ← E5]
      have rf6 : rf R6 := by
        rw [E6]
        exact rf_app.mpr ⟨rf2, rf_cons.mpr ⟨by simp [bels, bel, vi], rf_app.mpr ⟨rSr_rf _ _ _ _ _ _ fun z hz => okr z (List.mem_of_mem_take hz), by simp [rf, tups, bels, bel]⟩⟩⟩
      have j1 := comeG cp (R := R4) (g := g1) (.int n) (.str "jump") [.int rows.length] (by omega) (by simp)
      rw [← hR5] at j1
      have j2 := mendG cp (R := R5) (g := g1) (j := R2.length) (a := vi n) (w := .str "unless") (more := [.int 0]) (by rw [E5]; exact get_mid _ _ _ rfl) (by omega)
      rw [← hR6] at j2
      have o4 := oG cp R4 g1
      have o5 := oG cp R5 g1
      have fin : R6 = rows ++ rS X.nm rows.length n X.hd (.mk (.tup (.str w :: ev :: .tup xs :: rest)) w (ev :: .tup xs :: rest) ps m (k :: r)) := by
        rw [hw, rS_while, E6, hR2, hR1, l5, l4, l3]
        simp only [vi, List.append_assoc, List.cons_append, List.nil_append]
      rw [← fin]
      refine runsN (ρ := [some (.ref X.q), some (.int n), some (.tup (.str w :: ev :: .tup xs :: rest)), some (.ref kc), some (.int rows.length), some (.int (1 + (m : Int))), some (.int R2.length), none]) rfl (h' := X.put h R6 ++ g1) ?_ (gc_put lm rf6 (by simp [bel]))
      unfold b_Compiler_chosen
      refine (P _).trans ?_
      generalize X.put h R4 ++ g1 = H4 at o4 j1 ⊢
      generalize X.put h R5 ++ g1 = H5 at o5 j1 j2 ⊢
      generalize X.put h R6 ++ g1 = H6 at j2 ⊢
      simp [mIx, ixL, i0, mEq, mEqB, scalM, hw, o4, o5, cN1, cN5, cN8, j1, j2, szOk]
end My

set_option Elab.async false
set_option linter.all false
set_option maxRecDepth 100000
set_option maxHeartbeats 4000000
namespace My
open PySem L2 Sm
variable {X : Ctx}
theorem try_its2 {its : List MV} {ps : List Str} {m : Nat} {ks : List MV} (f : Form "try" its ps m ks) : ∃ x xs ys, its = [.tup xs, .str x, .tup ys] ∧ xs.length = m ∧ m ≤ ks.length := by
  generalize hw : ("try" : Str) = w at f
  cases f with
  | tri x xs ys => exact ⟨x, xs, ys, rfl, rfl, by simp⟩
  | one w h e => exact absurd hw (by revert h; unfold oneW; intro h; rintro rfl; exact absurd h (by decide +kernel))
  | leaf w h its => exact absurd hw (by revert h; unfold leafW; intro h; rintro rfl; exact absurd h (by decide +kernel))
  | _ => exact absurd hw (by decide +kernel)
theorem try_ok {nm : List Str} {h : List (List Str)} {v : MV} {its : List MV} {ps : List Str} {m : Nat} : ∀ {ks : List Nd}, sOk nm h (.mk v "try" its ps m ks) → ssOk nm h ks ∧ ∃ a x b, its = [a, .str x, b] ∧ (lookN nm x 0 h).isSome = true
  | [], so => by simp only [sOk] at so; exact ⟨by simp only [ssOk], so.2⟩
  | k :: r, so => by
    simp only [sOk] at so
    rcases so with ⟨z, _⟩ | ⟨z, _⟩ | ⟨z, _⟩ | ⟨_, a, b, c⟩ | ⟨z, _⟩
    · exact absurd z (by unfold oneW; decide +kernel)
    · exact absurd z (by decide +kernel)
    · exact absurd z (by decide +kernel)
    · exact ⟨by simp only [ssOk]; exact ⟨a, b⟩, c⟩
    · rcases z with z | z <;> exact absurd z (by decide +kernel)
theorem T_step {r1 r2 r3 r4 : List MV → MH → Res MV} {B : Nat} (hB : B + 1 ≤ 60) (fnd : Fnd X.p X.mA X.fs X.rs X.nm X.q X.code X.c X.hd) (hA : SpA X r1 B) : SpT X (mfun 4 7 (b_Compiler_tried r1 r2 r3 r4)) (B + 1) := by
  intro its ps m ks n h rows kc ok hh cp rfr sub so hz hkc nkc
  have ok0 := ok
  cases ok with
  | mk _ _ _ _ _ hf hb hkl okr =>
    obtain ⟨x, xs, ys, rfl, hm, hmr⟩ := try_its2 hf
    rw [List.length_map] at hmr
    obtain ⟨so2, a', x', b', e', hlk⟩ := try_ok so
    simp only [List.cons.injEq, MV.str.injEq] at e'
    obtain ⟨-, rfl, -⟩ := e'
    obtain ⟨⟨o, i⟩, hlk⟩ := Option.isSome_iff_exists.mp hlk
    have s2 := sub.kids
    rw [if_neg (by decide +kernel), if_neg (by decide +kernel)] at s2
    have hsz : size (.mk (.tup [.str "try", .tup xs, .str x, .tup ys]) "try" [.tup xs, .str x, .tup ys] ps m ks) = 1 + sizeL ks := by simp only [size]
    rw [hsz] at hz
    have hh2 : hgtL ks ≤ B := by simp only [hgt] at hh; omega
    obtain ⟨ab, hr⟩ := sub.head
    have ln := lt_of_get hr
    have a3 : atI (X.rs.map fun r => MV.int r.code) (n : Int) = some (.int X.c) := ixNat (by rw [List.getElem?_map, hr]; rfl)
    obtain ⟨A, hA1⟩ : ∃ A, A = rSs X.nm (rows.length + 2) (n + 1) X.hd (ks.take m) := ⟨_, rfl⟩
    obtain ⟨Bx, hBx⟩ : ∃ Z, Z = rSs X.nm (rows.length + 2 + A.length + 3) (n + 1 + sizeL (ks.take m)) X.hd (ks.drop m) := ⟨_, rfl⟩
    have szt : sizeL (ks.take m) + sizeL (ks.drop m) = sizeL ks := by rw [← sizeL_append, List.take_append_drop]
    have lA : A.length ≤ 5 * sizeL (ks.take m) := by rw [hA1]; exact rSs_len X.nm X.hd (ks.take m) _ _
    have lB : Bx.length ≤ 5 * sizeL (ks.drop m) := by rw [hBx]; exact rSs_len X.nm X.hd (ks.drop m) _ _
    have rfA : rf A := by rw [hA1]; exact rSr_rf _ _ _ _ _ _ fun z hz => okr z (List.mem_of_mem_take hz)
    have rfB : rf Bx := by rw [hBx]; exact rSr_rf _ _ _ _ _ _ fun z hz => okr z (List.mem_of_mem_drop hz)
    obtain ⟨R1, hR1⟩ : ∃ R, R = rows ++ [[vi n, .str "beat"]] := ⟨_, rfl⟩
    obtain ⟨R2, hR2⟩ : ∃ R : List (List MV), R = R1 ++ [[.int n, .str "try", .int 0]] := ⟨_, rfl⟩
    obtain ⟨R3, hR3⟩ : ∃ R : List (List MV), R = R2 ++ A := ⟨_, rfl⟩
    obtain ⟨R4, hR4⟩ : ∃ R : List (List MV), R = R3 ++ [[.int n, .str "untry"]] := ⟨_, rfl⟩
    obtain ⟨R5, hR5⟩ : ∃ R : List (List MV), R = R4 ++ [[.int n, .str "jump", .int 0]] := ⟨_, rfl⟩
    have l1 : R1.length = rows.length + 1 := by rw [hR1]; simp
    have l2 : R2.length = rows.length + 2 := by rw [hR2, List.length_append, l1]; rfl
    have l3 : R3.length = rows.length + 2 + A.length := by rw [hR3, List.length_append, l2]
    have l4 : R4.length = rows.length + 2 + A.length + 1 := by rw [hR4, List.length_append, l3]; rfl
    have l5 : R5.length = rows.length + 2 + A.length + 2 := by rw [hR5, List.length_append, l4]; rfl
    obtain ⟨R6, hR6⟩ : ∃ R : List (List MV), R = R5.set R1.length [.int n, .str "try", .int R5.length] := ⟨_, rfl⟩
    have l6 : R6.length = R5.length := by rw [hR6]; simp
    obtain ⟨R7, hR7⟩ : ∃ R : List (List MV), R = R6 ++ [[.int n, .str "setname", vi o, vi i]] := ⟨_, rfl⟩
    have l7 : R7.length = rows.length + 2 + A.length + 3 := by rw [hR7, List.length_append, l6, l5]; rfl
    obtain ⟨R8, hR8⟩ : ∃ R : List (List MV), R = R7 ++ Bx := ⟨_, rfl⟩
    have l8 : R8.length = rows.length + 2 + A.length + 3 + Bx.length := by rw [hR8, List.length_append, l7]
    obtain ⟨R9, hR9⟩ : ∃ R : List (List MV), R = R8.set R4.length [.int n, .str "jump", .int R8.length] := ⟨_, rfl⟩
    have E5 : R5 = R1 ++ [.int n, .str "try", .int 0] :: (A ++ [[.int n, .str "untry"], [.int n, .str "jump", .int 0]]) := by rw [hR5, hR4, hR3, hR2]; simp
    have E6 : R6 = R1 ++ [.int n, .str "try", .int R5.length] :: (A ++ [[.int n, .str "untry"], [.int n, .str "jump", .int 0]]) := by rw [hR6, E5, set_mid _ _ _ _ rfl, ← E5]
    have E8 : R8 = (R1 ++ [.int n, .str "try", .int R5.length] :: (A ++ [[.int n, .str "untry"]])) ++ [.int n, .str "jump", .int 0] :: ([.int n, .str "setname", vi o, vi i] :: Bx) := by rw [hR8, hR7, E6]; simp
    have L8 : R4.length = (R1 ++ [MV.int n, MV.str "try", MV.int R5.length] :: (A ++ [[MV.int n, MV.str "untry"]])).length := by rw [hR4, hR3, hR2]; simp
    have E9 : R9 = (R1 ++ [.int n, .str "try", .int R5.length] :: (A ++ [[.int n, .str "untry"]])) ++ [.int n, .str "jump", .int R8.length] :: ([.int n, .str "setname", vi o, vi i] :: Bx) := by rw [hR9, E8, set_mid _ _ _ _ L8, ← E8]
    rw [← hR1] at cp
    have rf1 : rf R1 := by rw [hR1]; exact rf_app.mpr ⟨rfr, by simp [rf, tups, bels, bel, vi]⟩
    have rf2 : rf R2 := by rw [hR2]; exact rf_app.mpr ⟨rf1, by simp [rf, tups, bels, bel, vi]⟩
    have rf7 : rf R7 := by rw [hR7, E6]; simp only [rf_app, rf_cons, rf1, rfA, rf_nil, and_true, true_and]; simp [bels, bel, vi]
    have rf9 : rf R9 := by rw [E9]; simp only [rf_app, rf_cons, rf1, rfA, rfB, rf_nil, and_true, true_and]; simp [bels, bel, vi]
    have fin : R9 = rows ++ rS X.nm rows.length n X.hd (.mk (.tup [.str "try", .tup xs, .str x, .tup ys]) "try" [.tup xs, .str x, .tup ys] ps m ks) := by
      have nr : nameRow X.nm n "setname" (xOf [.tup xs, .str x, .tup ys] 1) X.hd = [.int n, .str "setname", vi o, vi i] := by simp [nameRow, xOf, hlk, vi]
      rw [rS_try, ← hA1, ← hBx, nr, E9, hR1, l8, l5]
      simp only [vi, List.append_assoc, List.cons_append, List.nil_append]
    -- slices
    have kl : (kidNums (n + 1) ks).length = ks.length := kidNums_len _ _
    have sl1 : cutM ((kidNums (n + 1) ks).map MV.int) none (some (m : Int)) = (kidNums (n + 1) (ks.take m)).map MV.int := by
      rw [cut_to (by rw [List.length_map, kl]; omega), ← List.map_take, kidNums_take]
    have sl2 : cutM ((kidNums (n + 1) ks).map MV.int) (some (m : Int)) none = (kidNums (n + 1 + sizeL (ks.take m)) (ks.drop m)).map MV.int := by
      rw [cut_from (by rw [List.length_map, kl]; omega), ← List.map_drop, kidNums_drop]
    have lm := lmG cp
    obtain ⟨g1, hg1⟩ : ∃ g : MH, g = [MO.lst ((kidNums (n + 1) (ks.take m)).map MV.int)] := ⟨_, rfl⟩
    obtain ⟨g2, hg2⟩ : ∃ g : MH, g = g1 ++ [MO.lst ((kidNums (n + 1 + sizeL (ks.take m)) (ks.drop m)).map MV.int)] := ⟨_, rfl⟩
    have c1 : m_Compiler_come [.ref X.q, .int n, .str "try", .tup [.int 0]] h = .ok (.int R1.length) (X.put h R2) := by
      have := comeG cp (R := R1) (g := []) (.int n) (.str "try") [.int 0] (by omega) (by simp)
      rw [List.append_nil, List.append_nil, ← hR2, cp.same] at this
      exact this
    have kc2 : (X.put h R2)[kc]? = some (.lst ((kidNums (n + 1) ks).map MV.int)) := by have := kcG cp R2 [] hkc nkc; rwa [List.append_nil] at this
    have ln2 : (X.put h R2).length = h.length := by simp
    have o1 := cp.o
    have o2 : (X.put h R2)[X.q]? = some (.ins "Compiler" (cpF X.p X.code X.mA)) := by have := oG cp R2 []; rwa [List.append_nil] at this
    have sl1' : eSl (eVar 3) pNone (pSome (eVar 4)) [some (.ref X.q), some (.int n), some (.tup [.str "try", .tup xs, .str x, .tup ys]), some (.ref kc), some (.int (m : Int)), some (.int R1.length), none] (X.put h R2) = .ok (.ref h.length) (X.put h R2 ++ g1) := by
      generalize X.put h R2 = H2 at kc2 ln2 ⊢
      simp [eSl, pSome, pNone, kc2, mSl, sl1, hg1, ln2]
    have d1 : r1 [.ref X.q, .ref h.length] (X.put h R2 ++ g1) = .ok .non (X.put h R3 ++ g1) := by
      have := hA (ks.take m) (n + 1) _ R2 h.length (fun z hz => okr z (List.mem_of_mem_take hz)) (hgtL_sub fun t ht => Nat.le_trans (hgtL_mem (List.mem_of_mem_take ht)) hh2) (cpG cp R2 g1) rf2 (s2.take m) (ssOk_take so2) (by omega)
        (by rw [List.getElem?_append_right (by simp), hg1]; simp) (Nat.ne_of_gt (lmG cp))
      rw [l2, ← hA1, ← hR3] at this
      rw [this]
      exact congrArg _ (setG cp R2 R3 g1)
    have c2 := comeG cp (R := R3) (g := g1) (.int n) (.str "untry") [] (by omega) (by simp)
    rw [← hR4] at c2
    have c3 := comeG cp (R := R4) (g := g1) (.int n) (.str "jump") [.int 0] (by omega) (by simp)
    rw [← hR5] at c3
    have c4 := mendG cp (R := R5) (g := g1) (j := R1.length) (a := .int n) (w := .str "try") (more := [.int 0]) (by rw [E5]; exact get_mid _ _ _ rfl) (by omega)
    rw [← hR6] at c4
    have c5 := comeG cp (R := R6) (g := g1) (.int n) (.str "setname") [vi o, vi i] (by omega) (by simp)
    rw [← hR7] at c5
    have cp6 := cpG cp R6 g1
    have fd := fnd _ _ x o i cp6 hlk
    have ho6 := cp6.f.o
    obtain ⟨d5, d6, d7, d8⟩ := cp6.f.code
    have o3 := oG cp R3 g1
    have o4 := oG cp R4 g1
    have o5 := oG cp R5 g1
    have o6 := oG cp R6 g1
    have o7 := oG cp R7 g1
    have kc7 := kcG cp R7 g1 hkc nkc
    have ln7 : (X.put h R7 ++ g1).length = h.length + 1 := by rw [lenG, hg1]; rfl
    have sl2' : eSl (eVar 3) (pSome (eVar 4)) pNone [some (.ref X.q), some (.int n), some (.tup [.str "try", .tup xs, .str x, .tup ys]), some (.ref kc), some (.int (m : Int)), some (.int R1.length), some (.int R4.length)] (X.put h R7 ++ g1) = .ok (.ref (h.length + 1)) (X.put h R7 ++ g2) := by
      rw [hg2, ← List.append_assoc]
      generalize X.put h R7 ++ g1 = H7 at kc7 ln7 ⊢
      simp [eSl, pSome, pNone, kc7, mSl, sl2, ln7]
    have d2 : r1 [.ref X.q, .ref (h.length + 1)] (X.put h R7 ++ g2) = .ok .non (X.put h R8 ++ g2) := by
      have := hA (ks.drop m) (n + 1 + sizeL (ks.take m)) _ R7 (h.length + 1) (fun z hz => okr z (List.mem_of_mem_drop hz)) (hgtL_sub fun t ht => Nat.le_trans (hgtL_mem (List.mem_of_mem_drop ht)) hh2) (cpG cp R7 g2) rf7 (s2.drop m) (ssOk_drop so2) (by omega)
        (by rw [List.getElem?_append_right (by simp), hg2, hg1]; simp) (by omega)
      rw [l7, ← hBx, ← hR8] at this
      rw [this]
      exact congrArg _ (setG cp R7 R8 g2)
    have o8 := oG cp R8 g2
    have c6 := mendG cp (R := R8) (g := g2) (j := R4.length) (a := .int n) (w := .str "jump") (more := [.int 0]) (by rw [E8]; exact get_mid _ _ _ L8) (by omega)
    rw [← hR9] at c6
    rw [← fin]
    refine runsN (ρ := [some (.ref X.q), some (.int n), some (.tup [.str "try", .tup xs, .str x, .tup ys]), some (.ref kc), some (.int (m : Int)), some (.int R1.length), some (.int R4.length)]) rfl (h' := X.put h R9 ++ g2) ?_ (gc_put lm rf9 (by simp [bel]))
    unfold b_Compiler_tried
    have nof := cp.no.found
    generalize X.put h R2 ++ g1 = H2' at d1 sl1' ⊢
    generalize X.put h R2 = H2 at c1 o2 sl1' ⊢
    generalize X.put h R3 ++ g1 = H3 at d1 o3 c2 ⊢
    generalize X.put h R4 ++ g1 = H4 at c2 o4 c3 ⊢
    generalize X.put h R5 ++ g1 = H5 at c3 o5 c4 ⊢
    generalize X.put h R6 ++ g1 = H6 at c4 o6 c5 fd ho6 d7 ⊢
    generalize X.put h R7 ++ g1 = H7 at c5 o7 sl2' ⊢
    generalize X.put h R7 ++ g2 = H7' at d2 sl2' ⊢
    generalize X.put h R8 ++ g2 = H8 at d2 o8 c6 ⊢
    generalize X.put h R9 ++ g2 = H9 at c6 ⊢
    simp [-eSl, mIx, ixL, i1, i2, mLen, hm, o1, o2, o3, o4, o5, o6, o7, o8, cN1, cN5, cN8, c1, sl1', d1, c2, c3, c4, c5, c6, sl2', d2, szOk, mFld, cF, ho6, nof, d6, d7, a3, fd]
end My

set_option Elab.async false
set_option linter.all false
set_option maxRecDepth 100000
set_option maxHeartbeats 4000000
namespace My
open PySem L2 Sm
variable {X : Ctx}
theorem spA_all (fnd : Fnd X.p X.mA X.fs X.rs X.nm X.q X.code X.c X.hd) : ∀ B, B ≤ 60 → ∀ N, 3 * B + 1 ≤ N → SpA X (m_Compiler_all_done N) B := by
  intro B
  induction B with
  | zero =>
    intro _ N hN
    obtain ⟨N, rfl⟩ : ∃ k, N = k + 1 := ⟨N - 1, by omega⟩
    rw [mS_Compiler_all_done]
    refine A_step ?_
    intro t n h rows _ hh
    cases t with
    | mk => simp only [hgt] at hh; omega
  | succ B ih =>
    intro hB N hN
    obtain ⟨N, rfl⟩ : ∃ k, N = k + 3 := ⟨N - 3, by omega⟩
    rw [mS_Compiler_all_done]
    refine A_step ?_
    rw [mS_Compiler_done]
    refine D_step hB fnd ?_ ?_
    · rw [mS_Compiler_chosen]
      exact C_step hB fnd (ih (by omega) N (by omega))
    · rw [mS_Compiler_tried]
      exact T_step hB fnd (ih (by omega) N (by omega))
end My

set_option Elab.async false
set_option linter.all false
set_option maxRecDepth 100000
set_option maxHeartbeats 4000000
namespace My
open PySem L2 Sm
theorem idx_find (x : Str) : ∀ (ps : List Str), x ∈ ps → (ps.map MV.str).findIdx? (fun z => eqM z (.str x)) = some (idx x ps)
  | [], h => by simp at h
  | y :: ys, h => by
    rw [List.map_cons, List.findIdx?_cons]
    by_cases e : y = x
    · subst e
      rw [if_pos (by simp [eqM])]
      simp [idx]
    · rw [if_neg (by simp [eqM, e])]
      have hm : x ∈ ys := by
        rcases List.mem_cons.mp h with q | q
        · exact absurd q.symm e
        · exact q
      rw [idx_find x ys hm]
      simp [idx, e]
theorem found_top {p mA q : Nat} {fs : List (Str × MV)} {rs : List Rec} {nm : List Str} {code : Int} : Fnd p mA fs rs nm q code (-1) [] := by
  intro h rows x o i cp hl
  unfold lookN at hl
  split at hl
  · rename_i ha
    simp only [Option.some.injEq, Prod.mk.injEq] at hl
    obtain ⟨rfl, rfl⟩ := hl
    obtain ⟨n, n1, n2, n3⟩ := cp.nm
    have fo := cp.f.o
    have fi := idx_find x nm (among_iff ha)
    have fl := flats nm
    have e1 := mIn_lst (x := x) n2
    rw [ha] at e1
    unfold m_Shape_found
    refine runs (h' := h) rfl ?_ (gc_len rfl)
    unfold b_Shape_found
    rw [seq_nx (ρ1 := [some (.ref p), some (.str x), some (.int (-1)), some (.int 0)]) (h1 := h) (by simp)]
    rw [seq_nx (ρ1 := [some (.ref p), some (.str x), some (.int (-1)), some (.int 0)]) (h1 := h) (by
      unfold sWhile
      rw [show manyTurns = 999999999 + 1 from rfl, whileGo]
      simp [mGe])]
    have e2 : mIndex (.ref n) [.str x] h = .ok (.int (idx x nm : Nat)) h := by
      unfold mIndex
      simp [lstAt, n2, fl, fi, flatM]
    simp [mFld, fo, n1, e1, tyOk, n2, e2, vi]
  · cases hl
theorem tops_comp {h : MH} {p n : Nat} {rs : List Rec} {fs : List (Str × MV)} {ρ : MS} (hp : h[p]? = some (.ins "Shape" fs)) (hf : fs.lookup ("above" : Str) = some (.ref n)) (hn : h[n]? = some (.lst (rs.map fun r => .int r.above))) (h0 : ρ[0]? = some (some (.ref p))) (hl : 2 < ρ.length) :
    ∀ (post pre : List Rec), rs = pre ++ post → compGo [] (.one 2) (tOfE (eBin mEq (eBin mIx (eUn (mFld ["Shape"] "above") (eVar 0)) (eVar 2)) (eUn mNeg (eC (.int 1))))) (eVar 2) ρ ((List.range' pre.length post.length).map fun (k : Nat) => MV.int (0 + (k : Int))) h = .ok ((tops pre.length post).map MV.int) h := by
  intro post
  induction post with
  | nil => intro pre _; simp [compGo, gOk, tops]
  | cons r post ih =>
    intro pre e
    have ih2 := ih (pre ++ [r]) (by rw [e]; simp)
    rw [List.length_append, List.length_singleton] at ih2
    rw [List.length_cons, List.range'_succ, List.map_cons, compGo]
    have g : gOk [] h := by intro q hq; simp at hq
    have s0 : ∀ x : MV, (ρ.set 2 (some x))[0]? = some (some (.ref p)) := fun x => by rw [List.getElem?_set_ne (by decide)]; exact h0
    have s2 : ∀ x : MV, (ρ.set 2 (some x))[2]? = some (some x) := fun x => by rw [List.getElem?_set_self hl]
    have a : atI (rs.map fun r => MV.int r.above) (pre.length : Int) = some (.int r.above) := ixNat (by rw [e]; simp)
    by_cases hw : r.above = -1
    · simp [g, Tg.set, s0, s2, mFld, hp, hf, hn, mIx, ixL, a, mEq, mEqB, scalM, hw, tops]
      simp at ih2
      rw [ih2]
      simp
    · simp [g, Tg.set, s0, s2, mFld, hp, hf, hn, mIx, ixL, a, mEq, mEqB, scalM, hw, tops]
      simp at ih2
      rw [ih2]
theorem firsts_ok {h : MH} {mA p : Nat} {fs : List (Str × MV)} {rs : List Rec} (f : Fb h mA p fs rs) : m_Shape_firsts [.ref p, .int (-1)] h = .ok (.ref h.length) (h ++ [.lst ((tops 0 rs).map MV.int)]) := by
  obtain ⟨n, n1, n2, _⟩ := f.nodes
  obtain ⟨a, a1, a2, _⟩ := f.above
  have fo := f.o
  have few := f.few
  have lc := tops_comp (ρ := wipeM [some (.ref p), some (.int (-1)), none] [2]) fo a1 a2 (by simp [wipeM]) (by simp [wipeM]) rs [] rfl
  rw [List.length_nil, ← List.range_eq_range'] at lc
  have lc2 : lComp (iRange1 (aCons (eCallB mLen (aCons (eUn (mFld ["Shape"] "nodes") (eVar 0)) aNil)) aNil)) (.one 2) [2] (tOfE (eBin mEq (eBin mIx (eUn (mFld ["Shape"] "above") (eVar 0)) (eVar 2)) (eUn mNeg (eC (.int 1))))) (eVar 2) [some (.ref p), some (.int (-1)), none] h = .ok ((tops 0 rs).map MV.int) h := by
    unfold lComp
    have z : iRange1 (aCons (eCallB mLen (aCons (eUn (mFld ["Shape"] "nodes") (eVar 0)) aNil)) aNil) [some (.ref p), some (.int (-1)), none] h = .ok (intR 0 rs.length, []) h := by
      have e : aCons (eCallB mLen (aCons (eUn (mFld ["Shape"] "nodes") (eVar 0)) aNil)) aNil [some (.ref p), some (.int (-1)), none] h = .ok [.int rs.length] h := by simp [mFld, fo, n1, mLen, n2]
      unfold iRange1
      rw [e, Res.bind_ok]
      simp only []
      rw [if_pos ⟨by omega, by omega⟩, Int.toNat_natCast]
    rw [z, Res.bind_ok]
    simp only []
    rw [if_pos (by unfold szOk intR; simp; omega)]
    exact lc
  unfold m_Shape_firsts
  refine runs (h' := h ++ [.lst ((tops 0 rs).map MV.int)]) rfl ?_ (gc_new (by simp [bel]))
  unfold b_Shape_firsts
  have e : eNew (lComp (iRange1 (aCons (eCallB mLen (aCons (eUn (mFld ["Shape"] "nodes") (eVar 0)) aNil)) aNil)) (.one 2) [2] (tOfE (eBin mEq (eBin mIx (eUn (mFld ["Shape"] "above") (eVar 0)) (eVar 2)) (eUn mNeg (eC (.int 1))))) (eVar 2)) [some (.ref p), some (.int (-1)), none] h = .ok (.ref h.length) (h ++ [.lst ((tops 0 rs).map MV.int)]) := by
    unfold eNew
    rw [lc2, Res.bind_ok]
  have e2 : tOfE (eBin mEq (eVar 1) (eUn mNeg (eC (.int 1)))) [some (.ref p), some (.int (-1)), none] h = .ok true h := by simp [mEq, mEqB, scalM]
  refine seq_rt ?_
  show sIf _ _ _ [some (.ref p), some (.int (-1)), none] h = _
  unfold sIf
  rw [e2]
  simp only [Res.st_ok, if_true]
  unfold sRet
  rw [e, Res.st_ok]
/-- the rows at the end -/
def endR : List (List MV) := [[.int (-1), .str "push", .non], [.int (-1), .str "return"]]
variable {X : Ctx}
theorem whole_ok {h : MH} {ts : List Nd} (fnd : Fnd X.p X.mA X.fs X.rs X.nm X.q X.code X.c X.hd) (cp : X.Cp h []) (hcode : X.code = -1) (hc : X.c = -1) (hhd : X.hd = []) (ok : ∀ t, t ∈ ts → NdOk t) (hh : hgtL ts ≤ 19) (hz : sizeL ts ≤ 10000) (hrs : X.rs = recsL 0 (-1) (-1) [] ts) (sub : SubL X.rs 0 X.c X.hd ts) (so : ssOk X.nm X.hd ts) :
    m_Compiler_whole [.ref X.q] h = .ok (.tup (tups (rSs X.nm 0 0 X.hd ts ++ endR))) (X.put h (rSs X.nm 0 0 X.hd ts ++ endR)) := by
  have lm := lmG cp
  obtain ⟨R1, hR1⟩ : ∃ R, R = rSs X.nm 0 0 X.hd ts := ⟨_, rfl⟩
  obtain ⟨R2, hR2⟩ : ∃ R : List (List MV), R = R1 ++ [[.int (-1), .str "push", .non]] := ⟨_, rfl⟩
  obtain ⟨R3, hR3⟩ : ∃ R : List (List MV), R = R2 ++ [[.int (-1), .str "return"]] := ⟨_, rfl⟩
  have l1 : R1.length ≤ 5 * sizeL ts := by rw [hR1]; exact rSs_len X.nm X.hd ts _ _
  have l2 : R2.length = R1.length + 1 := by rw [hR2]; simp
  have fin : R3 = rSs X.nm 0 0 X.hd ts ++ endR := by rw [hR3, hR2, hR1]; simp [endR]
  obtain ⟨g1, hg1⟩ : ∃ g : MH, g = [MO.lst ((kidNums 0 ts).map MV.int)] := ⟨_, rfl⟩
  have rf1 : rf R1 := by rw [hR1]; exact rSr_rf _ _ _ _ _ _ ok
  have rf3 : rf R3 := by rw [fin, ← hR1]; exact rf_app.mpr ⟨rf1, by simp [rf, endR, tups, bels, bel]⟩
  have fs := firsts_ok cp.f
  rw [hrs, tops_kids, ← hg1] at fs
  have same := cp.same
  have cp' : X.Cp (h ++ g1) [] := cp.grow
  have d1 : m_Compiler_all_done 60 [.ref X.q, .ref h.length] (h ++ g1) = .ok .non (X.put h R1 ++ g1) := by
    have := spA_all fnd 19 (by omega) 60 (by omega) ts 0 (h ++ g1) [] h.length ok hh cp' rf_nil sub so (by simp; omega) (by rw [hg1]; simp) (by omega)
    rw [this]
    have := setG cp [] R1 g1
    rw [same] at this
    rw [List.nil_append, List.length_nil, ← hR1]
    exact congrArg _ this
  have c1 := comeG cp (R := R1) (g := g1) (.int (-1)) (.str "push") [.non] (by omega) (by simp)
  rw [← hR2] at c1
  have c2 := comeG cp (R := R2) (g := g1) (.int (-1)) (.str "return") [] (by omega) (by simp)
  rw [← hR3] at c2
  have o0 := cp.o
  have o0' := cp'.o
  have fo := cp.f.o
  have o1 := oG cp R1 g1
  have o2 := oG cp R2 g1
  have o3 := oG cp R3 g1
  have m3 := (cpG cp R3 g1).m
  have nof := cp.no.firsts
  rw [← fin]
  have bl : bel h.length (.tup (tups R3)) = true := by
    simp only [bel]
    exact bel_mono.2 _ rf3
  refine runs (h' := X.put h R3 ++ g1) rfl ?_ (gc_put lm rf3 bl)
  unfold b_Compiler_whole
  show sSeq _ _ [some (.ref X.q)] h = _
  have e1 : sExpr (eMeth "Compiler" "all_done" (m_Compiler_all_done 60) [] (eVar 0) (aCons (eMeth "Shape" "firsts" m_Shape_firsts [] (eUn (mFld ["Compiler"] "form") (eVar 0)) (aCons (eUn (mFld ["Shape", "Compiler"] "code") (eVar 0)) aNil)) aNil)) [some (.ref X.q)] h = .nx [some (.ref X.q)] (X.put h R1 ++ g1) := by
    simp [mFld, o0, cF, cC, cN5, fo, nof, hcode, fs, d1]
  rw [seq_nx e1]
  generalize X.put h R1 ++ g1 = H1 at c1 o1 ⊢
  generalize X.put h R2 ++ g1 = H2 at c1 c2 o2 ⊢
  generalize X.put h R3 ++ g1 = H3 at c2 o3 m3 ⊢
  simp [mFld, o1, o2, o3, cN1, cM, c1, c2, szOk, mTuple, itemsOf, m3]
theorem FS_no (b k : Nat) (M : MV) : NoM (FS b k M) := ⟨rfl, rfl⟩
theorem compiled_ok {h0 : MH} {msg : MV} {ps : List Str} {ts : List Nd} {M : MV} (hM : M = .tup [.str "method", msg, .tup (ps.map MV.str), .tup (ts.map Nd.v)]) (ok : ∀ t, t ∈ ts → NdOk t) (hh : hgtL ts ≤ 19) (hz : sizeL ts ≤ 10000) (so : ssOk (namesOf ps (recsL 0 (-1) (-1) [] ts)) [] ts) {hS : MH}
    (hhS : hS = SH h0 (FS h0.length (sizeL ts) M) (recsL 0 (-1) (-1) [] ts) ++ [.lst (((-1) :: blks 0 (recsL 0 (-1) (-1) [] ts)).map MV.int), .lst ((namesOf ps (recsL 0 (-1) (-1) [] ts)).map MV.str)]) :
    m_compiled [.ref h0.length, .int (-1)] hS = .ok (.tup (tups (rSs (namesOf ps (recsL 0 (-1) (-1) [] ts)) 0 0 [] ts ++ endR))) hS := by
  obtain ⟨rs, hrs⟩ : ∃ rs : List Rec, rs = recsL 0 (-1) (-1) [] ts := ⟨_, rfl⟩
  have rl : rs.length = sizeL ts := by rw [hrs, recsL_len]
  have rok : ∀ r, r ∈ rs → RecOk r := by rw [hrs]; exact recsL_ok ok
  have rch : Chain 0 (-1) [] rs := by rw [hrs]; exact chain_recsL ts 0 (-1) (-1) []
  rw [← hrs] at hhS so ⊢
  have lenS : hS.length = h0.length + 5 + rs.length + 2 := by rw [hhS, List.length_append]; unfold SH; rw [G_len]; simp
  let X : Ctx := ⟨hS.length, h0.length, hS.length + 1, -1, FS h0.length (sizeL ts) M, rs, namesOf ps rs, -1, []⟩
  obtain ⟨h1, hh1⟩ : ∃ h1 : MH, h1 = hS ++ [.ins "Compiler" (cpF h0.length (-1) (hS.length + 1)), .lst []] := ⟨_, rfl⟩
  have fF : ShF h0.length (FS h0.length (sizeL ts) M) := ⟨rfl, rfl, rfl, rfl, rfl⟩
  have cp : X.Cp h1 [] := {
    o := by rw [hh1]; exact get0
    m := by show h1[hS.length + 1]? = _; rw [hh1, List.getElem?_append_right (by omega)]; simp [tups]
    f := by
      rw [hh1, hhS, List.append_assoc]
      exact SH_fb (b := 0) fF (by show _ ≤ hS.length + 1; omega) rok rch (by omega)
    nm := ⟨h0.length + 5 + sizeL ts + 1, rfl, by
      rw [hh1]
      refine gap ?_
      rw [hhS, List.getElem?_append_right (by unfold SH; rw [G_len]; simp; omega)]
      unfold SH
      rw [G_len, List.length_map, ← rl, show h0.length + 5 + rs.length + 1 - (h0.length + 5 + rs.length) = 1 by omega]
      rfl, by show _ ≠ hS.length + 1; omega⟩
    no := FS_no _ _ _ }
  have sub : SubL X.rs 0 X.c X.hd ts := ⟨⟨[], [], -1, by show rs = _; rw [hrs]; simp; rfl, rfl⟩⟩
  have w := whole_ok (X := X) (ts := ts) found_top cp rfl rfl rfl ok hh hz hrs sub so
  have o1 : h1[hS.length]? = some (.ins "Compiler" (cpF h0.length (-1) (hS.length + 1))) := by rw [hh1]; exact get0
  have ini : m_Compiler_init__ [.ref hS.length, .ref h0.length, .int (-1)] (hS ++ [.ins "Compiler" []]) = .ok .non h1 := by
    unfold m_Compiler_init__
    refine runsN (ρ := [some (.ref hS.length), some (.ref h0.length), some (.int (-1))]) (h' := h1) rfl ?_ ?_
    · unfold b_Compiler_init__
      rw [hh1]
      simp [mSetF, set0, putM, cpF]
    · refine gc_not (i := hS.length) (o := .ins "Compiler" (cpF h0.length (-1) (hS.length + 1))) (by simp) o1 (by simp [cpF]) ?_
      simp [belO, cpF, bels, bel]
  unfold m_compiled
  refine runs (h' := X.put h1 (rSs X.nm 0 0 X.hd ts ++ endR)) rfl ?_ ?_
  · unfold b_compiled
    show sRet _ [some (.ref h0.length), some (.int (-1))] hS = _
    have w' : m_Compiler_whole [.ref hS.length] h1 = _ := w
    simp [ini, o1, cN9, w']
    rfl
  · have e : X.put h1 (rSs X.nm 0 0 X.hd ts ++ endR) = hS ++ [.ins "Compiler" (cpF h0.length (-1) (hS.length + 1)), .lst (tups (rSs X.nm 0 0 X.hd ts ++ endR))] := by
      show h1.set (hS.length + 1) _ = _
      rw [hh1, List.set_append_right _ _ (by omega), show hS.length + 1 - hS.length = 1 by omega]
      rfl
    rw [e]
    refine gc_app ?_
    simp only [bel]
    exact bel_mono.2 _ (rf_app.mpr ⟨rSr_rf _ _ _ _ _ _ ok, by simp [rf, endR, tups, bels, bel]⟩)
theorem rows_of_ok {h0 : MH} {msg : MV} {ps : List Str} {ts : List Nd} (ok : ∀ t, t ∈ ts → NdOk t) (hh : hgtL ts ≤ 19) (hz : sizeL ts ≤ 10000) (hp : ps.length ≤ 1000) (so : ssOk (namesOf ps (recsL 0 (-1) (-1) [] ts)) [] ts) :
    m_rows_of [.tup [.str "method", msg, .tup (ps.map MV.str), .tup (ts.map Nd.v)], .int (-1)] h0 = .ok (.tup (tups (rSs (namesOf ps (recsL 0 (-1) (-1) [] ts)) 0 0 [] ts ++ endR))) h0 := by
  have lt := len_le_sizeL ts
  have a := init_ok (h0 := h0) (msg := msg) (ps := ps) ok (by omega) (by omega) hp (by omega)
  obtain ⟨M, hM⟩ : ∃ M : MV, M = .tup [.str "method", msg, .tup (ps.map MV.str), .tup (ts.map Nd.v)] := ⟨_, rfl⟩
  rw [← hM] at a ⊢
  obtain ⟨hS, hhS⟩ : ∃ hS : MH, hS = SH h0 (FS h0.length (sizeL ts) M) (recsL 0 (-1) (-1) [] ts) ++ [.lst (((-1) :: blks 0 (recsL 0 (-1) (-1) [] ts)).map MV.int), .lst ((namesOf ps (recsL 0 (-1) (-1) [] ts)).map MV.str)] := ⟨_, rfl⟩
  rw [← hhS] at a
  have c := compiled_ok hM ok hh hz so hhS
  unfold m_rows_of
  refine runs (h' := hS) rfl ?_ ?_
  · unfold b_rows_of
    show sRet _ [some M, some (.int (-1))] h0 = _
    simp [a, c]
  · rw [hhS]
    unfold SH G
    rw [List.append_assoc]
    refine gc_app ?_
    simp only [bel]
    exact bel_mono.2 _ (rf_app.mpr ⟨rSr_rf _ _ _ _ _ _ ok, by simp [rf, endR, tups, bels, bel]⟩)
end My

set_option Elab.async false
set_option linter.all false
set_option maxRecDepth 100000
set_option maxHeartbeats 4000000
namespace My
open PySem L2 Sm
/-- values that isinstance may ask -/
inductive Rdy (h : MH) : MV → Prop
  | non : Rdy h .non
  | bl (b : Bool) : Rdy h (.bl b)
  | int (i : Int) : Rdy h (.int i)
  | str (x : Str) : Rdy h (.str x)
  | tup (xs : List MV) (hx : ∀ z, z ∈ xs → Rdy h z) : Rdy h (.tup xs)
  | lst (n : Nat) (xs : List MV) (hx : h[n]? = some (.lst xs)) : Rdy h (.ref n)
  | dct (n : Nat) (xs : List (Key × MV)) (hx : h[n]? = some (.dct xs)) : Rdy h (.ref n)
def Jst (r : List MV → MH → Res MV) (y : MV) : Prop := ∀ (x : MV) (h : MH), Rdy h x → ∃ b : Bool, r [x, y] h = .ok (.bl b) h ∧ (b = true ↔ x = y)
inductive Flat : MV → Prop
  | non : Flat .non
  | bl (b : Bool) : Flat (.bl b)
  | int (i : Int) : Flat (.int i)
  | str (x : Str) : Flat (.str x)
theorem just_flat {r : List MV → MH → Res MV} {y : MV} (f : Flat y) : Jst (mfun 2 4 (b_is_just r)) y := by
  intro x h rd
  suffices H : ∃ b : Bool, b_is_just r [some x, some y, none, none] h = .rt (.bl b) h ∧ (b = true ↔ x = y) by
    obtain ⟨b, e, q⟩ := H
    exact ⟨b, runs rfl e (gc_len rfl), q⟩
  unfold b_is_just
  cases f with
  | non => cases rd <;> simp_all [mIsi, tyName, isiB, mIs, noneM]
  | bl b => cases rd <;> simp_all [mIsi, tyName, isiB, mIs, noneM, mEq, mEqB, scalM]
  | int b => cases rd <;> simp_all [mIsi, tyName, isiB, mIs, noneM, mEq, mEqB, scalM]
  | str b => cases rd <;> simp_all [mIsi, tyName, isiB, mIs, noneM, mEq, mEqB, scalM]
theorem just_go {r : List MV → MH → Res MV} {h : MH} {ρ : MS} (h3 : 3 < ρ.length) : ∀ (xs ys : List MV), xs.length = ys.length → (∀ x, x ∈ xs → Rdy h x) → (∀ y, y ∈ ys → Jst r y) →
    ∃ bs : List Bool, compGo [] (.many [2, 3]) tYesM (eCallD r [] (aCons (eVar 2) (aCons (eVar 3) aNil))) ρ (zipM xs ys) h = .ok (bs.map MV.bl) h ∧ (bs.all id = true ↔ xs = ys)
  | [], [], _, _, _ => ⟨[], by simp [zipM, compGo, gOk], by simp⟩
  | [], _ :: _, e, _, _ => by simp at e
  | _ :: _, [], e, _, _ => by simp at e
  | x :: xs, y :: ys, e, hx, hy => by
    obtain ⟨bs, e1, e2⟩ := just_go h3 xs ys (by simpa using e) (fun z hz => hx z (by simp [hz])) (fun z hz => hy z (by simp [hz]))
    obtain ⟨b, e3, e4⟩ := hy y (by simp) x h (hx x (by simp))
    refine ⟨b :: bs, ?_, by simp [e4, ← e2]⟩
    have g : gOk [] h := by intro q hq; simp at hq
    have s2 : ((ρ.set 2 (some x)).set 3 (some y))[2]? = some (some x) := by rw [List.getElem?_set_ne (by decide), List.getElem?_set_self (by omega)]
    have s3 : ((ρ.set 2 (some x)).set 3 (some y))[3]? = some (some y) := by rw [List.getElem?_set_self (by simpa using h3)]
    have : zipM (x :: xs) (y :: ys) = .tup [x, y] :: zipM xs ys := rfl
    rw [this, compGo]
    generalize hE : (eCallD r [] (aCons (eVar 2) (aCons (eVar 3) aNil))) = E at e1 ⊢
    have t : E ((ρ.set 2 (some x)).set 3 (some y)) h = .ok (.bl b) h := by rw [← hE]; simp [s2, s3, e3]
    simp [g, Tg.set, setMany, t, e1]
theorem bools_map : ∀ bs : List Bool, bools (bs.map MV.bl) = some bs
  | [] => rfl
  | b :: bs => by simp [bools, bools_map bs]
theorem just_tup {r : List MV → MH → Res MV} {ys : List MV} (hl : ys.length ≤ 1000) (hy : ∀ y, y ∈ ys → Jst r y) : Jst (mfun 2 4 (b_is_just r)) (.tup ys) := by
  intro x h rd
  suffices H : ∃ b : Bool, b_is_just r [some x, some (.tup ys), none, none] h = .rt (.bl b) h ∧ (b = true ↔ x = .tup ys) by
    obtain ⟨b, e, q⟩ := H
    exact ⟨b, runs rfl e (gc_len rfl), q⟩
  unfold b_is_just
  cases rd with
  | tup xs hx =>
    by_cases hn : xs.length = ys.length
    · obtain ⟨bs, e1, e2⟩ := just_go (r := r) (h := h) (ρ := wipeM [some (.tup xs), some (.tup ys), none, none] [2, 3]) (by simp [wipeM]) xs ys hn hx hy
      have lc : lComp (iZip2 (aCons (eVar 0) (aCons (eVar 1) aNil))) (.many [2, 3]) [2, 3] tYesM (eCallD r [] (aCons (eVar 2) (aCons (eVar 3) aNil))) [some (.tup xs), some (.tup ys), none, none] h = .ok (bs.map MV.bl) h := by
        unfold lComp
        have z : iZip2 (aCons (eVar 0) (aCons (eVar 1) aNil)) [some (.tup xs), some (.tup ys), none, none] h = .ok (zipM xs ys, []) h := by simp
        rw [z, Res.bind_ok]
        simp only []
        rw [if_pos (by unfold szOk zipM; simp; omega)]
        exact e1
      refine ⟨bs.all id, ?_, by rw [e2]; simp⟩
      refine seq_rt ?_
      have t1 : tOfE (eUn (mIsi "tuple") (eVar 1)) [some (.tup xs), some (.tup ys), none, none] h = .ok true h := by simp [mIsi, tyName, isiB]
      have t2 : tOrM (tNotM (tOfE (eUn (mIsi "tuple") (eVar 0)))) (tOfE (eBin mNe (eCallB mLen (aCons (eVar 0) aNil)) (eCallB mLen (aCons (eVar 1) aNil)))) [some (.tup xs), some (.tup ys), none, none] h = .ok false h := by
        simp [mIsi, tyName, isiB, mLen, mNe, mEqB, scalM, hn]
      unfold sIf
      rw [t1]
      simp only [Res.st_ok, if_true]
      rw [seq_nx (ρ1 := [some (.tup xs), some (.tup ys), none, none]) (h1 := h) (by
        show Res.st _ _ _ = _
        rw [t2]; simp)]
      unfold sRet eCallB
      rw [lc, Res.bind_ok]
      simp [bools_map]
    · refine ⟨false, ?_, by simp; rintro rfl; exact hn rfl⟩
      have hn' : ¬ ((xs.length : Int) = (ys.length : Int)) := by omega
      simp [mIsi, tyName, isiB, mLen, mNe, mEqB, scalM, hn']
  | lst n xs hx => exact ⟨false, by simp [mIsi, tyName, isiB, hx], by simp⟩
  | dct n xs hx => exact ⟨false, by simp [mIsi, tyName, isiB, hx], by simp⟩
  | _ => exact ⟨false, by simp [mIsi, tyName, isiB], by simp⟩
/-- a row of flat parts -/
def Parts (row : List MV) : Prop := row.length ≤ 100 ∧ ∀ x, x ∈ row → Flat x
theorem just_rows {rows : List (List MV)} (hl : rows.length ≤ 1000) (hr : ∀ r, r ∈ rows → Parts r) : Jst (m_is_just 60) (.tup (tups rows)) := by
  rw [show (60 : Nat) = 57 + 1 + 1 + 1 from rfl, mS_is_just]
  refine just_tup (by rw [tups_len]; exact hl) fun y hy => ?_
  unfold tups at hy
  obtain ⟨row, hrow, rfl⟩ := List.mem_map.mp hy
  obtain ⟨h1, h2⟩ := hr row hrow
  rw [mS_is_just]
  refine just_tup (by omega) fun z hz => ?_
  rw [mS_is_just]
  exact just_flat (h2 z hz)
end My

set_option Elab.async false
set_option linter.all false
set_option maxRecDepth 100000
set_option maxHeartbeats 4000000
namespace My
open PySem L2 Sm
/-- the deck's cells -/
def DK (s : List MV) (ns : List Int) (c : Nat) (g : MH) : MH := .lst s :: .lst (ns.map MV.int) :: .lst [.ref 1, .int c] :: g
def Pos0 (ns : List Int) : Prop := ∀ n, n ∈ ns → 0 ≤ n
theorem pow18 (h : MH) : mPow (.int 10) (.int 18) h = .ok (.int 1000000000000000000) h := by
  unfold mPow
  simp only []
  rw [if_pos ⟨by decide, by decide, by unfold lowI; decide⟩]
  rfl
theorem draw_ok {s : List MV} {ns : List Int} {c : Nat} {g : MH} {k : Int} (hp : Pos0 ns) (hk : 0 < k) (hk2 : k < 1000000) (hc : c < 1000000) : ∃ v ns', 0 ≤ v ∧ v < k ∧ Pos0 ns' ∧ m_law_draw [.ref 2, .int k] (DK s ns c g) = .ok (.int v) (DK s ns' (c + 1) g) := by
  suffices H : ∃ v ns', 0 ≤ v ∧ v < k ∧ Pos0 ns' ∧ b_law_draw [some (.ref 2), some (.int k), none, none] (DK s ns c g) = .rt (.int v) (DK s ns' (c + 1) g) by
    obtain ⟨v, ns', h1, h2, h3, e⟩ := H
    exact ⟨v, ns', h1, h2, h3, runs rfl e (gc_len (by simp [DK]))⟩
  unfold b_law_draw
  have st1 : sSetI (eVar 0) (eC (.int 1)) (eBin mAdd (eBin mIx (eVar 0) (eC (.int 1))) (eC (.int 1))) [some (.ref 2), some (.int k), none, none] (DK s ns c g) = .nx [some (.ref 2), some (.int k), none, none] (DK s ns (c + 1) g) := by
    simp [DK, mIx, ixL, i1, mAdd, mSetI, ixN]
  rw [seq_nx st1]
  rw [seq_nx (ρ1 := [some (.ref 2), some (.int k), some (.int 0), none]) (h1 := DK s ns (c + 1) g) (by simp)]
  obtain ⟨H, hH⟩ : ∃ H, H = DK s ns (c + 1) g := ⟨_, rfl⟩
  have a0 : H[2]? = some (.lst [.ref 1, .int ((c + 1 : Nat) : Int)]) := by rw [hH]; rfl
  have a1 : H[1]? = some (.lst (ns.map MV.int)) := by rw [hH]; rfl
  -- the end
  have fin : ∀ (gv : Int) (v3 : Option MV), 0 ≤ gv → ∃ v, 0 ≤ v ∧ v < k ∧ sRet (eBin mMod (eBin mMod (eBin mPow (eBin mAdd (eBin mAdd (eBin mMod (eVar 2) (eC (.int 2147483587))) (eBin mMul (eC (.int 7919)) (eBin mIx (eVar 0) (eC (.int 1))))) (eC (.int 1))) (eC (.int 5))) (eC (.int 2147483647))) (eVar 1)) [some (.ref 2), some (.int k), some (.int gv), v3] H = .rt (.int v) H := fun gv v3 hg => by
    obtain ⟨b, hb⟩ : ∃ b : Int, b = gv % 2147483587 + 7919 * ((c + 1 : Nat) : Int) + 1 := ⟨_, rfl⟩
    have m0 : 0 ≤ gv % 2147483587 := Int.emod_nonneg _ (by decide)
    have m1 : gv % 2147483587 < 2147483587 := Int.emod_lt_of_pos _ (by decide)
    have lo : lowI b := by unfold lowI; omega
    have l7 : lowI 7919 := by unfold lowI; decide
    refine ⟨b ^ 5 % 2147483647 % k, Int.emod_nonneg _ (by omega), Int.emod_lt_of_pos _ hk, ?_⟩
    have e1 : eBin mPow (eBin mAdd (eBin mAdd (eBin mMod (eVar 2) (eC (.int 2147483587))) (eBin mMul (eC (.int 7919)) (eBin mIx (eVar 0) (eC (.int 1))))) (eC (.int 1))) (eC (.int 5)) [some (.ref 2), some (.int k), some (.int gv), v3] H = .ok (.int (b ^ 5)) H := by
      have e2 : (eBin mAdd (eBin mAdd (eBin mMod (eVar 2) (eC (.int 2147483587))) (eBin mMul (eC (.int 7919)) (eBin mIx (eVar 0) (eC (.int 1))))) (eC (.int 1))) [some (.ref 2), some (.int k), some (.int gv), v3] H = .ok (.int b) H := by
        rw [hb]
        simp [mIx, a0, ixL, i1, mMod, mMul, l7, mAdd]
      show Res.bind _ _ = _
      rw [e2, Res.bind_ok]
      show Res.bind (.ok _ _) _ = _
      rw [Res.bind_ok]
      unfold mPow
      simp only []
      rw [if_pos ⟨by decide, by decide, lo⟩]
      rfl
    have e3 : eBin mMod (eBin mPow (eBin mAdd (eBin mAdd (eBin mMod (eVar 2) (eC (.int 2147483587))) (eBin mMul (eC (.int 7919)) (eBin mIx (eVar 0) (eC (.int 1))))) (eC (.int 1))) (eC (.int 5))) (eC (.int 2147483647)) [some (.ref 2), some (.int k), some (.int gv), v3] H = .ok (.int (b ^ 5 % 2147483647)) H := by
      show Res.bind _ _ = _
      rw [e1, Res.bind_ok]
      rfl
    unfold sRet
    show Res.st (Res.bind _ _) _ _ = _
    rw [e3, Res.bind_ok]
    simp [mMod, hk]
  by_cases hn : ns = []
  · obtain ⟨v, v0, v1, e⟩ := fin 0 none (by omega)
    refine ⟨v, ns, v0, v1, hp, ?_⟩
    rw [← hH]
    rw [seq_nx (ρ1 := [some (.ref 2), some (.int k), some (.int 0), none]) (h1 := H) (by simp [mIx, a0, ixL, i0, a1, mLen, mGt, hn])]
    exact e
  · have ln : 0 < ns.length := List.length_pos_iff.mpr hn
    obtain ⟨j, hj⟩ : ∃ j, j = (c + 1) % ns.length := ⟨_, rfl⟩
    have jl : j < ns.length := by rw [hj]; exact Nat.mod_lt _ ln
    have ej : (((c + 1 : Nat) : Int) % (ns.length : Int)) = (j : Int) := by rw [hj]; exact (Int.natCast_emod _ _).symm
    obtain ⟨gv, hgv⟩ : ∃ gv, ns[j]? = some gv := ⟨ns[j], by simp [jl]⟩
    have g0 : 0 ≤ gv := hp gv (List.mem_of_getElem? hgv)
    have at1 : atI (ns.map MV.int) (j : Int) = some (.int gv) := ixNat (by rw [List.getElem?_map, hgv]; rfl)
    have cnd : tOfE (eBin mGt (eCallB mLen (aCons (eBin mIx (eVar 0) (eC (.int 0))) aNil)) (eC (.int 0))) [some (.ref 2), some (.int k), some (.int 0), none] H = .ok true H := by
      simp [mIx, a0, ixL, i0, a1, mLen, mGt]; omega
    have s3 : sSet 3 (eBin mMod (eBin mIx (eVar 0) (eC (.int 1))) (eCallB mLen (aCons (eBin mIx (eVar 0) (eC (.int 0))) aNil))) [some (.ref 2), some (.int k), some (.int 0), none] H = .nx [some (.ref 2), some (.int k), some (.int 0), some (.int j)] H := by
      have l2 : (0 : Int) < (ns.length : Int) := by omega
      have e1 : eBin mIx (eVar 0) (eC (.int 1)) [some (.ref 2), some (.int k), some (.int 0), none] H = .ok (.int ((c + 1 : Nat) : Int)) H := by simp [mIx, a0, ixL, i1]
      have e2 : eCallB mLen (aCons (eBin mIx (eVar 0) (eC (.int 0))) aNil) [some (.ref 2), some (.int k), some (.int 0), none] H = .ok (.int (ns.length : Int)) H := by simp [mIx, a0, ixL, i0, a1, mLen]
      show Res.st (Res.bind _ _) _ _ = _
      rw [e1, Res.bind_ok, e2, Res.bind_ok]
      simp only [mMod, l2, if_true, ej]
      rfl
    have s4 : sSet 2 (eBin mIx (eBin mIx (eVar 0) (eC (.int 0))) (eVar 3)) [some (.ref 2), some (.int k), some (.int 0), some (.int j)] H = .nx [some (.ref 2), some (.int k), some (.int gv), some (.int j)] H := by
      simp [mIx, a0, ixL, i0, a1, at1]
    have c2 : tOfE (eBin mGe (eVar 2) (eBin mPow (eC (.int 10)) (eC (.int 18)))) [some (.ref 2), some (.int k), some (.int gv), some (.int j)] H = .ok (decide (1000000000000000000 ≤ gv)) H := by
      simp [pow18, mGe]
    by_cases big : 1000000000000000000 ≤ gv
    · refine ⟨gv % k, ns.set j (gv / k), Int.emod_nonneg _ (by omega), Int.emod_lt_of_pos _ hk, ?_, ?_⟩
      · intro n hn
        rcases List.mem_or_eq_of_mem_set hn with q | q
        · exact hp n q
        · rw [q]; exact Int.ediv_nonneg g0 (by omega)
      · rw [← hH]
        refine seq_rt ?_
        show Res.st _ _ _ = _
        rw [cnd]
        simp only [Res.st_ok, if_true]
        rw [seq_nx s3, seq_nx s4]
        show Res.st _ _ _ = _
        rw [c2]
        simp only [Res.st_ok, big, decide_true, if_true]
        have s5 : sSetI (eBin mIx (eVar 0) (eC (.int 0))) (eVar 3) (eBin mDiv (eVar 2) (eVar 1)) [some (.ref 2), some (.int k), some (.int gv), some (.int j)] H = .nx [some (.ref 2), some (.int k), some (.int gv), some (.int j)] (DK s (ns.set j (gv / k)) (c + 1) g) := by
          have k2 : k < 1073741824 := by omega
          have i1' : ixN (ns.map MV.int).length (j : Int) = some j := by unfold ixN; simp [jl]
          simp only [sSetI, eBin, eVar, eC, List.getElem?_cons_zero, List.getElem?_cons_succ, Res.bind_ok, mDiv, hk, k2, and_self, if_true, Res.st_ok, mIx, a0, ixL, i0, optR, mSetI, a1, i1', Option.map_some]
          rw [hH]
          simp [DK]
        rw [seq_nx s5]
        simp [mMod, hk]
    · obtain ⟨v, v0, v1, e⟩ := fin gv (some (.int j)) g0
      refine ⟨v, ns, v0, v1, hp, ?_⟩
      rw [← hH]
      rw [seq_nx (ρ1 := [some (.ref 2), some (.int k), some (.int gv), some (.int j)]) (h1 := H) (by
        show Res.st _ _ _ = _
        rw [cnd]
        simp only [Res.st_ok, if_true]
        rw [seq_nx s3, seq_nx s4]
        show Res.st _ _ _ = _
        rw [c2]
        simp only [Res.st_ok, big, decide_false, Bool.false_eq_true, if_false]
        rfl)]
      exact e
theorem deck_go {h : MH} {gs : Gs} {ρ : MS} (hg : gOk gs h) (hl : 1 < ρ.length) : ∀ ns : List Int, ∃ ms, Pos0 ms ∧ compGo gs (.one 1) tYesM (eCallB mAbs (aCons (eVar 1) aNil)) ρ (ns.map MV.int) h = .ok (ms.map MV.int) h
  | [] => ⟨[], by intro n hn; simp at hn, by simp [compGo, hg]⟩
  | n :: ns => by
    obtain ⟨ms, h1, h2⟩ := deck_go hg hl ns
    refine ⟨(if n < 0 then -n else n) :: ms, ?_, ?_⟩
    · intro z hz
      rcases List.mem_cons.mp hz with q | q
      · rw [q]; split <;> omega
      · exact h1 z q
    · generalize hE : (eCallB mAbs (aCons (eVar 1) aNil)) = E at h2 ⊢
      have s1 : (ρ.set 1 (some (.int n)))[1]? = some (some (.int n)) := by rw [List.getElem?_set_self hl]
      have t : E (ρ.set 1 (some (.int n))) h = .ok (.int (if n < 0 then -n else n)) h := by rw [← hE]; simp [s1]
      rw [List.map_cons, compGo]
      simp [hg, Tg.set, t, h2]
theorem deck_ok (ns : List Int) : ∃ s ms, Pos0 ms ∧ m_law_deck [.scr (ns.map MV.int)] [] = .ok (.ref 2) (DK s ms 0 []) := by
  obtain ⟨s, hs⟩ : ∃ s : List Int, cutM (ns.map MV.int) none (some 63) = s.map MV.int := ⟨cutM ns none (some 63), by simp [cutM, List.map_take, List.map_drop]⟩
  have few : s.length ≤ 63 := by
    have : (cutM (ns.map MV.int) none (some 63)).length ≤ 63 := by
      unfold cutM HT.sIx
      simp
      omega
    rw [hs] at this
    simpa using this
  obtain ⟨ms, h1, h2⟩ := deck_go (h := [.lst (s.map MV.int)]) (gs := [(0, s.map MV.int)]) (ρ := wipeM [some (.scr (ns.map MV.int)), none] [1]) (by intro q hq; simp only [List.mem_singleton] at hq; subst hq; rfl) (by simp [wipeM]) s
  refine ⟨s.map MV.int, ms, h1, ?_⟩
  have lc : lComp (iOf (eSl (eVar 0) pNone (pSome (eC (.int 63))))) (.one 1) [1] tYesM (eCallB mAbs (aCons (eVar 1) aNil)) [some (.scr (ns.map MV.int)), none] [] = .ok (ms.map MV.int) [.lst (s.map MV.int)] := by
    unfold lComp
    have z : iOf (eSl (eVar 0) pNone (pSome (eC (.int 63)))) [some (.scr (ns.map MV.int)), none] [] = .ok (s.map MV.int, [(0, s.map MV.int)]) [.lst (s.map MV.int)] := by
      simp [mSl, hs, walkOf]
    rw [z, Res.bind_ok]
    simp only []
    rw [if_pos (by unfold szOk; simp; omega)]
    exact h2
  unfold m_law_deck
  refine runs (h' := DK (s.map MV.int) ms 0 []) rfl ?_ (gc_new (by simp [bel]))
  unfold b_law_deck
  show sRet _ [some (.scr (ns.map MV.int)), none] [] = _
  have e : eNew (lComp (iOf (eSl (eVar 0) pNone (pSome (eC (.int 63))))) (.one 1) [1] tYesM (eCallB mAbs (aCons (eVar 1) aNil))) [some (.scr (ns.map MV.int)), none] [] = .ok (.ref 1) [.lst (s.map MV.int), .lst (ms.map MV.int)] := by
    unfold eNew
    rw [lc, Res.bind_ok]
    rfl
  generalize hE : eNew (lComp (iOf (eSl (eVar 0) pNone (pSome (eC (.int 63))))) (.one 1) [1] tYesM (eCallB mAbs (aCons (eVar 1) aNil))) = E at e ⊢
  simp [e, DK]
end My

set_option Elab.async false
set_option linter.all false
set_option maxRecDepth 100000
set_option maxHeartbeats 4000000
namespace My
open PySem L2 Sm
/-! ### trees -/
def nd (w : Str) (its : List MV) (m : Nat) (ks : List Nd) : Nd := .mk (.tup (.str w :: its)) w its [] m ks
def tNum (d : Int) : Nd := nd "number" [.int d] 0 []
def tText (x : Str) : Nd := nd "text" [.str x] 0 []
def tTruth (b : Bool) : Nd := nd "truth" [.bl b] 0 []
def tName (x : Str) : Nd := nd "name" [.str x] 0 []
def tSend (e : Nd) (m : Str) (xs : List Nd) : Nd := nd "send" [e.v, .str m, .tup (xs.map Nd.v)] 0 (e :: xs)
def tList (xs : List Nd) : Nd := nd "list" [.tup (xs.map Nd.v)] 0 xs
def tSet (x : Str) (e : Nd) : Nd := nd "set" [.str x, e.v] 0 [e]
def tOne (w : Str) (e : Nd) : Nd := nd w [e.v] 0 [e]
def tIf (e : Nd) (xs ys : List Nd) : Nd := nd "if" [e.v, .tup (xs.map Nd.v), .tup (ys.map Nd.v)] xs.length (e :: (xs ++ ys))
def tWhile (e : Nd) (xs : List Nd) : Nd := nd "while" [e.v, .tup (xs.map Nd.v)] xs.length (e :: xs)
def tTry (xs : List Nd) (x : Str) (ys : List Nd) : Nd := nd "try" [.tup (xs.map Nd.v), .str x, .tup (ys.map Nd.v)] xs.length (xs ++ ys)
theorem NdOk.b0 {t : Nd} (h : NdOk t) : bel 0 t.v = true := by
  cases h with
  | mk w its ps m ks hf hb hl hk => simp only [Nd.v, bel, bels, hb, Bool.and_true]
theorem NdOks.b0 : ∀ {ts : List Nd}, (∀ t, t ∈ ts → NdOk t) → bels 0 (ts.map Nd.v) = true
  | [], _ => rfl
  | t :: ts, h => by
    rw [List.map_cons, bels, (h t (by simp)).b0, NdOks.b0 fun z hz => h z (by simp [hz])]
    rfl
theorem ok_leaf {w : Str} {its : List MV} (hw : w ∈ leafW) (hb : bels 0 its = true) : NdOk (nd w its 0 []) := .mk w its [] 0 [] (.leaf w hw its) hb (by simp) (by simp)
theorem ok_num (d : Int) : NdOk (tNum d) := ok_leaf (by unfold leafW; decide +kernel) (by simp [bels, bel])
theorem ok_text (d : Str) : NdOk (tText d) := ok_leaf (by unfold leafW; decide +kernel) (by simp [bels, bel])
theorem ok_truth (d : Bool) : NdOk (tTruth d) := ok_leaf (by unfold leafW; decide +kernel) (by simp [bels, bel])
theorem ok_name (d : Str) : NdOk (tName d) := ok_leaf (by unfold leafW; decide +kernel) (by simp [bels, bel])
theorem ok_send {e : Nd} {m : Str} {xs : List Nd} (he : NdOk e) (hx : ∀ t, t ∈ xs → NdOk t) (hl : xs.length < 1000) : NdOk (tSend e m xs) := .mk _ _ _ _ _ (by simp only [List.map_cons]; exact .send _ _ _) (by simp [bels, bel, he.b0, NdOks.b0 hx]) (by simp; omega) (by
  intro k hk
  rcases List.mem_cons.mp hk with q | q
  · rw [q]; exact he
  · exact hx k q)
theorem ok_list {xs : List Nd} (hx : ∀ t, t ∈ xs → NdOk t) (hl : xs.length < 1000) : NdOk (tList xs) := .mk _ _ _ _ _ (.list _) (by simp [bels, bel, NdOks.b0 hx]) (by omega) hx
theorem ok_set {x : Str} {e : Nd} (he : NdOk e) : NdOk (tSet x e) := .mk _ _ _ _ _ (.set _ _) (by simp [bels, bel, he.b0]) (by simp) (by simp; exact he)
theorem ok_one {w : Str} {e : Nd} (hw : w ∈ oneW) (he : NdOk e) : NdOk (tOne w e) := .mk _ _ _ _ _ (.one w hw _) (by simp [bels, bel, he.b0]) (by simp) (by simp; exact he)
theorem ok_if {e : Nd} {xs ys : List Nd} (he : NdOk e) (hx : ∀ t, t ∈ xs → NdOk t) (hy : ∀ t, t ∈ ys → NdOk t) (hl : xs.length + ys.length < 1000) : NdOk (tIf e xs ys) := .mk _ _ _ _ _ (by
    have := Form.cond e.v (xs.map Nd.v) (ys.map Nd.v)
    rw [List.length_map] at this
    simpa using this) (by simp [bels, bel, he.b0, NdOks.b0 hx, NdOks.b0 hy]) (by simp; omega) (by
  intro k hk
  rcases List.mem_cons.mp hk with q | q
  · rw [q]; exact he
  · rcases List.mem_append.mp q with q | q
    · exact hx k q
    · exact hy k q)
theorem ok_while {e : Nd} {xs : List Nd} (he : NdOk e) (hx : ∀ t, t ∈ xs → NdOk t) (hl : xs.length < 1000) : NdOk (tWhile e xs) := .mk _ _ _ _ _ (by
    have := Form.loop e.v (xs.map Nd.v)
    rw [List.length_map] at this
    simpa using this) (by simp [bels, bel, he.b0, NdOks.b0 hx]) (by simp; omega) (by
  intro k hk
  rcases List.mem_cons.mp hk with q | q
  · rw [q]; exact he
  · exact hx k q)
theorem ok_try {x : Str} {xs ys : List Nd} (hx : ∀ t, t ∈ xs → NdOk t) (hy : ∀ t, t ∈ ys → NdOk t) (hl : xs.length + ys.length < 1000) : NdOk (tTry xs x ys) := .mk _ _ _ _ _ (by
    have := Form.tri x (xs.map Nd.v) (ys.map Nd.v)
    rw [List.length_map] at this
    simpa using this) (by simp [bels, bel, NdOks.b0 hx, NdOks.b0 hy]) (by simp; omega) (by
  intro k hk
  rcases List.mem_append.mp hk with q | q
  · exact hx k q
  · exact hy k q)
/-! ### the plain statement of the law -/
inductive Pl : Nd → Nat → (Nat → List (List MV)) → Prop
  | p0 (d : Int) (h0 : 0 ≤ d) (h1 : d < 3) : Pl (tSet "kept2" (tSend (tNum d) "+" [tName "kept1"])) 4 fun a => [[.int a, .str "beat"], [.int ((a : Int) + 2), .str "push", .int d], [.int ((a : Int) + 3), .str "name", .int 0, .int 0], [.int ((a : Int) + 1), .str "send", .str "+", .int 1], [.int a, .str "setname", .int 0, .int 1]]
  | p1 : Pl (tOne "say" (tSend (tText "ab") "size" [])) 3 fun a => [[.int a, .str "beat"], [.int ((a : Int) + 2), .str "push", .str "ab"], [.int ((a : Int) + 1), .str "send", .str "size", .int 0], [.int a, .str "say"]]
  | p2 : Pl (tOne "do" (tList [tTruth true, tNum 1])) 4 fun a => [[.int a, .str "beat"], [.int ((a : Int) + 2), .str "push", .bl true], [.int ((a : Int) + 3), .str "push", .int 1], [.int ((a : Int) + 1), .str "list", .int 2], [.int a, .str "drop"]]
theorem plain_ok {s : List MV} {ns : List Int} {c a : Nat} {g : MH} (hp : Pos0 ns) (hc : c < 900000) : ∃ ns' g' t m R L, Pos0 ns' ∧ Pl t m R ∧ m_law_plain [.ref 2, .int a] (DK s ns c g) = .ok (.tup [t.v, .int m, .ref L]) (DK s ns' (c + 2) (g ++ g')) ∧ (DK s ns' (c + 2) (g ++ g'))[L]? = some (.lst (tups (R a))) := by
  obtain ⟨w, ns1, w0, w1, p1, e1⟩ := draw_ok (s := s) (g := g) (k := 3) hp (by omega) (by omega) (show c < 1000000 by omega)
  obtain ⟨d, ns2, d0, d1, p2, e2⟩ := draw_ok (s := s) (g := g) (k := 3) p1 (by omega) (by omega) (show c + 1 < 1000000 by omega)
  obtain ⟨H, hH⟩ : ∃ H, H = DK s ns2 (c + 2) g := ⟨_, rfl⟩
  have P : ∀ tl : MSt, sSeq (sSet 2 (eCallD m_law_draw [] (aCons (eVar 0) (aCons (eC (.int 3)) aNil)))) (sSeq (sSet 3 (eCallD m_law_draw [] (aCons (eVar 0) (aCons (eC (.int 3)) aNil)))) tl) [some (.ref 2), some (.int a), none, none, none, none] (DK s ns c g) =
      tl [some (.ref 2), some (.int a), some (.int w), some (.int d), none, none] H := fun tl => by
    rw [seq_nx (ρ1 := [some (.ref 2), some (.int a), some (.int w), none, none, none]) (h1 := DK s ns1 (c + 1) g) (by simp [e1])]
    rw [seq_nx (ρ1 := [some (.ref 2), some (.int a), some (.int w), some (.int d), none, none]) (h1 := H) (by simp [e2, hH])]
  have ex : ∀ (o : MH), DK s ns2 (c + 2) (g ++ o) = H ++ o := fun o => by rw [hH]; rfl
  have lenH : 3 ≤ H.length := by rw [hH]; simp [DK]
  have : w = 0 ∨ w = 1 ∨ w = 2 := by omega
  rcases this with rfl | rfl | rfl
  · refine ⟨ns2, [.lst (tups [[.int ((a : Int) + 2), .str "push", .int d], [.int ((a : Int) + 3), .str "name", .int 0, .int 0], [.int ((a : Int) + 1), .str "send", .str "+", .int 1], [.int a, .str "setname", .int 0, .int 1]]), .lst (tups [[.int a, .str "beat"], [.int ((a : Int) + 2), .str "push", .int d], [.int ((a : Int) + 3), .str "name", .int 0, .int 0], [.int ((a : Int) + 1), .str "send", .str "+", .int 1], [.int a, .str "setname", .int 0, .int 1]])], _, _, _, H.length + 1, p2, (.p0 d d0 d1), ?_, ?_⟩
    · rw [ex]
      unfold m_law_plain
      refine runs rfl ?_ (gc_new ?_)
      · unfold b_law_plain
        refine (P _).trans ?_
        simp [mEq, mEqB, scalM, mAdd, lstAt, tups, tSet, tSend, tNum, tName, nd, Nd.v]
      · simp only [bel, bels, Bool.and_true, Bool.and_eq_false_iff]
        right
        right
        simp [hH, DK]
    · rw [ex, List.getElem?_append_right (by omega)]
      simp
  · refine ⟨ns2, [.lst (tups [[.int a, .str "beat"], [.int ((a : Int) + 2), .str "push", .str "ab"], [.int ((a : Int) + 1), .str "send", .str "size", .int 0], [.int a, .str "say"]])], _, _, _, H.length, p2, .p1, ?_, ?_⟩
    · rw [ex]
      unfold m_law_plain
      refine runs rfl ?_ (gc_new ?_)
      · unfold b_law_plain
        refine (P _).trans ?_
        simp [mEq, mEqB, scalM, mAdd, lstAt, tups, tOne, tSend, tText, tName, nd, Nd.v]
      · simp only [bel, bels, Bool.and_true, Bool.and_eq_false_iff]
        right
        right
        simp [hH, DK]
    · rw [ex, List.getElem?_append_right (by omega)]
      simp
  · refine ⟨ns2, [.lst (tups [[.int ((a : Int) + 2), .str "push", .bl true], [.int ((a : Int) + 3), .str "push", .int 1], [.int ((a : Int) + 1), .str "list", .int 2], [.int a, .str "drop"]]), .lst (tups [[.int a, .str "beat"], [.int ((a : Int) + 2), .str "push", .bl true], [.int ((a : Int) + 3), .str "push", .int 1], [.int ((a : Int) + 1), .str "list", .int 2], [.int a, .str "drop"]])], _, _, _, H.length + 1, p2, .p2, ?_, ?_⟩
    · rw [ex]
      unfold m_law_plain
      refine runs rfl ?_ (gc_new ?_)
      · unfold b_law_plain
        refine (P _).trans ?_
        simp [mEq, mEqB, scalM, mAdd, lstAt, tups, tOne, tList, tNum, tTruth, nd, Nd.v]
      · simp only [bel, bels, Bool.and_true, Bool.and_eq_false_iff]
        right
        right
        simp [hH, DK]
    · rw [ex, List.getElem?_append_right (by omega)]
      simp
end My

set_option Elab.async false
set_option linter.all false
set_option maxRecDepth 100000
set_option maxHeartbeats 4000000
namespace My
open PySem L2 Sm
def nm2 : List Str := ["kept1", "kept2"]
theorem rE_num (nm : List Str) (n : Nat) (h : List (List Str)) (d : Int) : rE nm n h (tNum d) = [[vi n, .str "push", .int d]] := by unfold tNum nd; simp [rE, plainW]
theorem rE_text (nm : List Str) (n : Nat) (h : List (List Str)) (d : Str) : rE nm n h (tText d) = [[vi n, .str "push", .str d]] := by unfold tText nd; simp [rE, plainW]
theorem rE_truth (nm : List Str) (n : Nat) (h : List (List Str)) (d : Bool) : rE nm n h (tTruth d) = [[vi n, .str "push", .bl d]] := by unfold tTruth nd; simp [rE, plainW]
theorem rE_name (nm : List Str) (n : Nat) (h : List (List Str)) (x : Str) : rE nm n h (tName x) = [nameRow nm n "name" x h] := by unfold tName nd; simp [rE, plainW, xOf]
theorem rE_send (nm : List Str) (n : Nat) (h : List (List Str)) (e : Nd) (x : Str) (xs : List Nd) : rE nm n h (tSend e x xs) = rEs nm (n + 1) h (e :: xs) ++ [[vi n, .str "send", .str x, vi xs.length]] := by unfold tSend nd; simp [rE, plainW, usedRow]
theorem rE_list (nm : List Str) (n : Nat) (h : List (List Str)) (xs : List Nd) : rE nm n h (tList xs) = rEs nm (n + 1) h xs ++ [[vi n, .str "list", vi xs.length]] := by unfold tList nd; simp [rE, plainW, usedRow]
theorem z_num (d : Int) : size (tNum d) = 1 := by simp [tNum, nd, size, sizeL]
theorem z_text (d : Str) : size (tText d) = 1 := by simp [tText, nd, size, sizeL]
theorem z_truth (d : Bool) : size (tTruth d) = 1 := by simp [tTruth, nd, size, sizeL]
theorem z_name (d : Str) : size (tName d) = 1 := by simp [tName, nd, size, sizeL]
theorem k1 (n : Nat) (w : Str) : nameRow nm2 n w "kept1" [] = [vi n, .str w, .int 0, .int 0] := by
  unfold nameRow lookN nm2
  simp [among, idx, vi]
theorem k2 (n : Nat) (w : Str) : nameRow nm2 n w "kept2" [] = [vi n, .str w, .int 0, .int 1] := by
  unfold nameRow lookN nm2
  simp [among, idx, vi]
theorem lk1 : (lookN nm2 "kept1" 0 []).isSome = true := by unfold lookN nm2; simp [among]
theorem lk2 : (lookN nm2 "kept2" 0 []).isSome = true := by unfold lookN nm2; simp [among]
theorem Pl.facts {t : Nd} {m : Nat} {R : Nat → List (List MV)} (p : Pl t m R) : NdOk t ∧ hgt t ≤ 3 ∧ size t = m ∧ (∀ s a, rS nm2 s a [] t = R a) ∧ sOk nm2 [] t ∧ (∀ a, (R a).length ≤ 5) := by
  cases p with
  | p0 d h0 h1 =>
    refine ⟨ok_set (ok_send (ok_num d) (by intro t ht; simp at ht; subst ht; exact ok_name _) (by simp)), ?_, ?_, ?_, ?_, by simp⟩
    · simp [tSet, tSend, tNum, tName, nd, hgt, hgtL]
    · simp [tSet, tSend, tNum, tName, nd, size, sizeL]
    · intro s a
      unfold tSet nd
      rw [rS_set, rE_send]
      simp [rEs, rE_num, rE_name, z_num, k1, k2, xOf, vi]
      omega
    · unfold tSet tSend nd
      simp [sOk, eOk, esOk, tNum, tName, nd, plainW, oneW, lk1, lk2]
  | p1 =>
    refine ⟨ok_one (by unfold oneW; decide +kernel) (ok_send (ok_text _) (by simp) (by simp)), ?_, ?_, ?_, ?_, by simp⟩
    · simp [tOne, tSend, tText, tName, nd, hgt, hgtL]
    · simp [tOne, tSend, tText, tName, nd, size, sizeL]
    · intro s a
      unfold tOne nd
      rw [rS_one (by unfold oneW; decide +kernel), rE_send]
      simp [rEs, rE_text, vi]
      omega
    · unfold tOne tSend nd
      simp [sOk, eOk, esOk, tText, nd, plainW, oneW, lk1, lk2]
  | p2 =>
    refine ⟨ok_one (by unfold oneW; decide +kernel) (ok_list (by intro t ht; simp at ht; rcases ht with rfl | rfl; exact ok_truth _; exact ok_num _) (by simp)), ?_, ?_, ?_, ?_, by simp⟩
    · simp [tOne, tList, tTruth, tNum, nd, hgt, hgtL]
    · simp [tOne, tList, tTruth, tNum, nd, size, sizeL]
    · intro s a
      unfold tOne nd
      rw [rS_one (by unfold oneW; decide +kernel), rE_list]
      simp [rEs, rE_truth, rE_num, z_truth, vi]
      omega
    · unfold tOne tList nd
      simp [sOk, eOk, esOk, tTruth, tNum, nd, plainW, oneW, lk1, lk2]
end My

set_option Elab.async false
set_option linter.all false
set_option maxRecDepth 100000
set_option maxHeartbeats 4000000
namespace My
open PySem L2 Sm
inductive Wy : (Nd → Nd) → Nat → (List (List MV) → List (List MV)) → Prop
  | w0 : Wy (fun t => tIf (tTruth true) [t] []) 2 fun I => [[.int 0, .str "beat"], [.int 1, .str "push", .bl true], [.int 0, .str "unless", .int ((I.length : Int) + 4)]] ++ I ++ [[.int 0, .str "jump", .int ((I.length : Int) + 4)]]
  | w1 : Wy (fun t => tWhile (tTruth false) [t]) 2 fun I => [[.int 0, .str "beat"], [.int 1, .str "push", .bl false], [.int 0, .str "unless", .int ((I.length : Int) + 4)]] ++ I ++ [[.int 0, .str "jump", .int 0]]
  | w2 : Wy (fun t => tTry [t] "kept2" []) 1 fun I => [[.int 0, .str "beat"], [.int 0, .str "try", .int ((I.length : Int) + 4)]] ++ I ++ [[.int 0, .str "untry"], [.int 0, .str "jump", .int ((I.length : Int) + 5)], [.int 0, .str "setname", .int 0, .int 1]]
def lastS : Nd := tSet "kept2" (tNum 0)
def tailR (a : Nat) : List (List MV) := [[.int a, .str "beat"], [.int ((a : Int) + 1), .str "push", .int 0], [.int a, .str "setname", .int 0, .int 1]]
theorem lastS_facts : NdOk lastS ∧ hgt lastS ≤ 3 ∧ size lastS = 2 ∧ (∀ s a, rS nm2 s a [] lastS = tailR a) ∧ sOk nm2 [] lastS := by
  refine ⟨ok_set (ok_num 0), ?_, ?_, ?_, ?_⟩
  · simp [lastS, tSet, tNum, nd, hgt, hgtL]
  · simp [lastS, tSet, tNum, nd, size, sizeL]
  · intro s a
    unfold lastS tSet nd
    rw [rS_set, rE_num]
    simp [k2, xOf, vi, tailR]
  · unfold lastS tSet nd
    simp [sOk, eOk, tNum, nd, plainW, oneW, lk2]
theorem Wy.facts {t : Nd} {m a : Nat} {R0 : Nat → List (List MV)} {W : Nd → Nd} {Rw : List (List MV) → List (List MV)} (p : Pl t m R0) (y : Wy W a Rw) : NdOk (W t) ∧ hgt (W t) ≤ 5 ∧ size (W t) = a + m ∧ rS nm2 0 0 [] (W t) = Rw (R0 a) ∧ sOk nm2 [] (W t) := by
  obtain ⟨f1, f2, f3, f4, f5, f6⟩ := p.facts
  have o1 : ∀ z, z ∈ [t] → NdOk z := by intro z hz; simp at hz; subst hz; exact f1
  cases y with
  | w0 =>
    refine ⟨ok_if (ok_truth _) o1 (by simp) (by simp), ?_, ?_, ?_, ?_⟩
    · simp [tIf, tTruth, nd, hgt, hgtL]; omega
    · simp [tIf, tTruth, nd, size, sizeL, f3]; omega
    · unfold tIf nd
      rw [rS_if, rE_truth, z_truth]
      simp only [List.length_cons, List.length_nil, List.take_one, List.append_nil, List.head?_cons, Option.toList_some, rSs_cons, rSs_nil, f4, List.drop_one, List.tail_cons]
      simp [vi, rSs_cons, rSs_nil, f4]
      omega
    · unfold tIf nd
      simp [sOk, ssOk, eOk, f5, tTruth, nd, plainW]
  | w1 =>
    refine ⟨ok_while (ok_truth _) o1 (by simp), ?_, ?_, ?_, ?_⟩
    · simp [tWhile, tTruth, nd, hgt, hgtL]; omega
    · simp [tWhile, tTruth, nd, size, sizeL, f3]; omega
    · unfold tWhile nd
      rw [rS_while, rE_truth, z_truth]
      simp [vi, rSs_cons, rSs_nil, f4]
      omega
    · unfold tWhile nd
      simp [sOk, ssOk, eOk, f5, tTruth, nd, plainW]
  | w2 =>
    refine ⟨ok_try o1 (by simp) (by simp), ?_, ?_, ?_, ?_⟩
    · simp [tTry, nd, hgt, hgtL]; omega
    · simp [tTry, nd, size, sizeL, f3]
    · unfold tTry nd
      rw [rS_try]
      simp [vi, rSs_cons, rSs_nil, f4, k2, xOf]
      omega
    · unfold tTry nd
      simp [sOk, ssOk, f5, lk2]
      exact .inr ⟨_, _, ⟨rfl, rfl⟩, lk2⟩
theorem names2 {t : Nd} {m a : Nat} {R0 : Nat → List (List MV)} {W : Nd → Nd} {Rw : List (List MV) → List (List MV)} (p : Pl t m R0) (y : Wy W a Rw) : namesOf ["kept1"] (recsL 0 (-1) (-1) [] [W t, lastS]) = nm2 := by
  cases y <;> cases p <;> simp [recsL, recs, tIf, tWhile, tTry, tTruth, tSet, tSend, tNum, tName, tOne, tText, tList, lastS, nd, namesOf, nameStep, nameOf, among, hidden, nm2]
/-- the rows of the law's method -/
def rowsM (a m : Nat) (R0 : Nat → List (List MV)) (Rw : List (List MV) → List (List MV)) : List (List MV) := Rw (R0 a) ++ (tailR (a + m) ++ endR)
def methM (W : Nd → Nd) (t : Nd) : MV := .tup [.str "method", .str "go", .tup ((["kept1"] : List Str).map MV.str), .tup (([W t, lastS] : List Nd).map Nd.v)]
theorem rows_methM {t : Nd} {m a : Nat} {R0 : Nat → List (List MV)} {W : Nd → Nd} {Rw : List (List MV) → List (List MV)} (p : Pl t m R0) (y : Wy W a Rw) (h : MH) : m_rows_of [methM W t, .int (-1)] h = .ok (.tup (tups (rowsM a m R0 Rw))) h := by
  obtain ⟨f1, f2, f3, f4, f5⟩ := Wy.facts p y
  obtain ⟨g1, g2, g3, g4, g5⟩ := lastS_facts
  have nn := names2 p y
  have := rows_of_ok (h0 := h) (msg := .str "go") (ps := ["kept1"]) (ts := [W t, lastS]) (by intro z hz; simp at hz; rcases hz with rfl | rfl; exact f1; exact g1) (by simp only [hgtL]; omega) (by
    have : a ≤ 2 := by cases y <;> omega
    have : m ≤ 4 := by cases p <;> omega
    simp only [sizeL]; omega) (by simp) (by rw [nn]; simp only [ssOk]; exact ⟨f5, g5, trivial⟩)
  rw [nn, rSs_cons, rSs_cons, rSs_nil, f4, g4, f3] at this
  unfold methM
  rw [this]
  simp [rowsM]
end My

set_option Elab.async false
set_option linter.all false
set_option maxRecDepth 100000
set_option maxHeartbeats 4000000
namespace My
open PySem L2 Sm
theorem tail_run {ρ1 : MS} {v0 v1 v3 v5 v6 wv : MV} {a m K : Nat} {RW : List (List MV)} {H1 : MH} (hK : H1[K]? = some (.lst (tups RW))) (hl : RW.length ≤ 100) (e : ρ1 = [some v0, some v1, some (.int a), some v3, some (.int m), some v5, some v6, some wv, some (.ref K), none, none]) :
    (sSeq (sSet 9 (eNew (lDisp (aCons (eVar 7) (aCons (eTup (aCons (eC (.str "set")) (aCons (eC (.str "kept2")) (aCons (eTup (aCons (eC (.str "number")) (aCons (eC (.int 0)) aNil))) aNil)))) aNil)))))
    (sSeq (sSet 10 (eBin mAdd (eVar 2) (eVar 4)))
    (sSeq (sSet 8 (eNew (lCatE (eVar 8) (lDisp (aCons (eTup (aCons (eVar 10) (aCons (eC (.str "beat")) aNil))) (aCons (eTup (aCons (eBin mAdd (eVar 10) (eC (.int 1))) (aCons (eC (.str "push")) (aCons (eC (.int 0)) aNil)))) (aCons (eTup (aCons (eVar 10) (aCons (eC (.str "setname")) (aCons (eC (.int 0)) (aCons (eC (.int 1)) aNil))))) (aCons (eTup (aCons (eUn mNeg (eC (.int 1))) (aCons (eC (.str "push")) (aCons (eC .non) aNil)))) (aCons (eTup (aCons (eUn mNeg (eC (.int 1))) (aCons (eC (.str "return")) aNil))) aNil)))))))))
    (sRet (eTup (aCons (eTup (aCons (eC (.str "method")) (aCons (eC (.str "go")) (aCons (eTup (aCons (eC (.str "kept1")) aNil)) (aCons (eCallB mTuple (aCons (eVar 9) aNil)) aNil))))) (aCons (eVar 8) aNil)))))))
    ρ1 H1 = .rt (.tup [.tup [.str "method", .str "go", .tup [.str "kept1"], .tup [wv, lastS.v]], .ref (H1.length + 1)]) (H1 ++ [.lst [wv, lastS.v], .lst (tups (RW ++ (tailR (a + m) ++ endR)))]) := by
  subst e
  have t1 : lstAt (.ref K) (H1 ++ [.lst [wv, lastS.v]]) = some (tups RW) := by unfold lstAt; simp only [gap hK]
  have lv : lastS.v = .tup [.str "set", .str "kept2", .tup [.str "number", .int 0]] := rfl
  have i9 : itemsOf (.ref H1.length) (H1 ++ [MO.lst [wv, lastS.v], MO.lst (tups (RW ++ (tailR (a + m) ++ endR)))]) = some [wv, lastS.v] := by unfold itemsOf; simp
  rw [tups_app] at i9 ⊢
  have tl := tups_len RW
  generalize tups RW = T at hK t1 i9 tl ⊢
  have z : T.length ≤ 999995 := by omega
  rw [lv] at t1 i9 ⊢
  generalize hwv : wv = wv' at t1 i9 ⊢
  simp [t1, mAdd, mTuple, z, tailR, endR, tups] at i9 ⊢
  simp [i9]
theorem method_ok {s : List MV} {ns : List Int} {c : Nat} {g : MH} (hp : Pos0 ns) (hc : c < 800000) : ∃ ns' g' t m a R0 W Rw L, Pos0 ns' ∧ Pl t m R0 ∧ Wy W a Rw ∧ m_law_method [.ref 2] (DK s ns c g) = .ok (.tup [methM W t, .ref L]) (DK s ns' (c + 3) (g ++ g')) ∧ (DK s ns' (c + 3) (g ++ g'))[L]? = some (.lst (tups (rowsM a m R0 Rw))) ∧ 3 ≤ L := by
  obtain ⟨w, ns1, w0, w1, p1, e1⟩ := draw_ok (s := s) (g := g) (k := 3) hp (by omega) (by omega) (show c < 1000000 by omega)
  obtain ⟨a, ha⟩ : ∃ a : Nat, a = 1 + (if w < 2 then 1 else 0) := ⟨_, rfl⟩
  obtain ⟨ns2, g2, t, m, R0, L, p2, pl, e2, hL⟩ := plain_ok (s := s) (g := g) (a := a) p1 (show c + 1 < 900000 by omega)
  obtain ⟨H, hH⟩ : ∃ H, H = DK s ns2 (c + 1 + 2) (g ++ g2) := ⟨_, rfl⟩
  rw [← hH] at e2 hL
  have l5 := pl.facts.2.2.2.2.2 a
  have lH : L < H.length := lt_of_get hL
  have lenH : (tups (R0 a)).length = (R0 a).length := tups_len _
  have z1 : (R0 a).length + 1 + 1 + 1 ≤ 1000000 := by omega
  have P : ∀ tl : MSt, sSeq (sSet 1 (eCallD m_law_draw [] (aCons (eVar 0) (aCons (eC (.int 3)) aNil)))) (sSeq (sSet 2 (eBin mAdd (eC (.int 1)) (eCallB mInt (aCons (eBin mLt (eVar 1) (eC (.int 2))) aNil))))
      (sSeq (sSetT (.many [3, 4, 5]) (eCallD m_law_plain [] (aCons (eVar 0) (aCons (eVar 2) aNil)))) (sSeq (sSet 6 (eCallB mLen (aCons (eVar 5) aNil))) tl))) [some (.ref 2), none, none, none, none, none, none, none, none, none, none] (DK s ns c g) =
      tl [some (.ref 2), some (.int w), some (.int a), some t.v, some (.int m), some (.ref L), some (.int (R0 a).length), none, none, none, none] H := fun tl => by
    rw [seq_nx (ρ1 := [some (.ref 2), some (.int w), none, none, none, none, none, none, none, none, none]) (h1 := DK s ns1 (c + 1) g) (by simp [e1])]
    rw [seq_nx (ρ1 := [some (.ref 2), some (.int w), some (.int a), none, none, none, none, none, none, none, none]) (h1 := DK s ns1 (c + 1) g) (by
      rw [ha]
      by_cases hw : w < 2 <;> simp [mLt, mAdd, hw])]
    rw [seq_nx (ρ1 := [some (.ref 2), some (.int w), some (.int a), some t.v, some (.int m), some (.ref L), none, none, none, none, none]) (h1 := H) (by simp [e2, Tg.set, setMany])]
    rw [seq_nx (ρ1 := [some (.ref 2), some (.int w), some (.int a), some t.v, some (.int m), some (.ref L), some (.int (R0 a).length), none, none, none, none]) (h1 := H) (by simp [mLen, hL, lenH])]
  have ex : ∀ (o : MH), DK s ns2 (c + 3) (g ++ (g2 ++ o)) = H ++ o := fun o => by rw [hH, ← List.append_assoc]; rfl
  have : w = 0 ∨ w = 1 ∨ w = 2 := by omega
  rcases this with rfl | rfl | rfl
  · have ha2 : a = 2 := by simp at ha; exact ha
    subst ha2
    obtain ⟨Rw, hRw⟩ : ∃ Rw : List (List MV) → List (List MV), Rw = fun I => [[.int 0, .str "beat"], [.int 1, .str "push", .bl true], [.int 0, .str "unless", .int ((I.length : Int) + 4)]] ++ I ++ [[.int 0, .str "jump", .int ((I.length : Int) + 4)]] := ⟨_, rfl⟩
    obtain ⟨pre, hpre⟩ : ∃ pre : MH, pre = [] := ⟨_, rfl⟩
    obtain ⟨H1, hH1⟩ : ∃ H1, H1 = H ++ (pre ++ [.lst (tups (Rw (R0 2)))]) := ⟨_, rfl⟩
    have lH1 : H1.length = H.length + pre.length + 1 := by rw [hH1]; simp; omega
    have stp : (sIf (tOfE (eBin mEq (eVar 1) (eC (.int 0))))
    (sSeq (sSet 7 (eTup (aCons (eC (.str "if")) (aCons (eTup (aCons (eC (.str "truth")) (aCons (eC (.bl true)) aNil))) (aCons (eTup (aCons (eVar 3) aNil)) (aCons (eTup aNil) aNil))))))
    (sSet 8 (eNew (lCat (lCatL (lDisp (aCons (eTup (aCons (eC (.int 0)) (aCons (eC (.str "beat")) aNil))) (aCons (eTup (aCons (eC (.int 1)) (aCons (eC (.str "push")) (aCons (eC (.bl true)) aNil)))) (aCons (eTup (aCons (eC (.int 0)) (aCons (eC (.str "unless")) (aCons (eBin mAdd (eVar 6) (eC (.int 4))) aNil)))) aNil)))) (eVar 5)) (lDisp (aCons (eTup (aCons (eC (.int 0)) (aCons (eC (.str "jump")) (aCons (eBin mAdd (eVar 6) (eC (.int 4))) aNil)))) aNil))))))
    (sIf (tOfE (eBin mEq (eVar 1) (eC (.int 1))))
    (sSeq (sSet 7 (eTup (aCons (eC (.str "while")) (aCons (eTup (aCons (eC (.str "truth")) (aCons (eC (.bl false)) aNil))) (aCons (eTup (aCons (eVar 3) aNil)) aNil)))))
    (sSet 8 (eNew (lCat (lCatL (lDisp (aCons (eTup (aCons (eC (.int 0)) (aCons (eC (.str "beat")) aNil))) (aCons (eTup (aCons (eC (.int 1)) (aCons (eC (.str "push")) (aCons (eC (.bl false)) aNil)))) (aCons (eTup (aCons (eC (.int 0)) (aCons (eC (.str "unless")) (aCons (eBin mAdd (eVar 6) (eC (.int 4))) aNil)))) aNil)))) (eVar 5)) (lDisp (aCons (eTup (aCons (eC (.int 0)) (aCons (eC (.str "jump")) (aCons (eC (.int 0)) aNil)))) aNil))))))
    (sSeq (sSet 7 (eTup (aCons (eC (.str "try")) (aCons (eTup (aCons (eVar 3) aNil)) (aCons (eC (.str "kept2")) (aCons (eTup aNil) aNil))))))
    (sSeq (sSet 8 (eNew (lCatL (lDisp (aCons (eTup (aCons (eC (.int 0)) (aCons (eC (.str "beat")) aNil))) (aCons (eTup (aCons (eC (.int 0)) (aCons (eC (.str "try")) (aCons (eBin mAdd (eVar 6) (eC (.int 4))) aNil)))) aNil))) (eVar 5))))
    (sSet 8 (eNew (lCatE (eVar 8) (lDisp (aCons (eTup (aCons (eC (.int 0)) (aCons (eC (.str "untry")) aNil))) (aCons (eTup (aCons (eC (.int 0)) (aCons (eC (.str "jump")) (aCons (eBin mAdd (eVar 6) (eC (.int 5))) aNil)))) (aCons (eTup (aCons (eC (.int 0)) (aCons (eC (.str "setname")) (aCons (eC (.int 0)) (aCons (eC (.int 1)) aNil)))))  aNil))))))))))) [some (.ref 2), some (.int 0), some (.int (2 : Nat)), some t.v, some (.int m), some (.ref L), some (.int (R0 2).length), none, none, none, none] H =
        .nx [some (.ref 2), some (.int 0), some (.int (2 : Nat)), some t.v, some (.int m), some (.ref L), some (.int (R0 2).length), some (tIf (tTruth true) [t] []).v, some (.ref (H.length + pre.length)), none, none] H1 := by
      have t1 : lstAt (.ref L) H = some (tups (R0 2)) := by unfold lstAt; simp only [hL]
      have lv : (tIf (tTruth true) [t] []).v = (tIf (tTruth true) [t] []).v := rfl
      rw [hH1, hRw, hpre]
      simp only [tups_app]
      generalize tups (R0 2) = T at t1 lenH ⊢
      generalize (R0 2).length = n at lenH l5 z1 ⊢
      have z : T.length ≤ 10000 := by omega
      have z2 : 3 + T.length ≤ 1000000 := by omega
      have z3 : 2 + T.length ≤ 1000000 := by omega
      have z4 : T.length + 1 + 1 + 1 ≤ 999999 := by omega
      have z5 : T.length + 1 + 1 ≤ 999997 := by omega
      have t2 : ∀ Z, lstAt (.ref H.length) (H ++ [.lst Z]) = some Z := fun Z => by unfold lstAt; simp
      have vv : (tIf (tTruth true) [t] []).v = .tup [.str "if", .tup [.str "truth", .bl true], .tup [t.v], .tup []] := rfl
      rw [vv]
      simp [mEq, mEqB, scalM, mAdd, t1, t2, z2, z3, z4, z5, tups]
    refine ⟨ns2, g2 ++ (pre ++ [.lst (tups (Rw (R0 2))), .lst [(tIf (tTruth true) [t] []).v, lastS.v], .lst (tups (rowsM 2 m R0 Rw))]), t, m, 2, R0, fun t => (tIf (tTruth true) [t] []), Rw, H1.length + 1, p2, pl, by rw [hRw]; exact .w0, ?_, ?_, ?_⟩
    · rw [ex]
      unfold m_law_method
      refine runs rfl ?_ (gc_new ?_)
      · unfold b_law_method
        refine (P _).trans ?_
        rw [seq_nx stp]
        rw [tail_run (RW := Rw (R0 2)) (K := H.length + pre.length) (by rw [hH1, List.getElem?_append_right (by omega)]; simp) (by rw [hRw]; simp; omega) rfl]
        rw [hH1]
        simp [methM, rowsM]
      · simp only [bel, bels, Bool.and_true, Bool.and_eq_false_iff]
        right
        rw [lH1, hH]
        simp [DK]
        omega
    · rw [ex, lH1, List.getElem?_append_right (by omega), show H.length + pre.length + 1 + 1 - H.length = pre.length + 2 by omega, List.getElem?_append_right (by omega)]
      simp
    · rw [lH1, hH]; simp [DK]; omega
  · have ha2 : a = 2 := by simp at ha; exact ha
    subst ha2
    obtain ⟨Rw, hRw⟩ : ∃ Rw : List (List MV) → List (List MV), Rw = fun I => [[.int 0, .str "beat"], [.int 1, .str "push", .bl false], [.int 0, .str "unless", .int ((I.length : Int) + 4)]] ++ I ++ [[.int 0, .str "jump", .int 0]] := ⟨_, rfl⟩
    obtain ⟨pre, hpre⟩ : ∃ pre : MH, pre = [] := ⟨_, rfl⟩
    obtain ⟨H1, hH1⟩ : ∃ H1, H1 = H ++ (pre ++ [.lst (tups (Rw (R0 2)))]) := ⟨_, rfl⟩
    have lH1 : H1.length = H.length + pre.length + 1 := by rw [hH1]; simp; omega
    have stp : (sIf (tOfE (eBin mEq (eVar 1) (eC (.int 0))))
    (sSeq (sSet 7 (eTup (aCons (eC (.str "if")) (aCons (eTup (aCons (eC (.str "truth")) (aCons (eC (.bl true)) aNil))) (aCons (eTup (aCons (eVar 3) aNil)) (aCons (eTup aNil) aNil))))))
    (sSet 8 (eNew (lCat (lCatL (lDisp (aCons (eTup (aCons (eC (.int 0)) (aCons (eC (.str "beat")) aNil))) (aCons (eTup (aCons (eC (.int 1)) (aCons (eC (.str "push")) (aCons (eC (.bl true)) aNil)))) (aCons (eTup (aCons (eC (.int 0)) (aCons (eC (.str "unless")) (aCons (eBin mAdd (eVar 6) (eC (.int 4))) aNil)))) aNil)))) (eVar 5)) (lDisp (aCons (eTup (aCons (eC (.int 0)) (aCons (eC (.str "jump")) (aCons (eBin mAdd (eVar 6) (eC (.int 4))) aNil)))) aNil))))))
    (sIf (tOfE (eBin mEq (eVar 1) (eC (.int 1))))
    (sSeq (sSet 7 (eTup (aCons (eC (.str "while")) (aCons (eTup (aCons (eC (.str "truth")) (aCons (eC (.bl false)) aNil))) (aCons (eTup (aCons (eVar 3) aNil)) aNil)))))
    (sSet 8 (eNew (lCat (lCatL (lDisp (aCons (eTup (aCons (eC (.int 0)) (aCons (eC (.str "beat")) aNil))) (aCons (eTup (aCons (eC (.int 1)) (aCons (eC (.str "push")) (aCons (eC (.bl false)) aNil)))) (aCons (eTup (aCons (eC (.int 0)) (aCons (eC (.str "unless")) (aCons (eBin mAdd (eVar 6) (eC (.int 4))) aNil)))) aNil)))) (eVar 5)) (lDisp (aCons (eTup (aCons (eC (.int 0)) (aCons (eC (.str "jump")) (aCons (eC (.int 0)) aNil)))) aNil))))))
    (sSeq (sSet 7 (eTup (aCons (eC (.str "try")) (aCons (eTup (aCons (eVar 3) aNil)) (aCons (eC (.str "kept2")) (aCons (eTup aNil) aNil))))))
    (sSeq (sSet 8 (eNew (lCatL (lDisp (aCons (eTup (aCons (eC (.int 0)) (aCons (eC (.str "beat")) aNil))) (aCons (eTup (aCons (eC (.int 0)) (aCons (eC (.str "try")) (aCons (eBin mAdd (eVar 6) (eC (.int 4))) aNil)))) aNil))) (eVar 5))))
    (sSet 8 (eNew (lCatE (eVar 8) (lDisp (aCons (eTup (aCons (eC (.int 0)) (aCons (eC (.str "untry")) aNil))) (aCons (eTup (aCons (eC (.int 0)) (aCons (eC (.str "jump")) (aCons (eBin mAdd (eVar 6) (eC (.int 5))) aNil)))) (aCons (eTup (aCons (eC (.int 0)) (aCons (eC (.str "setname")) (aCons (eC (.int 0)) (aCons (eC (.int 1)) aNil)))))  aNil))))))))))) [some (.ref 2), some (.int 1), some (.int (2 : Nat)), some t.v, some (.int m), some (.ref L), some (.int (R0 2).length), none, none, none, none] H =
        .nx [some (.ref 2), some (.int 1), some (.int (2 : Nat)), some t.v, some (.int m), some (.ref L), some (.int (R0 2).length), some (tWhile (tTruth false) [t]).v, some (.ref (H.length + pre.length)), none, none] H1 := by
      have t1 : lstAt (.ref L) H = some (tups (R0 2)) := by unfold lstAt; simp only [hL]
      have lv : (tWhile (tTruth false) [t]).v = (tWhile (tTruth false) [t]).v := rfl
      rw [hH1, hRw, hpre]
      simp only [tups_app]
      generalize tups (R0 2) = T at t1 lenH ⊢
      generalize (R0 2).length = n at lenH l5 z1 ⊢
      have z : T.length ≤ 10000 := by omega
      have z2 : 3 + T.length ≤ 1000000 := by omega
      have z3 : 2 + T.length ≤ 1000000 := by omega
      have z4 : T.length + 1 + 1 + 1 ≤ 999999 := by omega
      have z5 : T.length + 1 + 1 ≤ 999997 := by omega
      have t2 : ∀ Z, lstAt (.ref H.length) (H ++ [.lst Z]) = some Z := fun Z => by unfold lstAt; simp
      have vv : (tWhile (tTruth false) [t]).v = .tup [.str "while", .tup [.str "truth", .bl false], .tup [t.v]] := rfl
      rw [vv]
      simp [mEq, mEqB, scalM, mAdd, t1, t2, z2, z3, z4, z5, tups]
    refine ⟨ns2, g2 ++ (pre ++ [.lst (tups (Rw (R0 2))), .lst [(tWhile (tTruth false) [t]).v, lastS.v], .lst (tups (rowsM 2 m R0 Rw))]), t, m, 2, R0, fun t => (tWhile (tTruth false) [t]), Rw, H1.length + 1, p2, pl, by rw [hRw]; exact .w1, ?_, ?_, ?_⟩
    · rw [ex]
      unfold m_law_method
      refine runs rfl ?_ (gc_new ?_)
      · unfold b_law_method
        refine (P _).trans ?_
        rw [seq_nx stp]
        rw [tail_run (RW := Rw (R0 2)) (K := H.length + pre.length) (by rw [hH1, List.getElem?_append_right (by omega)]; simp) (by rw [hRw]; simp; omega) rfl]
        rw [hH1]
        simp [methM, rowsM]
      · simp only [bel, bels, Bool.and_true, Bool.and_eq_false_iff]
        right
        rw [lH1, hH]
        simp [DK]
        omega
    · rw [ex, lH1, List.getElem?_append_right (by omega), show H.length + pre.length + 1 + 1 - H.length = pre.length + 2 by omega, List.getElem?_append_right (by omega)]
      simp
    · rw [lH1, hH]; simp [DK]; omega
  · have ha2 : a = 1 := by simp at ha; exact ha
    subst ha2
    obtain ⟨Rw, hRw⟩ : ∃ Rw : List (List MV) → List (List MV), Rw = fun I => [[.int 0, .str "beat"], [.int 0, .str "try", .int ((I.length : Int) + 4)]] ++ I ++ [[.int 0, .str "untry"], [.int 0, .str "jump", .int ((I.length : Int) + 5)], [.int 0, .str "setname", .int 0, .int 1]] := ⟨_, rfl⟩
    obtain ⟨pre, hpre⟩ : ∃ pre : MH, pre = [.lst (tups ([[.int 0, .str "beat"], [.int 0, .str "try", .int (((R0 1).length : Int) + 4)]] ++ R0 1))] := ⟨_, rfl⟩
    obtain ⟨H1, hH1⟩ : ∃ H1, H1 = H ++ (pre ++ [.lst (tups (Rw (R0 1)))]) := ⟨_, rfl⟩
    have lH1 : H1.length = H.length + pre.length + 1 := by rw [hH1]; simp; omega
    have stp : (sIf (tOfE (eBin mEq (eVar 1) (eC (.int 0))))
    (sSeq (sSet 7 (eTup (aCons (eC (.str "if")) (aCons (eTup (aCons (eC (.str "truth")) (aCons (eC (.bl true)) aNil))) (aCons (eTup (aCons (eVar 3) aNil)) (aCons (eTup aNil) aNil))))))
    (sSet 8 (eNew (lCat (lCatL (lDisp (aCons (eTup (aCons (eC (.int 0)) (aCons (eC (.str "beat")) aNil))) (aCons (eTup (aCons (eC (.int 1)) (aCons (eC (.str "push")) (aCons (eC (.bl true)) aNil)))) (aCons (eTup (aCons (eC (.int 0)) (aCons (eC (.str "unless")) (aCons (eBin mAdd (eVar 6) (eC (.int 4))) aNil)))) aNil)))) (eVar 5)) (lDisp (aCons (eTup (aCons (eC (.int 0)) (aCons (eC (.str "jump")) (aCons (eBin mAdd (eVar 6) (eC (.int 4))) aNil)))) aNil))))))
    (sIf (tOfE (eBin mEq (eVar 1) (eC (.int 1))))
    (sSeq (sSet 7 (eTup (aCons (eC (.str "while")) (aCons (eTup (aCons (eC (.str "truth")) (aCons (eC (.bl false)) aNil))) (aCons (eTup (aCons (eVar 3) aNil)) aNil)))))
    (sSet 8 (eNew (lCat (lCatL (lDisp (aCons (eTup (aCons (eC (.int 0)) (aCons (eC (.str "beat")) aNil))) (aCons (eTup (aCons (eC (.int 1)) (aCons (eC (.str "push")) (aCons (eC (.bl false)) aNil)))) (aCons (eTup (aCons (eC (.int 0)) (aCons (eC (.str "unless")) (aCons (eBin mAdd (eVar 6) (eC (.int 4))) aNil)))) aNil)))) (eVar 5)) (lDisp (aCons (eTup (aCons (eC (.int 0)) (aCons (eC (.str "jump")) (aCons (eC (.int 0)) aNil)))) aNil))))))
    (sSeq (sSet 7 (eTup (aCons (eC (.str "try")) (aCons (eTup (aCons (eVar 3) aNil)) (aCons (eC (.str "kept2")) (aCons (eTup aNil) aNil))))))
    (sSeq (sSet 8 (eNew (lCatL (lDisp (aCons (eTup (aCons (eC (.int 0)) (aCons (eC (.str "beat")) aNil))) (aCons (eTup (aCons (eC (.int 0)) (aCons (eC (.str "try")) (aCons (eBin mAdd (eVar 6) (eC (.int 4))) aNil)))) aNil))) (eVar 5))))
    (sSet 8 (eNew (lCatE (eVar 8) (lDisp (aCons (eTup (aCons (eC (.int 0)) (aCons (eC (.str "untry")) aNil))) (aCons (eTup (aCons (eC (.int 0)) (aCons (eC (.str "jump")) (aCons (eBin mAdd (eVar 6) (eC (.int 5))) aNil)))) (aCons (eTup (aCons (eC (.int 0)) (aCons (eC (.str "setname")) (aCons (eC (.int 0)) (aCons (eC (.int 1)) aNil)))))  aNil))))))))))) [some (.ref 2), some (.int 2), some (.int (1 : Nat)), some t.v, some (.int m), some (.ref L), some (.int (R0 1).length), none, none, none, none] H =
        .nx [some (.ref 2), some (.int 2), some (.int (1 : Nat)), some t.v, some (.int m), some (.ref L), some (.int (R0 1).length), some (tTry [t] "kept2" []).v, some (.ref (H.length + pre.length)), none, none] H1 := by
      have t1 : lstAt (.ref L) H = some (tups (R0 1)) := by unfold lstAt; simp only [hL]
      have lv : (tTry [t] "kept2" []).v = (tTry [t] "kept2" []).v := rfl
      rw [hH1, hRw, hpre]
      simp only [tups_app]
      generalize tups (R0 1) = T at t1 lenH ⊢
      generalize (R0 1).length = n at lenH l5 z1 ⊢
      have z : T.length ≤ 10000 := by omega
      have z2 : 3 + T.length ≤ 1000000 := by omega
      have z3 : 2 + T.length ≤ 1000000 := by omega
      have z4 : T.length + 1 + 1 + 1 ≤ 999999 := by omega
      have z5 : T.length + 1 + 1 ≤ 999997 := by omega
      have t2 : ∀ Z, lstAt (.ref H.length) (H ++ [.lst Z]) = some Z := fun Z => by unfold lstAt; simp
      have vv : (tTry [t] "kept2" []).v = .tup [.str "try", .tup [t.v], .str "kept2", .tup []] := rfl
      rw [vv]
      simp [mEq, mEqB, scalM, mAdd, t1, t2, z2, z3, z4, z5, tups]
    refine ⟨ns2, g2 ++ (pre ++ [.lst (tups (Rw (R0 1))), .lst [(tTry [t] "kept2" []).v, lastS.v], .lst (tups (rowsM 1 m R0 Rw))]), t, m, 1, R0, fun t => (tTry [t] "kept2" []), Rw, H1.length + 1, p2, pl, by rw [hRw]; exact .w2, ?_, ?_, ?_⟩
    · rw [ex]
      unfold m_law_method
      refine runs rfl ?_ (gc_new ?_)
      · unfold b_law_method
        refine (P _).trans ?_
        rw [seq_nx stp]
        rw [tail_run (RW := Rw (R0 1)) (K := H.length + pre.length) (by rw [hH1, List.getElem?_append_right (by omega)]; simp) (by rw [hRw]; simp; omega) rfl]
        rw [hH1]
        simp [methM, rowsM]
      · simp only [bel, bels, Bool.and_true, Bool.and_eq_false_iff]
        right
        rw [lH1, hH]
        simp [DK]
        omega
    · rw [ex, lH1, List.getElem?_append_right (by omega), show H.length + pre.length + 1 + 1 - H.length = pre.length + 2 by omega, List.getElem?_append_right (by omega)]
      simp
    · rw [lH1, hH]; simp [DK]; omega
end My

set_option Elab.async false
set_option linter.all false
set_option maxRecDepth 100000
set_option maxHeartbeats 4000000
namespace My
open PySem L2 Sm
def WordOk (x : Str) : Prop := x.length ≤ 100 ∧ x ++ "s" ≠ x ∧ cutS x none (some (-1)) ≠ x
inductive PartOk : MV → Prop
  | non : PartOk .non
  | bl (b : Bool) : PartOk (.bl b)
  | int (i : Int) (h0 : -1000 ≤ i) (h1 : i ≤ 1000) : PartOk (.int i)
  | str (x : Str) (h : WordOk x) : PartOk (.str x)
theorem PartOk.flat {x : MV} (h : PartOk x) : Flat x := by cases h <;> constructor
theorem Flat.rdy {x : MV} (h : Flat x) (m : MH) : Rdy m x := by cases h <;> constructor
theorem Flat.b0 {x : MV} (h : Flat x) : bel 0 x = true := by cases h <;> simp [bel]
theorem four {v : Int} (h0 : 0 ≤ v) (h1 : v < 4) : v = 0 ∨ v = 1 ∨ v = 2 ∨ v = 3 := by omega
theorem bad_ok {s : List MV} {ns : List Int} {c : Nat} {g : MH} {x : MV} (hp : Pos0 ns) (hc : c < 900000) (px : PartOk x) : ∃ v ns', Pos0 ns' ∧ v ≠ x ∧ (∀ h, Rdy h v) ∧ bel 0 v = true ∧ m_law_bad_part [.ref 2, x] (DK s ns c g) = .ok v (DK s ns' (c + 1) g) := by
  obtain ⟨w, ns1, w0, w1, p1, e1⟩ := draw_ok (s := s) (g := g) (k := 4) hp (by omega) (by omega) (show c < 1000000 by omega)
  suffices H : ∃ v, v ≠ x ∧ (∀ h, Rdy h v) ∧ bel 0 v = true ∧ ∃ h' : MH, b_law_bad_part [some (.ref 2), some x, none] (DK s ns c g) = .rt v (DK s ns1 (c + 1) g) by
    obtain ⟨v, v1, v2, v3, _, e⟩ := H
    exact ⟨v, ns1, p1, v1, v2, v3, runs rfl e (gc_len (by simp [DK]))⟩
  have P : ∀ tl : MSt, sSeq (sSet 2 (eCallD m_law_draw [] (aCons (eVar 0) (aCons (eC (.int 4)) aNil)))) tl [some (.ref 2), some x, none] (DK s ns c g) = tl [some (.ref 2), some x, some (.int w)] (DK s ns1 (c + 1) g) := fun tl => by
    rw [seq_nx (ρ1 := [some (.ref 2), some x, some (.int w)]) (h1 := DK s ns1 (c + 1) g) (by simp [e1])]
  generalize DK s ns c g = H0 at P ⊢
  generalize DK s ns1 (c + 1) g = H at P ⊢
  unfold b_law_bad_part
  cases px with
  | non =>
    rcases four w0 w1 with rfl | rfl | rfl | rfl
    · exact ⟨.bl false, by simp, fun h => .bl _, by simp [bel], H, (P _).trans (by simp [mIsi, tyName, isiB, mIs, noneM, ixL, i0])⟩
    · exact ⟨.int 0, by simp, fun h => .int _, by simp [bel], H, (P _).trans (by simp [mIsi, tyName, isiB, mIs, noneM, ixL, i1])⟩
    · exact ⟨.str "None", by simp, fun h => .str _, by simp [bel], H, (P _).trans (by simp [mIsi, tyName, isiB, mIs, noneM, ixL, i2])⟩
    · exact ⟨.tup [], by simp, fun h => .tup _ (by simp), by simp [bel, bels], H, (P _).trans (by simp [mIsi, tyName, isiB, mIs, noneM, ixL, i3])⟩
  | bl b =>
    rcases four w0 w1 with rfl | rfl | rfl | rfl
    · exact ⟨.bl !b, by simp, fun h => .bl _, by simp [bel], H, (P _).trans (by simp [mIsi, tyName, isiB, mStr, ixL, i0])⟩
    · exact ⟨.int (if b then 1 else 0), by simp, fun h => .int _, by simp [bel], H, (P _).trans (by simp [mIsi, tyName, isiB, mStr, ixL, i1])⟩
    · exact ⟨.non, by simp, fun h => .non, by simp [bel], H, (P _).trans (by simp [mIsi, tyName, isiB, mStr, ixL, i2])⟩
    · exact ⟨.str (if b then "True" else "False"), by simp, fun h => .str _, by simp [bel], H, (P _).trans (by simp [mIsi, tyName, isiB, mStr, ixL, i3])⟩
  | int i h0 h1 =>
    have lg : i.natAbs.log2 < 1920 := Nat.lt_of_le_of_lt (Nat.log2_le_self _) (by omega)
    obtain ⟨z, hz, z1, z2, z3⟩ : ∃ z : MV, eIxL (lDisp (aCons (eCallB mBool (aCons (eVar 1) aNil)) (aCons (eC .non) aNil))) (eCallB mInt (aCons (eOr (eBin mGt (eVar 1) (eC (.int 1))) (eBin mLt (eVar 1) (eC (.int 0)))) aNil)) [some (.ref 2), some (.int i), some (.int w)] H = .ok z H ∧ z ≠ .int i ∧ (∀ h, Rdy h z) ∧ bel 0 z = true := by
      by_cases q : 1 < i
      · exact ⟨.non, by simp [mGt, q, ixL, i1], by simp, fun h => .non, by simp [bel]⟩
      · by_cases q2 : i < 0
        · exact ⟨.non, by simp [mGt, mLt, q, q2, ixL, i1], by simp, fun h => .non, by simp [bel]⟩
        · exact ⟨.bl (i != 0), by simp [mGt, mLt, q, q2, ixL, i0], by simp, fun h => .bl _, by simp [bel]⟩
    generalize hE : eIxL (lDisp (aCons (eCallB mBool (aCons (eVar 1) aNil)) (aCons (eC .non) aNil))) (eCallB mInt (aCons (eOr (eBin mGt (eVar 1) (eC (.int 1))) (eBin mLt (eVar 1) (eC (.int 0)))) aNil)) = E at hz ⊢
    rcases four w0 w1 with rfl | rfl | rfl | rfl
    · exact ⟨.int (i + 1), by simp; omega, fun h => .int _, by simp [bel], H, (P _).trans (by simp [mIsi, tyName, isiB, mStr, ixL, i0, mAdd, mSub, lg, hz])⟩
    · exact ⟨.int (i - 1), by simp; omega, fun h => .int _, by simp [bel], H, (P _).trans (by simp [mIsi, tyName, isiB, mStr, ixL, i1, mAdd, mSub, lg, hz])⟩
    · exact ⟨.str (toString i), by simp, fun h => .str _, by simp [bel], H, (P _).trans (by simp [mIsi, tyName, isiB, mStr, ixL, i2, mAdd, mSub, lg, hz])⟩
    · exact ⟨z, z1, z2, z3, H, (P _).trans (by simp [mIsi, tyName, isiB, mStr, ixL, i3, mAdd, mSub, lg, hz])⟩
  | str x h =>
    obtain ⟨h1, h2, h3⟩ := h
    have l1 : x.length + ("s" : Str).length ≤ 1000000 := by
      have : ("s" : Str).length = 1 := rfl
      omega
    have l2 : x.length ≤ 1000000 := by omega
    rcases four w0 w1 with rfl | rfl | rfl | rfl
    · exact ⟨.str (x ++ "s"), by simpa using h2, fun h => .str _, by simp [bel], H, (P _).trans (by simp [mIsi, tyName, isiB, mIs, noneM, ixL, i0, mAdd, mSl, l1, l2])⟩
    · exact ⟨.str (cutS x none (some (-1))), by simpa using h3, fun h => .str _, by simp [bel], H, (P _).trans (by simp [mIsi, tyName, isiB, mIs, noneM, ixL, i1, mAdd, mSl, l1, l2])⟩
    · exact ⟨.non, by simp, fun h => .non, by simp [bel], H, (P _).trans (by simp [mIsi, tyName, isiB, mIs, noneM, ixL, i2, mAdd, mSl, l1, l2])⟩
    · exact ⟨.tup [.str x], by simp, fun h => .tup _ (by intro z hz; simp at hz; subst hz; exact .str _), by simp [bel, bels], H, (P _).trans (by simp [mIsi, tyName, isiB, mIs, noneM, ixL, i3, mAdd, mSl, l1, l2])⟩
/-- what is made meanwhile goes, the deck's cells stay -/
theorem bels_ints (n : Nat) : ∀ ns : List Int, bels n (ns.map MV.int) = true
  | [] => rfl
  | i :: ns => by rw [List.map_cons, bels, bels_ints n ns]; rfl
theorem gcA {s : List MV} {ns ns' : List Int} {c c' : Nat} {g g' : MH} {v : MV} (hv : bel 0 v = true) : gc (DK s ns c g) v (DK s ns' c' (g ++ g')) = DK s ns' c' g := by
  unfold gc
  rw [if_pos]
  · have : (DK s ns c g).length = (DK s ns' c' g).length := by simp [DK]
    rw [this, show DK s ns' c' (g ++ g') = DK s ns' c' g ++ g' from rfl, List.take_append_of_le_length (Nat.le_refl _), List.take_length]
  · refine ⟨bel_mono.1 _ hv, fun i hi => ?_⟩
    match i, hi with
    | 0, hi => exact ⟨_, rfl, .inl rfl⟩
    | 1, hi => exact ⟨_, rfl, .inr (bels_ints _ ns')⟩
    | 2, hi => exact ⟨_, rfl, .inr (by simp [belO, bels, bel, DK])⟩
    | i + 3, hi =>
      have hi' : i < g.length := by simp [DK] at hi; omega
      refine ⟨g[i], ?_, .inl ?_⟩
      · show (g ++ g')[i]? = _
        rw [List.getElem?_append_left hi']
        simp [hi']
      · show g[i]? = _
        simp [hi']
end My

set_option Elab.async false
set_option linter.all false
set_option maxRecDepth 100000
set_option maxHeartbeats 4000000
namespace My
open PySem L2 Sm
structure RowsOk (R : List (List MV)) : Prop where
  ne : 0 < R.length
  few : R.length ≤ 100
  row : ∀ r, r ∈ R → 0 < r.length ∧ r.length ≤ 10 ∧ ∀ x, x ∈ r → PartOk x
  adj : ∀ (i : Nat) (a b : List MV), R[i]? = some a → R[i + 1]? = some b → a ≠ b
theorem row_rdy {R : List (List MV)} (ok : RowsOk R) (h : MH) : ∀ z, z ∈ tups R → Rdy h z := by
  intro z hz
  obtain ⟨r, hr, rfl⟩ := List.mem_map.mp hz
  exact .tup _ fun x hx => ((ok.row r hr).2.2 x hx).flat.rdy h
theorem rows_b0 {R : List (List MV)} (ok : RowsOk R) : bels 0 (tups R) = true := by
  have one : ∀ r : List MV, (∀ x, x ∈ r → PartOk x) → bels 0 r = true := by
    intro r
    induction r with
    | nil => intro _; rfl
    | cons x r ih => intro h; rw [bels, (h x (by simp)).flat.b0, ih fun z hz => h z (by simp [hz])]; rfl
  have : ∀ (T : List (List MV)), (∀ r, r ∈ T → r ∈ R) → bels 0 (tups T) = true := by
    intro T
    induction T with
    | nil => intro _; rfl
    | cons r T ih =>
      intro h
      have h1 := ih fun z hz => h z (by simp [hz])
      have h2 := one r (ok.row r (h r (by simp))).2.2
      show bels 0 (MV.tup r :: tups T) = true
      rw [bels, bel, h1, h2]
      rfl
  exact this R fun _ z => z
theorem bels_mem {n : Nat} : ∀ {xs : List MV}, bels n xs = true ↔ ∀ x, x ∈ xs → bel n x = true
  | [] => by simp [bels]
  | x :: xs => by rw [bels, Bool.and_eq_true, bels_mem (xs := xs)]; simp
theorem get1 {H r : MH} {a b : MO} : (H ++ a :: b :: r)[H.length + 1]? = some b := by rw [List.getElem?_append_right (by omega)]; simp
theorem get2 {H r : MH} {a b c : MO} : (H ++ a :: b :: c :: r)[H.length + 2]? = some c := by rw [List.getElem?_append_right (by omega)]; simp
theorem eight {v : Int} (h0 : 0 ≤ v) (h1 : v < 8) : v = 0 ∨ v = 1 ∨ v = 2 ∨ v = 3 ∨ v = 4 ∨ v = 5 ∨ v = 6 ∨ v = 7 := by omega
theorem mid_ne {α : Type} {T : List α} {i : Nat} {a b : α} (h : T[i]? = some a) (n : b ≠ a) : T.take i ++ b :: T.drop (i + 1) ≠ T := fun e => by
  have l := lt_of_get h
  have : (T.take i ++ b :: T.drop (i + 1))[i]? = some b := get_mid _ _ _ (by rw [List.length_take]; omega)
  rw [e, h] at this
  exact n (Option.some.inj this).symm
theorem spoilt_ok {s : List MV} {ns : List Int} {c : Nat} {g : MH} {l : Nat} {R : List (List MV)} (ok : RowsOk R) (hp : Pos0 ns) (hc : c < 800000) (hl : g[l]? = some (.lst (tups R))) : ∃ v ns' c' g', Pos0 ns' ∧ c' ≤ c + 4 ∧ v ≠ .tup (tups R) ∧ Rdy (DK s ns' c' (g ++ g')) v ∧ m_law_spoilt [.ref 2, .ref (l + 3)] (DK s ns c g) = .ok v (DK s ns' c' (g ++ g')) := by
  obtain ⟨T, hT⟩ : ∃ T, T = tups R := ⟨_, rfl⟩
  have lT : T.length = R.length := by rw [hT, tups_len]
  have ne := ok.ne
  have few := ok.few
  obtain ⟨w, ns1, w0, w1, p1, e1⟩ := draw_ok (s := s) (g := g) (k := 8) hp (by omega) (by omega) (show c < 1000000 by omega)
  obtain ⟨iv, ns2, i0', i1', p2, e2⟩ := draw_ok (s := s) (g := g) (k := (T.length : Int)) p1 (by omega) (by omega) (show c + 1 < 1000000 by omega)
  obtain ⟨i, rfl⟩ : ∃ i : Nat, iv = (i : Int) := ⟨iv.toNat, by omega⟩
  have iT : i < T.length := by omega
  obtain ⟨row, hrow⟩ : ∃ row, R[i]? = some row := ⟨R[i]'(by omega), by simp⟩
  have tI : T[i]? = some (.tup row) := by rw [hT]; unfold tups; rw [List.getElem?_map, hrow]; rfl
  obtain ⟨rl0, rl1, rok⟩ := ok.row row (List.mem_of_getElem? hrow)
  obtain ⟨H, hH⟩ : ∃ H, H = DK s ns2 (c + 2) g := ⟨_, rfl⟩
  rw [← hT] at hl ⊢
  have hL0 : (DK s ns1 (c + 1) g)[l + 3]? = some (.lst T) := hl
  have hL : H[l + 3]? = some (.lst T) := by rw [hH]; exact hl
  have kL : ∀ o : MH, (H ++ o)[l + 3]? = some (.lst T) := fun o => gap hL
  have aI : atI T (i : Int) = some (.tup row) := ixNat tI
  have P : ∀ tl : MSt, sSeq (sSet 2 (eCallD m_law_draw [] (aCons (eVar 0) (aCons (eC (.int 8)) aNil)))) (sSeq (sSet 3 (eCallD m_law_draw [] (aCons (eVar 0) (aCons (eCallB mLen (aCons (eVar 1) aNil)) aNil)))) (sSeq (sSet 4 (eBin mIx (eVar 1) (eVar 3))) tl)) [some (.ref 2), some (.ref (l + 3)), none, none, none, none] (DK s ns c g) =
      tl [some (.ref 2), some (.ref (l + 3)), some (.int w), some (.int i), some (.tup row), none] H := fun tl => by
    rw [seq_nx (ρ1 := [some (.ref 2), some (.ref (l + 3)), some (.int w), none, none, none]) (h1 := DK s ns1 (c + 1) g) (by simp [e1])]
    rw [seq_nx (ρ1 := [some (.ref 2), some (.ref (l + 3)), some (.int w), some (.int i), none, none]) (h1 := H) (by
      generalize DK s ns1 (c + 1) g = H0 at hL0 e2 ⊢
      simp [mLen, hL0, e2, hH])]
    rw [seq_nx (ρ1 := [some (.ref 2), some (.ref (l + 3)), some (.int w), some (.int i), some (.tup row), none]) (h1 := H) (by simp [mIx, hL, ixL, aI])]
  have ex : ∀ (o : MH), DK s ns2 (c + 2) (g ++ o) = H ++ o := fun o => by rw [hH]; rfl
  have cT : cutM T none (some (i : Int)) = T.take i := cut_to (by omega)
  have cF : cutM T (some (i : Int)) none = T.drop i := cut_from (by omega)
  have cF1 : cutM T (some ((i : Int) + 1)) none = T.drop (i + 1) := by rw [show ((i : Int) + 1) = ((i + 1 : Nat) : Int) by omega]; exact cut_from (by omega)
  have rT : ∀ h, ∀ z, z ∈ T → Rdy h z := fun h => by rw [hT]; exact row_rdy ok h
  have bT : ∀ z, z ∈ T → bel 0 z = true := by
    have := rows_b0 ok
    rw [← hT] at this
    exact bels_mem.mp this
  have lt1 : (T.take i).length = i := by rw [List.length_take]; omega
  have ld1 : (T.drop (i + 1)).length = T.length - (i + 1) := by rw [List.length_drop]
  have ld0 : (T.drop i).length = T.length - i := by rw [List.length_drop]
  -- a tuple without cells
  have A : ∀ (xs : List MV) (o : MH), xs ≠ T → (∀ z, z ∈ xs → (∀ h, Rdy h z) ∧ bel 0 z = true) → b_law_spoilt [some (.ref 2), some (.ref (l + 3)), none, none, none, none] (DK s ns c g) = .rt (.tup xs) (H ++ o) →
      ∃ v ns' c' g', Pos0 ns' ∧ c' ≤ c + 4 ∧ v ≠ .tup T ∧ Rdy (DK s ns' c' (g ++ g')) v ∧ m_law_spoilt [.ref 2, .ref (l + 3)] (DK s ns c g) = .ok v (DK s ns' c' (g ++ g')) := fun xs o hn hz e =>
    ⟨.tup xs, ns2, c + 2, [], p2, by omega, by simpa using hn, .tup _ fun z h => (hz z h).1 _, by
      rw [← ex] at e
      refine runs rfl e ?_
      rw [List.append_nil]
      exact gcA (by simp only [bel]; exact bels_mem.mpr fun z h => (hz z h).2)⟩
  have okT : ∀ z, z ∈ T → (∀ h, Rdy h z) ∧ bel 0 z = true := fun z hz => ⟨fun h => rT h z hz, bT z hz⟩
  have memt : ∀ {z : MV} {k : Nat}, z ∈ T.take k → z ∈ T := fun h => List.mem_of_mem_take h
  have memd : ∀ {z : MV} {k : Nat}, z ∈ T.drop k → z ∈ T := fun h => List.mem_of_mem_drop h
  have z1 : i + (T.length - (i + 1)) ≤ 1000000 := by omega
  have z2 : i + 1 ≤ 1000000 := by omega
  have z3 : i + 1 + (T.length - i) ≤ 1000000 := by omega
  have z4 : i + 1 + (T.length - (i + 1)) ≤ 1000000 := by omega
  have z5 : T.length ≤ 999999 := by omega
  have z6 : row.length + 1 ≤ 1000000 := by omega
  have la0 : ∀ (a : List MV) (r : MH), lstAt (.ref H.length) (H ++ .lst a :: r) = some a := fun a r => by unfold lstAt; simp only [get0]
  have la1 : ∀ (a : MO) (b : List MV) (r : MH), lstAt (.ref (H.length + 1)) (H ++ a :: .lst b :: r) = some b := fun a b r => by unfold lstAt; simp only [get1]
  have la2 : ∀ (a a' : MO) (b : List MV) (r : MH), lstAt (.ref (H.length + 2)) (H ++ a :: a' :: .lst b :: r) = some b := fun a a' b r => by unfold lstAt; simp only [get2]
  have laL : ∀ o : MH, lstAt (.ref (l + 3)) (H ++ o) = some T := fun o => by unfold lstAt; simp only [kL]
  have laL' : lstAt (.ref (l + 3)) H = some T := by unfold lstAt; simp only [hL]
  have slT : mSl (.ref (l + 3)) none (some (i : Int)) H = .ok (.ref H.length) (H ++ [.lst (T.take i)]) := by unfold mSl; simp only [hL, cT]
  have slF : ∀ o : MH, mSl (.ref (l + 3)) (some (i : Int)) none (H ++ o) = .ok (.ref (H.length + o.length)) (H ++ o ++ [.lst (T.drop i)]) := fun o => by unfold mSl; simp only [kL, cF]; simp
  have slF1 : ∀ o : MH, mSl (.ref (l + 3)) (some ((i : Int) + 1)) none (H ++ o) = .ok (.ref (H.length + o.length)) (H ++ o ++ [.lst (T.drop (i + 1))]) := fun o => by unfold mSl; simp only [kL, cF1]; simp
  have ai : ∀ j : Int, mAdd (.int j) (.int 1) = fun h => .ok (.int (j + 1)) h := fun _ => rfl
  rcases eight w0 w1 with rfl | rfl | rfl | rfl | rfl | rfl | rfl | rfl
  · -- a row less
    refine A (T.take i ++ T.drop (i + 1)) [.lst (T.take i), .lst (T.drop (i + 1)), .lst (T.take i ++ T.drop (i + 1))] (fun e => ?_) (fun z hz => ?_) ?_
    · have := congrArg List.length e
      rw [List.length_append, lt1, ld1] at this
      omega
    · rcases List.mem_append.mp hz with q | q
      · exact okT z (memt q)
      · exact okT z (memd q)
    · unfold b_law_spoilt
      refine (P _).trans ?_
      generalize hA : T.take i = A1 at cT lt1 ⊢
      generalize hB : T.drop (i + 1) = B1 at cF1 ld1 ⊢
      have z1' : A1.length + B1.length ≤ 1000000 := by omega
      have q1 : mAdd (.ref H.length) (.ref (H.length + 1)) (H ++ [.lst A1, .lst B1]) = .ok (.ref (H.length + 2)) (H ++ [.lst A1, .lst B1, .lst (A1 ++ B1)]) := by
        unfold mAdd
        simp only [get0, get1]
        rw [if_pos (show szOk _ from z1')]
        simp
      have q2 : mTuple [.ref (H.length + 2)] (H ++ [.lst A1, .lst B1, .lst (A1 ++ B1)]) = .ok (.tup (A1 ++ B1)) (H ++ [.lst A1, .lst B1, .lst (A1 ++ B1)]) := by
        unfold mTuple itemsOf
        simp only [get2]
      have ai : mAdd (.int (i : Int)) (.int 1) = fun h => .ok (.int ((i : Int) + 1)) h := rfl
      simp [mEq, mEqB, scalM, mSl, hL, kL, cT, cF1, ai, q1, q2]
  · -- a row twice
    refine A (T.take i ++ .tup row :: T.drop i) [.lst (T.take i), .lst (T.drop i)] (fun e => ?_) (fun z hz => ?_) ?_
    · have := congrArg List.length e
      rw [List.length_append, List.length_cons, lt1, ld0] at this
      omega
    · rcases List.mem_append.mp hz with q | q
      · exact okT z (memt q)
      · rcases List.mem_cons.mp q with q | q
        · rw [q]; exact okT _ (List.mem_of_getElem? tI)
        · exact okT z (memd q)
    · unfold b_law_spoilt
      refine (P _).trans ?_
      have f1 := slF [.lst (T.take i)]
      generalize T.take i = A1 at slT lt1 f1 ⊢
      generalize T.drop i = B1 at f1 ld0 ⊢
      have y1 : A1.length ≤ 1000 := by omega
      have y2 : A1.length ≤ 999999 := by omega
      have y3 : A1.length + 1 + B1.length ≤ 1000000 := by omega
      simp at f1
      simp [mEq, mEqB, scalM, slT, f1, la0, la1, y2, y3]
  · -- the last row twice
    obtain ⟨z, hz, mz⟩ : ∃ z, atI T (-1) = some z ∧ z ∈ T := by
      have hl : T.length - 1 < T.length := by omega
      refine ⟨T[T.length - 1], ?_, List.getElem_mem _⟩
      unfold atI ixN
      have n1 : ¬ (0 : Int) ≤ -1 := by decide
      have n2 : (0 : Int) ≤ (T.length : Int) + -1 := by omega
      have n3 : ((T.length : Int) + -1).toNat = T.length - 1 := by omega
      simp
      rw [if_pos (by omega), Option.bind_some, show (-1 + (T.length : Int)).toNat = T.length - 1 by omega]
      simp [hl]
    refine A (T ++ [z]) [] (fun e => ?_) (fun y hy => ?_) ?_
    · have := congrArg List.length e
      simp at this
    · rcases List.mem_append.mp hy with q | q
      · exact okT y q
      · rw [List.mem_singleton.mp q]; exact okT z mz
    · unfold b_law_spoilt
      refine (P _).trans ?_
      simp [mEq, mEqB, scalM, mIx, hL, ixL, hz, laL', z5]
  · -- a longer row
    refine A (T.take i ++ .tup (row ++ [.int 0]) :: T.drop (i + 1)) [.lst (T.take i), .lst (T.drop (i + 1))] (mid_ne tI (by simp)) (fun z hz => ?_) ?_
    · rcases List.mem_append.mp hz with q | q
      · exact okT z (memt q)
      · rcases List.mem_cons.mp q with q | q
        · rw [q]
          have b := bT _ (List.mem_of_getElem? tI)
          refine ⟨fun h => .tup _ fun y hy => ?_, ?_⟩
          · rcases List.mem_append.mp hy with q | q
            · exact (rok y q).flat.rdy h
            · rw [List.mem_singleton.mp q]; exact .int _
          · simp only [bel] at b ⊢
            rw [bels_append, b]
            rfl
        · exact okT z (memd q)
    · unfold b_law_spoilt
      refine (P _).trans ?_
      have f1 := slF1 [.lst (T.take i)]
      generalize T.take i = A1 at slT lt1 f1 ⊢
      generalize T.drop (i + 1) = B1 at f1 ld1 ⊢
      have y2 : A1.length ≤ 999999 := by omega
      have y3 : A1.length + 1 + B1.length ≤ 1000000 := by omega
      have ar : mAdd (.tup row) (.tup [.int 0]) = fun h => .ok (.tup (row ++ [.int 0])) h := by
        funext h
        unfold mAdd
        exact if_pos (show szOk (row.length + 1) from z6)
      simp at f1
      simp [mEq, mEqB, scalM, slT, f1, la0, la1, y2, y3, ar, ai]
  · -- a list for a row
    have hne : T.take i ++ .ref (H.length + 1) :: T.drop (i + 1) ≠ T := mid_ne tI (by simp)
    refine ⟨.tup (T.take i ++ .ref (H.length + 1) :: T.drop (i + 1)), ns2, c + 2, [.lst (T.take i), .lst row, .lst (T.drop (i + 1))], p2, by omega, by simpa using hne, ?_, ?_⟩
    · rw [ex]
      refine .tup _ fun z hz => ?_
      rcases List.mem_append.mp hz with q | q
      · exact rT _ z (memt q)
      · rcases List.mem_cons.mp q with q | q
        · rw [q]; exact .lst _ row get1
        · exact rT _ z (memd q)
    · rw [ex]
      unfold m_law_spoilt
      refine runs rfl (h' := H ++ [.lst (T.take i), .lst row, .lst (T.drop (i + 1))]) ?_ (gc_new ?_)
      · unfold b_law_spoilt
        refine (P _).trans ?_
        have f1 := slF1 [.lst (T.take i), .lst row]
        generalize T.take i = A1 at slT lt1 f1 ⊢
        generalize T.drop (i + 1) = B1 at f1 ld1 ⊢
        have y2 : A1.length ≤ 999999 := by omega
        have y3 : A1.length + 1 + B1.length ≤ 1000000 := by omega
        simp at f1
        simp [mEq, mEqB, scalM, slT, f1, la0, la1, la2, y2, y3, ai, itemsOf]
      · have hlen : (DK s ns c g).length = H.length := by rw [hH]; simp [DK]
        rw [hlen]
        cases hb : bel H.length (.tup (T.take i ++ .ref (H.length + 1) :: T.drop (i + 1))) with
        | false => rfl
        | true =>
          simp only [bel] at hb
          have := bels_mem.mp hb (.ref (H.length + 1)) (by simp)
          simp only [bel, decide_eq_true_eq] at this
          omega
  · -- no tuple
    obtain ⟨o, ho⟩ : ∃ o : MH, o = [.lst T, .dct []] := ⟨_, rfl⟩
    obtain ⟨k, ns3, k0, k1, p3, e3⟩ := draw_ok (s := s) (g := g ++ o) (k := 6) p2 (by omega) (by omega) (show c + 2 < 1000000 by omega)
    rw [ex] at e3
    obtain ⟨H3, hH3⟩ : ∃ H3, H3 = DK s ns3 (c + 2 + 1) (g ++ o) := ⟨_, rfl⟩
    rw [← hH3] at e3
    have hlen : H.length = 3 + g.length := by rw [hH]; simp [DK]; omega
    have Q : ∀ v, ixL [.ref H.length, .non, .tup [], .str "rows", .int 0, .ref (H.length + 1)] (.int k) H3 = .ok v H3 → b_law_spoilt [some (.ref 2), some (.ref (l + 3)), none, none, none, none] (DK s ns c g) = .rt v H3 := fun v hv => by
      unfold b_law_spoilt
      refine (P _).trans ?_
      rw [ho] at e3
      simp [mEq, mEqB, scalM, itemsOf, hL, e3, hv]
    have fA : ∀ v, bel 0 v = true → v ≠ .tup T → (∀ h, Rdy h v) → ixL [.ref H.length, .non, .tup [], .str "rows", .int 0, .ref (H.length + 1)] (.int k) H3 = .ok v H3 → ∃ v ns' c' g', Pos0 ns' ∧ c' ≤ c + 4 ∧ v ≠ .tup T ∧ Rdy (DK s ns' c' (g ++ g')) v ∧ m_law_spoilt [.ref 2, .ref (l + 3)] (DK s ns c g) = .ok v (DK s ns' c' (g ++ g')) := fun v b n r e =>
      ⟨v, ns3, c + 3, [], p3, by omega, n, r _, by
        have := Q v e
        rw [hH3] at this
        refine runs rfl this ?_
        rw [List.append_nil]
        exact gcA b⟩
    have fB : ∀ n : Nat, H.length ≤ n → Rdy H3 (.ref n) → ixL [.ref H.length, .non, .tup [], .str "rows", .int 0, .ref (H.length + 1)] (.int k) H3 = .ok (.ref n) H3 → ∃ v ns' c' g', Pos0 ns' ∧ c' ≤ c + 4 ∧ v ≠ .tup T ∧ Rdy (DK s ns' c' (g ++ g')) v ∧ m_law_spoilt [.ref 2, .ref (l + 3)] (DK s ns c g) = .ok v (DK s ns' c' (g ++ g')) := fun n hn r e =>
      ⟨.ref n, ns3, c + 3, o, p3, by omega, by simp, by rw [hH3] at r; exact r, by
        have := Q _ e
        rw [hH3] at this
        refine runs rfl this (gc_new ?_)
        have hd : (DK s ns c g).length = H.length := by rw [hlen]; simp [DK]; omega
        rw [hd]
        simp only [bel, decide_eq_false_iff_not]
        omega⟩
    have : k = 0 ∨ k = 1 ∨ k = 2 ∨ k = 3 ∨ k = 4 ∨ k = 5 := by omega
    have tn : (.tup [] : MV) ≠ .tup T := by
      intro z
      cases z
      simp at iT
    have h3a : H3[H.length]? = some (.lst T) := by
      rw [hH3, hlen, show 3 + g.length = g.length + 3 by omega]
      show (g ++ o)[g.length]? = _
      rw [ho]; simp
    have h3b : H3[H.length + 1]? = some (.dct []) := by
      rw [hH3, hlen, show 3 + g.length + 1 = (g.length + 1) + 3 by omega]
      show (g ++ o)[g.length + 1]? = _
      rw [ho]; exact get1
    rcases this with rfl | rfl | rfl | rfl | rfl | rfl
    · exact fB H.length (Nat.le_refl _) (.lst _ _ h3a) (by simp [ixL, i0])
    · exact fA .non (by simp [bel]) (by simp) (fun h => .non) (by simp [ixL, i1])
    · exact fA (.tup []) (by simp [bel, bels]) tn (fun h => .tup _ (by simp)) (by simp [ixL, i2])
    · exact fA (.str "rows") (by simp [bel]) (by simp) (fun h => .str _) (by simp [ixL, i3])
    · exact fA (.int 0) (by simp [bel]) (by simp) (fun h => .int _) (by simp [ixL, i4])
    · exact fB (H.length + 1) (by omega) (.dct _ _ h3b) (by simp [ixL, show atI [MV.ref H.length, MV.non, MV.tup [], MV.str "rows", MV.int 0, MV.ref (H.length + 1)] 5 = some (.ref (H.length + 1)) from ixNat (i := 5) rfl])
  · by_cases i00 : i = 0
    · -- a bad part
      obtain ⟨o, ho⟩ : ∃ o : MH, o = [.lst (T.take i)] := ⟨_, rfl⟩
      obtain ⟨jv, ns3, j0', j1', p3, e3⟩ := draw_ok (s := s) (g := g) (k := (row.length : Int)) p2 (by omega) (by omega) (show c + 2 < 1000000 by omega)
      rw [← hH] at e3
      obtain ⟨j, rfl⟩ : ∃ j : Nat, jv = (j : Int) := ⟨jv.toNat, by omega⟩
      have jl : j < row.length := by omega
      obtain ⟨x, hx⟩ : ∃ x, row[j]? = some x := ⟨row[j], by simp [jl]⟩
      obtain ⟨v, ns4, p4, vn, vr, vb, e4⟩ := bad_ok (s := s) (g := g ++ o) (c := c + 3) p3 (by omega) (rok x (List.mem_of_getElem? hx))
      obtain ⟨H3, hH3⟩ : ∃ H3, H3 = DK s ns3 (c + 3) g := ⟨_, rfl⟩
      have e3' : m_law_draw [.ref 2, .int (row.length : Int)] H = .ok (.int (j : Int)) H3 := by rw [hH3]; exact e3
      rw [show DK s ns3 (c + 3) (g ++ o) = H3 ++ o by rw [hH3]; rfl] at e4
      obtain ⟨H4, hH4⟩ : ∃ H4, H4 = DK s ns4 (c + 3 + 1) g := ⟨_, rfl⟩
      rw [show DK s ns4 (c + 3 + 1) (g ++ o) = H4 ++ o by rw [hH4]; rfl] at e4
      have hlen3 : H3.length = 3 + g.length := by rw [hH3]; simp [DK]; omega
      have hlen4 : H4.length = H3.length := by rw [hlen3, hH4]; simp [DK]; omega
      have aj : atI row (j : Int) = some x := ixNat hx
      have cR : cutM row none (some (j : Int)) = row.take j := cut_to (by omega)
      have cR1 : cutM row (some ((j : Int) + 1)) none = row.drop (j + 1) := by rw [show ((j : Int) + 1) = ((j + 1 : Nat) : Int) by omega]; exact cut_from (by omega)
      have hL3 : H3[l + 3]? = some (.lst T) := by rw [hH3]; exact hl
      have hL4 : H4[l + 3]? = some (.lst T) := by rw [hH4]; exact hl
      have slT3 : mSl (.ref (l + 3)) none (some (i : Int)) H3 = .ok (.ref H3.length) (H3 ++ o) := by unfold mSl; simp only [hL3, cT, ho]
      have lr1 : (row.take j).length = j := by rw [List.length_take]; omega
      have lr2 : (row.drop (j + 1)).length = row.length - (j + 1) := by rw [List.length_drop]
      obtain ⟨nr, hnr⟩ : ∃ nr, nr = row.take j ++ v :: row.drop (j + 1) := ⟨_, rfl⟩
      have nrn : nr ≠ row := by rw [hnr]; exact mid_ne hx vn
      have brow : bels 0 row = true := by have := bT _ (List.mem_of_getElem? tI); simpa only [bel] using this
      have fin : ∀ z, z ∈ T.take i ++ .tup nr :: T.drop (i + 1) → (∀ h, Rdy h z) ∧ bel 0 z = true := fun z hz => by
        rcases List.mem_append.mp hz with q | q
        · exact okT z (memt q)
        · rcases List.mem_cons.mp q with q | q
          · rw [q]
            have parts : ∀ y, y ∈ nr → (∀ h, Rdy h y) ∧ bel 0 y = true := fun y hy => by
              rw [hnr] at hy
              rcases List.mem_append.mp hy with q | q
              · exact ⟨fun h => (rok y (List.mem_of_mem_take q)).flat.rdy h, (rok y (List.mem_of_mem_take q)).flat.b0⟩
              · rcases List.mem_cons.mp q with q | q
                · rw [q]; exact ⟨vr, vb⟩
                · exact ⟨fun h => (rok y (List.mem_of_mem_drop q)).flat.rdy h, (rok y (List.mem_of_mem_drop q)).flat.b0⟩
            exact ⟨fun h => .tup _ fun y hy => (parts y hy).1 h, by simp only [bel]; exact bels_mem.mpr fun y hy => (parts y hy).2⟩
          · exact okT z (memd q)
      have hne : T.take i ++ .tup nr :: T.drop (i + 1) ≠ T := mid_ne tI (by simpa using nrn)
      refine ⟨.tup (T.take i ++ .tup nr :: T.drop (i + 1)), ns4, c + 4, [], p4, by omega, by simpa using hne, .tup _ fun z hz => (fin z hz).1 _, ?_⟩
      rw [List.append_nil]
      unfold m_law_spoilt
      refine runs rfl (h' := DK s ns4 (c + 4) (g ++ (o ++ [.lst (T.drop (i + 1))]))) ?_ (gcA (by simp only [bel]; exact bels_mem.mpr fun z hz => (fin z hz).2))
      rw [show DK s ns4 (c + 4) (g ++ (o ++ [MO.lst (T.drop (i + 1))])) = H4 ++ o ++ [.lst (T.drop (i + 1))] by rw [hH4]; simp [DK]; omega]
      unfold b_law_spoilt
      refine (P _).trans ?_
      have slF4 : mSl (.ref (l + 3)) (some ((i : Int) + 1)) none (H4 ++ o) = .ok (.ref (H4.length + 1)) (H4 ++ o ++ [.lst (T.drop (i + 1))]) := by unfold mSl; simp only [gap hL4, cF1]; rw [ho]; simp
      have mr : mIx (.tup row) (.int (j : Int)) = fun h => .ok x h := by funext h; unfold mIx ixL; simp only [aj]; rfl
      have s1 : mSl (.tup row) none (some (j : Int)) = fun h => .ok (.tup (row.take j)) h := by funext h; unfold mSl; simp only [cR]
      have s2 : mSl (.tup row) (some ((j : Int) + 1)) none = fun h => .ok (.tup (row.drop (j + 1))) h := by funext h; unfold mSl; simp only [cR1]
      have a1 : mAdd (.tup (row.take j)) (.tup [v]) = fun h => .ok (.tup (row.take j ++ [v])) h := by
        funext h
        unfold mAdd
        exact if_pos (show (row.take j).length + 1 ≤ 1000000 by omega)
      have a2 : mAdd (.tup (row.take j ++ [v])) (.tup (row.drop (j + 1))) = fun h => .ok (.tup nr) h := by
        funext h
        unfold mAdd
        rw [hnr, show row.take j ++ v :: row.drop (j + 1) = row.take j ++ [v] ++ row.drop (j + 1) by simp]
        exact if_pos (show (row.take j ++ [v]).length + (row.drop (j + 1)).length ≤ 1000000 by rw [List.length_append, List.length_singleton]; omega)
      have l0 : lstAt (.ref H3.length) (H4 ++ o) = some (T.take i) := by unfold lstAt; rw [← hlen4, ho]; simp only [get0]
      have l1 : lstAt (.ref (H4.length + 1)) (H4 ++ o ++ [.lst (T.drop (i + 1))]) = some (T.drop (i + 1)) := by unfold lstAt; rw [ho, List.append_assoc]; simp only [List.cons_append, List.nil_append, get1]
      have ge0 : mGt (.int (i : Int)) (.int 0) = fun h => .ok (.bl false) h := by funext h; unfold mGt; simp; omega
      generalize hA1 : T.take i = A1 at lt1 l0 ⊢
      generalize hB1 : T.drop (i + 1) = B1 at ld1 slF4 l1 ⊢
      generalize hr1 : row.take j = r1 at s1 a1 a2 ⊢
      generalize hr2 : row.drop (j + 1) = r2 at s2 a2 ⊢
      have y2 : A1.length ≤ 999999 := by omega
      have y3 : A1.length + 1 + B1.length ≤ 1000000 := by omega
      generalize hX : H4 ++ o = X4 at e4 slF4 l0 l1 ⊢
      generalize hY : X4 ++ [MO.lst B1] = X5 at slF4 l1 ⊢
      simp [mEq, mEqB, scalM, ge0, mLen, e3', slT3, s1, s2, mr, a1, a2, e4, l0, l1, slF4, y2, y3, ai]
    · -- two rows in the wrong order
      obtain ⟨i', hi'⟩ : ∃ i', i = i' + 1 := ⟨i - 1, by omega⟩
      obtain ⟨row', hrow'⟩ : ∃ row', R[i']? = some row' := ⟨R[i']'(by omega), by simp⟩
      have tI' : T[i']? = some (.tup row') := by rw [hT]; unfold tups; rw [List.getElem?_map, hrow']; rfl
      have dif : row' ≠ row := ok.adj i' row' row hrow' (by rw [← hi']; exact hrow)
      have aI' : atI T ((i : Int) - 1) = some (.tup row') := by rw [show ((i : Int) - 1) = ((i' : Nat) : Int) by omega]; exact ixNat tI'
      have cT' : cutM T none (some ((i : Int) - 1)) = T.take i' := by rw [show ((i : Int) - 1) = ((i' : Nat) : Int) by omega]; exact cut_to (by omega)
      have slT' : mSl (.ref (l + 3)) none (some ((i : Int) - 1)) H = .ok (.ref H.length) (H ++ [.lst (T.take i')]) := by unfold mSl; simp only [hL, cT']
      have lt2 : (T.take i').length = i' := by rw [List.length_take]; omega
      refine A (T.take i' ++ .tup row :: .tup row' :: T.drop (i + 1)) [.lst (T.take i'), .lst (T.drop (i + 1))] (fun e => ?_) (fun z hz => ?_) ?_
      · have : (T.take i' ++ .tup row :: .tup row' :: T.drop (i + 1))[i']? = some (.tup row) := get_mid _ _ _ (by omega)
        rw [e, tI'] at this
        simp at this
        exact dif this
      · rcases List.mem_append.mp hz with q | q
        · exact okT z (memt q)
        · rcases List.mem_cons.mp q with q | q
          · rw [q]; exact okT _ (List.mem_of_getElem? tI)
          · rcases List.mem_cons.mp q with q | q
            · rw [q]; exact okT _ (List.mem_of_getElem? tI')
            · exact okT z (memd q)
      · unfold b_law_spoilt
        refine (P _).trans ?_
        have f1 := slF1 [.lst (T.take i')]
        have ixr : mIx (.ref (l + 3)) (.int ((i : Int) - 1)) = fun h => match h[l + 3]? with | some (.lst xs) => ixL xs (.int ((i : Int) - 1)) h | some (.dct kvs) => ixD kvs (.int ((i : Int) - 1)) h | _ => .bad := rfl
        generalize T.take i' = A1 at slT' lt2 f1 ⊢
        generalize T.drop (i + 1) = B1 at f1 ld1 ⊢
        have y2 : A1.length ≤ 999998 := by omega
        have y3 : A1.length + 2 + B1.length ≤ 1000000 := by omega
        have gt : (0 : Int) < (i : Int) := by omega
        have si : mSub (.int (i : Int)) (.int 1) = fun h => .ok (.int ((i : Int) - 1)) h := rfl
        have m1 : mIx (.ref (l + 3)) (.int ((i : Int) - 1)) (H ++ [.lst A1]) = .ok (.tup row') (H ++ [.lst A1]) := by unfold mIx; simp only [kL]; unfold ixL; simp only [aI']; rfl
        have ge : mGt (.int (i : Int)) (.int 0) = fun h => .ok (.bl true) h := by funext h; unfold mGt; simp; omega
        have gi : 0 < i := by omega
        simp at f1
        simp [mEq, mEqB, scalM, slT', f1, la0, la1, y2, y3, ai, si, m1, ge]
  · -- a bad part
    obtain ⟨o, ho⟩ : ∃ o : MH, o = [.lst (T.take i)] := ⟨_, rfl⟩
    obtain ⟨jv, ns3, j0', j1', p3, e3⟩ := draw_ok (s := s) (g := g) (k := (row.length : Int)) p2 (by omega) (by omega) (show c + 2 < 1000000 by omega)
    rw [← hH] at e3
    obtain ⟨j, rfl⟩ : ∃ j : Nat, jv = (j : Int) := ⟨jv.toNat, by omega⟩
    have jl : j < row.length := by omega
    obtain ⟨x, hx⟩ : ∃ x, row[j]? = some x := ⟨row[j], by simp [jl]⟩
    obtain ⟨v, ns4, p4, vn, vr, vb, e4⟩ := bad_ok (s := s) (g := g ++ o) (c := c + 3) p3 (by omega) (rok x (List.mem_of_getElem? hx))
    obtain ⟨H3, hH3⟩ : ∃ H3, H3 = DK s ns3 (c + 3) g := ⟨_, rfl⟩
    have e3' : m_law_draw [.ref 2, .int (row.length : Int)] H = .ok (.int (j : Int)) H3 := by rw [hH3]; exact e3
    rw [show DK s ns3 (c + 3) (g ++ o) = H3 ++ o by rw [hH3]; rfl] at e4
    obtain ⟨H4, hH4⟩ : ∃ H4, H4 = DK s ns4 (c + 3 + 1) g := ⟨_, rfl⟩
    rw [show DK s ns4 (c + 3 + 1) (g ++ o) = H4 ++ o by rw [hH4]; rfl] at e4
    have hlen3 : H3.length = 3 + g.length := by rw [hH3]; simp [DK]; omega
    have hlen4 : H4.length = H3.length := by rw [hlen3, hH4]; simp [DK]; omega
    have aj : atI row (j : Int) = some x := ixNat hx
    have cR : cutM row none (some (j : Int)) = row.take j := cut_to (by omega)
    have cR1 : cutM row (some ((j : Int) + 1)) none = row.drop (j + 1) := by rw [show ((j : Int) + 1) = ((j + 1 : Nat) : Int) by omega]; exact cut_from (by omega)
    have hL3 : H3[l + 3]? = some (.lst T) := by rw [hH3]; exact hl
    have hL4 : H4[l + 3]? = some (.lst T) := by rw [hH4]; exact hl
    have slT3 : mSl (.ref (l + 3)) none (some (i : Int)) H3 = .ok (.ref H3.length) (H3 ++ o) := by unfold mSl; simp only [hL3, cT, ho]
    have lr1 : (row.take j).length = j := by rw [List.length_take]; omega
    have lr2 : (row.drop (j + 1)).length = row.length - (j + 1) := by rw [List.length_drop]
    obtain ⟨nr, hnr⟩ : ∃ nr, nr = row.take j ++ v :: row.drop (j + 1) := ⟨_, rfl⟩
    have nrn : nr ≠ row := by rw [hnr]; exact mid_ne hx vn
    have brow : bels 0 row = true := by have := bT _ (List.mem_of_getElem? tI); simpa only [bel] using this
    have fin : ∀ z, z ∈ T.take i ++ .tup nr :: T.drop (i + 1) → (∀ h, Rdy h z) ∧ bel 0 z = true := fun z hz => by
      rcases List.mem_append.mp hz with q | q
      · exact okT z (memt q)
      · rcases List.mem_cons.mp q with q | q
        · rw [q]
          have parts : ∀ y, y ∈ nr → (∀ h, Rdy h y) ∧ bel 0 y = true := fun y hy => by
            rw [hnr] at hy
            rcases List.mem_append.mp hy with q | q
            · exact ⟨fun h => (rok y (List.mem_of_mem_take q)).flat.rdy h, (rok y (List.mem_of_mem_take q)).flat.b0⟩
            · rcases List.mem_cons.mp q with q | q
              · rw [q]; exact ⟨vr, vb⟩
              · exact ⟨fun h => (rok y (List.mem_of_mem_drop q)).flat.rdy h, (rok y (List.mem_of_mem_drop q)).flat.b0⟩
          exact ⟨fun h => .tup _ fun y hy => (parts y hy).1 h, by simp only [bel]; exact bels_mem.mpr fun y hy => (parts y hy).2⟩
        · exact okT z (memd q)
    have hne : T.take i ++ .tup nr :: T.drop (i + 1) ≠ T := mid_ne tI (by simpa using nrn)
    refine ⟨.tup (T.take i ++ .tup nr :: T.drop (i + 1)), ns4, c + 4, [], p4, by omega, by simpa using hne, .tup _ fun z hz => (fin z hz).1 _, ?_⟩
    rw [List.append_nil]
    unfold m_law_spoilt
    refine runs rfl (h' := DK s ns4 (c + 4) (g ++ (o ++ [.lst (T.drop (i + 1))]))) ?_ (gcA (by simp only [bel]; exact bels_mem.mpr fun z hz => (fin z hz).2))
    rw [show DK s ns4 (c + 4) (g ++ (o ++ [MO.lst (T.drop (i + 1))])) = H4 ++ o ++ [.lst (T.drop (i + 1))] by rw [hH4]; simp [DK]; omega]
    unfold b_law_spoilt
    refine (P _).trans ?_
    have slF4 : mSl (.ref (l + 3)) (some ((i : Int) + 1)) none (H4 ++ o) = .ok (.ref (H4.length + 1)) (H4 ++ o ++ [.lst (T.drop (i + 1))]) := by unfold mSl; simp only [gap hL4, cF1]; rw [ho]; simp
    have mr : mIx (.tup row) (.int (j : Int)) = fun h => .ok x h := by funext h; unfold mIx ixL; simp only [aj]; rfl
    have s1 : mSl (.tup row) none (some (j : Int)) = fun h => .ok (.tup (row.take j)) h := by funext h; unfold mSl; simp only [cR]
    have s2 : mSl (.tup row) (some ((j : Int) + 1)) none = fun h => .ok (.tup (row.drop (j + 1))) h := by funext h; unfold mSl; simp only [cR1]
    have a1 : mAdd (.tup (row.take j)) (.tup [v]) = fun h => .ok (.tup (row.take j ++ [v])) h := by
      funext h
      unfold mAdd
      exact if_pos (show (row.take j).length + 1 ≤ 1000000 by omega)
    have a2 : mAdd (.tup (row.take j ++ [v])) (.tup (row.drop (j + 1))) = fun h => .ok (.tup nr) h := by
      funext h
      unfold mAdd
      rw [hnr, show row.take j ++ v :: row.drop (j + 1) = row.take j ++ [v] ++ row.drop (j + 1) by simp]
      exact if_pos (show (row.take j ++ [v]).length + (row.drop (j + 1)).length ≤ 1000000 by rw [List.length_append, List.length_singleton]; omega)
    have l0 : lstAt (.ref H3.length) (H4 ++ o) = some (T.take i) := by unfold lstAt; rw [← hlen4, ho]; simp only [get0]
    have l1 : lstAt (.ref (H4.length + 1)) (H4 ++ o ++ [.lst (T.drop (i + 1))]) = some (T.drop (i + 1)) := by unfold lstAt; rw [ho, List.append_assoc]; simp only [List.cons_append, List.nil_append, get1]
    generalize hA1 : T.take i = A1 at lt1 l0 ⊢
    generalize hB1 : T.drop (i + 1) = B1 at ld1 slF4 l1 ⊢
    generalize hr1 : row.take j = r1 at s1 a1 a2 ⊢
    generalize hr2 : row.drop (j + 1) = r2 at s2 a2 ⊢
    have y2 : A1.length ≤ 999999 := by omega
    have y3 : A1.length + 1 + B1.length ≤ 1000000 := by omega
    generalize hX : H4 ++ o = X4 at e4 slF4 l0 l1 ⊢
    generalize hY : X4 ++ [MO.lst B1] = X5 at slF4 l1 ⊢
    simp [mEq, mEqB, scalM, mLen, e3', slT3, s1, s2, mr, a1, a2, e4, l0, l1, slF4, y2, y3, ai]
end My

set_option Elab.async false
set_option linter.all false
set_option maxRecDepth 100000
set_option maxHeartbeats 4000000
namespace My
open PySem L2 Sm
instance {x : Str} : Decidable (WordOk x) := inferInstanceAs (Decidable (_ ∧ _ ∧ _))
theorem wd0 : WordOk "beat" := by decide +kernel
theorem wd1 : WordOk "push" := by decide +kernel
theorem wd2 : WordOk "unless" := by decide +kernel
theorem wd3 : WordOk "jump" := by decide +kernel
theorem wd4 : WordOk "name" := by decide +kernel
theorem wd5 : WordOk "send" := by decide +kernel
theorem wd6 : WordOk "setname" := by decide +kernel
theorem wd7 : WordOk "+" := by decide +kernel
theorem wd8 : WordOk "ab" := by decide +kernel
theorem wd9 : WordOk "size" := by decide +kernel
theorem wd10 : WordOk "say" := by decide +kernel
theorem wd11 : WordOk "list" := by decide +kernel
theorem wd12 : WordOk "drop" := by decide +kernel
theorem wd13 : WordOk "try" := by decide +kernel
theorem wd14 : WordOk "untry" := by decide +kernel
theorem wd15 : WordOk "return" := by decide +kernel
theorem po_int {i : Int} : PartOk (.int i) ↔ -1000 ≤ i ∧ i ≤ 1000 := ⟨fun h => by cases h with | int i a b => exact ⟨a, b⟩, fun h => .int i h.1 h.2⟩
theorem po_str {x : Str} : PartOk (.str x) ↔ WordOk x := ⟨fun h => by cases h with | str x a => exact a, fun h => .str x h⟩
theorem po_bl {b : Bool} : PartOk (.bl b) ↔ True := ⟨fun _ => trivial, fun _ => .bl b⟩
theorem po_non : PartOk .non ↔ True := ⟨fun _ => trivial, fun _ => .non⟩
def adjP : List (List MV) → Prop
  | a :: b :: r => a ≠ b ∧ adjP (b :: r)
  | _ => True
theorem adj_get : ∀ {R : List (List MV)}, adjP R → ∀ (i : Nat) (a b : List MV), R[i]? = some a → R[i + 1]? = some b → a ≠ b
  | [], _, i, a, b, h1, h2 => by simp at h1
  | [x], _, i, a, b, h1, h2 => by simp at h2
  | x :: y :: r, h, 0, a, b, h1, h2 => by
    simp at h1 h2
    subst h1 h2
    exact h.1
  | x :: y :: r, h, i + 1, a, b, h1, h2 => by
    rw [List.getElem?_cons_succ] at h1 h2
    exact adj_get (R := y :: r) h.2 i a b h1 h2
def rowP (r : List MV) : Prop := 0 < r.length ∧ r.length ≤ 10 ∧ ∀ x, x ∈ r → PartOk x
def allP : List (List MV) → Prop
  | [] => True
  | r :: R => rowP r ∧ allP R
theorem allP_mem : ∀ {R : List (List MV)}, allP R → ∀ r, r ∈ R → rowP r
  | [], _, r, h => by simp at h
  | x :: R, h, r, hr => by
    rcases List.mem_cons.mp hr with q | q
    · rw [q]; exact h.1
    · exact allP_mem h.2 r q
theorem rows_good {t : Nd} {m a : Nat} {R0 : Nat → List (List MV)} {W : Nd → Nd} {Rw : List (List MV) → List (List MV)} (p : Pl t m R0) (y : Wy W a Rw) : RowsOk (rowsM a m R0 Rw) := by
  suffices H : 0 < (rowsM a m R0 Rw).length ∧ (rowsM a m R0 Rw).length ≤ 100 ∧ allP (rowsM a m R0 Rw) ∧ adjP (rowsM a m R0 Rw) from ⟨H.1, H.2.1, allP_mem H.2.2.1, adj_get H.2.2.2⟩
  cases y <;> cases p <;> refine ⟨?_, ?_, ?_, ?_⟩
  all_goals first
    | (simp [rowsM, tailR, endR]; done)
    | (simp [rowsM, tailR, endR, adjP]; done)
    | (simp [rowsM, tailR, endR, allP, rowP, po_int, po_str, po_bl, po_non, wd0, wd1, wd2, wd3, wd4, wd5, wd6, wd7, wd8, wd9, wd10, wd11, wd12, wd13, wd14, wd15]; done)
    | (simp [rowsM, tailR, endR, allP, rowP, po_int, po_str, po_bl, po_non, wd0, wd1, wd2, wd3, wd4, wd5, wd6, wd7, wd8, wd9, wd10, wd11, wd12, wd13, wd14, wd15]; omega)
end My

set_option Elab.async false
set_option linter.all false
set_option maxRecDepth 100000
set_option maxHeartbeats 4000000
namespace My
open PySem L2 Sm
theorem stand_ok {M v : MV} {R : List (List MV)} {h : MH} (hr : ∀ h, m_rows_of [M, .int (-1)] h = .ok (.tup (tups R)) h) (ok : RowsOk R) (rd : Rdy h v) : ∃ b : Bool, m_rows_stand [M, .int (-1), v] h = .ok (.bl b) h ∧ (b = true ↔ v = .tup (tups R)) := by
  have few := ok.few
  obtain ⟨b, e, q⟩ := just_rows (rows := R) (by omega) (fun r hr => ⟨by have := (ok.row r hr).2.1; omega, fun x hx => ((ok.row r hr).2.2 x hx).flat⟩) v h rd
  refine ⟨b, ?_, q⟩
  unfold m_rows_stand
  refine runs (h' := h) rfl ?_ (gc_len rfl)
  unfold b_rows_stand
  show sRet _ [some M, some (.int (-1)), some v] h = _
  simp [hr, e]
theorem law_ok (ns : List Int) : ∃ h, m_law [.scr (ns.map MV.int)] [] = .ok (.bl true) h := by
  obtain ⟨s, ms, p0, e0⟩ := deck_ok ns
  obtain ⟨ns1, g1, t, m, a, R0, W, Rw, L, p1, pl, wy, e1, hL, L3⟩ := method_ok (s := s) (ns := ms) (c := 0) (g := []) p0 (by omega)
  obtain ⟨M, hM⟩ : ∃ M, M = methM W t := ⟨_, rfl⟩
  obtain ⟨R, hR⟩ : ∃ R, R = rowsM a m R0 Rw := ⟨_, rfl⟩
  have ok : RowsOk R := by rw [hR]; exact rows_good pl wy
  have hr : ∀ h, m_rows_of [M, .int (-1)] h = .ok (.tup (tups R)) h := by rw [hM, hR]; exact rows_methM pl wy
  rw [List.nil_append, ← hM] at e1
  rw [List.nil_append, ← hR] at hL
  obtain ⟨l, rfl⟩ : ∃ l, L = l + 3 := ⟨L - 3, by omega⟩
  have hl : g1[l]? = some (.lst (tups R)) := hL
  obtain ⟨Sc, hSc⟩ : ∃ Sc, Sc = MV.scr (ns.map MV.int) := ⟨_, rfl⟩
  rw [← hSc] at e0 ⊢
  obtain ⟨Bd, hB⟩ : ∃ Bd : MSt, Bd = (sIf (tOfE (eCallD m_rows_stand [] (aCons (eVar 2) (aCons (eUn mNeg (eC (.int 1))) (aCons (eCallD m_law_spoilt [] (aCons (eVar 1) (aCons (eVar 3) aNil))) aNil))))) (sRet (eC (.bl false))) sNil) := ⟨_, rfl⟩
  have loop : ∀ (xs : List MV) (ns : List Int) (c : Nat) (g : MH) (v4 : Option MV), Pos0 ns → c + 4 * xs.length ≤ 1000 → g[l]? = some (.lst (tups R)) → ∃ v4' ns' c' g', forGo [] (.one 4) Bd xs [some Sc, some (.ref 2), some M, some (.ref (l + 3)), v4] (DK s ns c g) = .nx [some Sc, some (.ref 2), some M, some (.ref (l + 3)), v4'] (DK s ns' c' g') := by
    intro xs
    induction xs with
    | nil =>
      intro ns c g v4 _ _ _
      refine ⟨v4, ns, c, g, ?_⟩
      have g0 : gOk [] (DK s ns c g) := by intro q hq; simp at hq
      simp [forGo, g0]
    | cons x xs ih =>
      intro ns c g v4 hp hc hg
      simp only [List.length_cons] at hc
      obtain ⟨v, ns2, c2, g2, p2, c2l, vn, vr, e2⟩ := spoilt_ok (s := s) ok hp (show c < 800000 by omega) hg
      obtain ⟨b, e3, q3⟩ := stand_ok hr ok vr
      have bf : b = false := by
        cases b with
        | false => rfl
        | true => exact absurd (q3.mp rfl) vn
      rw [bf] at e3
      obtain ⟨v4', ns', c', g', e4⟩ := ih ns2 c2 (g ++ g2) (some x) p2 (by omega) (by rw [List.getElem?_append_left (lt_of_get hg)]; exact hg)
      refine ⟨v4', ns', c', g', ?_⟩
      have g0 : gOk [] (DK s ns c g) := by intro q hq; simp at hq
      rw [forGo]
      have turn : Bd [some Sc, some (.ref 2), some M, some (.ref (l + 3)), some x] (DK s ns c g) = .nx [some Sc, some (.ref 2), some M, some (.ref (l + 3)), some x] (DK s ns2 c2 (g ++ g2)) := by
        rw [hB]
        simp [e2, e3]
      simp only [g0, if_true, Tg.set]
      rw [show ([some Sc, some (.ref 2), some M, some (.ref (l + 3)), v4] : MS).set 4 (some x) = [some Sc, some (.ref 2), some M, some (.ref (l + 3)), some x] from rfl, turn]
      exact e4
  obtain ⟨v4', ns', c', g', lp⟩ := loop (intR 0 4) ns1 3 g1 none p1 (by simp [intR]) hl
  obtain ⟨b, e3, q3⟩ := stand_ok (v := .tup (tups R)) (h := DK s ns1 3 g1) hr ok (.tup _ (row_rdy ok _))
  have bt : b = true := q3.mpr rfl
  rw [bt] at e3
  refine ⟨_, runs rfl (h' := DK s ns' c' g') ?_ rfl⟩
  unfold b_law
  show sSeq _ _ [some Sc, none, none, none, none] [] = _
  rw [seq_nx (ρ1 := [some Sc, some (.ref 2), none, none, none]) (h1 := DK s ms 0 []) (by simp [e0])]
  rw [seq_nx (ρ1 := [some Sc, some (.ref 2), some M, some (.ref (l + 3)), none]) (h1 := DK s ns1 3 g1) (by simp [e1, Tg.set, setMany])]
  have hL' : itemsOf (.ref (l + 3)) (DK s ns1 3 g1) = some (tups R) := by unfold itemsOf; simp only [hL]
  rw [seq_nx (ρ1 := [some Sc, some (.ref 2), some M, some (.ref (l + 3)), none]) (h1 := DK s ns1 3 g1) (by
    generalize DK s ns1 3 g1 = H at e3 hL' ⊢
    simp [mTuple, hL', e3])]
  rw [← hB]
  have fr : sFor (iRange1 (aCons (eC (.int 4)) aNil)) (.one 4) Bd [some Sc, some (.ref 2), some M, some (.ref (l + 3)), none] (DK s ns1 3 g1) = .nx [some Sc, some (.ref 2), some M, some (.ref (l + 3)), v4'] (DK s ns' c' g') := by
    have z : iRange1 (aCons (eC (.int 4)) aNil) [some Sc, some (.ref 2), some M, some (.ref (l + 3)), none] (DK s ns1 3 g1) = .ok (intR 0 4, []) (DK s ns1 3 g1) := by
      have e : aCons (eC (.int 4)) aNil [some Sc, some (.ref 2), some M, some (.ref (l + 3)), none] (DK s ns1 3 g1) = .ok [.int 4] (DK s ns1 3 g1) := by simp
      unfold iRange1
      rw [e, Res.bind_ok]
      simp only []
      rw [if_pos ⟨by omega, by omega⟩]
      rfl
    unfold sFor
    rw [z, Res.st_ok]
    exact lp
  rw [seq_nx fr]
  simp
end My

set_option Elab.async false
set_option linter.all false
set_option maxRecDepth 100000
set_option maxHeartbeats 8000000
namespace My
open PySem L2

/-- the law's promise, whatever the classes' places -/
def spLaw (K : PySem.W.Frag) : Sp := fun vs H Q E => ∃ (a : Addr) (ns : List Int), vs = [.ref a] ∧ ns.length ≤ 63 ∧ Only H ∧ SqL K H a (ns.map V.int) ∧ Q = (fun v _ => v = .bl true) ∧ E = (fun _ _ _ => False)
theorem ok_lawS {P : Program} {w : World} {K : PySem.W.Frag} {mg : Str → Option Value} {base : Heap} (T : Tx K mg) : FnOk P w K mg base CX0 127 T.d_law.f T.d_law.fd ["_law_script"] (spLaw K) :=
  (ok_law T).imp fun vs H Q E ⟨a, ns, e1, e2, e3, e4, e5, e6⟩ => by
    subst e1 e5 e6
    exact Sm.law_read (fun ns _ => law_ok ns) H a ns e2 e3 e4
noncomputable def metD_mk {K : PySem.W.Frag} {C : Addr} {x q : Str} {st : Stmt} {ps : List Str} {f dT dE : Addr} {od an oT oE : Option Addr} {sl sT sE : Array (Option Value)} {oc kV dc pm cd ct : Value} {nT nE : Nat}
    (l : K.lookup f = some ⟨oc, od, .func (PySem.W.fnOf x q (defArgs st) (defBody st) (defScope st) (.ref dT) kV dc pm an cd ct), sl⟩)
    (lt : K.lookup dT = some ⟨.type "tuple", oT, .seq #[.ref dE] nT, sT⟩) (le : K.lookup dE = some ⟨.type "tuple", oE, .seq #[] nE, sE⟩)
    (c : PySem.W.codeIn K cd q = true) (k : PySem.W.keepIn K (.ref f) = true) (me : Meth K C x f)
    (h1 : ∀ (T : Addr) (kV doc pm : Value) (an : Option Addr) (cdv ct : Value) (us its : List Value), us.length = ps.length → its.length = 1 →
      ∃ k, bindArgs (PySem.W.fnOf x q (defArgs st) (defBody st) (defScope st) (.ref T) kV doc pm an cdv ct) ⟨us, []⟩ = seqItems? (.ref T) >>= k ∧ k (some its.toArray) = pure (ps.zip us))
    (h2 : ∀ (T : Addr) (kV doc pm : Value) (an : Option Addr) (cdv ct : Value) (us its : List Value), us.length = ps.length - 1 → its.length = 1 →
      ∃ k, bindArgs (PySem.W.fnOf x q (defArgs st) (defBody st) (defScope st) (.ref T) kV doc pm an cdv ct) ⟨us, []⟩ = seqItems? (.ref T) >>= k ∧ k (some its.toArray) = pure (ps.zip (us ++ its))) : MetD K C x q st ps where
  f := f
  fd := _
  E := dE
  e0 := fun H => .inr ⟨_, _, _, le, rfl, rfl, by show 0 ≤ sizeLine; decide, .nil⟩
  fn := ⟨⟨_, _, _, _, _, _, _, _, _, _, rfl, l, c, .inr ⟨by simp, dT, _, [.ref dE], nT, rfl, lt, rfl, .cons rfl .nil⟩, .inl rfl⟩, k⟩
  me := me
  b := fun s us X hlen => by
    rw [List.append_nil] at hlen ⊢
    obtain ⟨k, e1, e2⟩ := h1 dT kV dc pm an cd ct us [.ref dE] hlen rfl
    refine BindsTo.of_looks fun M => ?_
    rw [e1]
    exact looks_items X lt rfl (.of_pure e2)
  bd := fun s us X hlen => by
    have l2 : us.length = ps.length - 1 := by rw [List.length_append] at hlen; simp only [List.length_cons, List.length_nil] at hlen; omega
    obtain ⟨k, e1, e2⟩ := h2 dT kV dc pm an cd ct us [.ref dE] l2 rfl
    refine BindsTo.of_looks fun M => ?_
    rw [e1]
    exact looks_items X lt rfl (.of_pure e2)
theorem all_mk {l : PySem.W.OpenLaw} {w : World} {K : PySem.W.Frag} {h : Heap} {mg : Str → Option Value} {fa : Addr} (X : K.In h) (G : h.Ns mainGlobals mg) (hfa : mg "law" = some (.ref fa))
    {t_PARAMETERS : Tok}
    {t_BODY : Tok}
    {u_PLAIN : Addr} {uo_PLAIN : Option Addr} {us_PLAIN : Array (Option Value)} {un_PLAIN : Nat} {ut_PLAIN_0 ut_PLAIN_1 ut_PLAIN_2 : Tok}
    {u_ONE : Addr} {uo_ONE : Option Addr} {us_ONE : Array (Option Value)} {un_ONE : Nat} {ut_ONE_0 ut_ONE_1 ut_ONE_2 ut_ONE_3 : Tok}
    {C_Shape : Addr}
    {C_Compiler : Addr}
    {f1 : Addr} {od1 an1 : Option Addr} {sl1 : Array (Option Value)} {oc1 kV1 dc1 pm1 cd1 ct1 : Value}
    {f2 : Addr} {od2 an2 : Option Addr} {sl2 : Array (Option Value)} {oc2 kV2 dc2 pm2 cd2 ct2 : Value}
    {f3 : Addr} {od3 an3 : Option Addr} {sl3 : Array (Option Value)} {oc3 kV3 dc3 pm3 cd3 ct3 : Value}
    {f4 : Addr} {od4 an4 : Option Addr} {sl4 : Array (Option Value)} {oc4 kV4 dc4 pm4 cd4 ct4 : Value}
    {f5 : Addr} {od5 an5 : Option Addr} {sl5 : Array (Option Value)} {oc5 kV5 dc5 pm5 cd5 ct5 : Value}
    {f6 : Addr} {od6 an6 : Option Addr} {sl6 : Array (Option Value)} {oc6 kV6 dc6 pm6 cd6 ct6 : Value}
    {f7 : Addr} {od7 an7 : Option Addr} {sl7 : Array (Option Value)} {oc7 kV7 dc7 pm7 cd7 ct7 : Value}
    {f8 : Addr} {od8 an8 : Option Addr} {sl8 : Array (Option Value)} {oc8 kV8 dc8 pm8 cd8 ct8 : Value}
    {f9 : Addr} {od9 an9 : Option Addr} {sl9 : Array (Option Value)} {oc9 kV9 dc9 pm9 cd9 ct9 : Value}
    {f10 dT10 dE10 : Addr} {od10 an10 oT10 oE10 : Option Addr} {sl10 sT10 sE10 : Array (Option Value)} {oc10 kV10 dc10 pm10 cd10 ct10 : Value} {nT10 nE10 : Nat}
    {f11 : Addr} {od11 an11 : Option Addr} {sl11 : Array (Option Value)} {oc11 kV11 dc11 pm11 cd11 ct11 : Value}
    {f12 : Addr} {od12 an12 : Option Addr} {sl12 : Array (Option Value)} {oc12 kV12 dc12 pm12 cd12 ct12 : Value}
    {f13 : Addr} {od13 an13 : Option Addr} {sl13 : Array (Option Value)} {oc13 kV13 dc13 pm13 cd13 ct13 : Value}
    {f14 : Addr} {od14 an14 : Option Addr} {sl14 : Array (Option Value)} {oc14 kV14 dc14 pm14 cd14 ct14 : Value}
    {f15 : Addr} {od15 an15 : Option Addr} {sl15 : Array (Option Value)} {oc15 kV15 dc15 pm15 cd15 ct15 : Value}
    {f16 : Addr} {od16 an16 : Option Addr} {sl16 : Array (Option Value)} {oc16 kV16 dc16 pm16 cd16 ct16 : Value}
    {f17 : Addr} {od17 an17 : Option Addr} {sl17 : Array (Option Value)} {oc17 kV17 dc17 pm17 cd17 ct17 : Value}
    {f18 : Addr} {od18 an18 : Option Addr} {sl18 : Array (Option Value)} {oc18 kV18 dc18 pm18 cd18 ct18 : Value}
    {f19 : Addr} {od19 an19 : Option Addr} {sl19 : Array (Option Value)} {oc19 kV19 dc19 pm19 cd19 ct19 : Value}
    {f20 : Addr} {od20 an20 : Option Addr} {sl20 : Array (Option Value)} {oc20 kV20 dc20 pm20 cd20 ct20 : Value}
    {f21 : Addr} {od21 an21 : Option Addr} {sl21 : Array (Option Value)} {oc21 kV21 dc21 pm21 cd21 ct21 : Value}
    {f22 : Addr} {od22 an22 : Option Addr} {sl22 : Array (Option Value)} {oc22 kV22 dc22 pm22 cd22 ct22 : Value}
    {f23 : Addr} {od23 an23 : Option Addr} {sl23 : Array (Option Value)} {oc23 kV23 dc23 pm23 cd23 ct23 : Value}
    {f24 : Addr} {od24 an24 : Option Addr} {sl24 : Array (Option Value)} {oc24 kV24 dc24 pm24 cd24 ct24 : Value}
    {f25 : Addr} {od25 an25 : Option Addr} {sl25 : Array (Option Value)} {oc25 kV25 dc25 pm25 cd25 ct25 : Value}
    {f26 : Addr} {od26 an26 : Option Addr} {sl26 : Array (Option Value)} {oc26 kV26 dc26 pm26 cd26 ct26 : Value}
    {f27 : Addr} {od27 an27 : Option Addr} {sl27 : Array (Option Value)} {oc27 kV27 dc27 pm27 cd27 ct27 : Value}
    {f28 : Addr} {od28 an28 : Option Addr} {sl28 : Array (Option Value)} {oc28 kV28 dc28 pm28 cd28 ct28 : Value}
    {f29 : Addr} {od29 an29 : Option Addr} {sl29 : Array (Option Value)} {oc29 kV29 dc29 pm29 cd29 ct29 : Value}
    (z_len : PySem.W.nsIn K mainGlobals "len" = some none)
    (z_range : PySem.W.nsIn K mainGlobals "range" = some none)
    (z_tuple : PySem.W.nsIn K mainGlobals "tuple" = some none)
    (z_list : PySem.W.nsIn K mainGlobals "list" = some none)
    (z_isinstance : PySem.W.nsIn K mainGlobals "isinstance" = some none)
    (z_abs : PySem.W.nsIn K mainGlobals "abs" = some none)
    (z_str : PySem.W.nsIn K mainGlobals "str" = some none)
    (z_int : PySem.W.nsIn K mainGlobals "int" = some none)
    (z_bool : PySem.W.nsIn K mainGlobals "bool" = some none)
    (z_enumerate : PySem.W.nsIn K mainGlobals "enumerate" = some none)
    (z_zip : PySem.W.nsIn K mainGlobals "zip" = some none)
    (z_all : PySem.W.nsIn K mainGlobals "all" = some none)
    (c_PARAMETERS : PySem.W.nsIn K mainGlobals "PARAMETERS" = some (some (.int 2 t_PARAMETERS)))
    (c_BODY : PySem.W.nsIn K mainGlobals "BODY" = some (some (.int 3 t_BODY)))
    (ua_PLAIN : PySem.W.nsIn K mainGlobals "PLAIN" = some (some (.ref u_PLAIN)))
    (ul_PLAIN : K.lookup u_PLAIN = some ⟨.type "tuple", uo_PLAIN, .seq #[.str "number" ut_PLAIN_0, .str "text" ut_PLAIN_1, .str "truth" ut_PLAIN_2] un_PLAIN, us_PLAIN⟩)
    (ua_ONE : PySem.W.nsIn K mainGlobals "ONE" = some (some (.ref u_ONE)))
    (ul_ONE : K.lookup u_ONE = some ⟨.type "tuple", uo_ONE, .seq #[.str "do" ut_ONE_0, .str "say" ut_ONE_1, .str "return" ut_ONE_2, .str "raise" ut_ONE_3] un_ONE, us_ONE⟩)
    (a_Shape : PySem.W.nsIn K mainGlobals "Shape" = some (some (.ref C_Shape)))
    (pg_Shape : PySem.W.plainGet K C_Shape Str.empty = true)
    (hd_Shape : PySem.W.hasDictIn K C_Shape = true)
    (po_Shape : PySem.W.plainOver K C_Shape = true)
    (sa_Shape : PySem.W.findIn K (.ref C_Shape) "__setattr__" = some (some (.builtin "object.__setattr__")))
    (mk_Shape : PySem.W.makesIn K C_Shape = true)
    (kc_Shape : PySem.W.keepIn K (.ref C_Shape) = true)
    (n_Shape_tree : PySem.W.findIn K (.ref C_Shape) "tree" = some none)
    (n_Shape_nodes : PySem.W.findIn K (.ref C_Shape) "nodes" = some none)
    (n_Shape_above : PySem.W.findIn K (.ref C_Shape) "above" = some none)
    (n_Shape_children : PySem.W.findIn K (.ref C_Shape) "children" = some none)
    (n_Shape_code : PySem.W.findIn K (.ref C_Shape) "code" = some none)
    (n_Shape_codes : PySem.W.findIn K (.ref C_Shape) "codes" = some none)
    (n_Shape_names : PySem.W.findIn K (.ref C_Shape) "names" = some none)
    (a_Compiler : PySem.W.nsIn K mainGlobals "Compiler" = some (some (.ref C_Compiler)))
    (pg_Compiler : PySem.W.plainGet K C_Compiler Str.empty = true)
    (hd_Compiler : PySem.W.hasDictIn K C_Compiler = true)
    (po_Compiler : PySem.W.plainOver K C_Compiler = true)
    (sa_Compiler : PySem.W.findIn K (.ref C_Compiler) "__setattr__" = some (some (.builtin "object.__setattr__")))
    (mk_Compiler : PySem.W.makesIn K C_Compiler = true)
    (kc_Compiler : PySem.W.keepIn K (.ref C_Compiler) = true)
    (n_Compiler_form : PySem.W.findIn K (.ref C_Compiler) "form" = some none)
    (n_Compiler_code : PySem.W.findIn K (.ref C_Compiler) "code" = some none)
    (n_Compiler_made : PySem.W.findIn K (.ref C_Compiler) "made" = some none)
    (a1 : PySem.W.nsIn K mainGlobals "parts_of" = some (some (.ref f1)))
    (l1 : K.lookup f1 = some ⟨oc1, od1, .func (PySem.W.fnOf "parts_of" "parts_of" (defArgs s_parts_of) (defBody s_parts_of) (defScope s_parts_of) .none kV1 dc1 pm1 an1 cd1 ct1), sl1⟩)
    (c1 : PySem.W.codeIn K cd1 "parts_of" = true)
    (k1 : PySem.W.keepIn K (.ref f1) = true)
    (a2 : PySem.W.findIn K (.ref C_Shape) "__init__" = some (some (.ref f2)))
    (i2 : PySem.W.isFn K (.ref f2) = true)
    (l2 : K.lookup f2 = some ⟨oc2, od2, .func (PySem.W.fnOf "__init__" "Shape.__init__" (defArgs s_Shape_init__) (defBody s_Shape_init__) (defScope s_Shape_init__) .none kV2 dc2 pm2 an2 cd2 ct2), sl2⟩)
    (c2 : PySem.W.codeIn K cd2 "Shape.__init__" = true)
    (k2 : PySem.W.keepIn K (.ref f2) = true)
    (a3 : PySem.W.findIn K (.ref C_Shape) "add" = some (some (.ref f3)))
    (i3 : PySem.W.isFn K (.ref f3) = true)
    (l3 : K.lookup f3 = some ⟨oc3, od3, .func (PySem.W.fnOf "add" "Shape.add" (defArgs s_Shape_add) (defBody s_Shape_add) (defScope s_Shape_add) .none kV3 dc3 pm3 an3 cd3 ct3), sl3⟩)
    (c3 : PySem.W.codeIn K cd3 "Shape.add" = true)
    (k3 : PySem.W.keepIn K (.ref f3) = true)
    (a4 : PySem.W.findIn K (.ref C_Shape) "is_parameter" = some (some (.ref f4)))
    (i4 : PySem.W.isFn K (.ref f4) = true)
    (l4 : K.lookup f4 = some ⟨oc4, od4, .func (PySem.W.fnOf "is_parameter" "Shape.is_parameter" (defArgs s_Shape_is_parameter) (defBody s_Shape_is_parameter) (defScope s_Shape_is_parameter) .none kV4 dc4 pm4 an4 cd4 ct4), sl4⟩)
    (c4 : PySem.W.codeIn K cd4 "Shape.is_parameter" = true)
    (k4 : PySem.W.keepIn K (.ref f4) = true)
    (a5 : PySem.W.findIn K (.ref C_Shape) "all_names" = some (some (.ref f5)))
    (i5 : PySem.W.isFn K (.ref f5) = true)
    (l5 : K.lookup f5 = some ⟨oc5, od5, .func (PySem.W.fnOf "all_names" "Shape.all_names" (defArgs s_Shape_all_names) (defBody s_Shape_all_names) (defScope s_Shape_all_names) .none kV5 dc5 pm5 an5 cd5 ct5), sl5⟩)
    (c5 : PySem.W.codeIn K cd5 "Shape.all_names" = true)
    (k5 : PySem.W.keepIn K (.ref f5) = true)
    (a6 : PySem.W.findIn K (.ref C_Shape) "parameters" = some (some (.ref f6)))
    (i6 : PySem.W.isFn K (.ref f6) = true)
    (l6 : K.lookup f6 = some ⟨oc6, od6, .func (PySem.W.fnOf "parameters" "Shape.parameters" (defArgs s_Shape_parameters) (defBody s_Shape_parameters) (defScope s_Shape_parameters) .none kV6 dc6 pm6 an6 cd6 ct6), sl6⟩)
    (c6 : PySem.W.codeIn K cd6 "Shape.parameters" = true)
    (k6 : PySem.W.keepIn K (.ref f6) = true)
    (a7 : PySem.W.findIn K (.ref C_Shape) "firsts" = some (some (.ref f7)))
    (i7 : PySem.W.isFn K (.ref f7) = true)
    (l7 : K.lookup f7 = some ⟨oc7, od7, .func (PySem.W.fnOf "firsts" "Shape.firsts" (defArgs s_Shape_firsts) (defBody s_Shape_firsts) (defScope s_Shape_firsts) .none kV7 dc7 pm7 an7 cd7 ct7), sl7⟩)
    (c7 : PySem.W.codeIn K cd7 "Shape.firsts" = true)
    (k7 : PySem.W.keepIn K (.ref f7) = true)
    (a8 : PySem.W.findIn K (.ref C_Shape) "found" = some (some (.ref f8)))
    (i8 : PySem.W.isFn K (.ref f8) = true)
    (l8 : K.lookup f8 = some ⟨oc8, od8, .func (PySem.W.fnOf "found" "Shape.found" (defArgs s_Shape_found) (defBody s_Shape_found) (defScope s_Shape_found) .none kV8 dc8 pm8 an8 cd8 ct8), sl8⟩)
    (c8 : PySem.W.codeIn K cd8 "Shape.found" = true)
    (k8 : PySem.W.keepIn K (.ref f8) = true)
    (a9 : PySem.W.findIn K (.ref C_Compiler) "__init__" = some (some (.ref f9)))
    (i9 : PySem.W.isFn K (.ref f9) = true)
    (l9 : K.lookup f9 = some ⟨oc9, od9, .func (PySem.W.fnOf "__init__" "Compiler.__init__" (defArgs s_Compiler_init__) (defBody s_Compiler_init__) (defScope s_Compiler_init__) .none kV9 dc9 pm9 an9 cd9 ct9), sl9⟩)
    (c9 : PySem.W.codeIn K cd9 "Compiler.__init__" = true)
    (k9 : PySem.W.keepIn K (.ref f9) = true)
    (a10 : PySem.W.findIn K (.ref C_Compiler) "come" = some (some (.ref f10)))
    (i10 : PySem.W.isFn K (.ref f10) = true)
    (l10 : K.lookup f10 = some ⟨oc10, od10, .func (PySem.W.fnOf "come" "Compiler.come" (defArgs s_Compiler_come) (defBody s_Compiler_come) (defScope s_Compiler_come) (.ref dT10) kV10 dc10 pm10 an10 cd10 ct10), sl10⟩)
    (lt10 : K.lookup dT10 = some ⟨.type "tuple", oT10, .seq #[.ref dE10] nT10, sT10⟩)
    (le10 : K.lookup dE10 = some ⟨.type "tuple", oE10, .seq #[] nE10, sE10⟩)
    (c10 : PySem.W.codeIn K cd10 "Compiler.come" = true)
    (k10 : PySem.W.keepIn K (.ref f10) = true)
    (a11 : PySem.W.findIn K (.ref C_Compiler) "mend" = some (some (.ref f11)))
    (i11 : PySem.W.isFn K (.ref f11) = true)
    (l11 : K.lookup f11 = some ⟨oc11, od11, .func (PySem.W.fnOf "mend" "Compiler.mend" (defArgs s_Compiler_mend) (defBody s_Compiler_mend) (defScope s_Compiler_mend) .none kV11 dc11 pm11 an11 cd11 ct11), sl11⟩)
    (c11 : PySem.W.codeIn K cd11 "Compiler.mend" = true)
    (k11 : PySem.W.keepIn K (.ref f11) = true)
    (a12 : PySem.W.findIn K (.ref C_Compiler) "worked" = some (some (.ref f12)))
    (i12 : PySem.W.isFn K (.ref f12) = true)
    (l12 : K.lookup f12 = some ⟨oc12, od12, .func (PySem.W.fnOf "worked" "Compiler.worked" (defArgs s_Compiler_worked) (defBody s_Compiler_worked) (defScope s_Compiler_worked) .none kV12 dc12 pm12 an12 cd12 ct12), sl12⟩)
    (c12 : PySem.W.codeIn K cd12 "Compiler.worked" = true)
    (k12 : PySem.W.keepIn K (.ref f12) = true)
    (a13 : PySem.W.findIn K (.ref C_Compiler) "used" = some (some (.ref f13)))
    (i13 : PySem.W.isFn K (.ref f13) = true)
    (l13 : K.lookup f13 = some ⟨oc13, od13, .func (PySem.W.fnOf "used" "Compiler.used" (defArgs s_Compiler_used) (defBody s_Compiler_used) (defScope s_Compiler_used) .none kV13 dc13 pm13 an13 cd13 ct13), sl13⟩)
    (c13 : PySem.W.codeIn K cd13 "Compiler.used" = true)
    (k13 : PySem.W.keepIn K (.ref f13) = true)
    (a14 : PySem.W.findIn K (.ref C_Compiler) "all_done" = some (some (.ref f14)))
    (i14 : PySem.W.isFn K (.ref f14) = true)
    (l14 : K.lookup f14 = some ⟨oc14, od14, .func (PySem.W.fnOf "all_done" "Compiler.all_done" (defArgs s_Compiler_all_done) (defBody s_Compiler_all_done) (defScope s_Compiler_all_done) .none kV14 dc14 pm14 an14 cd14 ct14), sl14⟩)
    (c14 : PySem.W.codeIn K cd14 "Compiler.all_done" = true)
    (k14 : PySem.W.keepIn K (.ref f14) = true)
    (a15 : PySem.W.findIn K (.ref C_Compiler) "done" = some (some (.ref f15)))
    (i15 : PySem.W.isFn K (.ref f15) = true)
    (l15 : K.lookup f15 = some ⟨oc15, od15, .func (PySem.W.fnOf "done" "Compiler.done" (defArgs s_Compiler_done) (defBody s_Compiler_done) (defScope s_Compiler_done) .none kV15 dc15 pm15 an15 cd15 ct15), sl15⟩)
    (c15 : PySem.W.codeIn K cd15 "Compiler.done" = true)
    (k15 : PySem.W.keepIn K (.ref f15) = true)
    (a16 : PySem.W.findIn K (.ref C_Compiler) "chosen" = some (some (.ref f16)))
    (i16 : PySem.W.isFn K (.ref f16) = true)
    (l16 : K.lookup f16 = some ⟨oc16, od16, .func (PySem.W.fnOf "chosen" "Compiler.chosen" (defArgs s_Compiler_chosen) (defBody s_Compiler_chosen) (defScope s_Compiler_chosen) .none kV16 dc16 pm16 an16 cd16 ct16), sl16⟩)
    (c16 : PySem.W.codeIn K cd16 "Compiler.chosen" = true)
    (k16 : PySem.W.keepIn K (.ref f16) = true)
    (a17 : PySem.W.findIn K (.ref C_Compiler) "tried" = some (some (.ref f17)))
    (i17 : PySem.W.isFn K (.ref f17) = true)
    (l17 : K.lookup f17 = some ⟨oc17, od17, .func (PySem.W.fnOf "tried" "Compiler.tried" (defArgs s_Compiler_tried) (defBody s_Compiler_tried) (defScope s_Compiler_tried) .none kV17 dc17 pm17 an17 cd17 ct17), sl17⟩)
    (c17 : PySem.W.codeIn K cd17 "Compiler.tried" = true)
    (k17 : PySem.W.keepIn K (.ref f17) = true)
    (a18 : PySem.W.findIn K (.ref C_Compiler) "whole" = some (some (.ref f18)))
    (i18 : PySem.W.isFn K (.ref f18) = true)
    (l18 : K.lookup f18 = some ⟨oc18, od18, .func (PySem.W.fnOf "whole" "Compiler.whole" (defArgs s_Compiler_whole) (defBody s_Compiler_whole) (defScope s_Compiler_whole) .none kV18 dc18 pm18 an18 cd18 ct18), sl18⟩)
    (c18 : PySem.W.codeIn K cd18 "Compiler.whole" = true)
    (k18 : PySem.W.keepIn K (.ref f18) = true)
    (a19 : PySem.W.nsIn K mainGlobals "compiled" = some (some (.ref f19)))
    (l19 : K.lookup f19 = some ⟨oc19, od19, .func (PySem.W.fnOf "compiled" "compiled" (defArgs s_compiled) (defBody s_compiled) (defScope s_compiled) .none kV19 dc19 pm19 an19 cd19 ct19), sl19⟩)
    (c19 : PySem.W.codeIn K cd19 "compiled" = true)
    (k19 : PySem.W.keepIn K (.ref f19) = true)
    (a20 : PySem.W.nsIn K mainGlobals "rows_of" = some (some (.ref f20)))
    (l20 : K.lookup f20 = some ⟨oc20, od20, .func (PySem.W.fnOf "rows_of" "rows_of" (defArgs s_rows_of) (defBody s_rows_of) (defScope s_rows_of) .none kV20 dc20 pm20 an20 cd20 ct20), sl20⟩)
    (c20 : PySem.W.codeIn K cd20 "rows_of" = true)
    (k20 : PySem.W.keepIn K (.ref f20) = true)
    (a21 : PySem.W.nsIn K mainGlobals "is_just" = some (some (.ref f21)))
    (l21 : K.lookup f21 = some ⟨oc21, od21, .func (PySem.W.fnOf "is_just" "is_just" (defArgs s_is_just) (defBody s_is_just) (defScope s_is_just) .none kV21 dc21 pm21 an21 cd21 ct21), sl21⟩)
    (c21 : PySem.W.codeIn K cd21 "is_just" = true)
    (k21 : PySem.W.keepIn K (.ref f21) = true)
    (a22 : PySem.W.nsIn K mainGlobals "rows_stand" = some (some (.ref f22)))
    (l22 : K.lookup f22 = some ⟨oc22, od22, .func (PySem.W.fnOf "rows_stand" "rows_stand" (defArgs s_rows_stand) (defBody s_rows_stand) (defScope s_rows_stand) .none kV22 dc22 pm22 an22 cd22 ct22), sl22⟩)
    (c22 : PySem.W.codeIn K cd22 "rows_stand" = true)
    (k22 : PySem.W.keepIn K (.ref f22) = true)
    (a23 : PySem.W.nsIn K mainGlobals "_law_deck" = some (some (.ref f23)))
    (l23 : K.lookup f23 = some ⟨oc23, od23, .func (PySem.W.fnOf "_law_deck" "_law_deck" (defArgs s_law_deck) (defBody s_law_deck) (defScope s_law_deck) .none kV23 dc23 pm23 an23 cd23 ct23), sl23⟩)
    (c23 : PySem.W.codeIn K cd23 "_law_deck" = true)
    (k23 : PySem.W.keepIn K (.ref f23) = true)
    (a24 : PySem.W.nsIn K mainGlobals "_law_draw" = some (some (.ref f24)))
    (l24 : K.lookup f24 = some ⟨oc24, od24, .func (PySem.W.fnOf "_law_draw" "_law_draw" (defArgs s_law_draw) (defBody s_law_draw) (defScope s_law_draw) .none kV24 dc24 pm24 an24 cd24 ct24), sl24⟩)
    (c24 : PySem.W.codeIn K cd24 "_law_draw" = true)
    (k24 : PySem.W.keepIn K (.ref f24) = true)
    (a25 : PySem.W.nsIn K mainGlobals "_law_plain" = some (some (.ref f25)))
    (l25 : K.lookup f25 = some ⟨oc25, od25, .func (PySem.W.fnOf "_law_plain" "_law_plain" (defArgs s_law_plain) (defBody s_law_plain) (defScope s_law_plain) .none kV25 dc25 pm25 an25 cd25 ct25), sl25⟩)
    (c25 : PySem.W.codeIn K cd25 "_law_plain" = true)
    (k25 : PySem.W.keepIn K (.ref f25) = true)
    (a26 : PySem.W.nsIn K mainGlobals "_law_method" = some (some (.ref f26)))
    (l26 : K.lookup f26 = some ⟨oc26, od26, .func (PySem.W.fnOf "_law_method" "_law_method" (defArgs s_law_method) (defBody s_law_method) (defScope s_law_method) .none kV26 dc26 pm26 an26 cd26 ct26), sl26⟩)
    (c26 : PySem.W.codeIn K cd26 "_law_method" = true)
    (k26 : PySem.W.keepIn K (.ref f26) = true)
    (a27 : PySem.W.nsIn K mainGlobals "_law_bad_part" = some (some (.ref f27)))
    (l27 : K.lookup f27 = some ⟨oc27, od27, .func (PySem.W.fnOf "_law_bad_part" "_law_bad_part" (defArgs s_law_bad_part) (defBody s_law_bad_part) (defScope s_law_bad_part) .none kV27 dc27 pm27 an27 cd27 ct27), sl27⟩)
    (c27 : PySem.W.codeIn K cd27 "_law_bad_part" = true)
    (k27 : PySem.W.keepIn K (.ref f27) = true)
    (a28 : PySem.W.nsIn K mainGlobals "_law_spoilt" = some (some (.ref f28)))
    (l28 : K.lookup f28 = some ⟨oc28, od28, .func (PySem.W.fnOf "_law_spoilt" "_law_spoilt" (defArgs s_law_spoilt) (defBody s_law_spoilt) (defScope s_law_spoilt) .none kV28 dc28 pm28 an28 cd28 ct28), sl28⟩)
    (c28 : PySem.W.codeIn K cd28 "_law_spoilt" = true)
    (k28 : PySem.W.keepIn K (.ref f28) = true)
    (a29 : PySem.W.nsIn K mainGlobals "law" = some (some (.ref f29)))
    (l29 : K.lookup f29 = some ⟨oc29, od29, .func (PySem.W.fnOf "law" "law" (defArgs s_law) (defBody s_law) (defScope s_law) .none kV29 dc29 pm29 an29 cd29 ct29), sl29⟩)
    (c29 : PySem.W.codeIn K cd29 "law" = true)
    (k29 : PySem.W.keepIn K (.ref f29) = true) :
    ∃ fd : FuncData, (∀ (s : Shared) (v : Value), BindsTo s fd ⟨[v], []⟩ [("_law_script", v)]) ∧ ∀ base : Heap, K.In base → base.Ns mainGlobals mg → FnOk l.prog w K mg base CX0 127 fa fd ["_law_script"] (spLaw K) := by
  have e := hfa.symm.trans (PySem.W.mg_of X G a29)
  cases e
  have T : ∃ T : Tx K mg, T.d_law.f = fa ∧ T.d_law.fd = PySem.W.fnOf "law" "law" (defArgs s_law) (defBody s_law) (defScope s_law) .none kV29 dc29 pm29 an29 cd29 ct29 := ⟨{
      z_len := PySem.W.mg_none_of X G z_len,
      z_range := PySem.W.mg_none_of X G z_range,
      z_tuple := PySem.W.mg_none_of X G z_tuple,
      z_list := PySem.W.mg_none_of X G z_list,
      z_isinstance := PySem.W.mg_none_of X G z_isinstance,
      z_abs := PySem.W.mg_none_of X G z_abs,
      z_str := PySem.W.mg_none_of X G z_str,
      z_int := PySem.W.mg_none_of X G z_int,
      z_bool := PySem.W.mg_none_of X G z_bool,
      z_enumerate := PySem.W.mg_none_of X G z_enumerate,
      z_zip := PySem.W.mg_none_of X G z_zip,
      z_all := PySem.W.mg_none_of X G z_all,
      t_PARAMETERS := t_PARAMETERS,
      c_PARAMETERS := PySem.W.mg_of X G c_PARAMETERS,
      t_BODY := t_BODY,
      c_BODY := PySem.W.mg_of X G c_BODY,
      k_PLAIN := ⟨_, PySem.W.mg_of X G ua_PLAIN, fun H => .inr ⟨_, _, _, ul_PLAIN, rfl, rfl, by show 3 ≤ sizeLine; decide, (.cons ⟨_, rfl⟩ (.cons ⟨_, rfl⟩ (.cons ⟨_, rfl⟩ .nil)))⟩⟩,
      k_ONE := ⟨_, PySem.W.mg_of X G ua_ONE, fun H => .inr ⟨_, _, _, ul_ONE, rfl, rfl, by show 4 ≤ sizeLine; decide, (.cons ⟨_, rfl⟩ (.cons ⟨_, rfl⟩ (.cons ⟨_, rfl⟩ (.cons ⟨_, rfl⟩ .nil))))⟩⟩,
      Shape := ⟨C_Shape, ⟨pg_Shape, hd_Shape, po_Shape, sa_Shape⟩, PySem.W.mg_of X G a_Shape, n_Shape_tree, n_Shape_nodes, n_Shape_above, n_Shape_children, n_Shape_code, n_Shape_codes, n_Shape_names⟩,
      Compiler := ⟨C_Compiler, ⟨pg_Compiler, hd_Compiler, po_Compiler, sa_Compiler⟩, PySem.W.mg_of X G a_Compiler, n_Compiler_form, n_Compiler_code, n_Compiler_made⟩,
      d_parts_of := ⟨f1, _, fun_mk (st := s_parts_of) l1 c1 k1, PySem.W.mg_of X G a1, (fun_mk (st := s_parts_of) l1 c1 k1).binds (ps := ["node"]) fun _ _ _ _ _ _ us hl => match us, hl with | [_], _ => rfl⟩,
      d_Shape_init__ := ⟨f2, _, fun_mk (st := s_Shape_init__) l2 c2 k2, ⟨mk_Shape, a2, i2, kc_Shape⟩, (fun_mk (st := s_Shape_init__) l2 c2 k2).binds (ps := ["self", "method"]) fun _ _ _ _ _ _ us hl => match us, hl with | [_, _], _ => rfl⟩,
      d_Shape_add := ⟨f3, _, fun_mk (st := s_Shape_add) l3 c3 k3, ⟨a3, i3, k3⟩, (fun_mk (st := s_Shape_add) l3 c3 k3).binds (ps := ["self", "node", "above", "code"]) fun _ _ _ _ _ _ us hl => match us, hl with | [_, _, _, _], _ => rfl⟩,
      d_Shape_is_parameter := ⟨f4, _, fun_mk (st := s_Shape_is_parameter) l4 c4 k4, ⟨a4, i4, k4⟩, (fun_mk (st := s_Shape_is_parameter) l4 c4 k4).binds (ps := ["self", "word", "code"]) fun _ _ _ _ _ _ us hl => match us, hl with | [_, _, _], _ => rfl⟩,
      d_Shape_all_names := ⟨f5, _, fun_mk (st := s_Shape_all_names) l5 c5 k5, ⟨a5, i5, k5⟩, (fun_mk (st := s_Shape_all_names) l5 c5 k5).binds (ps := ["self"]) fun _ _ _ _ _ _ us hl => match us, hl with | [_], _ => rfl⟩,
      d_Shape_parameters := ⟨f6, _, fun_mk (st := s_Shape_parameters) l6 c6 k6, ⟨a6, i6, k6⟩, (fun_mk (st := s_Shape_parameters) l6 c6 k6).binds (ps := ["self", "code"]) fun _ _ _ _ _ _ us hl => match us, hl with | [_, _], _ => rfl⟩,
      d_Shape_firsts := ⟨f7, _, fun_mk (st := s_Shape_firsts) l7 c7 k7, ⟨a7, i7, k7⟩, (fun_mk (st := s_Shape_firsts) l7 c7 k7).binds (ps := ["self", "code"]) fun _ _ _ _ _ _ us hl => match us, hl with | [_, _], _ => rfl⟩,
      d_Shape_found := ⟨f8, _, fun_mk (st := s_Shape_found) l8 c8 k8, ⟨a8, i8, k8⟩, (fun_mk (st := s_Shape_found) l8 c8 k8).binds (ps := ["self", "word", "code"]) fun _ _ _ _ _ _ us hl => match us, hl with | [_, _, _], _ => rfl⟩,
      d_Compiler_init__ := ⟨f9, _, fun_mk (st := s_Compiler_init__) l9 c9 k9, ⟨mk_Compiler, a9, i9, kc_Compiler⟩, (fun_mk (st := s_Compiler_init__) l9 c9 k9).binds (ps := ["self", "form", "code"]) fun _ _ _ _ _ _ us hl => match us, hl with | [_, _, _], _ => rfl⟩,
      d_Compiler_come := metD_mk l10 lt10 le10 c10 k10 ⟨a10, i10, k10⟩ (ps := ["self", "at", "word", "more"]) (fun T kV doc pm an cdv ct us its hl hi => match us, hl, its, hi with | [_, _, _, _], _, [_], _ => ⟨_, rfl, rfl⟩) (fun T kV doc pm an cdv ct us its hl hi => match us, hl, its, hi with | [_, _, _], _, [_], _ => ⟨_, rfl, rfl⟩),
      d_Compiler_mend := ⟨f11, _, fun_mk (st := s_Compiler_mend) l11 c11 k11, ⟨a11, i11, k11⟩, (fun_mk (st := s_Compiler_mend) l11 c11 k11).binds (ps := ["self", "number"]) fun _ _ _ _ _ _ us hl => match us, hl with | [_, _], _ => rfl⟩,
      d_Compiler_worked := ⟨f12, _, fun_mk (st := s_Compiler_worked) l12 c12 k12, ⟨a12, i12, k12⟩, (fun_mk (st := s_Compiler_worked) l12 c12 k12).binds (ps := ["self", "at"]) fun _ _ _ _ _ _ us hl => match us, hl with | [_, _], _ => rfl⟩,
      d_Compiler_used := ⟨f13, _, fun_mk (st := s_Compiler_used) l13 c13 k13, ⟨a13, i13, k13⟩, (fun_mk (st := s_Compiler_used) l13 c13 k13).binds (ps := ["self", "at", "node"]) fun _ _ _ _ _ _ us hl => match us, hl with | [_, _, _], _ => rfl⟩,
      d_Compiler_all_done := ⟨f14, _, fun_mk (st := s_Compiler_all_done) l14 c14 k14, ⟨a14, i14, k14⟩, (fun_mk (st := s_Compiler_all_done) l14 c14 k14).binds (ps := ["self", "numbers"]) fun _ _ _ _ _ _ us hl => match us, hl with | [_, _], _ => rfl⟩,
      d_Compiler_done := ⟨f15, _, fun_mk (st := s_Compiler_done) l15 c15 k15, ⟨a15, i15, k15⟩, (fun_mk (st := s_Compiler_done) l15 c15 k15).binds (ps := ["self", "at"]) fun _ _ _ _ _ _ us hl => match us, hl with | [_, _], _ => rfl⟩,
      d_Compiler_chosen := ⟨f16, _, fun_mk (st := s_Compiler_chosen) l16 c16 k16, ⟨a16, i16, k16⟩, (fun_mk (st := s_Compiler_chosen) l16 c16 k16).binds (ps := ["self", "at", "node", "kids", "beat"]) fun _ _ _ _ _ _ us hl => match us, hl with | [_, _, _, _, _], _ => rfl⟩,
      d_Compiler_tried := ⟨f17, _, fun_mk (st := s_Compiler_tried) l17 c17 k17, ⟨a17, i17, k17⟩, (fun_mk (st := s_Compiler_tried) l17 c17 k17).binds (ps := ["self", "at", "node", "kids"]) fun _ _ _ _ _ _ us hl => match us, hl with | [_, _, _, _], _ => rfl⟩,
      d_Compiler_whole := ⟨f18, _, fun_mk (st := s_Compiler_whole) l18 c18 k18, ⟨a18, i18, k18⟩, (fun_mk (st := s_Compiler_whole) l18 c18 k18).binds (ps := ["self"]) fun _ _ _ _ _ _ us hl => match us, hl with | [_], _ => rfl⟩,
      d_compiled := ⟨f19, _, fun_mk (st := s_compiled) l19 c19 k19, PySem.W.mg_of X G a19, (fun_mk (st := s_compiled) l19 c19 k19).binds (ps := ["form", "code"]) fun _ _ _ _ _ _ us hl => match us, hl with | [_, _], _ => rfl⟩,
      d_rows_of := ⟨f20, _, fun_mk (st := s_rows_of) l20 c20 k20, PySem.W.mg_of X G a20, (fun_mk (st := s_rows_of) l20 c20 k20).binds (ps := ["method", "node"]) fun _ _ _ _ _ _ us hl => match us, hl with | [_, _], _ => rfl⟩,
      d_is_just := ⟨f21, _, fun_mk (st := s_is_just) l21 c21 k21, PySem.W.mg_of X G a21, (fun_mk (st := s_is_just) l21 c21 k21).binds (ps := ["thing", "due"]) fun _ _ _ _ _ _ us hl => match us, hl with | [_, _], _ => rfl⟩,
      d_rows_stand := ⟨f22, _, fun_mk (st := s_rows_stand) l22 c22 k22, PySem.W.mg_of X G a22, (fun_mk (st := s_rows_stand) l22 c22 k22).binds (ps := ["method", "node", "thing"]) fun _ _ _ _ _ _ us hl => match us, hl with | [_, _, _], _ => rfl⟩,
      d_law_deck := ⟨f23, _, fun_mk (st := s_law_deck) l23 c23 k23, PySem.W.mg_of X G a23, (fun_mk (st := s_law_deck) l23 c23 k23).binds (ps := ["_law_script"]) fun _ _ _ _ _ _ us hl => match us, hl with | [_], _ => rfl⟩,
      d_law_draw := ⟨f24, _, fun_mk (st := s_law_draw) l24 c24 k24, PySem.W.mg_of X G a24, (fun_mk (st := s_law_draw) l24 c24 k24).binds (ps := ["_law_deck_here", "_law_many"]) fun _ _ _ _ _ _ us hl => match us, hl with | [_, _], _ => rfl⟩,
      d_law_plain := ⟨f25, _, fun_mk (st := s_law_plain) l25 c25 k25, PySem.W.mg_of X G a25, (fun_mk (st := s_law_plain) l25 c25 k25).binds (ps := ["_law_deck_here", "_law_at"]) fun _ _ _ _ _ _ us hl => match us, hl with | [_, _], _ => rfl⟩,
      d_law_method := ⟨f26, _, fun_mk (st := s_law_method) l26 c26 k26, PySem.W.mg_of X G a26, (fun_mk (st := s_law_method) l26 c26 k26).binds (ps := ["_law_deck_here"]) fun _ _ _ _ _ _ us hl => match us, hl with | [_], _ => rfl⟩,
      d_law_bad_part := ⟨f27, _, fun_mk (st := s_law_bad_part) l27 c27 k27, PySem.W.mg_of X G a27, (fun_mk (st := s_law_bad_part) l27 c27 k27).binds (ps := ["_law_deck_here", "_law_part"]) fun _ _ _ _ _ _ us hl => match us, hl with | [_, _], _ => rfl⟩,
      d_law_spoilt := ⟨f28, _, fun_mk (st := s_law_spoilt) l28 c28 k28, PySem.W.mg_of X G a28, (fun_mk (st := s_law_spoilt) l28 c28 k28).binds (ps := ["_law_deck_here", "_law_made"]) fun _ _ _ _ _ _ us hl => match us, hl with | [_, _], _ => rfl⟩,
      d_law := ⟨fa, _, fun_mk (st := s_law) l29 c29 k29, PySem.W.mg_of X G a29, (fun_mk (st := s_law) l29 c29 k29).binds (ps := ["_law_script"]) fun _ _ _ _ _ _ us hl => match us, hl with | [_], _ => rfl⟩
    }, rfl, rfl⟩
  obtain ⟨T, e1, e2⟩ := T
  refine ⟨PySem.W.fnOf "law" "law" (defArgs s_law) (defBody s_law) (defScope s_law) .none kV29 dc29 pm29 an29 cd29 ct29, fun s v => .of_eq rfl, fun base _ _ => ?_⟩
  have z := ok_lawS (P := l.prog) (w := w) (base := base) T
  rw [e1, e2] at z
  exact z
theorem walk {l : PySem.W.OpenLaw} {q : Program} {loose : List Str} {XP : (Str → Option Value) → Heap → Prop} {YP : World → Heap → Prop} {d : DefRec} {K : Params → PySem.W.Frag} (hn : l.most = some 63) (hdf : d.params.defaults = [])
    (hY : ∀ (w : World) (h : Heap), YP w h → (K w.params).In h)
    (F : ∀ (w : World) (mg : Str → Option Value) (fa : Addr) (h : Heap), (K w.params).In h → h.Ns mainGlobals mg → mg d.name = some (.ref fa) →
      ∃ fd : FuncData, (∀ (s : Shared) (u : Value), BindsTo s fd ⟨[u], []⟩ [("_law_script", u)]) ∧ ∀ base : Heap, (K w.params).In base → base.Ns mainGlobals mg → FnOk l.prog w (K w.params) mg base CX0 127 fa fd ["_law_script"] (spLaw (K w.params))) :
    PySem.W.WalkO q loose XP YP l.row.toRowW d [] (fun f vs => PySem.call f vs) :=
  L2.walk_of (n := 63) (k := 127) (x := "_law_script") (CX := fun _ => CX0) (sp := fun w => spLaw (K w.params)) hn (by decide) hdf ⟨rfl, by decide, by decide⟩ hY F (fun _ _ a ns hl hO hS => by first | exact ⟨a, ns, rfl, hl, hO, hS, rfl, rfl⟩ | exact ⟨a, ns, rfl, hS, hl, fun _ => rfl⟩ | exact ⟨a, ns, rfl, hS, fun _ => rfl⟩) fun _ _ _ _ _ z => z
end My
open PySem PySem.W PyProof.Rows
set_option maxRecDepth 100000 in
set_option maxHeartbeats 0 in
theorem PySem.Challenge.cw_sendstead_k59_rows_judged_holds : PySem.Challenge.rw_sendstead_k59_rows_judged.Holds := by
  w_on; o_law; k_head; (case hw => w_witness2)
  k_fill
  refine My.walk (l := PySem.Challenge.rw_sendstead_k59_rows_judged) rfl rfl (fun w h Y => PySem.W.kIn_of Y) ?F
  case F =>
    intro w mg fa h KX G hmg
    refine' My.all_mk KX G hmg ?z_len ?z_range ?z_tuple ?z_list ?z_isinstance ?z_abs ?z_str ?z_int ?z_bool ?z_enumerate ?z_zip ?z_all ?c_PARAMETERS ?c_BODY ?ua_PLAIN ?ul_PLAIN ?ua_ONE ?ul_ONE ?a_Shape ?pg_Shape ?hd_Shape ?po_Shape ?sa_Shape ?mk_Shape ?kc_Shape ?n_Shape_tree ?n_Shape_nodes ?n_Shape_above ?n_Shape_children ?n_Shape_code ?n_Shape_codes ?n_Shape_names ?a_Compiler ?pg_Compiler ?hd_Compiler ?po_Compiler ?sa_Compiler ?mk_Compiler ?kc_Compiler ?n_Compiler_form ?n_Compiler_code ?n_Compiler_made ?a1 ?l1 ?c1 ?k1 ?a2 ?i2 ?l2 ?c2 ?k2 ?a3 ?i3 ?l3 ?c3 ?k3 ?a4 ?i4 ?l4 ?c4 ?k4 ?a5 ?i5 ?l5 ?c5 ?k5 ?a6 ?i6 ?l6 ?c6 ?k6 ?a7 ?i7 ?l7 ?c7 ?k7 ?a8 ?i8 ?l8 ?c8 ?k8 ?a9 ?i9 ?l9 ?c9 ?k9 ?a10 ?i10 ?l10 ?lt10 ?le10 ?c10 ?k10 ?a11 ?i11 ?l11 ?c11 ?k11 ?a12 ?i12 ?l12 ?c12 ?k12 ?a13 ?i13 ?l13 ?c13 ?k13 ?a14 ?i14 ?l14 ?c14 ?k14 ?a15 ?i15 ?l15 ?c15 ?k15 ?a16 ?i16 ?l16 ?c16 ?k16 ?a17 ?i17 ?l17 ?c17 ?k17 ?a18 ?i18 ?l18 ?c18 ?k18 ?a19 ?l19 ?c19 ?k19 ?a20 ?l20 ?c20 ?k20 ?a21 ?l21 ?c21 ?k21 ?a22 ?l22 ?c22 ?k22 ?a23 ?l23 ?c23 ?k23 ?a24 ?l24 ?c24 ?k24 ?a25 ?l25 ?c25 ?k25 ?a26 ?l26 ?c26 ?k26 ?a27 ?l27 ?c27 ?k27 ?a28 ?l28 ?c28 ?k28 ?a29 ?l29 ?c29 ?k29
    (case z_len => k_is)
    (case z_range => k_is)
    (case z_tuple => k_is)
    (case z_list => k_is)
    (case z_isinstance => k_is)
    (case z_abs => k_is)
    (case z_str => k_is)
    (case z_int => k_is)
    (case z_bool => k_is)
    (case z_enumerate => k_is)
    (case z_zip => k_is)
    (case z_all => k_is)
    (case c_PARAMETERS => k_is)
    (case c_BODY => k_is)
    (case ua_PLAIN => k_is)
    (case ul_PLAIN => k_is)
    (case ua_ONE => k_is)
    (case ul_ONE => k_is)
    (case a_Shape => k_is)
    (case pg_Shape => k_is)
    (case hd_Shape => k_is)
    (case po_Shape => k_is)
    (case sa_Shape => k_is)
    (case mk_Shape => k_is)
    (case kc_Shape => k_is)
    (case n_Shape_tree => k_is)
    (case n_Shape_nodes => k_is)
    (case n_Shape_above => k_is)
    (case n_Shape_children => k_is)
    (case n_Shape_code => k_is)
    (case n_Shape_codes => k_is)
    (case n_Shape_names => k_is)
    (case a_Compiler => k_is)
    (case pg_Compiler => k_is)
    (case hd_Compiler => k_is)
    (case po_Compiler => k_is)
    (case sa_Compiler => k_is)
    (case mk_Compiler => k_is)
    (case kc_Compiler => k_is)
    (case n_Compiler_form => k_is)
    (case n_Compiler_code => k_is)
    (case n_Compiler_made => k_is)
    (case a1 => k_is)
    (case l1 => k_is)
    (case c1 => k_is)
    (case k1 => k_is)
    (case a2 => k_is)
    (case i2 => k_is)
    (case l2 => k_is)
    (case c2 => k_is)
    (case k2 => k_is)
    (case a3 => k_is)
    (case i3 => k_is)
    (case l3 => k_is)
    (case c3 => k_is)
    (case k3 => k_is)
    (case a4 => k_is)
    (case i4 => k_is)
    (case l4 => k_is)
    (case c4 => k_is)
    (case k4 => k_is)
    (case a5 => k_is)
    (case i5 => k_is)
    (case l5 => k_is)
    (case c5 => k_is)
    (case k5 => k_is)
    (case a6 => k_is)
    (case i6 => k_is)
    (case l6 => k_is)
    (case c6 => k_is)
    (case k6 => k_is)
    (case a7 => k_is)
    (case i7 => k_is)
    (case l7 => k_is)
    (case c7 => k_is)
    (case k7 => k_is)
    (case a8 => k_is)
    (case i8 => k_is)
    (case l8 => k_is)
    (case c8 => k_is)
    (case k8 => k_is)
    (case a9 => k_is)
    (case i9 => k_is)
    (case l9 => k_is)
    (case c9 => k_is)
    (case k9 => k_is)
    (case a10 => k_is)
    (case i10 => k_is)
    (case l10 => k_is)
    (case lt10 => k_is)
    (case le10 => k_is)
    (case c10 => k_is)
    (case k10 => k_is)
    (case a11 => k_is)
    (case i11 => k_is)
    (case l11 => k_is)
    (case c11 => k_is)
    (case k11 => k_is)
    (case a12 => k_is)
    (case i12 => k_is)
    (case l12 => k_is)
    (case c12 => k_is)
    (case k12 => k_is)
    (case a13 => k_is)
    (case i13 => k_is)
    (case l13 => k_is)
    (case c13 => k_is)
    (case k13 => k_is)
    (case a14 => k_is)
    (case i14 => k_is)
    (case l14 => k_is)
    (case c14 => k_is)
    (case k14 => k_is)
    (case a15 => k_is)
    (case i15 => k_is)
    (case l15 => k_is)
    (case c15 => k_is)
    (case k15 => k_is)
    (case a16 => k_is)
    (case i16 => k_is)
    (case l16 => k_is)
    (case c16 => k_is)
    (case k16 => k_is)
    (case a17 => k_is)
    (case i17 => k_is)
    (case l17 => k_is)
    (case c17 => k_is)
    (case k17 => k_is)
    (case a18 => k_is)
    (case i18 => k_is)
    (case l18 => k_is)
    (case c18 => k_is)
    (case k18 => k_is)
    (case a19 => k_is)
    (case l19 => k_is)
    (case c19 => k_is)
    (case k19 => k_is)
    (case a20 => k_is)
    (case l20 => k_is)
    (case c20 => k_is)
    (case k20 => k_is)
    (case a21 => k_is)
    (case l21 => k_is)
    (case c21 => k_is)
    (case k21 => k_is)
    (case a22 => k_is)
    (case l22 => k_is)
    (case c22 => k_is)
    (case k22 => k_is)
    (case a23 => k_is)
    (case l23 => k_is)
    (case c23 => k_is)
    (case k23 => k_is)
    (case a24 => k_is)
    (case l24 => k_is)
    (case c24 => k_is)
    (case k24 => k_is)
    (case a25 => k_is)
    (case l25 => k_is)
    (case c25 => k_is)
    (case k25 => k_is)
    (case a26 => k_is)
    (case l26 => k_is)
    (case c26 => k_is)
    (case k26 => k_is)
    (case a27 => k_is)
    (case l27 => k_is)
    (case c27 => k_is)
    (case k27 => k_is)
    (case a28 => k_is)
    (case l28 => k_is)
    (case c28 => k_is)
    (case k28 => k_is)
    (case a29 => k_is)
    (case l29 => k_is)
    (case c29 => k_is)
    (case k29 => k_is)

