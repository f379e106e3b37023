import PyProof.Rows.All
import Wide.All
import OpenK.AllK
import Wide.FinOn
import HandS.ForMost
import HandS.TupAny
import HandS.IsInst
import HandS.Walk
import HandS.Codes
import HandS.Strs
import HandS.Defaults
import HandS.More
import HandS.Zip
import HandS.ForExc
import HandS.WordsExc
import HandS.Steps
import KE.GoesMore
import HandS.Text
import HandS.MapJoin
import HandS.Small
import HandS.SlotsOwn
import HandS.ExcInit
import HandS.ExcField
import HandS.ExcOwn
import HandS.ExcIs
import HandS.CallSlots
import PyProof.StrLawsIn
import PySem.Challenge.RW_sendstead_k01_words
set_option Elab.async false
set_option linter.all false
set_option maxRecDepth 100000
set_option maxHeartbeats 4000000
/-! a small machine: values with tuples as values, a heap of numbered cells; and how the hand layer's values and heap stand for it -/
namespace Sm
open PySem L2
inductive MV where
  | non | bl (b : Bool) | int (i : Int) | str (x : Str) | tup (xs : List MV) | scr (xs : List MV) | ref (n : Nat) | exn (c : Str) (ns : List Str) (vs : List MV)
inductive MO where
  | lst (xs : List MV) | ins (c : Str) (fs : List (Str × MV)) | dct (kvs : List (Key × MV))
abbrev MH := List MO
abbrev MS := List (Option MV)
inductive Res (α : Type) where
  | ok (a : α) (h : MH) | ex (e : MV) (h : MH) | bad
namespace Res
def bind {α β : Type} (r : Res α) (f : α → MH → Res β) : Res β := match r with | .ok a h => f a h | .ex e h => .ex e h | .bad => .bad
@[simp] theorem bind_ok {α β : Type} (a : α) (h : MH) (f : α → MH → Res β) : (Res.ok a h).bind f = f a h := rfl
@[simp] theorem bind_ex {α β : Type} (e : MV) (h : MH) (f : α → MH → Res β) : (Res.ex e h).bind f = Res.ex e h := rfl
@[simp] theorem bind_bad {α β : Type} (f : α → MH → Res β) : (Res.bad : Res α).bind f = Res.bad := rfl
end Res
def Good {α : Type} (r : Res α) (Q : α → MH → Prop) (E : MV → MH → Prop) : Prop := match r with | .ok a h => Q a h | .ex e h => E e h | .bad => False
theorem Good.bind {α β : Type} {r : Res α} {f : α → MH → Res β} {Q : β → MH → Prop} {E : MV → MH → Prop} : Good (r.bind f) Q E ↔ Good r (fun a h => Good (f a h) Q E) E := by
  cases r <;> exact Iff.rfl
theorem Good.mono {α : Type} {r : Res α} {Q Q' : α → MH → Prop} {E E' : MV → MH → Prop} (g : Good r Q E) (hq : ∀ a h, Q a h → Q' a h) (he : ∀ e h, E e h → E' e h) : Good r Q' E' := by
  cases r with
  | ok a h => exact hq a h g
  | ex e h => exact he e h g
  | bad => exact g
abbrev ME := MS → MH → Res MV
abbrev MA := MS → MH → Res (List MV)
/-! ### values -/
abbrev Mp := Nat → Option Addr
/-- a tuple that stands -/
def TpA (K : PySem.W.Frag) (H : Hp) (a : Addr) (xs : List V) : Prop := SqT K H a xs
/-- the script: a list that is never written -/
def SqF (K : PySem.W.Frag) (H : Hp) (a : Addr) (xs : List V) : Prop := (∃ o, H a = some (.frz o (.lst xs))) ∨
  ∃ (o : Obj) (its : Array Value) (n : Nat), K.lookup a = some o ∧ o.cls = .type "list" ∧ o.dict = none ∧ o.data = .seq its n ∧ its.size ≤ sizeLine ∧ Vals xs its.toList
theorem SqF.sql {K : PySem.W.Frag} {H : Hp} {a : Addr} {xs : List V} (h : SqF K H a xs) : SqL K H a xs := h.elim (fun z => .inl (.inr z)) .inr
mutual
inductive RV (K : PySem.W.Frag) (mp : Mp) (H : Hp) : MV → V → Prop
  | non : RV K mp H .non .non
  | bl (b : Bool) : RV K mp H (.bl b) (.bl b)
  | int (i : Int) : RV K mp H (.int i) (.int i)
  | str (x : Str) : RV K mp H (.str x) (.str x)
  | ref {n : Nat} {a : Addr} (h : mp n = some a) : RV K mp H (.ref n) (.ref a)
  | tup {xs : List MV} {vs : List V} {a : Addr} (h : TpA K H a vs) (r : RVs K mp H xs vs) : RV K mp H (.tup xs) (.ref a)
  | scr {xs : List MV} {vs : List V} {a : Addr} (h : SqF K H a vs) (r : RVs K mp H xs vs) : RV K mp H (.scr xs) (.ref a)
inductive RVs (K : PySem.W.Frag) (mp : Mp) (H : Hp) : List MV → List V → Prop
  | nil : RVs K mp H [] []
  | cons {x : MV} {v : V} {xs : List MV} {vs : List V} (r : RV K mp H x v) (t : RVs K mp H xs vs) : RVs K mp H (x :: xs) (v :: vs)
end
/-- what may come: cells stay, tuples stay, what is no cell stays -/
structure Fut (K : PySem.W.Frag) (mp mp' : Mp) (H H' : Hp) : Prop where
  le : ∀ n a, mp n = some a → mp' n = some a
  tt : ∀ a xs, TpA K H a xs → TpA K H' a xs
  sf : ∀ a xs, SqF K H a xs → SqF K H' a xs
  fr : ∀ a o, H a = some o → (∀ n, mp n ≠ some a) → H' a = some o ∧ ∀ n, mp' n ≠ some a
section
variable {K : PySem.W.Frag} {mp mp' mp1 mp2 : Mp} {H H' H1 H2 : Hp}
theorem Fut.refl : Fut K mp mp H H := ⟨fun _ _ h => h, fun _ _ h => h, fun _ _ h => h, fun _ _ h n => ⟨h, n⟩⟩
theorem Fut.trans (a : Fut K mp mp1 H H1) (b : Fut K mp1 mp2 H1 H2) : Fut K mp mp2 H H2 :=
  ⟨fun n c h => b.le n c (a.le n c h), fun c xs h => b.tt c xs (a.tt c xs h), fun c xs h => b.sf c xs (a.sf c xs h), fun c o h n => by
    obtain ⟨h1, n1⟩ := a.fr c o h n
    exact b.fr c o h1 n1⟩
mutual
theorem RV.fut (f : Fut K mp mp' H H') : ∀ {x : MV} {v : V}, RV K mp H x v → RV K mp' H' x v
  | _, _, .non => .non
  | _, _, .bl b => .bl b
  | _, _, .int i => .int i
  | _, _, .str x => .str x
  | _, _, .ref h => .ref (f.le _ _ h)
  | _, _, .tup h r => .tup (f.tt _ _ h) (RVs.fut f r)
  | _, _, .scr h r => .scr (f.sf _ _ h) (RVs.fut f r)
theorem RVs.fut (f : Fut K mp mp' H H') : ∀ {xs : List MV} {vs : List V}, RVs K mp H xs vs → RVs K mp' H' xs vs
  | _, _, .nil => .nil
  | _, _, .cons r t => .cons (RV.fut f r) (RVs.fut f t)
end
theorem RVs.length : ∀ {xs : List MV} {vs : List V}, RVs K mp H xs vs → xs.length = vs.length
  | _, _, .nil => rfl
  | _, _, .cons _ t => by simp [RVs.length t]
theorem RVs.get : ∀ {xs : List MV} {vs : List V} {i : Nat} {x : MV}, RVs K mp H xs vs → xs[i]? = some x → ∃ v, vs[i]? = some v ∧ RV K mp H x v
  | _, _, _, _, .nil, e => by simp at e
  | _, _, 0, _, .cons r _, e => by simp at e; subst e; exact ⟨_, rfl, r⟩
  | _, _, i + 1, x, .cons _ t, e => by
    obtain ⟨u, h1, h2⟩ := RVs.get (i := i) (x := x) t (by simpa using e)
    exact ⟨u, by simpa using h1, h2⟩
theorem RVs.getV : ∀ {xs : List MV} {vs : List V} {i : Nat} {v : V}, RVs K mp H xs vs → vs[i]? = some v → ∃ x, xs[i]? = some x ∧ RV K mp H x v
  | _, _, _, _, .nil, e => by simp at e
  | _, _, 0, _, .cons r _, e => by simp at e; subst e; exact ⟨_, rfl, r⟩
  | _, _, i + 1, x, .cons _ t, e => by
    obtain ⟨u, h1, h2⟩ := RVs.getV (i := i) (v := x) t (by simpa using e)
    exact ⟨u, by simpa using h1, h2⟩
theorem RVs.append : ∀ {xs ys : List MV} {vs ws : List V}, RVs K mp H xs vs → RVs K mp H ys ws → RVs K mp H (xs ++ ys) (vs ++ ws)
  | _, _, _, _, .nil, s => s
  | _, _, _, _, .cons r t, s => .cons r (RVs.append t s)
theorem RVs.take : ∀ {xs : List MV} {vs : List V} (n : Nat), RVs K mp H xs vs → RVs K mp H (xs.take n) (vs.take n)
  | _, _, 0, _ => by simp; exact .nil
  | _, _, _ + 1, .nil => .nil
  | _, _, n + 1, .cons r t => .cons r (RVs.take n t)
theorem RVs.drop : ∀ {xs : List MV} {vs : List V} (n : Nat), RVs K mp H xs vs → RVs K mp H (xs.drop n) (vs.drop n)
  | _, _, 0, r => by simpa using r
  | _, _, _ + 1, .nil => .nil
  | _, _, n + 1, .cons _ t => RVs.drop n t
theorem RVs.set {x : MV} {v : V} (r : RV K mp H x v) : ∀ {xs : List MV} {vs : List V} (i : Nat), RVs K mp H xs vs → RVs K mp H (xs.set i x) (vs.set i v)
  | _, _, _, .nil => .nil
  | _, _, 0, .cons _ t => .cons r t
  | _, _, i + 1, .cons q t => .cons q (RVs.set r i t)
theorem RVs.eraseIdx : ∀ {xs : List MV} {vs : List V} (i : Nat), RVs K mp H xs vs → RVs K mp H (xs.eraseIdx i) (vs.eraseIdx i)
  | _, _, _, .nil => .nil
  | _, _, 0, .cons _ t => t
  | _, _, i + 1, .cons q t => .cons q (RVs.eraseIdx i t)
theorem RVs.reverse {xs : List MV} {vs : List V} (r : RVs K mp H xs vs) : RVs K mp H xs.reverse vs.reverse := by
  induction xs generalizing vs with
  | nil => cases r; exact .nil
  | cons x xs ih => cases r with | cons r t => simp only [List.reverse_cons]; exact (ih t).append (.cons r .nil)
end
/-! ### cells -/
def RFs (K : PySem.W.Frag) (mp : Mp) (H : Hp) {κ : Type} (fs : List (κ × MV)) (vs : List (κ × V)) : Prop := fs.map (·.1) = vs.map (·.1) ∧ RVs K mp H (fs.map (·.2)) (vs.map (·.2))
def RO (K : PySem.W.Frag) (cl : Str → Option Addr) (mp : Mp) (H : Hp) : MO → Addr → Prop
  | .lst xs, a => ∃ vs, H a = some (.lst vs) ∧ RVs K mp H xs vs
  | .ins c fs, a => ∃ C dx vs, cl c = some C ∧ H a = some (.ins C dx vs) ∧ RFs K mp H fs vs
  | .dct kvs, a => ∃ vs, H a = some (.dK vs) ∧ RFs K mp H kvs vs
structure Rl (K : PySem.W.Frag) (cl : Str → Option Addr) (mp : Mp) (h : MH) (H : Hp) : Prop where
  dom : ∀ n a, mp n = some a → n < h.length
  has : ∀ n, n < h.length → ∃ a, mp n = some a
  inj : ∀ n k a, mp n = some a → mp k = some a → n = k
  obj : ∀ n o a, h[n]? = some o → mp n = some a → RO K cl mp H o a
section
variable {K : PySem.W.Frag} {cl : Str → Option Addr} {mp mp' : Mp} {h : MH} {H H' : Hp}
theorem RFs.fut {κ : Type} {fs : List (κ × MV)} {vs : List (κ × V)} (f : Fut K mp mp' H H') (r : RFs K mp H fs vs) : RFs K mp' H' fs vs := ⟨r.1, r.2.fut f⟩
theorem RO.fut {o : MO} {a : Addr} (f : Fut K mp mp' H H') (e : H' a = H a) (r : RO K cl mp H o a) : RO K cl mp' H' o a := by
  cases o with
  | lst xs => obtain ⟨vs, h1, h2⟩ := r; exact ⟨vs, e.trans h1, h2.fut f⟩
  | ins c fs => obtain ⟨C, dx, vs, h0, h1, h2⟩ := r; exact ⟨C, dx, vs, h0, e.trans h1, h2.fut f⟩
  | dct kvs => obtain ⟨vs, h1, h2⟩ := r; exact ⟨vs, e.trans h1, h2.fut f⟩
theorem RO.some {o : MO} {a : Addr} (r : RO K cl mp H o a) : ∃ u, H a = some u ∧ (∀ xs, ¬ Rd H a (.tup xs)) ∧ ∀ o w, H a ≠ some (.frz o w) := by
  have go : ∀ u, H a = Option.some u → (∀ xs, u ≠ .tup xs) → (∀ o w, u ≠ .frz o w) → ∃ u, H a = Option.some u ∧ (∀ xs, ¬ Rd H a (.tup xs)) ∧ ∀ o w, H a ≠ Option.some (.frz o w) := fun u e n1 n2 => ⟨u, e, fun xs q => by
    rcases q with q | ⟨o, q⟩
    · rw [e] at q; exact n1 xs (Option.some.inj q)
    · rw [e] at q; exact n2 o _ (Option.some.inj q), fun o w q => by rw [e] at q; exact n2 o w (Option.some.inj q)⟩
  cases o with
  | lst xs => obtain ⟨vs, h1, _⟩ := r; exact go _ h1 (fun _ z => by cases z) (fun _ _ z => by cases z)
  | ins c fs => obtain ⟨C, dx, vs, _, h1, _⟩ := r; exact go _ h1 (fun _ z => by cases z) (fun _ _ z => by cases z)
  | dct kvs => obtain ⟨vs, h1, _⟩ := r; exact go _ h1 (fun _ z => by cases z) (fun _ _ z => by cases z)
theorem Rl.cell (r : Rl K cl mp h H) {n : Nat} {a : Addr} (e : mp n = some a) : ∃ o, h[n]? = some o ∧ RO K cl mp H o a := by
  have l := r.dom n a e
  exact ⟨h[n], by simp [l], r.obj n _ a (by simp [l]) e⟩
theorem Rl.at (r : Rl K cl mp h H) {n : Nat} {o : MO} (e : h[n]? = some o) : ∃ a, mp n = some a ∧ RO K cl mp H o a := by
  obtain ⟨l, _⟩ := List.getElem?_eq_some_iff.mp e
  obtain ⟨a, q⟩ := r.has n l
  exact ⟨a, q, r.obj n o a e q⟩
/-- a new thing that is no cell -/
theorem TpA.new {p : Addr} {o : HO} (hp : H p = none) : ∀ a xs, TpA K H a xs → TpA K (upd H p o) a xs := fun a xs t => by
  rcases t with t | t
  · refine .inl ?_
    rcases t with t | ⟨u, t⟩
    · exact .inl (by rw [upd_ne (ne_of_none t hp)]; exact t)
    · exact .inr ⟨u, by rw [upd_ne (ne_of_none t hp)]; exact t⟩
  · exact .inr t
theorem SqF.new {p : Addr} {o : HO} (hp : H p = none) : ∀ a xs, SqF K H a xs → SqF K (upd H p o) a xs := fun a xs t => by
  rcases t with ⟨u, t⟩ | t
  · exact .inl ⟨u, by rw [upd_ne (ne_of_none t hp)]; exact t⟩
  · exact .inr t
theorem Fut.new {p : Addr} {o : HO} (hp : H p = none) : Fut K mp mp H (upd H p o) :=
  ⟨fun _ _ h => h, TpA.new hp, SqF.new hp, fun a u h n => ⟨by rw [upd_ne (ne_of_none h hp)]; exact h, n⟩⟩
theorem Rl.new {p : Addr} {o : HO} (r : Rl K cl mp h H) (hp : H p = none) : Rl K cl mp h (upd H p o) :=
  ⟨r.dom, r.has, r.inj, fun n u a e q => by
    have ro := r.obj n u a e q
    obtain ⟨z, hz, _⟩ := ro.some
    exact ro.fut (Fut.new hp) (upd_ne (ne_of_none hz hp))⟩
/-- .. that becomes a cell -/
def Mp.put (mp : Mp) (n : Nat) (p : Addr) : Mp := fun k => if k = n then some p else mp k
theorem Mp.put_same {n : Nat} {p : Addr} : Mp.put mp n p n = some p := by simp [Mp.put]
theorem Mp.put_ne {n k : Nat} {p : Addr} (h : k ≠ n) : Mp.put mp n p k = mp k := by simp [Mp.put, h]
theorem Rl.none (r : Rl K cl mp h H) : mp h.length = none := by
  cases e : mp h.length with
  | none => rfl
  | some a => exact absurd (r.dom _ _ e) (Nat.lt_irrefl _)
/-- a thing at p that is no cell (new since H0) becomes a cell -/
theorem Fut.toCell {mp0 : Mp} {H0 : Hp} {p : Addr} (r : Rl K cl mp h H) (f : Fut K mp0 mp H0 H) (h0 : H0 p = none) : Fut K mp0 (Mp.put mp h.length p) H0 H :=
  ⟨fun n a e => by
    have e1 := f.le n a e
    have := r.dom n a e1
    rw [Mp.put_ne (by omega)]; exact e1, f.tt, f.sf, fun a o e n => by
    obtain ⟨e1, n1⟩ := f.fr a o e n
    refine ⟨e1, fun k => ?_⟩
    unfold Mp.put
    split
    · intro z
      have z := Option.some.inj z
      subst z
      rw [h0] at e; cases e
    · exact n1 k⟩
theorem Rl.toCell {p : Addr} {u : MO} (r : Rl K cl mp h H) (np : ∀ n, mp n ≠ some p) (ro : RO K cl mp H u p) : Rl K cl (Mp.put mp h.length p) (h ++ [u]) H := by
  have le : ∀ n a, mp n = some a → Mp.put mp h.length p n = some a := fun n a e => by
    have := r.dom n a e
    rw [Mp.put_ne (by omega)]; exact e
  have mono : ∀ {mp' : Mp}, (∀ n a, mp n = some a → mp' n = some a) → ∀ {o : MO} {a : Addr}, RO K cl mp H o a → RO K cl mp' H o a := fun {mp'} le {o a} ro => by
    -- only the map grows
    have rv : ∀ {xs : List MV} {vs : List V}, RVs K mp H xs vs → RVs K mp' H xs vs := by
      have both : (∀ {x : MV} {v : V}, RV K mp H x v → RV K mp' H x v) ∧ ∀ {xs : List MV} {vs : List V}, RVs K mp H xs vs → RVs K mp' H xs vs := by
        constructor
        · intro x v r
          exact RV.rec (motive_1 := fun x v _ => RV K mp' H x v) (motive_2 := fun xs vs _ => RVs K mp' H xs vs) .non (fun b => .bl b) (fun i => .int i) (fun x => .str x) (fun h => .ref (le _ _ h)) (fun h _ q => .tup h q) (fun h _ q => .scr h q) .nil (fun _ _ a b => .cons a b) r
        · intro x v r
          exact RVs.rec (motive_1 := fun x v _ => RV K mp' H x v) (motive_2 := fun xs vs _ => RVs K mp' H xs vs) .non (fun b => .bl b) (fun i => .int i) (fun x => .str x) (fun h => .ref (le _ _ h)) (fun h _ q => .tup h q) (fun h _ q => .scr h q) .nil (fun _ _ a b => .cons a b) r
      exact fun {xs vs} r => both.2 r
    cases o with
    | lst xs => obtain ⟨vs, h1, h2⟩ := ro; exact ⟨vs, h1, rv h2⟩
    | ins c fs => obtain ⟨C, dx, vs, h0, h1, h2⟩ := ro; exact ⟨C, dx, vs, h0, h1, h2.1, rv h2.2⟩
    | dct kvs => obtain ⟨vs, h1, h2⟩ := ro; exact ⟨vs, h1, h2.1, rv h2.2⟩
  refine ⟨fun n a e => ?_, fun n l => ?_, fun n k a e1 e2 => ?_, fun n o a e q => ?_⟩
  · by_cases hn : n = h.length
    · subst hn; simp
    · rw [Mp.put_ne hn] at e
      have := r.dom n a e
      simp; omega
  · by_cases hn : n = h.length
    · exact ⟨p, by rw [hn]; exact Mp.put_same⟩
    · obtain ⟨a, e⟩ := r.has n (by simp at l; omega)
      exact ⟨a, le n a e⟩
  · by_cases hn : n = h.length
    · by_cases hk : k = h.length
      · omega
      · rw [hn, Mp.put_same] at e1
        rw [Mp.put_ne hk] at e2
        have := Option.some.inj e1
        subst this
        exact absurd e2 (np k)
    · by_cases hk : k = h.length
      · rw [hk, Mp.put_same] at e2
        rw [Mp.put_ne hn] at e1
        have := Option.some.inj e2
        subst this
        exact absurd e1 (np n)
      · rw [Mp.put_ne hn] at e1
        rw [Mp.put_ne hk] at e2
        exact r.inj n k a e1 e2
  · by_cases hn : n = h.length
    · subst hn
      rw [Mp.put_same] at q
      have := Option.some.inj q
      subst this
      have : o = u := by simpa using e.symm
      subst this
      exact mono le ro
    · rw [Mp.put_ne hn] at q
      have l := r.dom n a q
      rw [List.getElem?_append_left l] at e
      exact mono le (r.obj n o a e q)
/-- a cell is written -/
theorem TpA.set {p : Addr} {o : HO} (hp : ∀ xs, ¬ Rd H p (.tup xs)) : ∀ a xs, TpA K H a xs → TpA K (upd H p o) a xs := fun a xs t => by
  rcases t with t | t
  · refine .inl ?_
    have ne : a ≠ p := fun z => by subst z; exact hp xs t
    rcases t with t | ⟨u, t⟩
    · exact .inl (by rw [upd_ne ne]; exact t)
    · exact .inr ⟨u, by rw [upd_ne ne]; exact t⟩
  · exact .inr t
theorem Fut.set {n : Nat} {p : Addr} {o : HO} (r : Rl K cl mp h H) (e : mp n = some p) : Fut K mp mp H (upd H p o) := by
  obtain ⟨u, _, ro⟩ := r.cell e
  obtain ⟨_, _, nt, nf⟩ := ro.some
  exact ⟨fun _ _ h => h, TpA.set nt, fun a xs t => (by
    rcases t with ⟨u, t⟩ | t
    · exact .inl ⟨u, by rw [upd_ne (fun z => nf u _ (by rw [← z]; exact t))]; exact t⟩
    · exact .inr t), fun a u h k => ⟨by rw [upd_ne (fun z => k n (by rw [z]; exact e))]; exact h, k⟩⟩
theorem Rl.set {n : Nat} {p : Addr} {o : HO} {u : MO} (r : Rl K cl mp h H) (e : mp n = some p) (ro : RO K cl mp (upd H p o) u p) : Rl K cl mp (h.set n u) (upd H p o) := by
  refine ⟨fun k a q => by simpa using r.dom k a q, fun k l => r.has k (by simpa using l), r.inj, fun k v a q1 q2 => ?_⟩
  by_cases hk : k = n
  · subst hk
    rw [e] at q2
    have := Option.some.inj q2
    subst this
    have l := r.dom k p e
    rw [List.getElem?_set_self l] at q1
    have := Option.some.inj q1
    subst this
    exact ro
  · rw [List.getElem?_set_ne (Ne.symm hk)] at q1
    have ne : a ≠ p := fun z => by subst z; exact hk (r.inj k n a q2 e)
    exact (r.obj k v a q1 q2).fut (Fut.set r e) (upd_ne ne)
end
/-! ### slots -/
structure RS (K : PySem.W.Frag) (mp : Mp) (H : Hp) (ρ : MS) (σ : St) : Prop where
  len : ρ.length = σ.length
  at_ : ∀ (i : Nat) x, ρ[i]? = some (some x) → ∃ v, σ[i]? = some (some v) ∧ RV K mp H x v
section
variable {K : PySem.W.Frag} {mp mp' : Mp} {H H' : Hp} {ρ : MS} {σ : St}
theorem RS.fut (f : Fut K mp mp' H H') (r : RS K mp H ρ σ) : RS K mp' H' ρ σ := ⟨r.len, fun i x e => by
  obtain ⟨v, h1, h2⟩ := r.at_ i x e
  exact ⟨v, h1, h2.fut f⟩⟩
theorem RS.set {i : Nat} {x : MV} {v : V} (r : RS K mp H ρ σ) (q : RV K mp H x v) : RS K mp H (ρ.set i (some x)) (σ.set i (some v)) := ⟨by simp [r.len], fun j y e => by
  by_cases hj : j = i
  · subst hj
    have l : j < ρ.length := by
      have := (List.getElem?_eq_some_iff.mp e).1
      simpa using this
    rw [List.getElem?_set_self l] at e
    have e := Option.some.inj (Option.some.inj e)
    subst e
    exact ⟨v, by rw [List.getElem?_set_self (by rw [← r.len]; exact l)], q⟩
  · rw [List.getElem?_set_ne (Ne.symm hj)] at e
    obtain ⟨w, h1, h2⟩ := r.at_ j y e
    exact ⟨w, by rw [List.getElem?_set_ne (Ne.symm hj)]; exact h1, h2⟩⟩
end
end Sm

set_option Elab.async false
set_option linter.all false
set_option maxRecDepth 100000
set_option maxHeartbeats 4000000
/-! the judgements: an expression, a test, arguments, as functions of the small machine -/
namespace Sm
open PySem L2
abbrev Wsh := Value → Option Addr → St → Hp → Prop
/-- an exception as it stands -/
def RX (K : PySem.W.Frag) (cl : Str → Option Addr) (mp : Mp) (H : Hp) (e : MV) (c : Value) (d : Option Addr) : Prop :=
  ∃ k ns vs C, e = .exn k ns vs ∧ cl k = some C ∧ c = .ref C ∧
    ((ns = [] ∧ vs = [] ∧ d = none) ∨ ∃ dd fs, d = some dd ∧ H dd = some (.xd fs) ∧ fs.map (·.1) = ns ∧ RVs K mp H vs (fs.map (·.2)))
section
variable (K : PySem.W.Frag) (cl : Str → Option Addr) (mp : Mp) (H : Hp)
def QV (Q : VK) : MV → MH → Prop := fun v h' => ∀ V H' mp', Fut K mp mp' H H' → Rl K cl mp' h' H' → RV K mp' H' v V → Q V H'
def QB (Q : Bool → Hp → Prop) : Bool → MH → Prop := fun v h' => ∀ H' mp', Fut K mp mp' H H' → Rl K cl mp' h' H' → Q v H'
def QA (Q : List V → Hp → Prop) : List MV → MH → Prop := fun v h' => ∀ V H' mp', Fut K mp mp' H H' → Rl K cl mp' h' H' → RVs K mp' H' v V → Q V H'
/-- a list just made, that nothing else knows -/
def QL (Q : VK) : List MV → MH → Prop := fun xs h' => ∀ p vs H' mp', Fut K mp mp' H H' → Rl K cl mp' h' H' → H p = none → (∀ n, mp' n ≠ some p) → H' p = some (.lst vs) → RVs K mp' H' xs vs → Q (.ref p) H'
def EW (W : Wsh) (σ : St) : MV → MH → Prop := fun e h' => ∀ c d H' mp', Fut K mp mp' H H' → Rl K cl mp' h' H' → RX K cl mp' H' e c d → W c d σ H'
end
section
variable {K : PySem.W.Frag} {cl : Str → Option Addr} {mp mp1 : Mp} {H H1 : Hp} {W : Wsh} {σ : St}
theorem QV.fut {Q : VK} (f : Fut K mp mp1 H H1) {v : MV} {h : MH} (q : QV K cl mp H Q v h) : QV K cl mp1 H1 Q v h := fun V H' mp' f' => q V H' mp' (f.trans f')
theorem QB.fut {Q : Bool → Hp → Prop} (f : Fut K mp mp1 H H1) {v : Bool} {h : MH} (q : QB K cl mp H Q v h) : QB K cl mp1 H1 Q v h := fun H' mp' f' => q H' mp' (f.trans f')
theorem QA.fut {Q : List V → Hp → Prop} (f : Fut K mp mp1 H H1) {v : List MV} {h : MH} (q : QA K cl mp H Q v h) : QA K cl mp1 H1 Q v h := fun V H' mp' f' => q V H' mp' (f.trans f')
theorem EW.fut (f : Fut K mp mp1 H H1) {e : MV} {h : MH} (q : EW K cl mp H W σ e h) : EW K cl mp1 H1 W σ e h := fun c d H' mp' f' => q c d H' mp' (f.trans f')
end
section
variable (K : PySem.W.Frag) (cl : Str → Option Addr) (W : Wsh)
def tM (m : ME) : TE := fun σ H Q => ∃ ρ h mp, Rl K cl mp h H ∧ RS K mp H ρ σ ∧ Good (m ρ h) (QV K cl mp H Q) (EW K cl mp H W σ)
def tMT (m : MS → MH → Res Bool) : TT := fun σ H Q => ∃ ρ h mp, Rl K cl mp h H ∧ RS K mp H ρ σ ∧ Good (m ρ h) (QB K cl mp H Q) (EW K cl mp H W σ)
def tMA (m : MA) : TA := fun σ H Q => ∃ ρ h mp, Rl K cl mp h H ∧ RS K mp H ρ σ ∧ Good (m ρ h) (QA K cl mp H Q) (EW K cl mp H W σ)
def tML (m : MA) : TE := fun σ H Q => ∃ ρ h mp, Rl K cl mp h H ∧ RS K mp H ρ σ ∧ Good (m ρ h) (QL K cl mp H Q) (EW K cl mp H W σ)
end
abbrev SE (X : Cx) (cl : Str → Option Addr) (W : Wsh) (e : Expr) (m : ME) : Prop := PE X e (tM X.K cl W m)
abbrev ST (X : Cx) (cl : Str → Option Addr) (W : Wsh) (e : Expr) (m : MS → MH → Res Bool) : Prop := PT X e (tMT X.K cl W m)
abbrev SW (X : Cx) (cl : Str → Option Addr) (W : Wsh) (e : Expr) (m : MS → MH → Res Bool) : Prop := PW X e (tMT X.K cl W m)
abbrev SA (X : Cx) (cl : Str → Option Addr) (W : Wsh) (es : List Expr) (m : MA) : Prop := PA X es (tMA X.K cl W m)
abbrev SL (X : Cx) (cl : Str → Option Addr) (W : Wsh) (e : Expr) (m : MA) : Prop := PE X e (tML X.K cl W m)
theorem peW {X : Cx} {e : Expr} {t t' : TE} (h : PE X e t) (w : ∀ σ H Q, t' σ H Q → t σ H Q) : PE X e t' := ⟨fun pins s σ H Q I q => h.run pins s σ H Q I (w σ H Q q)⟩
theorem ptW {X : Cx} {e : Expr} {t t' : TT} (h : PT X e t) (w : ∀ σ H Q, t' σ H Q → t σ H Q) : PT X e t' := ⟨fun pins s σ H Q I q => h.run pins s σ H Q I (w σ H Q q)⟩
theorem pwW {X : Cx} {e : Expr} {t t' : TT} (h : PW X e t) (w : ∀ σ H Q, t' σ H Q → t σ H Q) : PW X e t' := ⟨fun whole pins s σ H Q I q => h.run whole pins s σ H Q I (w σ H Q q)⟩
theorem paW {X : Cx} {e : List Expr} {t t' : TA} (h : PA X e t) (w : ∀ σ H Q, t' σ H Q → t σ H Q) : PA X e t' := ⟨fun pos pins s σ H Q I q => h.run pos pins s σ H Q I (w σ H Q q)⟩
/-! ### what comes first, then the rest -/
section
variable {K : PySem.W.Frag} {cl : Str → Option Addr} {W : Wsh} {mp : Mp} {h : MH} {H : Hp} {ρ : MS} {σ : St} {β : Type} {Q1 : β → MH → Prop} {E1 : MV → MH → Prop}
theorem tM_bind {m : ME} {f : MV → MH → Res β} {R : VK} (rl : Rl K cl mp h H) (rs : RS K mp H ρ σ) (g : Good ((m ρ h).bind f) Q1 E1) (hE : ∀ e h', E1 e h' → EW K cl mp H W σ e h')
    (k : ∀ x h1 V H1 mp1, Fut K mp mp1 H H1 → Rl K cl mp1 h1 H1 → RS K mp1 H1 ρ σ → RV K mp1 H1 x V → Good (f x h1) Q1 E1 → R V H1) : tM K cl W m σ H R :=
  ⟨ρ, h, mp, rl, rs, (Good.bind.mp g).mono (fun x h1 g1 V H1 mp1 f1 rl1 rv => k x h1 V H1 mp1 f1 rl1 (rs.fut f1) rv g1) hE⟩
theorem tMT_bind {m : MS → MH → Res Bool} {f : Bool → MH → Res β} {R : Bool → Hp → Prop} (rl : Rl K cl mp h H) (rs : RS K mp H ρ σ) (g : Good ((m ρ h).bind f) Q1 E1) (hE : ∀ e h', E1 e h' → EW K cl mp H W σ e h')
    (k : ∀ x h1 H1 mp1, Fut K mp mp1 H H1 → Rl K cl mp1 h1 H1 → RS K mp1 H1 ρ σ → Good (f x h1) Q1 E1 → R x H1) : tMT K cl W m σ H R :=
  ⟨ρ, h, mp, rl, rs, (Good.bind.mp g).mono (fun x h1 g1 H1 mp1 f1 rl1 => k x h1 H1 mp1 f1 rl1 (rs.fut f1) g1) hE⟩
theorem tMA_bind {m : MA} {f : List MV → MH → Res β} {R : List V → Hp → Prop} (rl : Rl K cl mp h H) (rs : RS K mp H ρ σ) (g : Good ((m ρ h).bind f) Q1 E1) (hE : ∀ e h', E1 e h' → EW K cl mp H W σ e h')
    (k : ∀ x h1 V H1 mp1, Fut K mp mp1 H H1 → Rl K cl mp1 h1 H1 → RS K mp1 H1 ρ σ → RVs K mp1 H1 x V → Good (f x h1) Q1 E1 → R V H1) : tMA K cl W m σ H R :=
  ⟨ρ, h, mp, rl, rs, (Good.bind.mp g).mono (fun x h1 g1 V H1 mp1 f1 rl1 rv => k x h1 V H1 mp1 f1 rl1 (rs.fut f1) rv g1) hE⟩
theorem tML_bind {m : MA} {f : List MV → MH → Res β} {R : VK} (rl : Rl K cl mp h H) (rs : RS K mp H ρ σ) (g : Good ((m ρ h).bind f) Q1 E1) (hE : ∀ e h', E1 e h' → EW K cl mp H W σ e h')
    (k : ∀ x h1 p vs H1 mp1, Fut K mp mp1 H H1 → Rl K cl mp1 h1 H1 → RS K mp1 H1 ρ σ → H p = none → (∀ n, mp1 n ≠ some p) → H1 p = some (.lst vs) → RVs K mp1 H1 x vs → Good (f x h1) Q1 E1 → R (.ref p) H1) : tML K cl W m σ H R :=
  ⟨ρ, h, mp, rl, rs, (Good.bind.mp g).mono (fun x h1 g1 p vs H1 mp1 f1 rl1 h0 np hp rv => k x h1 p vs H1 mp1 f1 rl1 (rs.fut f1) h0 np hp rv g1) hE⟩
end
/-! ### constants, names -/
@[simp] def eC (v : MV) : ME := fun _ h => .ok v h
@[simp] def eVar (i : Nat) : ME := fun ρ h => match ρ[i]? with | some (some v) => .ok v h | _ => .bad
section
variable {X : Cx} {cl : Str → Option Addr} {W : Wsh}
theorem se_const {e : Expr} {v : MV} {u : V} (h : PE X e (tC u)) (r : ∀ mp H, RV X.K mp H v u) : SE X cl W e (eC v) :=
  peW h fun σ H Q ⟨ρ, h, mp, rl, rs, g⟩ => g u H mp .refl rl (r mp H)
theorem se_int {i : Int} {j pos} : SE X cl W (.Constant (.int i) j pos) (eC (.int i)) := se_const pe_int fun _ _ => .int i
theorem se_bl {b : Bool} {j pos} : SE X cl W (.Constant (.bool b) j pos) (eC (.bl b)) := se_const pe_bl fun _ _ => .bl b
theorem se_non {j pos} : SE X cl W (.Constant .none j pos) (eC .non) := se_const pe_non fun _ _ => .non
theorem se_str {x : Str} {j pos} : SE X cl W (.Constant (.str x) j pos) (eC (.str x)) := se_const pe_str fun _ _ => .str x
theorem se_var {i : Nat} {e : Expr} (h : PE X e (tVar i)) : SE X cl W e (eVar i) := peW h fun σ H Q ⟨ρ, h, mp, rl, rs, g⟩ => by
  unfold eVar at g
  split at g
  · rename_i v e
    obtain ⟨u, h1, h2⟩ := rs.at_ i v e
    exact ⟨u, h1, g u H mp .refl rl h2⟩
  · exact g.elim
/-! ### operators -/
/-- an operation of two values stands for one of the small machine -/
def Op2 (X : Cx) (cl : Str → Option Addr) (r : R2) (mo : MV → MV → MH → Res MV) : Prop := ∀ x y V Y H h mp Q E, Rl X.K cl mp h H → RV X.K mp H x V → RV X.K mp H y Y → Good (mo x y h) (QV X.K cl mp H Q) E → (∀ e h', ¬ mo x y h = .ex e h') → r V Y H Q
@[simp] def eBin (mo : MV → MV → MH → Res MV) (ma mb : ME) : ME := fun ρ h => (ma ρ h).bind fun x h1 => (mb ρ h1).bind fun y h2 => mo x y h2
@[simp] def eUn (mo : MV → MH → Res MV) (ma : ME) : ME := fun ρ h => (ma ρ h).bind fun x h1 => mo x h1
/-- no exception comes of it -/
def NoEx2 (mo : MV → MV → MH → Res MV) : Prop := ∀ x y h e h', ¬ mo x y h = .ex e h'
variable {a b : Expr} {ma mb : ME} {mo : MV → MV → MH → Res MV} {r : R2} {pos : Pos}
theorem tOp_of (ok : Op2 X cl r mo) (ne : NoEx2 mo) : ∀ σ H Q, tM X.K cl W (eBin mo ma mb) σ H Q → tOp r (tM X.K cl W ma) (tM X.K cl W mb) σ H Q := fun σ H Q ⟨ρ, h, mp, rl, rs, g⟩ =>
  tM_bind rl rs g (fun _ _ z => z) fun x h1 V H1 mp1 f1 rl1 rs1 rv1 g1 =>
    tM_bind rl1 rs1 g1 (fun _ _ z => z.fut f1) fun y h2 Y H2 mp2 f2 rl2 rs2 rv2 g2 =>
      ok x y V Y H2 h2 mp2 Q _ rl2 (rv1.fut f2) rv2 (g2.mono (fun v h' q => q.fut (f1.trans f2)) fun _ _ z => z) (ne x y h2)
theorem se_bin {op : Operator} (ho : OpR X (binaryOp op) r) (ok : Op2 X cl r mo) (ne : NoEx2 mo) (ha : SE X cl W a ma) (hb : SE X cl W b mb) : SE X cl W (.BinOp a op b pos) (eBin mo ma mb) := peW (pe_op ho ha hb) (tOp_of ok ne)
theorem se_cmp {op : CmpOp} (ho : OpR X (compareOp op) r) (ok : Op2 X cl r mo) (ne : NoEx2 mo) (ha : SE X cl W a ma) (hb : SE X cl W b mb) (hm : behindInMarks op b = false) : SE X cl W (.Compare a [op] [b] pos) (eBin mo ma mb) := peW (pe_cmpR ho ha hb hm) (tOp_of ok ne)
/-- a value as a test: it is a truth -/
@[simp] def asB (v : MV) (h : MH) : Res Bool := match v with | .bl b => .ok b h | _ => .bad
@[simp] def tOfE (m : ME) : MS → MH → Res Bool := fun ρ h => (m ρ h).bind asB
theorem asB_ok {K : PySem.W.Frag} {mp mp1 : Mp} {H H1 : Hp} {x : MV} {V : V} {h : MH} {Q : Bool → Hp → Prop} {E : MV → MH → Prop} (f : Fut K mp mp1 H H1) (rl : Rl K cl mp1 h H1) (rv : RV K mp1 H1 x V) (g : Good (asB x h) (QB K cl mp H Q) E) : ∃ c, V = .bl c ∧ Q c H1 := by
  cases rv with
  | bl b => exact ⟨b, rfl, g H1 mp1 f rl⟩
  | _ => exact g.elim
theorem st_cmp {op : CmpOp} (ho : OpR X (compareOp op) r) (ok : Op2 X cl r mo) (ne : NoEx2 mo) (ha : SE X cl W a ma) (hb : SE X cl W b mb) (hm : behindInMarks op b = false) : ST X cl W (.Compare a [op] [b] pos) (tOfE (eBin mo ma mb)) :=
  ptW (pt_cmpR ho ha hb hm) fun σ H Q ⟨ρ, h, mp, rl, rs, g⟩ => tOp_of (mo := mo) ok ne σ H _ (tM_bind rl rs g (fun _ _ z => z) fun x h1 V H1 mp1 f1 rl1 rs1 rv1 g1 => asB_ok f1 rl1 rv1 g1)
theorem st_val {e : Expr} {m : ME} (he : SE X cl W e m) (hw : ∀ whole, isTrue e X.env whole = (do let v ← whole; standAt e.pos; holding [v] (truthy v)) := by intro _; rfl) : ST X cl W e (tOfE m) :=
  ptW (pt_val he hw) fun σ H Q ⟨ρ, h, mp, rl, rs, g⟩ => tM_bind rl rs g (fun _ _ z => z) fun x h1 V H1 mp1 f1 rl1 rs1 rv1 g1 => asB_ok f1 rl1 rv1 g1
/-! ### and, or, not -/
@[simp] def tAndM (m1 m2 : MS → MH → Res Bool) : MS → MH → Res Bool := fun ρ h => (m1 ρ h).bind fun c h1 => if c = true then m2 ρ h1 else .ok false h1
@[simp] def tOrM (m1 m2 : MS → MH → Res Bool) : MS → MH → Res Bool := fun ρ h => (m1 ρ h).bind fun c h1 => if c = true then .ok true h1 else m2 ρ h1
@[simp] def tNotM (m1 : MS → MH → Res Bool) : MS → MH → Res Bool := fun ρ h => (m1 ρ h).bind fun c h1 => .ok (!c) h1
variable {m1 m2 : MS → MH → Res Bool} {rest : List Expr}
theorem sw_and1 (ha : ST X cl W a m1) : SW X cl W (.BoolOp .And [a] pos) m1 := pw_and1 ha
theorem sw_or1 (ha : ST X cl W a m1) : SW X cl W (.BoolOp .Or [a] pos) m1 := pw_or1 ha
theorem sw_and (ha : ST X cl W a m1) (hb : SW X cl W (.BoolOp .And (b :: rest) pos) m2) : SW X cl W (.BoolOp .And (a :: b :: rest) pos) (tAndM m1 m2) :=
  pwW (pw_and ha hb) fun σ H Q ⟨ρ, h, mp, rl, rs, g⟩ => tMT_bind rl rs g (fun _ _ z => z) fun c h1 H1 mp1 f1 rl1 rs1 g1 => by
    cases c with
    | true => exact ⟨ρ, h1, mp1, rl1, rs1, Good.mono g1 (fun _ _ q => q.fut f1) fun _ _ q => q.fut f1⟩
    | false => exact g1 H1 mp1 f1 rl1
theorem sw_or (ha : ST X cl W a m1) (hb : SW X cl W (.BoolOp .Or (b :: rest) pos) m2) : SW X cl W (.BoolOp .Or (a :: b :: rest) pos) (tOrM m1 m2) :=
  pwW (pw_or ha hb) fun σ H Q ⟨ρ, h, mp, rl, rs, g⟩ => tMT_bind rl rs g (fun _ _ z => z) fun c h1 H1 mp1 f1 rl1 rs1 g1 => by
    cases c with
    | true => exact g1 H1 mp1 f1 rl1
    | false => exact ⟨ρ, h1, mp1, rl1, rs1, Good.mono g1 (fun _ _ q => q.fut f1) fun _ _ q => q.fut f1⟩
theorem st_not (ha : ST X cl W a m1) : ST X cl W (.UnaryOp .Not a pos) (tNotM m1) :=
  ptW (pt_not ha) fun σ H Q ⟨ρ, h, mp, rl, rs, g⟩ => tMT_bind rl rs g (fun _ _ z => z) fun c h1 H1 mp1 f1 rl1 rs1 g1 => g1 H1 mp1 f1 rl1
/-- as values: truths -/
@[simp] def eAnd (ma mb : ME) : ME := fun ρ h => (ma ρ h).bind fun x h1 => match x with | .bl true => mb ρ h1 | .bl false => .ok (.bl false) h1 | _ => .bad
@[simp] def eOr (ma mb : ME) : ME := fun ρ h => (ma ρ h).bind fun x h1 => match x with | .bl true => .ok (.bl true) h1 | .bl false => mb ρ h1 | _ => .bad
@[simp] def eNot (ma : ME) : ME := fun ρ h => (ma ρ h).bind fun x h1 => match x with | .bl b => .ok (.bl (!b)) h1 | _ => .bad
theorem se_one {op} {m : ME} (ha : SE X cl W a m) : SE X cl W (.BoolOp op [a] pos) m := pe_one ha
theorem se_and (ha : SE X cl W a ma) (hb : SE X cl W (.BoolOp .And (b :: rest) pos) mb) : SE X cl W (.BoolOp .And (a :: b :: rest) pos) (eAnd ma mb) :=
  peW (pe_and ha hb) fun σ H Q ⟨ρ, h, mp, rl, rs, g⟩ => tM_bind rl rs g (fun _ _ z => z) fun x h1 V H1 mp1 f1 rl1 rs1 rv1 g1 => by
    cases rv1 with
    | bl c =>
      cases c with
      | true => exact ⟨true, rfl, ⟨ρ, h1, mp1, rl1, rs1, Good.mono g1 (fun _ _ q => q.fut f1) fun _ _ q => q.fut f1⟩⟩
      | false => exact ⟨false, rfl, g1 _ H1 mp1 f1 rl1 (.bl false)⟩
    | _ => exact g1.elim
theorem se_or (ha : SE X cl W a ma) (hb : SE X cl W (.BoolOp .Or (b :: rest) pos) mb) : SE X cl W (.BoolOp .Or (a :: b :: rest) pos) (eOr ma mb) :=
  peW (pe_or ha hb) fun σ H Q ⟨ρ, h, mp, rl, rs, g⟩ => tM_bind rl rs g (fun _ _ z => z) fun x h1 V H1 mp1 f1 rl1 rs1 rv1 g1 => by
    cases rv1 with
    | bl c =>
      cases c with
      | true => exact ⟨true, rfl, g1 _ H1 mp1 f1 rl1 (.bl true)⟩
      | false => exact ⟨false, rfl, ⟨ρ, h1, mp1, rl1, rs1, Good.mono g1 (fun _ _ q => q.fut f1) fun _ _ q => q.fut f1⟩⟩
    | _ => exact g1.elim
theorem se_not (ha : SE X cl W a ma) : SE X cl W (.UnaryOp .Not a pos) (eNot ma) :=
  peW (pe_not ha) fun σ H Q ⟨ρ, h, mp, rl, rs, g⟩ => tM_bind rl rs g (fun _ _ z => z) fun x h1 V H1 mp1 f1 rl1 rs1 rv1 g1 => by
    cases rv1 with
    | bl c => exact ⟨c, rfl, g1 _ H1 mp1 f1 rl1 (.bl _)⟩
    | _ => exact g1.elim
@[simp] def eIf (mc : MS → MH → Res Bool) (ma mb : ME) : ME := fun ρ h => (mc ρ h).bind fun c h1 => if c = true then ma ρ h1 else mb ρ h1
theorem se_if {c : Expr} (hc : ST X cl W c m1) (ha : SE X cl W a ma) (hb : SE X cl W b mb) : SE X cl W (.IfExp c a b pos) (eIf m1 ma mb) :=
  peW (pe_ifExp hc ha hb) fun σ H Q ⟨ρ, h, mp, rl, rs, g⟩ => tMT_bind rl rs g (fun _ _ z => z) fun c h1 H1 mp1 f1 rl1 rs1 g1 => by
    cases c with
    | true => exact ⟨ρ, h1, mp1, rl1, rs1, Good.mono g1 (fun _ _ q => q.fut f1) fun _ _ q => q.fut f1⟩
    | false => exact ⟨ρ, h1, mp1, rl1, rs1, Good.mono g1 (fun _ _ q => q.fut f1) fun _ _ q => q.fut f1⟩
/-! ### arguments, displays -/
@[simp] def aNil : MA := fun _ h => .ok [] h
@[simp] def aCons (m : ME) (ms : MA) : MA := fun ρ h => (m ρ h).bind fun x h1 => (ms ρ h1).bind fun xs h2 => .ok (x :: xs) h2
variable {e : Expr} {es : List Expr} {m : ME} {ms : MA}
theorem sa_nil : SA X cl W [] aNil := paW pa_nil fun σ H Q ⟨ρ, h, mp, rl, rs, g⟩ => g [] H mp .refl rl .nil
theorem sa_cons (he : SE X cl W e m) (hr : SA X cl W es ms) (hs : starEach (e :: es) X.env = (false, eval e X.env) :: starEach es X.env := by rfl) : SA X cl W (e :: es) (aCons m ms) :=
  paW (pa_cons he hr hs) fun σ H Q ⟨ρ, h, mp, rl, rs, g⟩ => tM_bind rl rs g (fun _ _ z => z) fun x h1 V H1 mp1 f1 rl1 rs1 rv1 g1 =>
    tMA_bind rl1 rs1 g1 (fun _ _ z => z.fut f1) fun xs h2 Y H2 mp2 f2 rl2 rs2 rv2 g2 => g2 (V :: Y) H2 mp2 (f1.trans f2) rl2 (.cons (rv1.fut f2) rv2)
@[simp] def szOk (n : Nat) : Prop := n ≤ 1000000
theorem szOk.le {n : Nat} (h : szOk n) : n ≤ sizeLine := Nat.le_trans h (by decide)
instance {n : Nat} : Decidable (szOk n) := inferInstanceAs (Decidable (n ≤ 1000000))
@[simp] def eTup (ms : MA) : ME := fun ρ h => (ms ρ h).bind fun xs h1 => if szOk xs.length then .ok (.tup xs) h1 else .bad
theorem se_tup {x1} (hs : SA X cl W es ms) : SE X cl W (.Tuple es x1 pos) (eTup ms) :=
  peW (pe_tup hs) fun σ H Q ⟨ρ, h, mp, rl, rs, g⟩ => tMA_bind rl rs g (fun _ _ z => z) fun xs h1 V H1 mp1 f1 rl1 rs1 rv1 g1 => by
    split at g1
    · rename_i hz
      refine ⟨by rw [← rv1.length]; exact hz.le, fun p hp => ?_⟩
      exact g1 _ _ mp1 (f1.trans (Fut.new hp)) (rl1.new hp) (.tup (SqT.of upd_same) (rv1.fut (Fut.new hp)))
    · exact g1.elim
/-- a list just made -/
@[simp] def lDisp (ms : MA) : MA := fun ρ h => (ms ρ h).bind fun xs h1 => if szOk xs.length then .ok xs h1 else .bad
theorem newList {K : PySem.W.Frag} {mp mp1 : Mp} {H H1 : Hp} {h1 : MH} {xs : List MV} {vs : List V} {Q : VK} {p : Addr} (f1 : Fut K mp mp1 H H1) (rl1 : Rl K cl mp1 h1 H1) (rv : RVs K mp1 H1 xs vs) (hp : H1 p = none) (q : QL K cl mp H Q xs h1) : Q (.ref p) (upd H1 p (.lst vs)) := by
  have h0 : H p = none := by
    cases e : H p with
    | none => rfl
    | some o =>
      by_cases hn : ∃ n, mp n = some p
      · obtain ⟨n, hn⟩ := hn
        obtain ⟨u, _, ro⟩ := rl1.cell (f1.le n p hn)
        obtain ⟨z, hz, _⟩ := ro.some
        rw [hp] at hz; cases hz
      · have := (f1.fr p o e fun n hz => hn ⟨n, hz⟩).1
        rw [hp] at this; cases this
  refine q p vs _ mp1 (f1.trans (Fut.new hp)) (rl1.new hp) h0 (fun n hn => ?_) upd_same (rv.fut (Fut.new hp))
  obtain ⟨u, _, ro⟩ := rl1.cell hn
  obtain ⟨z, hz, _⟩ := ro.some
  rw [hp] at hz; cases hz
theorem sl_disp (hs : SA X cl W es ms) : SL X cl W (.List es pos) (lDisp ms) :=
  peW (pe_lst hs) fun σ H Q ⟨ρ, h, mp, rl, rs, g⟩ => tMA_bind rl rs g (fun _ _ z => z) fun xs h1 V H1 mp1 f1 rl1 rs1 rv1 g1 => by
    split at g1
    · rename_i hz
      exact ⟨by rw [← rv1.length]; exact hz.le, fun p hp => newList f1 rl1 rv1 hp g1⟩
    · exact g1.elim
/-- it becomes a cell -/
@[simp] def eNew (ms : MA) : ME := fun ρ h => (ms ρ h).bind fun xs h1 => .ok (.ref h1.length) (h1 ++ [.lst xs])
theorem se_new (hl : SL X cl W e ms) : SE X cl W e (eNew ms) :=
  peW hl fun σ H Q ⟨ρ, h, mp, rl, rs, g⟩ => tML_bind rl rs g (fun _ _ z => z) fun xs h1 p vs H1 mp1 f1 rl1 rs1 h0 np hp rv g1 =>
    g1 (.ref p) H1 (Mp.put mp1 h1.length p) (f1.toCell rl1 h0) (rl1.toCell np ⟨vs, hp, rv⟩) (.ref Mp.put_same)
end
end Sm

set_option Elab.async false
set_option linter.all false
set_option maxRecDepth 100000
set_option maxHeartbeats 4000000
/-! the operators -/
namespace Sm
open PySem L2
def never : MV → MH → Prop := fun _ _ => False
/-- an operation of the small machine, by values -/
def rM (K : PySem.W.Frag) (cl : Str → Option Addr) (mo : MV → MV → MH → Res MV) : R2 := fun V Y H Q => ∃ x y h mp, Rl K cl mp h H ∧ RV K mp H x V ∧ RV K mp H y Y ∧ Good (mo x y h) (QV K cl mp H Q) never
theorem rM_ok {X : Cx} {cl : Str → Option Addr} {mo : MV → MV → MH → Res MV} : Op2 X cl (rM X.K cl mo) mo := fun x y V Y H h mp Q E rl r1 r2 g ne => ⟨x, y, h, mp, rl, r1, r2, by
  cases e : mo x y h with
  | ok v h' => rw [e] at g; exact g
  | ex v h' => exact (ne v h' e).elim
  | bad => rw [e] at g; exact g⟩
/-- no exception -/
theorem noEx {α : Type} {r : Res α} (h : match r with | .ex _ _ => False | _ => True) : ∀ e h', ¬ r = .ex e h' := fun e h' z => by subst z; exact h
section
variable {X : Cx} {cl : Str → Option Addr} {W : Wsh}
/-! a new cell -/
theorem newCell {K : PySem.W.Frag} {mp : Mp} {h : MH} {H : Hp} {p : Addr} {xs : List MV} {vs : List V} (rl : Rl K cl mp h H) (hp : H p = none) (rv : RVs K mp H xs vs) :
    Fut K mp (Mp.put mp h.length p) H (upd H p (.lst vs)) ∧ Rl K cl (Mp.put mp h.length p) (h ++ [.lst xs]) (upd H p (.lst vs)) := by
  refine ⟨(Fut.new (o := .lst vs) hp).toCell (rl.new hp) hp, (rl.new hp).toCell (fun n e => ?_) ⟨vs, upd_same, rv.fut (Fut.new hp)⟩⟩
  obtain ⟨u, _, ro⟩ := rl.cell e
  obtain ⟨z, hz, _⟩ := ro.some
  rw [hp] at hz; cases hz
/-! ### arithmetic -/
def mAdd (x y : MV) (h : MH) : Res MV := match x, y with
  | .int i, .int j => .ok (.int (i + j)) h
  | .str a, .str b => if szOk (a.length + b.length) then .ok (.str (a ++ b)) h else .bad
  | .tup xs, .tup ys => if szOk (xs.length + ys.length) then .ok (.tup (xs ++ ys)) h else .bad
  | .ref n, .ref k => match h[n]?, h[k]? with
    | some (.lst xs), some (.lst ys) => if szOk (xs.length + ys.length) then .ok (.ref h.length) (h ++ [.lst (xs ++ ys)]) else .bad
    | _, _ => .bad
  | _, _ => .bad
theorem catT {K : PySem.W.Frag} {mp : Mp} {h : MH} {H : Hp} {a b : Addr} {xs ys : List MV} {vs ws : List V} {Q : VK} (rl : Rl K cl mp h H) (h1 : TpA K H a vs) (r1 : RVs K mp H xs vs) (h2 : TpA K H b ws) (r2 : RVs K mp H ys ws) (hz : szOk (xs.length + ys.length))
    (q : QV K cl mp H Q (.tup (xs ++ ys)) h) : rCatA K (.ref a) (.ref b) H Q := by
  refine ⟨a, b, vs, ws, rfl, rfl, h1, h2, by rw [← r1.length, ← r2.length]; exact hz.le, fun e => ?_, fun _ e => ?_, fun _ _ p hp => ?_⟩
  · subst e
    cases r1
    exact q _ H mp .refl rl (.tup h2 r2)
  · subst e
    cases r2
    rw [List.append_nil] at q
    exact q _ H mp .refl rl (.tup h1 r1)
  · exact q _ _ mp (Fut.new hp) (rl.new hp) (.tup (SqT.of upd_same) ((r1.append r2).fut (Fut.new hp)))
theorem op_addM : OpR X (binaryOp .Add) (rM X.K cl mAdd) := by
  intro pins s σ H V Y v u Q I rx ry ⟨x, y, h, mp, rl, r1, r2, g⟩
  cases r1 with
  | int i =>
    cases r2 with
    | int j => exact op_add pins s σ H _ _ v u Q I rx ry ⟨i, j, rfl, rfl, g _ H mp .refl rl (.int _)⟩
    | _ => exact g.elim
  | str a =>
    cases r2 with
    | str b =>
      unfold mAdd at g
      dsimp only at g
      split at g
      · rename_i hz
        exact op_add_str pins s σ H _ _ v u Q I rx ry ⟨a, b, rfl, rfl, hz.le, g _ H mp .refl rl (.str _)⟩
      · exact g.elim
    | _ => exact g.elim
  | tup h1 q1 =>
    cases r2 with
    | tup h2 q2 =>
      unfold mAdd at g
      dsimp only at g
      split at g
      · rename_i hz
        exact op_catA pins s σ H _ _ v u Q I rx ry (catT rl h1 q1 h2 q2 hz g)
      · exact g.elim
    | _ => exact g.elim
  | @ref n a e1 =>
    cases r2 with
    | @ref k b e2 =>
      unfold mAdd at g
      dsimp only at g
      split at g
      · rename_i xs ys c1 c2
        split at g
        · rename_i hz
          obtain ⟨vs, h1, q1⟩ := rl.obj n _ a c1 e1
          obtain ⟨ws, h2, q2⟩ := rl.obj k _ b c2 e2
          refine op_cat pins s σ H _ _ v u Q I rx ry ⟨a, b, vs, ws, rfl, rfl, h1, h2, by rw [← q1.length, ← q2.length]; exact hz.le, fun p hp => ?_⟩
          obtain ⟨f, rl'⟩ := newCell rl hp (q1.append q2)
          exact g _ _ _ f rl' (.ref Mp.put_same)
        · exact g.elim
      · exact g.elim
    | _ => exact g.elim
  | _ => exact g.elim
def mSub (x y : MV) (h : MH) : Res MV := match x, y with | .int i, .int j => .ok (.int (i - j)) h | _, _ => .bad
theorem op_subM : OpR X (binaryOp .Sub) (rM X.K cl mSub) := by
  intro pins s σ H V Y v u Q I rx ry ⟨x, y, h, mp, rl, r1, r2, g⟩
  cases r1 with
  | int i =>
    cases r2 with
    | int j => exact op_sub pins s σ H _ _ v u Q I rx ry ⟨i, j, rfl, rfl, g _ H mp .refl rl (.int _)⟩
    | _ => exact g.elim
  | _ => exact g.elim
/-- a great number's line -/
def lowI (i : Int) : Prop := i.natAbs < 18446744073709551616
instance {i : Int} : Decidable (lowI i) := inferInstanceAs (Decidable (_ < _))
theorem lowI.to {i : Int} (h : lowI i) : -(2 ^ 64) < i ∧ i < 2 ^ 64 := by unfold lowI at h; omega
instance {x : Str} {n : Int} : Decidable (MulOk x n) := inferInstanceAs (Decidable (_ ∧ _))
def mMul (x y : MV) (h : MH) : Res MV := match x, y with
  | .int i, .int j => if lowI i ∨ lowI j then .ok (.int (i * j)) h else .bad
  | .str a, .int n => if MulOk a n then .ok (.str (Txt.mul a n)) h else .bad
  | _, _ => .bad
theorem op_mulS : OpR X (binaryOp .Mult) (fun x y H Q => ∃ i n, x = .str i ∧ y = .int n ∧ MulOk i n ∧ Q (.str (Txt.mul i n)) H) := by
  intro pins s σ H x y v u Q I rx ry h
  obtain ⟨i, n, rfl, rfl, hm, q⟩ := h
  obtain ⟨t, rfl⟩ := rx
  obtain ⟨t', rfl⟩ := ry
  exact SB.mul hm fun t' tk => ⟨.str (Txt.mul i n), H, I.tok _, ⟨_, rfl⟩, q⟩
theorem op_mulM : OpR X (binaryOp .Mult) (rM X.K cl mMul) := by
  intro pins s σ H V Y v u Q I rx ry ⟨x, y, h, mp, rl, r1, r2, g⟩
  cases r1 with
  | int i =>
    cases r2 with
    | int j =>
      unfold mMul at g
      dsimp only at g
      split at g
      · rename_i hz
        exact op_mul pins s σ H _ _ v u Q I rx ry ⟨i, j, rfl, rfl, hz.elim (fun z => .inl z.to) (fun z => .inr z.to), g _ H mp .refl rl (.int _)⟩
      · exact g.elim
    | _ => exact g.elim
  | str a =>
    cases r2 with
    | int j =>
      unfold mMul at g
      dsimp only at g
      split at g
      · rename_i hz
        exact op_mulS pins s σ H _ _ v u Q I rx ry ⟨a, j, rfl, rfl, hz, g _ H mp .refl rl (.str _)⟩
      · exact g.elim
    | _ => exact g.elim
  | _ => exact g.elim
def mMod (x y : MV) (h : MH) : Res MV := match x, y with | .int i, .int j => if 0 < j then .ok (.int (i % j)) h else .bad | _, _ => .bad
theorem op_modM : OpR X (binaryOp .Mod) (rM X.K cl mMod) := by
  intro pins s σ H V Y v u Q I rx ry ⟨x, y, h, mp, rl, r1, r2, g⟩
  cases r1 with
  | int i =>
    cases r2 with
    | int j =>
      unfold mMod at g
      dsimp only at g
      split at g
      · rename_i hz
        exact op_mod pins s σ H _ _ v u Q I rx ry ⟨i, j, rfl, rfl, hz, g _ H mp .refl rl (.int _)⟩
      · exact g.elim
    | _ => exact g.elim
  | _ => exact g.elim
def mDiv (x y : MV) (h : MH) : Res MV := match x, y with | .int i, .int j => if 0 < j ∧ j < 1073741824 then .ok (.int (i / j)) h else .bad | _, _ => .bad
theorem op_divM : OpR X (binaryOp .FloorDiv) (rM X.K cl mDiv) := by
  intro pins s σ H V Y v u Q I rx ry ⟨x, y, h, mp, rl, r1, r2, g⟩
  cases r1 with
  | int i =>
    cases r2 with
    | int j =>
      unfold mDiv at g
      dsimp only at g
      split at g
      · rename_i hz
        exact op_fdiv pins s σ H _ _ v u Q I rx ry ⟨i, j, rfl, rfl, hz, g _ H mp .refl rl (.int _)⟩
      · exact g.elim
    | _ => exact g.elim
  | _ => exact g.elim
def mPow (x y : MV) (h : MH) : Res MV := match x, y with | .int i, .int j => if 0 ≤ j ∧ j ≤ 1000 ∧ lowI i then .ok (.int (i ^ j.toNat)) h else .bad | _, _ => .bad
theorem op_powM : OpR X (binaryOp .Pow) (rM X.K cl mPow) := by
  intro pins s σ H V Y v u Q I rx ry ⟨x, y, h, mp, rl, r1, r2, g⟩
  cases r1 with
  | int i =>
    cases r2 with
    | int j =>
      unfold mPow at g
      dsimp only at g
      split at g
      · rename_i hz
        exact op_pow pins s σ H _ _ v u Q I rx ry ⟨i, j, rfl, rfl, ⟨hz.1, by omega, by have := hz.2.2; unfold lowI at this; omega⟩, g _ H mp .refl rl (.int _)⟩
      · exact g.elim
    | _ => exact g.elim
  | _ => exact g.elim
/-! ### comparisons -/
def mLt (x y : MV) (h : MH) : Res MV := match x, y with | .int i, .int j => .ok (.bl (decide (i < j))) h | .str i, .str j => .ok (.bl (decide (i.cps.toList < j.cps.toList))) h | _, _ => .bad
def mLe (x y : MV) (h : MH) : Res MV := match x, y with | .int i, .int j => .ok (.bl (decide (i ≤ j))) h | _, _ => .bad
def mGt (x y : MV) (h : MH) : Res MV := match x, y with | .int i, .int j => .ok (.bl (decide (j < i))) h | _, _ => .bad
def mGe (x y : MV) (h : MH) : Res MV := match x, y with | .int i, .int j => .ok (.bl (decide (j ≤ i))) h | _, _ => .bad
theorem op_ltM : OpR X (compareOp .Lt) (rM X.K cl mLt) := by
  intro pins s σ H V Y v u Q I rx ry ⟨x, y, h, mp, rl, r1, r2, g⟩
  cases r1 with
  | int i =>
    cases r2 with
    | int j => exact op_lt pins s σ H _ _ v u Q I rx ry ⟨i, j, rfl, rfl, g _ H mp .refl rl (.bl _)⟩
    | _ => exact g.elim
  | str i =>
    cases r2 with
    | str j => exact op_lt_str pins s σ H _ _ v u Q I rx ry ⟨i, j, rfl, rfl, g _ H mp .refl rl (.bl _)⟩
    | _ => exact g.elim
  | _ => exact g.elim
theorem op_leM : OpR X (compareOp .LtE) (rM X.K cl mLe) := by
  intro pins s σ H V Y v u Q I rx ry ⟨x, y, h, mp, rl, r1, r2, g⟩
  cases r1 with
  | int i =>
    cases r2 with
    | int j => exact op_le pins s σ H _ _ v u Q I rx ry ⟨i, j, rfl, rfl, g _ H mp .refl rl (.bl _)⟩
    | _ => exact g.elim
  | _ => exact g.elim
theorem op_gtM : OpR X (compareOp .Gt) (rM X.K cl mGt) := by
  intro pins s σ H V Y v u Q I rx ry ⟨x, y, h, mp, rl, r1, r2, g⟩
  cases r1 with
  | int i =>
    cases r2 with
    | int j => exact op_gt pins s σ H _ _ v u Q I rx ry ⟨i, j, rfl, rfl, g _ H mp .refl rl (.bl _)⟩
    | _ => exact g.elim
  | _ => exact g.elim
theorem op_geM : OpR X (compareOp .GtE) (rM X.K cl mGe) := by
  intro pins s σ H V Y v u Q I rx ry ⟨x, y, h, mp, rl, r1, r2, g⟩
  cases r1 with
  | int i =>
    cases r2 with
    | int j => exact op_ge pins s σ H _ _ v u Q I rx ry ⟨i, j, rfl, rfl, g _ H mp .refl rl (.bl _)⟩
    | _ => exact g.elim
  | _ => exact g.elim
/-- == of scalars -/
def scalM : MV → MV → Option Bool
  | .non, .non => some true | .non, .int _ => some false | .int _, .non => some false | .non, .bl _ => some false | .bl _, .non => some false | .non, .str _ => some false | .str _, .non => some false
  | .int i, .int j => some (decide (i = j)) | .bl i, .bl j => some (decide (i = j)) | .str i, .str j => some (decide (i = j))
  | .int _, .str _ => some false | .str _, .int _ => some false | .bl _, .str _ => some false | .str _, .bl _ => some false
  | _, _ => none
/-- as data -/
def pdv (h : MH) : Nat → MV → Option PyData
  | 0, _ => none
  | _ + 1, .non => some .none
  | _ + 1, .bl b => some (.bool b)
  | _ + 1, .int i => some (.int i)
  | _ + 1, .str x => some (.str x)
  | n + 1, .tup xs => (xs.mapM (pdv h n)).map PyData.tuple
  | n + 1, .ref k => match h[k]? with | some (.lst xs) => (xs.mapM (pdv h n)).map PyData.list | _ => none
  | _ + 1, .scr _ => none
  | _ + 1, .exn _ _ _ => none
def mEqB (x y : MV) (h : MH) : Option Bool := match scalM x y with
  | some b => some b
  | none => match pdv h 60 x, pdv h 60 y with
    | some d, some e => if SeqAt.shaped d && SeqAt.shaped e then some (PyData.eqv d e) else none
    | _, _ => none
def mEq (x y : MV) (h : MH) : Res MV := match mEqB x y h with | some b => .ok (.bl b) h | none => .bad
def mNe (x y : MV) (h : MH) : Res MV := match mEqB x y h with | some b => .ok (.bl (!b)) h | none => .bad
theorem pdv_dp {K : PySem.W.Frag} {mp : Mp} {h : MH} {H : Hp} (rl : Rl K cl mp h H) : ∀ (n : Nat) {x : MV} {V : L2.V} {d : PyData}, RV K mp H x V → pdv h n x = some d → Dp K H V d := by
  intro n
  induction n with
  | zero => intro x V d _ e; simp [pdv] at e
  | succ n ih =>
    have all : ∀ {xs : List MV} {vs : List V} {ds : List PyData}, RVs K mp H xs vs → xs.mapM (pdv h n) = some ds → DpAll K H vs ds := by
      intro xs
      induction xs with
      | nil => intro vs ds r e; cases r; simp at e; subst e; exact .nil
      | cons x xs ih2 =>
        intro vs ds r e
        cases r with
        | cons r t =>
          rw [List.mapM_cons] at e
          simp only [Option.bind_eq_bind, Option.pure_def, Option.bind_eq_some_iff] at e
          obtain ⟨d, e1, ds', e2, e3⟩ := e
          have := Option.some.inj e3
          subst this
          exact .cons (ih r e1) (ih2 t e2)
    intro x V d r e
    cases r with
    | non => simp only [pdv] at e; cases e; exact .non
    | bl b => simp only [pdv] at e; cases e; exact .bl b
    | int b => simp only [pdv] at e; cases e; exact .int b
    | str b => simp only [pdv] at e; cases e; exact .str b
    | tup h1 r1 =>
      simp only [pdv, Option.map_eq_some_iff] at e
      obtain ⟨ds, e1, e2⟩ := e
      subst e2
      exact .tup h1 (all r1 e1)
    | @ref k a e1 =>
      simp only [pdv] at e
      split at e
      · rename_i xs c
        simp only [Option.map_eq_some_iff] at e
        obtain ⟨ds, e2, e3⟩ := e
        subst e3
        obtain ⟨vs, h1, r1⟩ := rl.obj k _ a c e1
        exact .lst (SqL.of h1) (all r1 e2)
      · cases e
    | scr h1 r1 => simp only [pdv] at e; cases e
theorem scal_ok {K : PySem.W.Frag} {mp : Mp} {H : Hp} {x y : MV} {V Y : L2.V} {b : Bool} (r1 : RV K mp H x V) (r2 : RV K mp H y Y) (e : scalM x y = some b) : scal V Y = true ∧ decide (V = Y) = b := by
  cases r1 <;> cases r2 <;> simp [scalM] at e <;> subst e <;> simp [scal]
theorem mEqB_ok {K : PySem.W.Frag} {mp : Mp} {h : MH} {H : Hp} {x y : MV} {V Y : L2.V} {b : Bool} (rl : Rl K cl mp h H) (r1 : RV K mp H x V) (r2 : RV K mp H y Y) (e : mEqB x y h = some b) :
    (scal V Y = true ∧ decide (V = Y) = b) ∨ ∃ d e, Dp K H V d ∧ Dp K H Y e ∧ SeqAt.shaped d = true ∧ SeqAt.shaped e = true ∧ PyData.eqv d e = b := by
  unfold mEqB at e
  split at e
  · rename_i b' es
    have := Option.some.inj e
    subst this
    exact .inl (scal_ok r1 r2 es)
  · split at e
    · rename_i d e' h1 h2
      split at e
      · rename_i hs
        rw [Bool.and_eq_true] at hs
        exact .inr ⟨d, e', pdv_dp rl _ r1 h1, pdv_dp rl _ r2 h2, hs.1, hs.2, Option.some.inj e⟩
      · cases e
    · cases e
theorem op_eqM (hu : X.A.units + 64 < cLine) : OpR X (compareOp .Eq) (rM X.K cl mEq) := by
  intro pins s σ H V Y v u Q I rx ry ⟨x, y, h, mp, rl, r1, r2, g⟩
  unfold mEq at g
  split at g
  · rename_i b e
    have q : Q (.bl b) H := g _ H mp .refl rl (.bl b)
    rcases mEqB_ok rl r1 r2 e with ⟨h1, h2⟩ | ⟨d, e', h1, h2, h3, h4, h5⟩
    · exact op_eq pins s σ H _ _ v u Q I rx ry ⟨h1, by rw [h2]; exact q⟩
    · exact op_eqD hu pins s σ H _ _ v u Q I rx ry ⟨d, e', h1, h2, h3, h4, by rw [h5]; exact q⟩
  · exact g.elim
theorem op_neM (hu : X.A.units + 64 < cLine) : OpR X (compareOp .NotEq) (rM X.K cl mNe) := by
  intro pins s σ H V Y v u Q I rx ry ⟨x, y, h, mp, rl, r1, r2, g⟩
  unfold mNe at g
  split at g
  · rename_i b e
    have q : Q (.bl (!b)) H := g _ H mp .refl rl (.bl _)
    rcases mEqB_ok rl r1 r2 e with ⟨h1, h2⟩ | ⟨d, e', h1, h2, h3, h4, h5⟩
    · exact op_ne pins s σ H _ _ v u Q I rx ry ⟨h1, by rw [h2]; exact q⟩
    · exact op_neD hu pins s σ H _ _ v u Q I rx ry ⟨d, e', h1, h2, h3, h4, by rw [h5]; exact q⟩
  · exact g.elim
/-- x is None -/
def noneM : MV → Bool | .non => true | _ => false
def mIs (x y : MV) (h : MH) : Res MV := match y with | .non => .ok (.bl (noneM x)) h | _ => .bad
def mIsNot (x y : MV) (h : MH) : Res MV := match y with | .non => .ok (.bl (!noneM x)) h | _ => .bad
theorem noneM_ok {K : PySem.W.Frag} {mp : Mp} {H : Hp} {x : MV} {V : L2.V} (r : RV K mp H x V) : decide (V = .non) = noneM x := by cases r <;> simp [noneM]
theorem op_isM : OpR X (compareOp .Is) (rM X.K cl mIs) := by
  intro pins s σ H V Y v u Q I rx ry ⟨x, y, h, mp, rl, r1, r2, g⟩
  cases r2 with
  | non => exact op_isN pins s σ H _ _ v u Q I rx ry ⟨rfl, by rw [noneM_ok r1]; exact g _ H mp .refl rl (.bl _)⟩
  | _ => exact g.elim
theorem op_isNotM : OpR X (compareOp .IsNot) (rM X.K cl mIsNot) := by
  intro pins s σ H V Y v u Q I rx ry ⟨x, y, h, mp, rl, r1, r2, g⟩
  cases r2 with
  | non => exact op_notN pins s σ H _ _ v u Q I rx ry ⟨rfl, by rw [noneM_ok r1]; exact g _ H mp .refl rl (.bl _)⟩
  | _ => exact g.elim
/-! ### in -/
def flatM : MV → Bool | .non => true | .bl _ => true | .int _ => true | .str _ => true | _ => false
def eqM : MV → MV → Bool
  | .non, .non => true
  | .bl a, .bl b => a == b
  | .bl a, .int b => (if a then 1 else 0) == b
  | .int a, .bl b => a == (if b then 1 else 0)
  | .int a, .int b => a == b
  | .str a, .str b => a == b
  | _, _ => false
theorem flat_ok {K : PySem.W.Frag} {mp : Mp} {H : Hp} {x : MV} {V : L2.V} (r : RV K mp H x V) : flatV V = flatM x := by cases r <;> rfl
theorem eqM_ok {K : PySem.W.Frag} {mp : Mp} {H : Hp} {x y : MV} {V Y : L2.V} (r : RV K mp H x V) (q : RV K mp H y Y) : eqV V Y = eqM x y := by cases r <;> cases q <;> rfl
theorem flats_ok {K : PySem.W.Frag} {mp : Mp} {H : Hp} : ∀ {xs : List MV} {vs : List V}, RVs K mp H xs vs → vs.all flatV = xs.all flatM
  | _, _, .nil => rfl
  | _, _, .cons r t => by rw [List.all_cons, List.all_cons, flat_ok r, flats_ok t]
theorem anyEq_ok {K : PySem.W.Frag} {mp : Mp} {H : Hp} {x : MV} {V : L2.V} (q : RV K mp H x V) : ∀ {xs : List MV} {vs : List L2.V}, RVs K mp H xs vs → inV V vs = xs.any fun y => eqM y x
  | _, _, .nil => rfl
  | _, _, .cons r t => by
    have := anyEq_ok q t
    unfold inV at this ⊢
    rw [List.any_cons, List.any_cons, eqM_ok r q, this]
def keyOf : MV → Option Key | .int i => some (.inl i) | .str x => some (.inr x) | _ => none
theorem keyOf_ok {K : PySem.W.Frag} {mp : Mp} {H : Hp} {x : MV} {V : L2.V} {k : Key} (r : RV K mp H x V) (e : keyOf x = some k) : V = kV k := by
  cases r <;> simp [keyOf] at e <;> subst e <;> rfl
def valM (kvs : List (Key × MV)) (k : Key) : Option MV := (kvs.find? fun kv => decide (kv.1 = k)).map (·.2)
theorem val_ok {K : PySem.W.Frag} {mp : Mp} {H : Hp} {k : Key} : ∀ {fs : List (Key × MV)} {vs : List (Key × V)}, RFs K mp H fs vs → (valM fs k = none ∧ valV vs k = none) ∨ ∃ x v, valM fs k = some x ∧ valV vs k = some v ∧ RV K mp H x v
  | [], vs, r => by
    have : vs = [] := by have := r.1; cases vs with | nil => rfl | cons _ _ => simp at this
    subst this
    exact .inl ⟨rfl, rfl⟩
  | (k1, x) :: fs, vs, r => by
    cases vs with
    | nil => have := r.1; simp at this
    | cons v vs =>
      obtain ⟨k2, v⟩ := v
      obtain ⟨e, t⟩ := r
      simp only [List.map_cons, List.cons.injEq] at e t
      obtain ⟨rfl, e⟩ := e
      cases t with
      | cons t1 t2 =>
        by_cases hk : k1 = k
        · exact .inr ⟨x, v, by simp [valM, hk], by simp [valV, hk], t1⟩
        · rcases val_ok (k := k) (fs := fs) (vs := vs) ⟨e, t2⟩ with ⟨a, b⟩ | ⟨y, w, a, b, c⟩
          · exact .inl ⟨by simp only [valM, List.find?_cons, hk, decide_false] at a ⊢; exact a, by simp only [valV, List.find?_cons, hk, decide_false] at b ⊢; exact b⟩
          · exact .inr ⟨y, w, by simp only [valM, List.find?_cons, hk, decide_false] at a ⊢; exact a, by simp only [valV, List.find?_cons, hk, decide_false] at b ⊢; exact b, c⟩
/-- x in y, as a truth -/
def mInB (x y : MV) (h : MH) : Option Bool := match y with
  | .str z => match x with | .str w => some (!(Builtin.Str.occurrences z w 0 z.length 1).isEmpty) | _ => none
  | .tup ys => if flatM x && ys.all flatM then some (ys.any fun y => eqM y x) else none
  | .ref n => match h[n]? with
    | some (.lst ys) => if flatM x && ys.all flatM then some (ys.any fun y => eqM y x) else none
    | some (.dct kvs) => match keyOf x with | some k => some (valM kvs k).isSome | none => none
    | _ => none
  | _ => none
def mIn (x y : MV) (h : MH) : Res MV := match mInB x y h with | some b => .ok (.bl b) h | none => .bad
def mNotIn (x y : MV) (h : MH) : Res MV := match mInB x y h with | some b => .ok (.bl (!b)) h | none => .bad
theorem op_din (hu : X.A.units + 1 < cLine) : OpR X (compareOp .In) (fun y x H Q => ∃ a o, x = .ref a ∧ DGet H a y o ∧ Q (.bl o.isSome) H) := by
  intro pins s σ H y x iv u Q I ry rx ⟨a, o, ex, g, q⟩
  subst ex
  obtain rfl : u = Value.ref a := rx
  exact d_in hu I g ry fun s3 I3 => ⟨.bl o.isSome, H, I3, rfl, q⟩
theorem op_dnotin (hu : X.A.units + 1 < cLine) : OpR X (compareOp .NotIn) (fun y x H Q => ∃ a o, x = .ref a ∧ DGet H a y o ∧ Q (.bl (!o.isSome)) H) := by
  intro pins s σ H y x iv u Q I ry rx ⟨a, o, ex, g, q⟩
  subst ex
  obtain rfl : u = Value.ref a := rx
  exact d_notIn hu I g ry fun s3 I3 => ⟨.bl (!o.isSome), H, I3, rfl, q⟩
theorem mInB_ok {K : PySem.W.Frag} {mp : Mp} {h : MH} {H : Hp} {x y : MV} {V Y : L2.V} {b : Bool} (rl : Rl K cl mp h H) (r1 : RV K mp H x V) (r2 : RV K mp H y Y) (e : mInB x y h = some b) :
    (∃ i j, V = .str i ∧ Y = .str j ∧ (!(Builtin.Str.occurrences j i 0 j.length 1).isEmpty) = b) ∨ (∃ p xs, Y = .ref p ∧ (SqL K H p xs ∨ SqT K H p xs) ∧ flatV V = true ∧ xs.all flatV = true ∧ inV V xs = b) ∨ ∃ a o, Y = .ref a ∧ DGet H a V o ∧ o.isSome = b := by
  have seq : ∀ {p : Addr} {xs : List MV} {vs : List L2.V}, Y = .ref p → (SqL K H p vs ∨ SqT K H p vs) → RVs K mp H xs vs → (if flatM x && xs.all flatM then some (xs.any fun y => eqM y x) else none) = some b →
      ∃ p xs, Y = .ref p ∧ (SqL K H p xs ∨ SqT K H p xs) ∧ flatV V = true ∧ xs.all flatV = true ∧ inV V xs = b := fun {p xs vs} ey hs r e => by
    split at e
    · rename_i hf
      rw [Bool.and_eq_true] at hf
      exact ⟨p, vs, ey, hs, by rw [flat_ok r1]; exact hf.1, by rw [flats_ok r]; exact hf.2, by rw [anyEq_ok r1 r]; exact Option.some.inj e⟩
    · cases e
  cases r2 with
  | str z =>
    cases r1 with
    | str w => exact .inl ⟨w, z, rfl, rfl, Option.some.inj e⟩
    | _ => simp [mInB] at e
  | tup h2 q2 => exact .inr (.inl (seq rfl (.inr h2) q2 e))
  | @ref n a e2 =>
    unfold mInB at e
    dsimp only at e
    split at e
    · rename_i ys c
      obtain ⟨vs, h1, q1⟩ := rl.obj n _ a c e2
      exact .inr (.inl (seq rfl (.inl (SqL.of h1)) q1 e))
    · rename_i kvs c
      split at e
      · rename_i k hk
        obtain ⟨vs, h1, q1⟩ := rl.obj n _ a c e2
        have ek := keyOf_ok r1 hk
        subst ek
        refine .inr (.inr ⟨a, _, rfl, DGet.k h1, ?_⟩)
        rw [← Option.some.inj e]
        rcases val_ok (k := k) q1 with ⟨z1, z2⟩ | ⟨_, _, z1, z2, _⟩ <;> rw [z1, z2] <;> rfl
      · cases e
    · cases e
  | _ => simp [mInB] at e
theorem op_inM (hu : X.A.units + 1 < cLine) : OpR X (compareOp .In) (rM X.K cl mIn) := by
  intro pins s σ H V Y v u Q I rx ry ⟨x, y, h, mp, rl, r1, r2, g⟩
  unfold mIn at g
  split at g
  · rename_i b e
    have q : Q (.bl b) H := g _ H mp .refl rl (.bl b)
    rcases mInB_ok rl r1 r2 e with ⟨i, j, h1, h2, h3⟩ | ⟨p, xs, h1, h2, h3, h4, h5⟩ | ⟨a, o, h1, h2, h3⟩
    · exact op_in_str pins s σ H _ _ v u Q I rx ry ⟨i, j, h1, h2, by rw [h3]; exact q⟩
    · exact op_in_seq pins s σ H _ _ v u Q I rx ry ⟨p, xs, h1, h2, h3, h4, by rw [h5]; exact q⟩
    · exact op_din hu pins s σ H _ _ v u Q I rx ry ⟨a, o, h1, h2, by rw [h3]; exact q⟩
  · exact g.elim
theorem op_notInM (hu : X.A.units + 1 < cLine) : OpR X (compareOp .NotIn) (rM X.K cl mNotIn) := by
  intro pins s σ H V Y v u Q I rx ry ⟨x, y, h, mp, rl, r1, r2, g⟩
  unfold mNotIn at g
  split at g
  · rename_i b e
    have q : Q (.bl (!b)) H := g _ H mp .refl rl (.bl _)
    rcases mInB_ok rl r1 r2 e with ⟨i, j, h1, h2, h3⟩ | ⟨p, xs, h1, h2, h3, h4, h5⟩ | ⟨a, o, h1, h2, h3⟩
    · exact op_notin_str pins s σ H _ _ v u Q I rx ry ⟨i, j, h1, h2, by rw [h3]; exact q⟩
    · exact op_notIn_seq pins s σ H _ _ v u Q I rx ry ⟨p, xs, h1, h2, h3, h4, by rw [h5]; exact q⟩
    · exact op_dnotin hu pins s σ H _ _ v u Q I rx ry ⟨a, o, h1, h2, by rw [h3]; exact q⟩
  · exact g.elim
end
end Sm

set_option Elab.async false
set_option linter.all false
set_option maxRecDepth 100000
set_option maxHeartbeats 4000000
/-! subscripts, slices, built-ins, methods, fields, calls -/
namespace Sm
open PySem PySem.Spec PyProof.Rows L2
section
variable {X : Cx} {cl : Str → Option Addr} {W : Wsh} {a b c e o : Expr} {es : List Expr} {ma mb mc m : ME} {ms : MA} {pos apos cpos p2 : Pos}
/-! ### subscripts -/
theorem atI_ok {K : PySem.W.Frag} {mp : Mp} {H : Hp} {xs : List MV} {vs : List L2.V} {i : Int} {x : MV} (r : RVs K mp H xs vs) (e : atI xs i = some x) : ∃ v, atI vs i = some v ∧ RV K mp H x v := by
  unfold atI at e ⊢
  rw [← r.length]
  cases h : ixN xs.length i with
  | none => rw [h] at e; cases e
  | some j =>
    rw [h] at e
    obtain ⟨v, h1, h2⟩ := r.get (i := j) (x := x) (by simpa using e)
    exact ⟨v, by simpa using h1, h2⟩
@[simp] def optR (o : Option MV) (h : MH) : Res MV := match o with | some v => .ok v h | none => .bad
def ixL (xs : List MV) (y : MV) (h : MH) : Res MV := match y with | .int i => optR (atI xs i) h | _ => .bad
def ixS (z : Str) (y : MV) (h : MH) : Res MV := match y with | .int i => if szOk z.length then optR ((atI z.cps.toList i).map fun c => .str ⟨#[c]⟩) h else .bad | _ => .bad
def ixD (kvs : List (Key × MV)) (y : MV) (h : MH) : Res MV := match keyOf y with | some k => optR (valM kvs k) h | none => .bad
def mIx (x y : MV) (h : MH) : Res MV := match x with
  | .tup xs => ixL xs y h
  | .str z => ixS z y h
  | .scr xs => ixL xs y h
  | .ref n => match h[n]? with
    | some (.lst xs) => ixL xs y h
    | some (.dct kvs) => ixD kvs y h
    | _ => .bad
  | _ => .bad
theorem ix_dict (hu : X.A.units + 1 < cLine) : IxR X (fun x y H Q => ∃ a v, x = .ref a ∧ DGet H a y (some v) ∧ Q v H) := by
  intro value slice pins s σ H x y v u Q I rx ry h hs
  obtain ⟨a, w, rfl, g, q⟩ := h
  obtain rfl : v = Value.ref a := rx
  have hT := dict_typeIs I g
  unfold subscriptTail
  refine wpAny_bind ?_
  rw [getitemInPython_of_ne hT.not_modules]
  refine wpAny_bind (wpAny_specialOf hT PySem.F.slot_dict_getitem.lookup ?_)
  have fin : wpAny (model X.prog X.w) X.A (subscripted slice false (.ref a) u) (fun r s₃ => wpAny (model X.prog X.w) X.A (letTemporaryGo value (.ref a) r >>= fun _ => pure r) (EP X pins σ Q) X.xe s₃) X.xe s := by
    rw [hs]
    exact wpAny_operating (thn (d_getItem hu I g ry fun w' s3 I3 rw' => (⟨w, H, I3, rw', q⟩ : EP X pins σ Q w' s3)) fun r s₃ h₃ => wpAny_bind (wpAny_letTemporaryGo (wpAny_pure h₃)))
  first
    | exact wpAny_pure (wpAny_bind fin)
    | exact wpAny_bind fin
theorem optR_ok {K : PySem.W.Frag} {mp : Mp} {h : MH} {H : Hp} {Q : VK} {o : Option MV} (g : Good (optR o h) (QV K cl mp H Q) never) : ∃ v, o = some v ∧ QV K cl mp H Q v h := by
  cases o with
  | none => exact False.elim g
  | some v => exact ⟨v, rfl, g⟩
theorem ixL_ok {K : PySem.W.Frag} {mp : Mp} {h : MH} {H : Hp} {Q : VK} {xs : List MV} {vs : List L2.V} {y : MV} {Y : L2.V} (rl : Rl K cl mp h H) (q1 : RVs K mp H xs vs) (r2 : RV K mp H y Y) (g : Good (ixL xs y h) (QV K cl mp H Q) never) : ∃ i v, Y = .int i ∧ atI vs i = some v ∧ Q v H := by
  cases r2 with
  | int i =>
    obtain ⟨w, ew, q⟩ := optR_ok g
    obtain ⟨z, e1, e2⟩ := atI_ok q1 ew
    exact ⟨i, z, rfl, e1, q _ H mp .refl rl e2⟩
  | _ => exact False.elim g
theorem ixM (hu : X.A.units + 1 < cLine) : IxR X (rM X.K cl mIx) := by
  intro value slice pins s σ H V Y v u Q I rx ry ⟨x, y, h, mp, rl, r1, r2, g⟩ hs
  cases r1 with
  | tup h1 q1 =>
    obtain ⟨i, z, rfl, e1, q⟩ := ixL_ok rl q1 r2 g
    exact ix_tup value slice pins s σ H _ _ v u Q I rx ry ⟨_, _, i, z, rfl, rfl, h1, e1, q⟩ hs
  | scr h1 q1 =>
    obtain ⟨i, z, rfl, e1, q⟩ := ixL_ok rl q1 r2 g
    exact ix_list value slice pins s σ H _ _ v u Q I rx ry ⟨_, _, i, z, rfl, rfl, h1.sql, e1, q⟩ hs
  | str z =>
    cases r2 with
    | int i =>
      unfold mIx ixS at g
      dsimp only at g
      split at g
      · rename_i hz
        obtain ⟨w, ew, q⟩ := optR_ok g
        rw [Option.map_eq_some_iff] at ew
        obtain ⟨c, ec, rfl⟩ := ew
        exact ix_str value slice pins s σ H _ _ v u Q I rx ry ⟨z, i, c, rfl, rfl, hz.le, ec, q _ H mp .refl rl (.str _)⟩ hs
      · exact False.elim g
    | _ => exact False.elim g
  | @ref n a e1 =>
    unfold mIx at g
    dsimp only at g
    split at g
    · rename_i xs c
      obtain ⟨vs, h1, q1⟩ := rl.obj n _ a c e1
      obtain ⟨i, z, rfl, e1, q⟩ := ixL_ok rl q1 r2 g
      exact ix_list value slice pins s σ H _ _ v u Q I rx ry ⟨_, _, i, z, rfl, rfl, SqL.of h1, e1, q⟩ hs
    · rename_i kvs c
      obtain ⟨vs, h1, q1⟩ := rl.obj n _ a c e1
      unfold ixD at g
      split at g
      · rename_i k hk
        have ek := keyOf_ok r2 hk
        subst ek
        obtain ⟨w, ew, q⟩ := optR_ok g
        rcases val_ok (k := k) q1 with ⟨z1, z2⟩ | ⟨w', z, z1, z2, z3⟩
        · rw [z1] at ew; cases ew
        · rw [z1] at ew
          have := Option.some.inj ew
          subst this
          have dg := DGet.k (k := k) h1
          rw [z2] at dg
          exact ix_dict hu value slice pins s σ H _ _ v u Q I rx ry ⟨a, z, rfl, dg, q _ H mp .refl rl z3⟩ hs
      · exact False.elim g
    · exact False.elim g
  | _ => exact False.elim g
theorem se_ix (hu : X.A.units + 1 < cLine) (ne : NoEx2 mIx) (ha : SE X cl W a ma) (hb : SE X cl W b mb) (hs : PlainIx b) : SE X cl W (.Subscript a b pos) (eBin mIx ma mb) := peW (pe_ix (ixM hu) ha hb hs) (tOp_of rM_ok ne)
/-! ### slices -/
def cutM {α : Type} (xs : List α) (lo hi : Option Int) : List α := (xs.drop (HT.sIx xs.length 0 lo)).take (HT.sIx xs.length xs.length hi - HT.sIx xs.length 0 lo)
def mSl (x : MV) (lo hi : Option Int) (h : MH) : Res MV := match x with
  | .tup xs => .ok (.tup (cutM xs lo hi)) h
  | .str z => if szOk z.length then .ok (.str (cutS z lo hi)) h else .bad
  | .scr xs => .ok (.ref h.length) (h ++ [.lst (cutM xs lo hi)])
  | .ref n => match h[n]? with
    | some (.lst xs) => .ok (.ref h.length) (h ++ [.lst (cutM xs lo hi)])
    | _ => .bad
  | _ => .bad
def rMS (K : PySem.W.Frag) (cl : Str → Option Addr) (mo : MV → Option Int → Option Int → MH → Res MV) : L2.V → Option Int → Option Int → Hp → VK → Prop := fun V lo hi H Q => ∃ x h mp, Rl K cl mp h H ∧ RV K mp H x V ∧ Good (mo x lo hi h) (QV K cl mp H Q) never
theorem cut_ok {K : PySem.W.Frag} {mp : Mp} {H : Hp} {xs : List MV} {vs : List L2.V} {lo hi : Option Int} (r : RVs K mp H xs vs) : RVs K mp H (cutM xs lo hi) (cutV vs lo hi) := by
  unfold cutM cutV
  rw [r.length]
  exact (r.drop _).take _
theorem slM : SlR X (rMS X.K cl mSl) := by
  intro pins s σ H V v vl vu lo hi sl Q I rx hs pl pu ⟨x, h, mp, rl, r1, g⟩
  have lst : ∀ {n : Nat} {a : Addr} {xs : List MV} {vs : List L2.V}, V = .ref a → SqL X.K H a vs → RVs X.K mp H xs vs → QV X.K cl mp H Q (.ref h.length) (h ++ [.lst (cutM xs lo hi)]) →
      ∃ T id, typeLookup (.type T) "__getitem__" = pure (some (.builtin id)) ∧ s.TypeIs v T ∧ wpAny (model X.prog X.w) X.A (getItem v (.ref sl)) (EP X pins σ Q) X.xe s := fun {n a xs vs} ev hq q1 g => by
    subst ev
    refine sl_list pins s σ H _ v vl vu lo hi sl Q I rx hs pl pu ⟨a, vs, rfl, hq, fun p hp => ?_⟩
    obtain ⟨f, rl'⟩ := newCell rl hp (cut_ok (lo := lo) (hi := hi) q1)
    exact g _ _ _ f rl' (.ref Mp.put_same)
  cases r1 with
  | @tup xs vs a h1 q1 =>
    refine sl_tupA pins s σ H _ v vl vu lo hi sl Q I rx hs pl pu ⟨a, vs, rfl, h1, fun hw => ?_, fun _ p hp => ?_⟩
    · refine g _ H mp .refl rl (.tup h1 ?_)
      have : cutM xs lo hi = xs := by
        unfold cutM
        rw [q1.length, hw.1, hw.2]
        simp [← q1.length]
      rw [this]
      exact q1
    · exact g _ _ mp (Fut.new hp) (rl.new hp) (.tup (SqT.of upd_same) ((cut_ok q1).fut (Fut.new hp)))
  | str z =>
    unfold mSl at g
    dsimp only at g
    split at g
    · rename_i hz
      exact sl_str pins s σ H _ v vl vu lo hi sl Q I rx hs pl pu ⟨z, rfl, hz.le, g _ H mp .refl rl (.str _)⟩
    · exact False.elim g
  | scr h1 q1 => exact lst (n := 0) rfl h1.sql q1 g
  | @ref n a e1 =>
    unfold mSl at g
    dsimp only at g
    split at g
    · rename_i xs c
      obtain ⟨vs, h1, q1⟩ := rl.obj n _ a c e1
      exact lst (n := n) rfl (SqL.of h1) q1 g
    · exact False.elim g
  | _ => exact False.elim g
abbrev MP := MS → MH → Res (Option Int)
def tMP (K : PySem.W.Frag) (cl : Str → Option Addr) (W : Wsh) (m : MP) : TO := fun σ H Q => ∃ ρ h mp, Rl K cl mp h H ∧ RS K mp H ρ σ ∧ Good (m ρ h) (fun v h' => ∀ H' mp', Fut K mp mp' H H' → Rl K cl mp' h' H' → Q v H') (EW K cl mp H W σ)
abbrev SP1 (X : Cx) (cl : Str → Option Addr) (W : Wsh) (e : Option Expr) (m : MP) : Prop := PO X e (tMP X.K cl W m)
theorem poW {X : Cx} {e : Option Expr} {t t' : TO} (h : PO X e t) (w : ∀ σ H Q, t' σ H Q → t σ H Q) : PO X e t' := ⟨fun pins s σ H Q I q => h.run pins s σ H Q I (w σ H Q q)⟩
@[simp] def pNone : MP := fun _ h => .ok none h
@[simp] def pSome (m : ME) : MP := fun ρ h => (m ρ h).bind fun x h1 => match x with | .int i => .ok (some i) h1 | _ => .bad
theorem sp_none : SP1 X cl W none pNone := poW po_none fun σ H Q ⟨ρ, h, mp, rl, rs, g⟩ => g H mp .refl rl
theorem sp_some (he : SE X cl W e m) : SP1 X cl W (some e) (pSome m) := poW (po_some he) fun σ H Q ⟨ρ, h, mp, rl, rs, g⟩ =>
  tM_bind rl rs g (fun _ _ z => z) fun x h1 V H1 mp1 f1 rl1 rs1 rv1 g1 => by
    cases rv1 with
    | int i => exact ⟨i, rfl, g1 H1 mp1 f1 rl1⟩
    | _ => exact False.elim g1
theorem tMP_bind {K : PySem.W.Frag} {mp : Mp} {h : MH} {H : Hp} {ρ : MS} {σ : L2.St} {β : Type} {Q1 : β → MH → Prop} {E1 : MV → MH → Prop} {m : MP} {f : Option Int → MH → Res β} {R : Option Int → Hp → Prop} (rl : Rl K cl mp h H) (rs : RS K mp H ρ σ) (g : Good ((m ρ h).bind f) Q1 E1) (hE : ∀ e h', E1 e h' → EW K cl mp H W σ e h')
    (k : ∀ x h1 H1 mp1, Fut K mp mp1 H H1 → Rl K cl mp1 h1 H1 → RS K mp1 H1 ρ σ → Good (f x h1) Q1 E1 → R x H1) : tMP K cl W m σ H R :=
  ⟨ρ, h, mp, rl, rs, (Good.bind.mp g).mono (fun x h1 g1 H1 mp1 f1 rl1 => k x h1 H1 mp1 f1 rl1 (rs.fut f1) g1) hE⟩
@[simp] def eSl (m : ME) (ml mh : MP) : ME := fun ρ h => (m ρ h).bind fun x h1 => (ml ρ h1).bind fun l h2 => (mh ρ h2).bind fun u h3 => mSl x l u h3
theorem mSl_noEx (x : MV) (lo hi : Option Int) (h : MH) : ∀ e h', ¬ mSl x lo hi h = .ex e h' := by
  intro e h' z
  unfold mSl at z
  repeat' split at z
  all_goals cases z
theorem toNever {α : Type} {r : Res α} {Q : α → MH → Prop} {E : MV → MH → Prop} (g : Good r Q E) (ne : ∀ e h', ¬ r = .ex e h') : Good r Q never := by
  cases r with
  | ok v h' => exact g
  | ex v h' => exact (ne v h' rfl).elim
  | bad => exact g
theorem se_sl {lo hi : Option Expr} {ml mh : MP} (he : SE X cl W e m) (hl : SP1 X cl W lo ml) (hh : SP1 X cl W hi mh) : SE X cl W (.Subscript e (.Slice lo hi none p2) pos) (eSl m ml mh) :=
  peW (pe_slice slM he hl hh) fun σ H Q ⟨ρ, h, mp, rl, rs, g⟩ => tM_bind rl rs g (fun _ _ z => z) fun x h1 V H1 mp1 f1 rl1 rs1 rv1 g1 =>
    tMP_bind rl1 rs1 g1 (fun _ _ z => z.fut f1) fun l h2 H2 mp2 f2 rl2 rs2 g2 => tMP_bind rl2 rs2 g2 (fun _ _ z => z.fut (f1.trans f2)) fun u h3 H3 mp3 f3 rl3 rs3 g3 =>
      ⟨x, h3, mp3, rl3, rv1.fut (f2.trans f3), toNever (g3.mono (fun v h' q => q.fut (f1.trans (f2.trans f3))) fun _ _ z => z) (mSl_noEx _ _ _ _)⟩
/-! ### -x -/
@[simp] def mNeg (x : MV) (h : MH) : Res MV := match x with | .int i => .ok (.int (-i)) h | _ => .bad
theorem se_neg (ha : SE X cl W a ma) : SE X cl W (.UnaryOp .USub a pos) (eUn mNeg ma) := peW (pe_un un_neg ha) fun σ H Q ⟨ρ, h, mp, rl, rs, g⟩ =>
  tM_bind rl rs g (fun _ _ z => z) fun x h1 V H1 mp1 f1 rl1 rs1 rv1 g1 => by
    cases rv1 with
    | int i => exact ⟨i, rfl, g1 _ H1 mp1 f1 rl1 (.int _)⟩
    | _ => exact False.elim g1
/-! ### a op1 b op2 c -/
@[simp] def eChain (mo mo' : MV → MV → MH → Res MV) (ma mb mc : ME) : ME := fun ρ h => (ma ρ h).bind fun x h1 => (mb ρ h1).bind fun y h2 => (mo x y h2).bind fun z h3 => match z with
  | .bl true => (mc ρ h3).bind fun w h4 => mo' y w h4
  | .bl false => .ok (.bl false) h3
  | _ => .bad
theorem bind_noEx {α β : Type} {r : Res α} {f : α → MH → Res β} {Q : β → MH → Prop} {E : MV → MH → Prop} (g : Good (r.bind f) Q E) (ne : ∀ e h', ¬ r = .ex e h') : Good r (fun a h => Good (f a h) Q E) never := toNever (Good.bind.mp g) ne
theorem tChain_of {mo mo' : MV → MV → MH → Res MV} (ne : NoEx2 mo) (ne' : NoEx2 mo') : ∀ σ H Q, tM X.K cl W (eChain mo mo' ma mb mc) σ H Q → tChain (rM X.K cl mo) (rM X.K cl mo') (tM X.K cl W ma) (tM X.K cl W mb) (tM X.K cl W mc) σ H Q := fun σ H Q ⟨ρ, h, mp, rl, rs, g⟩ =>
  tM_bind rl rs g (fun _ _ z => z) fun x h1 V H1 mp1 f1 rl1 rs1 rv1 g1 => tM_bind rl1 rs1 g1 (fun _ _ z => z.fut f1) fun y h2 Y H2 mp2 f2 rl2 rs2 rv2 g2 =>
    ⟨x, y, h2, mp2, rl2, rv1.fut f2, rv2, (bind_noEx g2 (ne _ _ _)).mono (fun z h3 g3 Z H3 mp3 f3 rl3 rv3 => by
      cases rv3 with
      | bl k =>
        refine ⟨k, rfl, ?_⟩
        cases k with
        | true =>
          exact tM_bind rl3 (rs2.fut f3) g3 (fun _ _ z => z.fut (f1.trans (f2.trans f3))) fun w h4 Z H4 mp4 f4 rl4 rs4 rv4 g4 =>
            ⟨y, w, h4, mp4, rl4, rv2.fut (f3.trans f4), rv4, toNever (g4.mono (fun v h' q => q.fut (f1.trans (f2.trans (f3.trans f4)))) fun _ _ z => z) (ne' _ _ _)⟩
        | false => exact g3 _ H3 mp3 (f1.trans (f2.trans f3)) rl3 (.bl false)
      | _ => exact False.elim g3) fun _ _ z => z⟩
theorem se_chain {op op' : CmpOp} {mo mo' : MV → MV → MH → Res MV} (ho : OpR X (compareOp op) (rM X.K cl mo)) (ho' : OpR X (compareOp op') (rM X.K cl mo')) (ne : NoEx2 mo) (ne' : NoEx2 mo') (ha : SE X cl W a ma) (hb : SE X cl W b mb) (hc : SE X cl W c mc)
    (hm : lastMarks [op, op'] [b, c] = false := by with_unfolding_all rfl) : SE X cl W (.Compare a [op, op'] [b, c] pos) (eChain mo mo' ma mb mc) := peW (pe_chain ho ho' ha hb hc hm) (tChain_of ne ne')
theorem st_chain {op op' : CmpOp} {mo mo' : MV → MV → MH → Res MV} (ho : OpR X (compareOp op) (rM X.K cl mo)) (ho' : OpR X (compareOp op') (rM X.K cl mo')) (ne : NoEx2 mo) (ne' : NoEx2 mo') (ha : SE X cl W a ma) (hb : SE X cl W b mb) (hc : SE X cl W c mc)
    (hm : lastMarks [op, op'] [b, c] = false := by with_unfolding_all rfl) : ST X cl W (.Compare a [op, op'] [b, c] pos) (tOfE (eChain mo mo' ma mb mc)) :=
  ptW (pt_chain ho ho' ha hb hc hm) fun σ H Q ⟨ρ, h, mp, rl, rs, g⟩ => tChain_of ne ne' σ H _ (tM_bind rl rs g (fun _ _ z => z) fun x h1 V H1 mp1 f1 rl1 rs1 rv1 g1 => asB_ok f1 rl1 rv1 g1)
/-! ### built-ins -/
def rMC (K : PySem.W.Frag) (cl : Str → Option Addr) (mo : List MV → MH → Res MV) : List L2.V → Hp → VK → Prop := fun Vs H Q => ∃ xs h mp, Rl K cl mp h H ∧ RVs K mp H xs Vs ∧ Good (mo xs h) (QV K cl mp H Q) never
@[simp] def eCallB (mo : List MV → MH → Res MV) (ms : MA) : ME := fun ρ h => (ms ρ h).bind fun xs h1 => mo xs h1
def NoEx1 {α : Type} (mo : List MV → MH → Res α) : Prop := ∀ xs h e h', ¬ mo xs h = .ex e h'
theorem tCB_of {mo : List MV → MH → Res MV} (ne : NoEx1 mo) : ∀ σ H Q, tM X.K cl W (eCallB mo ms) σ H Q → tCB (rMC X.K cl mo) (tMA X.K cl W ms) σ H Q := fun σ H Q ⟨ρ, h, mp, rl, rs, g⟩ =>
  tMA_bind rl rs g (fun _ _ z => z) fun xs h1 V H1 mp1 f1 rl1 rs1 rv1 g1 => ⟨xs, h1, mp1, rl1, rv1, toNever (g1.mono (fun v h' q => q.fut f1) fun _ _ z => z) (ne _ _)⟩
theorem se_callB {x : Str} {id : String} {mo : List MV → MH → Res MV} {p : Pos} (ne : NoEx1 mo) (hc : CallR X (.builtin id) (rMC X.K cl mo)) (hg : Gl X x) (hm : X.mg x = none) (hv : bootBuiltins x = some (.builtin id)) (hs : SA X cl W (e :: es) ms)
    (hn : x ≠ "__name__" := by decide) (hdb : (x == ("__debug__" : Str)) = false := by decide) (he : starEach (e :: es) X.env = (false, eval e X.env) :: starEach es X.env := by rfl) (hpl : (backTo pos (starEach es X.env)).any (·.1) = false := by rfl) :
    SE X cl W (.Call (.Name x p) (e :: es) [] pos) (eCallB mo ms) := peW (pe_callB hc hg hm hv hs (hn := hn) (hdb := hdb) (he := he) (hpl := hpl)) (tCB_of ne)
theorem se_callTy {x : Str} {T : String} {mo : List MV → MH → Res MV} {p : Pos} (ne : NoEx1 mo) (hc : CallR X (.type T) (rMC X.K cl mo)) (hg : Gl X x) (hm : X.mg x = none) (hv : bootBuiltins x = some (.type T)) (hs : SA X cl W (e :: es) ms)
    (hn : x ≠ "__name__" := by decide) (hdb : (x == ("__debug__" : Str)) = false := by decide) (he : starEach (e :: es) X.env = (false, eval e X.env) :: starEach es X.env := by rfl) (hpl : (backTo pos (starEach es X.env)).any (·.1) = false := by rfl) :
    SE X cl W (.Call (.Name x p) (e :: es) [] pos) (eCallB mo ms) := peW (pe_callTy hc hg hm hv hs (hn := hn) (hdb := hdb) (he := he) (hpl := hpl)) (tCB_of ne)
/-- a list or a tuple as its items -/
def itemsOf (x : MV) (h : MH) : Option (List MV) := match x with
  | .tup xs => some xs
  | .scr xs => some xs
  | .ref n => match h[n]? with | some (.lst xs) => some xs | _ => none
  | _ => none
theorem items_ok {K : PySem.W.Frag} {mp : Mp} {h : MH} {H : Hp} {x : MV} {V : L2.V} {xs : List MV} (rl : Rl K cl mp h H) (r : RV K mp H x V) (e : itemsOf x h = some xs) :
    ∃ p vs, V = .ref p ∧ ((SqL K H p vs ∧ True) ∨ (SqT K H p vs ∧ x = .tup xs)) ∧ RVs K mp H xs vs := by
  cases r with
  | @tup ys vs a h1 q1 =>
    have := Option.some.inj e
    subst this
    exact ⟨a, vs, rfl, .inr ⟨h1, rfl⟩, q1⟩
  | @ref n a e1 =>
    unfold itemsOf at e
    dsimp only at e
    split at e
    · rename_i ys c
      have := Option.some.inj e
      subst this
      obtain ⟨vs, h1, q1⟩ := rl.obj n _ a c e1
      exact ⟨a, vs, rfl, .inl ⟨SqL.of h1, trivial⟩, q1⟩
    · cases e
  | @scr ys vs a h1 q1 =>
    have := Option.some.inj e
    subst this
    exact ⟨a, vs, rfl, .inl ⟨h1.sql, trivial⟩, q1⟩
  | _ => cases e
theorem rvs1 {K : PySem.W.Frag} {mp : Mp} {H : Hp} {x : MV} {Vs : List L2.V} (r : RVs K mp H [x] Vs) : ∃ V, Vs = [V] ∧ RV K mp H x V := by
  cases r with | cons r t => cases t; exact ⟨_, rfl, r⟩
theorem rvs2 {K : PySem.W.Frag} {mp : Mp} {H : Hp} {x y : MV} {Vs : List L2.V} (r : RVs K mp H [x, y] Vs) : ∃ V Y, Vs = [V, Y] ∧ RV K mp H x V ∧ RV K mp H y Y := by
  cases r with | cons r t => cases t with | cons r2 t => cases t; exact ⟨_, _, rfl, r, r2⟩
def mLen (xs : List MV) (h : MH) : Res MV := match xs with
  | [.str z] => if szOk z.length then .ok (.int z.length) h else .bad
  | [.tup ys] => .ok (.int ys.length) h
  | [.scr ys] => .ok (.int ys.length) h
  | [.ref n] => match h[n]? with
    | some (.lst ys) => .ok (.int ys.length) h
    | some (.dct kvs) => .ok (.int kvs.length) h
    | _ => .bad
  | _ => .bad
theorem lenM : CallR X (.builtin "len") (rMC X.K cl mLen) := by
  intro pins s σ H Vs us Q I r ⟨xs, h, mp, rl, rv, g⟩
  unfold mLen at g
  split at g
  · rename_i z
    obtain ⟨V, rfl, rx⟩ := rvs1 rv
    cases rx
    split at g
    · rename_i hz
      exact call_len_str pins s σ H _ us Q I r ⟨z, rfl, hz.le, g _ H mp .refl rl (.int _)⟩
    · exact False.elim g
  · rename_i ys
    obtain ⟨V, rfl, rx⟩ := rvs1 rv
    cases rx with
    | tup h1 q1 =>
      refine call_len_seq pins s σ H _ us Q I r ⟨_, _, rfl, .inr h1, ?_⟩
      rw [← q1.length]
      exact g _ H mp .refl rl (.int _)
  · rename_i ys
    obtain ⟨V, rfl, rx⟩ := rvs1 rv
    cases rx with
    | scr h1 q1 =>
      refine call_len_seq pins s σ H _ us Q I r ⟨_, _, rfl, .inl h1.sql, ?_⟩
      rw [← q1.length]
      exact g _ H mp .refl rl (.int _)
  · rename_i n
    obtain ⟨V, rfl, rx⟩ := rvs1 rv
    cases rx with
    | @ref _ a e1 =>
      split at g
      · rename_i ys c
        obtain ⟨vs, h1, q1⟩ := rl.obj n _ a c e1
        refine call_len_seq pins s σ H _ us Q I r ⟨_, _, rfl, .inl (SqL.of h1), ?_⟩
        rw [← q1.length]
        exact g _ H mp .refl rl (.int _)
      · rename_i kvs c
        obtain ⟨vs, h1, q1⟩ := rl.obj n _ a c e1
        refine call_lenD pins s σ H _ us Q I r ⟨_, vs, rfl, h1, ?_⟩
        have : kvs.length = vs.length := by simpa using congrArg List.length q1.1
        rw [← this]
        exact g _ H mp .refl rl (.int _)
      · exact False.elim g
  · exact False.elim g
def mTuple (xs : List MV) (h : MH) : Res MV := match xs with | [x] => (match itemsOf x h with | some ys => .ok (.tup ys) h | none => .bad) | _ => .bad
theorem tupleM : CallR X (.type "tuple") (rMC X.K cl mTuple) := by
  intro pins s σ H Vs us Q I r ⟨xs, h, mp, rl, rv, g⟩
  unfold mTuple at g
  split at g
  · rename_i x
    obtain ⟨V, rfl, rx⟩ := rvs1 rv
    split at g
    · rename_i ys ey
      obtain ⟨p, vs, rfl, hs, q1⟩ := items_ok rl rx ey
      refine call_tuple_of pins s σ H _ us Q I r ⟨p, vs, rfl, ?_⟩
      rcases hs with ⟨hs, _⟩ | ⟨hs, _⟩
      · exact .inl ⟨hs, fun l hl => g _ _ mp (Fut.new hl) (rl.new hl) (.tup (SqT.of upd_same) (q1.fut (Fut.new hl)))⟩
      · exact .inr ⟨hs, g _ H mp .refl rl (.tup hs q1)⟩
    · exact False.elim g
  · exact False.elim g
@[simp] def mInt (xs : List MV) (h : MH) : Res MV := match xs with | [.int i] => .ok (.int i) h | [.bl b] => .ok (.int (if b then 1 else 0)) h | _ => .bad
theorem intM : CallR X (.type "int") (rMC X.K cl mInt) := by
  intro pins s σ H Vs us Q I r ⟨xs, h, mp, rl, rv, g⟩
  unfold mInt at g
  split at g
  · obtain ⟨V, rfl, rx⟩ := rvs1 rv
    cases rx
    exact call_int1 pins s σ H _ us Q I r (.inl ⟨_, rfl, g _ H mp .refl rl (.int _)⟩)
  · obtain ⟨V, rfl, rx⟩ := rvs1 rv
    cases rx
    exact call_int1 pins s σ H _ us Q I r (.inr ⟨_, rfl, g _ H mp .refl rl (.int _)⟩)
  · exact False.elim g
@[simp] def mBool (xs : List MV) (h : MH) : Res MV := match xs with | [.int i] => .ok (.bl (i != 0)) h | [.bl b] => .ok (.bl b) h | _ => .bad
theorem boolM : CallR X (.type "bool") (rMC X.K cl mBool) := by
  intro pins s σ H Vs us Q I r ⟨xs, h, mp, rl, rv, g⟩
  unfold mBool at g
  split at g
  · obtain ⟨V, rfl, rx⟩ := rvs1 rv
    cases rx
    exact call_bool1 pins s σ H _ us Q I r (.inl ⟨_, rfl, g _ H mp .refl rl (.bl _)⟩)
  · obtain ⟨V, rfl, rx⟩ := rvs1 rv
    cases rx
    exact call_bool1 pins s σ H _ us Q I r (.inr ⟨_, rfl, g _ H mp .refl rl (.bl _)⟩)
  · exact False.elim g
@[simp] def mAbs (xs : List MV) (h : MH) : Res MV := match xs with | [.int i] => .ok (.int (if i < 0 then -i else i)) h | _ => .bad
theorem absM : CallR X (.builtin "abs") (rMC X.K cl mAbs) := by
  intro pins s σ H Vs us Q I r ⟨xs, h, mp, rl, rv, g⟩
  unfold mAbs at g
  split at g
  · obtain ⟨V, rfl, rx⟩ := rvs1 rv
    cases rx
    exact call_abs pins s σ H _ us Q I r ⟨_, rfl, g _ H mp .refl rl (.int _)⟩
  · exact False.elim g
@[simp] def mMin (xs : List MV) (h : MH) : Res MV := match xs with | [.int i, .int j] => .ok (.int (if j < i then j else i)) h | _ => .bad
@[simp] def mMax (xs : List MV) (h : MH) : Res MV := match xs with | [.int i, .int j] => .ok (.int (if j > i then j else i)) h | _ => .bad
theorem minM (hc : X.calm = true) : CallR X (.builtin "min") (rMC X.K cl mMin) := by
  intro pins s σ H Vs us Q I r ⟨xs, h, mp, rl, rv, g⟩
  unfold mMin at g
  split at g
  · obtain ⟨V, Y, rfl, rx, ry⟩ := rvs2 rv
    cases rx
    cases ry
    exact call_min2 hc pins s σ H _ us Q I r ⟨_, _, rfl, g _ H mp .refl rl (.int _)⟩
  · exact False.elim g
theorem maxM (hc : X.calm = true) : CallR X (.builtin "max") (rMC X.K cl mMax) := by
  intro pins s σ H Vs us Q I r ⟨xs, h, mp, rl, rv, g⟩
  unfold mMax at g
  split at g
  · obtain ⟨V, Y, rfl, rx, ry⟩ := rvs2 rv
    cases rx
    cases ry
    exact call_max2 hc pins s σ H _ us Q I r ⟨_, _, rfl, g _ H mp .refl rl (.int _)⟩
  · exact False.elim g
def mStr (xs : List MV) (h : MH) : Res MV := match xs with
  | [.int i] => if i.natAbs.log2 < 1920 then .ok (.str (toString i)) h else .bad
  | [.bl b] => .ok (.str (if b then "True" else "False")) h
  | [.str a] => .ok (.str a) h
  | _ => .bad
theorem strM : CallR X (.type "str") (rMC X.K cl mStr) := by
  intro pins s σ H Vs us Q I r ⟨xs, h, mp, rl, rv, g⟩
  unfold mStr at g
  split at g
  · obtain ⟨V, rfl, rx⟩ := rvs1 rv
    cases rx
    split at g
    · rename_i hz
      exact call_str_int pins s σ H _ us Q I r ⟨_, rfl, hz, g _ H mp .refl rl (.str _)⟩
    · exact False.elim g
  · obtain ⟨V, rfl, rx⟩ := rvs1 rv
    cases rx
    obtain ⟨u, rfl, r1⟩ := vals1 r
    cases r1
    exact PySem.P.str_of_bool ⟨.str _, H, I.tok _, ⟨_, rfl⟩, g _ H mp .refl rl (.str _)⟩
  · obtain ⟨V, rfl, rx⟩ := rvs1 rv
    cases rx
    obtain ⟨u, rfl, t, rfl⟩ := vals1 r
    exact PySem.P.str_of_str ⟨.str _, H, I, ⟨_, rfl⟩, g _ H mp .refl rl (.str _)⟩
  · exact False.elim g
end
end Sm

set_option Elab.async false
set_option linter.all false
set_option maxRecDepth 100000
set_option maxHeartbeats 4000000
/-! lists just made as arguments, isinstance, methods, fields, calls of defs -/
namespace Sm
open PySem PySem.Spec PyProof.Rows L2
section
variable {X : Cx} {cl : Str → Option Addr} {W : Wsh} {a b c e o : Expr} {es : List Expr} {ma mb mc m : ME} {ms la lb : MA} {pos apos cpos p2 : Pos}
/-! ### f([..]) -/
/-- what is asked of a list of items -/
def ListR (X : Cx) (cl : Str → Option Addr) (r : List L2.V → Hp → VK → Prop) (mo : List MV → MH → Res MV) : Prop := ∀ p xs vs H h mp Q, Rl X.K cl mp h H → SqL X.K H p vs → RVs X.K mp H xs vs → Good (mo xs h) (QV X.K cl mp H Q) never → r [.ref p] H Q
theorem tCBL_of {r : List L2.V → Hp → VK → Prop} {mo : List MV → MH → Res MV} (ok : ListR X cl r mo) (ne : NoEx1 mo) : ∀ σ H Q, tM X.K cl W (eCallB mo la) σ H Q → tCB r (tCons (tML X.K cl W la) tNil) σ H Q := fun σ H Q ⟨ρ, h, mp, rl, rs, g⟩ =>
  tML_bind rl rs g (fun _ _ z => z) fun xs h1 p vs H1 mp1 f1 rl1 rs1 h0 np hp rv g1 => ok p xs vs H1 h1 mp1 Q rl1 (SqL.of hp) rv (toNever (g1.mono (fun v h' q => q.fut f1) fun _ _ z => z) (ne _ _))
theorem se_callBL {x : Str} {id : String} {mo : List MV → MH → Res MV} {r : List L2.V → Hp → VK → Prop} {p : Pos} (ok : ListR X cl r mo) (ne : NoEx1 mo) (hc : CallR X (.builtin id) r) (hg : Gl X x) (hm : X.mg x = none) (hv : bootBuiltins x = some (.builtin id)) (hs : SL X cl W e la)
    (hn : x ≠ "__name__" := by decide) (hdb : (x == ("__debug__" : Str)) = false := by decide) (he : starEach [e] X.env = [(false, eval e X.env)] := by rfl) :
    SE X cl W (.Call (.Name x p) [e] [] pos) (eCallB mo la) := peW (pe_callB hc hg hm hv (pa_cons hs pa_nil he) (hn := hn) (hdb := hdb) (he := he) (hpl := rfl)) (tCBL_of ok ne)
theorem se_callTyL {x : Str} {T : String} {mo : List MV → MH → Res MV} {r : List L2.V → Hp → VK → Prop} {p : Pos} (ok : ListR X cl r mo) (ne : NoEx1 mo) (hc : CallR X (.type T) r) (hg : Gl X x) (hm : X.mg x = none) (hv : bootBuiltins x = some (.type T)) (hs : SL X cl W e la)
    (hn : x ≠ "__name__" := by decide) (hdb : (x == ("__debug__" : Str)) = false := by decide) (he : starEach [e] X.env = [(false, eval e X.env)] := by rfl) :
    SE X cl W (.Call (.Name x p) [e] [] pos) (eCallB mo la) := peW (pe_callTy hc hg hm hv (pa_cons hs pa_nil he) (hn := hn) (hdb := hdb) (he := he) (hpl := rfl)) (tCBL_of ok ne)
@[simp] def lTuple (xs : List MV) (h : MH) : Res MV := .ok (.tup xs) h
theorem lTuple_ok : ListR X cl (fun xs H Q => ∃ p ys, xs = [.ref p] ∧ ((SqL X.K H p ys ∧ ∀ l, H l = none → Q (.ref l) (upd H l (.tup ys))) ∨ (SqT X.K H p ys ∧ Q (.ref p) H))) lTuple := fun p xs vs H h mp Q rl hs rv g =>
  ⟨p, vs, rfl, .inl ⟨hs, fun l hl => g _ _ mp (Fut.new hl) (rl.new hl) (.tup (SqT.of upd_same) (rv.fut (Fut.new hl)))⟩⟩
@[simp] def lLen (xs : List MV) (h : MH) : Res MV := .ok (.int xs.length) h
theorem lLen_ok : ListR X cl (fun xs H Q => ∃ p ys, xs = [.ref p] ∧ (SqL X.K H p ys ∨ SqT X.K H p ys) ∧ Q (.int ys.length) H) lLen := fun p xs vs H h mp Q rl hs rv g =>
  ⟨p, vs, rfl, .inl hs, by rw [← rv.length]; exact g _ H mp .refl rl (.int _)⟩
def bools : List MV → Option (List Bool)
  | [] => some []
  | .bl b :: xs => (bools xs).map (b :: ·)
  | _ => none
@[simp] theorem bools_map (bs : List Bool) : bools (bs.map MV.bl) = some bs := by
  induction bs with
  | nil => rfl
  | cons b bs ih => simp [bools, ih]
theorem bools_ok {K : PySem.W.Frag} {mp : Mp} {H : Hp} : ∀ {xs : List MV} {vs : List L2.V} {bs : List Bool}, RVs K mp H xs vs → bools xs = some bs → vs = bs.map L2.V.bl
  | [], _, _, .nil, e => by simp [bools] at e; subst e; rfl
  | x :: xs, _, bs, .cons r t, e => by
    cases r with
    | bl b =>
      simp only [bools, Option.map_eq_some_iff] at e
      obtain ⟨cs, e1, rfl⟩ := e
      rw [bools_ok t e1]
      rfl
    | _ => simp [bools] at e
@[simp] def lAll (xs : List MV) (h : MH) : Res MV := match bools xs with | some bs => .ok (.bl (bs.all id)) h | none => .bad
@[simp] def lAny (xs : List MV) (h : MH) : Res MV := match bools xs with | some bs => .ok (.bl (bs.any id)) h | none => .bad
theorem lAll_ok : ListR X cl (rAll X.K) lAll := fun p xs vs H h mp Q rl hs rv g => by
  unfold lAll at g
  split at g
  · rename_i bs e
    have := bools_ok rv e
    subst this
    exact ⟨p, bs, rfl, hs, g _ H mp .refl rl (.bl _)⟩
  · exact False.elim g
theorem lAny_ok : ListR X cl (rAny X.K) lAny := fun p xs vs H h mp Q rl hs rv g => by
  unfold lAny at g
  split at g
  · rename_i bs e
    have := bools_ok rv e
    subst this
    exact ⟨p, bs, rfl, hs, g _ H mp .refl rl (.bl _)⟩
  · exact False.elim g
theorem lTuple_noEx : NoEx1 lTuple := fun _ _ _ _ z => by cases z
theorem lLen_noEx : NoEx1 lLen := fun _ _ _ _ z => by cases z
theorem lAll_noEx : NoEx1 lAll := fun _ _ _ _ z => by unfold lAll at z; split at z <;> cases z
theorem lAny_noEx : NoEx1 lAny := fun _ _ _ _ z => by unfold lAny at z; split at z <;> cases z
/-! ### list(x), [..] + [..] -/
@[simp] def lOf (m : ME) : MA := fun ρ h => (m ρ h).bind fun x h1 => match itemsOf x h1 with | some xs => .ok xs h1 | none => .bad
theorem sl_of {x : Str} {p : Pos} (hg : Gl X "list") (hm : X.mg "list" = none) (he : SE X cl W e m)
    (hst : starEach [e] X.env = [(false, eval e X.env)] := by rfl) : SL X cl W (.Call (.Name "list" p) [e] [] pos) (lOf m) :=
  peW (pe_callTy call_list_of hg hm (by decide +kernel) (pa_cons he pa_nil hst) (hn := by decide) (hdb := by decide) (he := hst) (hpl := rfl)) fun σ H Q ⟨ρ, h, mp, rl, rs, g⟩ =>
    tM_bind rl rs g (fun _ _ z => z) fun x h1 V H1 mp1 f1 rl1 rs1 rv1 g1 => by
      split at g1
      · rename_i xs ex
        obtain ⟨p, vs, rfl, hs, q1⟩ := items_ok rl1 rv1 ex
        exact ⟨p, vs, rfl, hs.imp (fun z => z.1) (fun z => z.1), fun l hl => newList f1 rl1 q1 hl g1⟩
      · exact False.elim g1
@[simp] def lOfL (la : MA) : MA := la
theorem sl_ofL {p : Pos} (hg : Gl X "list") (hm : X.mg "list" = none) (he : SL X cl W e la)
    (hst : starEach [e] X.env = [(false, eval e X.env)] := by rfl) : SL X cl W (.Call (.Name "list" p) [e] [] pos) (lOfL la) :=
  peW (pe_callTy call_list_of hg hm (by decide +kernel) (pa_cons he pa_nil hst) (hn := by decide) (hdb := by decide) (he := hst) (hpl := rfl)) fun σ H Q ⟨ρ, h, mp, rl, rs, g⟩ =>
    ⟨ρ, h, mp, rl, rs, Good.mono g (fun xs h1 q p vs H1 mp1 f1 rl1 h0 np hp rv => ⟨p, vs, rfl, .inl (SqL.of hp), fun l hl => newList f1 rl1 rv hl q⟩) fun _ _ z => z⟩
@[simp] def lCat (la lb : MA) : MA := fun ρ h => (la ρ h).bind fun xs h1 => (lb ρ h1).bind fun ys h2 => if szOk (xs.length + ys.length) then .ok (xs ++ ys) h2 else .bad
theorem sl_cat (ha : SL X cl W a la) (hb : SL X cl W b lb) : SL X cl W (.BinOp a .Add b pos) (lCat la lb) :=
  peW (pe_op op_cat ha hb) fun σ H Q ⟨ρ, h, mp, rl, rs, g⟩ => tML_bind rl rs g (fun _ _ z => z) fun xs h1 p vs H1 mp1 f1 rl1 rs1 h0 np hp rv g1 =>
    tML_bind rl1 rs1 g1 (fun _ _ z => z.fut f1) fun ys h2 q ws H2 mp2 f2 rl2 rs2 h0' np' hp' rv' g2 => by
      split at g2
      · rename_i hz
        exact ⟨p, q, vs, ws, rfl, rfl, (f2.fr p _ hp np).1, hp', by rw [← rv.length, ← rv'.length]; exact hz.le, fun l hl => newList (f1.trans f2) rl2 ((rv.fut f2).append rv') hl g2⟩
      · exact False.elim g2
/-- the list at a cell -/
def lstAt (x : MV) (h : MH) : Option (List MV) := match x with | .ref n => (match h[n]? with | some (.lst xs) => some xs | _ => none) | _ => none
theorem lstAt_ok {K : PySem.W.Frag} {mp : Mp} {h : MH} {H : Hp} {x : MV} {V : L2.V} {xs : List MV} (rl : Rl K cl mp h H) (r : RV K mp H x V) (e : lstAt x h = some xs) : ∃ n p vs, x = .ref n ∧ mp n = some p ∧ h[n]? = some (.lst xs) ∧ V = .ref p ∧ H p = some (.lst vs) ∧ RVs K mp H xs vs := by
  cases r with
  | @ref n a e1 =>
    unfold lstAt at e
    dsimp only at e
    split at e
    · rename_i ys c
      have := Option.some.inj e
      subst this
      obtain ⟨vs, h1, q1⟩ := rl.obj n _ a c e1
      exact ⟨n, a, vs, rfl, e1, c, rfl, h1, q1⟩
    · cases e
  | _ => cases e
@[simp] def lCatE (ma : ME) (lb : MA) : MA := fun ρ h => (ma ρ h).bind fun x h1 => (lb ρ h1).bind fun ys h2 => match lstAt x h2 with | some xs => if szOk (xs.length + ys.length) then .ok (xs ++ ys) h2 else .bad | none => .bad
theorem sl_catE (ha : SE X cl W a ma) (hb : SL X cl W b lb) : SL X cl W (.BinOp a .Add b pos) (lCatE ma lb) :=
  peW (pe_op op_cat ha hb) fun σ H Q ⟨ρ, h, mp, rl, rs, g⟩ => tM_bind rl rs g (fun _ _ z => z) fun x h1 V H1 mp1 f1 rl1 rs1 rv g1 =>
    tML_bind rl1 rs1 g1 (fun _ _ z => z.fut f1) fun ys h2 q ws H2 mp2 f2 rl2 rs2 h0' np' hp' rv' g2 => by
      split at g2
      · rename_i xs ex
        obtain ⟨n, p, vs, rfl, e1, c, rfl, hp, q1⟩ := lstAt_ok rl2 (rv.fut f2) ex
        split at g2
        · rename_i hz
          exact ⟨p, q, vs, ws, rfl, rfl, hp, hp', by rw [← q1.length, ← rv'.length]; exact hz.le, fun l hl => newList (f1.trans f2) rl2 (q1.append rv') hl g2⟩
        · exact False.elim g2
      · exact False.elim g2
@[simp] def lCatL (la : MA) (mb : ME) : MA := fun ρ h => (la ρ h).bind fun xs h1 => (mb ρ h1).bind fun y h2 => match lstAt y h2 with | some ys => if szOk (xs.length + ys.length) then .ok (xs ++ ys) h2 else .bad | none => .bad
theorem sl_catL (ha : SL X cl W a la) (hb : SE X cl W b mb) : SL X cl W (.BinOp a .Add b pos) (lCatL la mb) :=
  peW (pe_op op_cat ha hb) fun σ H Q ⟨ρ, h, mp, rl, rs, g⟩ => tML_bind rl rs g (fun _ _ z => z) fun xs h1 p vs H1 mp1 f1 rl1 rs1 h0 np hp rv g1 =>
    tM_bind rl1 rs1 g1 (fun _ _ z => z.fut f1) fun y h2 V H2 mp2 f2 rl2 rs2 rv' g2 => by
      split at g2
      · rename_i ys ey
        obtain ⟨n, q, ws, rfl, e1, c, rfl, hq, q1⟩ := lstAt_ok rl2 rv' ey
        split at g2
        · rename_i hz
          exact ⟨p, q, vs, ws, rfl, rfl, (f2.fr p _ hp np).1, hq, by rw [← rv.length, ← q1.length]; exact hz.le, fun l hl => newList (f1.trans f2) rl2 ((rv.fut f2).append q1) hl g2⟩
        · exact False.elim g2
      · exact False.elim g2
/-- [..][i]: an item of a list just made -/
@[simp] def eIxL (la : MA) (mb : ME) : ME := fun ρ h => (la ρ h).bind fun xs h1 => (mb ρ h1).bind fun y h2 => ixL xs y h2
theorem ixL_noEx (xs : List MV) (y : MV) (h : MH) : ∀ e h', ¬ ixL xs y h = .ex e h' := by
  intro e h' z
  unfold ixL optR at z
  repeat' split at z
  all_goals cases z
theorem se_ixL (ha : SL X cl W a la) (hb : SE X cl W b mb) (hs : PlainIx b) : SE X cl W (.Subscript a b pos) (eIxL la mb) :=
  peW (pe_ix ix_list ha hb hs) fun σ H Q ⟨ρ, h, mp, rl, rs, g⟩ => tML_bind rl rs g (fun _ _ z => z) fun xs h1 p vs H1 mp1 f1 rl1 rs1 h0 np hp rv g1 =>
    tM_bind rl1 rs1 g1 (fun _ _ z => z.fut f1) fun y h2 V H2 mp2 f2 rl2 rs2 rv' g2 => by
      obtain ⟨i, z, rfl, e1, q⟩ := ixL_ok rl2 (rv.fut f2) rv' (toNever (g2.mono (fun v h' q => q.fut (f1.trans f2)) fun _ _ z => z) (ixL_noEx _ _ _))
      exact ⟨p, vs, i, z, rfl, rfl, SqL.of (f2.fr p _ hp np).1, e1, q⟩
/-! ### isinstance -/
def tyName (x : MV) (h : MH) : Option String := match x with
  | .non => some "NoneType" | .bl _ => some "bool" | .int _ => some "int" | .str _ => some "str" | .tup _ => some "tuple"
  | .scr _ => some "list"
  | .ref n => match h[n]? with | some (.lst _) => some "list" | some (.dct _) => some "dict" | _ => none
  | .exn _ _ _ => none
theorem tyName_ok {K : PySem.W.Frag} {mp : Mp} {h : MH} {H : Hp} {x : MV} {V : L2.V} {t : String} (rl : Rl K cl mp h H) (r : RV K mp H x V) (e : tyName x h = some t) : TyX K H V (.type t) := by
  cases r with
  | non => cases e; exact .base .non
  | bl b => cases e; exact .base (.bl b)
  | int b => cases e; exact .base (.int b)
  | str b => cases e; exact .base (.str b)
  | tup h1 q1 =>
    cases e
    rcases h1 with (h1 | ⟨o, h1⟩) | ⟨o, its, n, h1, h2, _⟩
    · exact .base (.tup h1)
    · exact .fTuple h1
    · exact .kTuple h1 h2
  | scr h1 q1 =>
    cases e
    rcases h1 with ⟨o, h1⟩ | ⟨o, its, n, h1, h2, _⟩
    · exact .base (.frz h1)
    · exact .kList h1 h2
  | @ref n a e1 =>
    unfold tyName at e
    dsimp only at e
    split at e
    · rename_i ys c
      cases e
      obtain ⟨vs, h1, q1⟩ := rl.obj n _ a c e1
      exact .base (.lst h1)
    · rename_i ys c
      cases e
      obtain ⟨vs, h1, q1⟩ := rl.obj n _ a c e1
      exact .base (.dK h1)
    · cases e
def isiB (t T : String) : Bool := t == T || (t == "bool" && T == "int")
def mIsi (T : String) (x : MV) (h : MH) : Res MV := match tyName x h with | some t => .ok (.bl (isiB t T)) h | none => .bad
theorem kit_all {T : String} (hT : T ∈ ["int", "bool", "str", "tuple", "list", "dict"]) {x : MV} {h : MH} {t : String} (e : tyName x h = some t) : kitB t T = some (isiB t T) := by
  have ht : t ∈ ["NoneType", "bool", "int", "str", "tuple", "list", "dict"] := by
    unfold tyName at e
    repeat' split at e
    all_goals cases e
    all_goals decide
  have all : ∀ T ∈ ["int", "bool", "str", "tuple", "list", "dict"], ∀ t ∈ ["NoneType", "bool", "int", "str", "tuple", "list", "dict"], kitB t T = some (isiB t T) := by decide +kernel
  exact all T hT t ht
theorem se_isi {T : String} {x : Str} {p pT : Pos} (hT : T ∈ ["int", "bool", "str", "tuple", "list", "dict"] := by decide) (hg : Gl X "isinstance") (hm : X.mg "isinstance" = none) (he : SE X cl W e m) (ht : PE X (.Name x pT) (tC (.ty T)))
    (hs : starEach [e, .Name x pT] X.env = (false, eval e X.env) :: starEach [.Name x pT] X.env := by rfl) (hs2 : starEach [.Name x pT] X.env = [(false, eval (.Name x pT) X.env)] := by rfl) (hpl : (backTo pos (starEach [.Name x pT] X.env)).any (·.1) = false := by rfl) :
    SE X cl W (.Call (.Name "isinstance" p) [e, .Name x pT] [] pos) (eUn (mIsi T) m) :=
  peW (pe_callB call_isi hg hm (by decide +kernel) (pa_cons he (pa_cons ht pa_nil hs2) hs) (hn := by decide) (hdb := by decide) (he := hs) (hpl := hpl)) fun σ H Q ⟨ρ, h, mp, rl, rs, g⟩ =>
    tM_bind rl rs g (fun _ _ z => z) fun x h1 V H1 mp1 f1 rl1 rs1 rv1 g1 => by
      unfold mIsi at g1
      split at g1
      · rename_i t et
        exact ⟨V, _, .type t, .type T, _, rfl, .ty T, tyName_ok rl1 rv1 et, kit_ty (kit_all hT et), g1 _ H1 mp1 f1 rl1 (.bl _)⟩
      · exact False.elim g1
/-! ### methods of built-in types -/
def rMM (K : PySem.W.Frag) (cl : Str → Option Addr) (mt : MV → List MV → MH → Res MV) : L2.V → List L2.V → Hp → VK → Prop := fun V Vs H Q => ∃ x xs h mp, Rl K cl mp h H ∧ RV K mp H x V ∧ RVs K mp H xs Vs ∧ Good (mt x xs h) (QV K cl mp H Q) never
/-- the receiver is of that type -/
def tyOk (T : String) (x : MV) (h : MH) : Bool := match x with
  | .str _ => T == "str"
  | .ref n => match h[n]? with | some (.lst _) => T == "list" | some (.dct _) => T == "dict" | _ => false
  | _ => false
theorem tyOk_ok {K : PySem.W.Frag} {mp : Mp} {h : MH} {H : Hp} {x : MV} {V : L2.V} {T : String} (rl : Rl K cl mp h H) (r : RV K mp H x V) (e : tyOk T x h = true) : tyV K T V H := by
  cases r with
  | str z => exact beq_iff_eq.mp e
  | @ref n a e1 =>
    unfold tyOk at e
    dsimp only at e
    split at e
    · rename_i ys c
      obtain ⟨vs, h1, q1⟩ := rl.obj n _ a c e1
      exact .inl ⟨beq_iff_eq.mp e, vs, SqL.of h1⟩
    · rename_i ys c
      obtain ⟨vs, h1, q1⟩ := rl.obj n _ a c e1
      exact .inr (.inr (.inl ⟨beq_iff_eq.mp e, .inl ⟨vs, h1⟩⟩))
    · cases e
  | _ => cases e
@[simp] def eBM (T : String) (mt : MV → List MV → MH → Res MV) (mo : ME) (ms : MA) : ME := fun ρ h => (mo ρ h).bind fun x h1 => if tyOk T x h1 = true then (ms ρ h1).bind fun xs h2 => mt x xs h2 else .bad
def NoExM (mt : MV → List MV → MH → Res MV) : Prop := ∀ x xs h e h', ¬ mt x xs h = .ex e h'
theorem se_bm {T id : String} {name : Str} {mt : MV → List MV → MH → Res MV} {mo : ME} (ne : NoExM mt) (pa : PlainAttrs T) (slot : Slot T name id) (hty : typeOf (.builtin id) = pure (.type "method_descriptor")) (hm : MtR X id (rMM X.K cl mt)) (ho : SE X cl W o mo) (ha : SA X cl W (e :: es) ms)
    (hbase : attributeBase o name X.env (eval o X.env) = eval o X.env := by rfl)
    (hfew : ((backTo cpos (starEach (e :: es) X.env)).all (fun x => !x.1) && (backToKw cpos (keywordEach [] X.env)).all (fun x => x.1.isSome)
      && decide ((e :: es).length + ([] : List Keyword).length + (if ([] : List Keyword).isEmpty then 0 else 1) < 30)) = true := by rfl)
    (hline : (apos.endLine == cpos.line) = true := by rfl) (hs : starEach (e :: es) X.env = (false, eval e X.env) :: starEach es X.env := by rfl) (hplain : (backTo cpos (starEach es X.env)).any (·.1) = false := by rfl) :
    SE X cl W (.Call (.Attribute o name apos) (e :: es) [] cpos) (eBM T mt mo ms) :=
  peW (pe_bm pa slot hty hm ho ha hbase hfew hline hs hplain) fun σ H Q ⟨ρ, h, mp, rl, rs, g⟩ =>
    tM_bind rl rs g (fun _ _ z => z) fun x h1 V H1 mp1 f1 rl1 rs1 rv1 g1 => by
      split at g1
      · rename_i ht
        exact ⟨tyOk_ok rl1 rv1 ht, tMA_bind rl1 rs1 g1 (fun _ _ z => z.fut f1) fun xs h2 Vs H2 mp2 f2 rl2 rs2 rv2 g2 =>
          ⟨x, xs, h2, mp2, rl2, rv1.fut f2, rv2, toNever (g2.mono (fun v h' q => q.fut (f1.trans f2)) fun _ _ z => z) (ne _ _ _)⟩⟩
      · exact False.elim g1
theorem se_bm0 {T id : String} {name : Str} {mt : MV → List MV → MH → Res MV} {mo : ME} (ne : NoExM mt) (pa : PlainAttrs T) (slot : Slot T name id) (hty : typeOf (.builtin id) = pure (.type "method_descriptor")) (hm : MtR X id (rMM X.K cl mt)) (ho : SE X cl W o mo)
    (hp : PE X (.Call (.Attribute o name apos) [] [] cpos) (tBM0 X.K T (rMM X.K cl mt) (tM X.K cl W mo))) :
    SE X cl W (.Call (.Attribute o name apos) [] [] cpos) (eBM T mt mo aNil) :=
  peW hp fun σ H Q ⟨ρ, h, mp, rl, rs, g⟩ =>
    tM_bind rl rs g (fun _ _ z => z) fun x h1 V H1 mp1 f1 rl1 rs1 rv1 g1 => by
      split at g1
      · rename_i ht
        exact ⟨tyOk_ok rl1 rv1 ht, x, [], h1, mp1, rl1, rv1, .nil, toNever (Good.mono g1 (fun v h' q => q.fut f1) fun _ _ z => z) (ne _ _ _)⟩
      · exact False.elim g1
@[simp] def mAppend (x : MV) (xs : List MV) (h : MH) : Res MV := match x, xs with
  | .ref n, [y] => match h[n]? with | some (.lst ys) => if ys.length < 1000000 then .ok .non (h.set n (.lst (ys ++ [y]))) else .bad | _ => .bad
  | _, _ => .bad
theorem mAppend_noEx : NoExM mAppend := by
  intro x xs h e h' z
  unfold mAppend at z
  repeat' split at z
  all_goals cases z
theorem szlt {n : Nat} (h : n < 1000000) : n < sizeLine := Nat.lt_of_lt_of_le h (by decide)
theorem appendM : MtR X "list.append" (rMM X.K cl mAppend) := by
  intro pins s σ H V Vs v us Q I rx rxs ⟨x, xs, h, mp, rl, r1, r2, g⟩
  unfold mAppend at g
  split at g
  · rename_i n y
    obtain ⟨Y, rfl, ry⟩ := rvs1 r2
    cases r1 with
    | @ref _ a e1 =>
      split at g
      · rename_i ys c
        split at g
        · rename_i hz
          obtain ⟨vs, h1, q1⟩ := rl.obj n _ a c e1
          refine mt_append pins s σ H _ _ v us Q I rx rxs ⟨a, vs, Y, rfl, rfl, h1, by rw [← q1.length]; exact szlt hz, ?_⟩
          have f := Fut.set (o := .lst (vs ++ [Y])) rl e1
          exact g _ _ mp f (rl.set e1 ⟨_, upd_same, ((q1.append (.cons ry .nil)).fut f)⟩) .non
        · exact False.elim g
      · exact False.elim g
  · exact False.elim g
def mPopAt (x : MV) (xs : List MV) (h : MH) : Res MV := match x, xs with
  | .ref n, [.int i] => match h[n]? with
    | some (.lst ys) => if 0 ≤ i ∧ i < 2 ^ 62 then (match ys[i.toNat]? with | some y => .ok y (h.set n (.lst (ys.eraseIdx i.toNat))) | none => .bad) else .bad
    | _ => .bad
  | _, _ => .bad
theorem mPopAt_noEx : NoExM mPopAt := by
  intro x xs h e h' z
  unfold mPopAt at z
  repeat' split at z
  all_goals cases z
theorem popAtM : MtR X "list.pop" (rMM X.K cl mPopAt) := by
  intro pins s σ H V Vs v us Q I rx rxs ⟨x, xs, h, mp, rl, r1, r2, g⟩
  unfold mPopAt at g
  split at g
  · rename_i n i
    obtain ⟨Y, rfl, ry⟩ := rvs1 r2
    cases ry
    cases r1 with
    | @ref _ a e1 =>
      split at g
      · rename_i ys c
        split at g
        · rename_i hz
          split at g
          · rename_i y ey
            obtain ⟨vs, h1, q1⟩ := rl.obj n _ a c e1
            obtain ⟨Y, e2, ry⟩ := q1.get ey
            have hl : i.toNat < vs.length := (List.getElem?_eq_some_iff.mp e2).1
            refine mt_popAt pins s σ H _ _ v us Q I rx rxs ⟨a, vs, i, i.toNat, Y, rfl, rfl, h1, by omega, by omega, ?_, e2, ?_⟩
            · exact seqIndex_of hz.1 (by omega)
            · have f := Fut.set (o := .lst (vs.eraseIdx i.toNat)) rl e1
              exact g _ _ mp f (rl.set e1 ⟨_, upd_same, ((q1.eraseIdx _).fut f)⟩) (ry.fut f)
          · exact False.elim g
        · exact False.elim g
      · exact False.elim g
  · exact False.elim g
def mInsert (x : MV) (xs : List MV) (h : MH) : Res MV := match x, xs with
  | .ref n, [.int i, y] => match h[n]? with
    | some (.lst ys) => if 0 ≤ i ∧ i < 2 ^ 62 ∧ ys.length < 1000000 then .ok .non (h.set n (.lst (ys.take i.toNat ++ [y] ++ ys.drop i.toNat))) else .bad
    | _ => .bad
  | _, _ => .bad
theorem mInsert_noEx : NoExM mInsert := by
  intro x xs h e h' z
  unfold mInsert at z
  repeat' split at z
  all_goals cases z
theorem insertM : MtR X "list.insert" (rMM X.K cl mInsert) := by
  intro pins s σ H V Vs v us Q I rx rxs ⟨x, xs, h, mp, rl, r1, r2, g⟩
  unfold mInsert at g
  split at g
  · rename_i n i y
    obtain ⟨Z, Y, rfl, rz, ry⟩ := rvs2 r2
    cases rz
    cases r1 with
    | @ref _ a e1 =>
      split at g
      · rename_i ys c
        split at g
        · rename_i hz
          obtain ⟨vs, h1, q1⟩ := rl.obj n _ a c e1
          refine mt_insert pins s σ H _ _ v us Q I rx rxs ⟨a, vs, i, Y, rfl, rfl, h1, by rw [← q1.length]; exact szlt hz.2.2, hz.1, by omega, ?_⟩
          have f := Fut.set (o := .lst (vs.take i.toNat ++ [Y] ++ vs.drop i.toNat)) rl e1
          exact g _ _ mp f (rl.set e1 ⟨_, upd_same, ((((q1.take _).append (.cons ry .nil)).append (q1.drop _)).fut f)⟩) .non
        · exact False.elim g
      · exact False.elim g
  · exact False.elim g
/-- the first place of a flat value -/
def mIndex (x : MV) (xs : List MV) (h : MH) : Res MV := match xs with
  | [y] => match lstAt x h with
    | some ys => if flatM y && ys.all flatM then (match ys.findIdx? (fun z => eqM z y) with | some j => .ok (.int (j : Nat)) h | none => .bad) else .bad
    | none => .bad
  | _ => .bad
theorem mIndex_noEx : NoExM mIndex := by
  intro x xs h e h' z
  unfold mIndex at z
  repeat' split at z
  all_goals cases z
theorem indexM : MtR X "list.index" (rMM X.K cl mIndex) := by
  intro pins s σ H V Vs v us Q I rx rxs ⟨x, xs, h, mp, rl, r1, r2, g⟩
  unfold mIndex at g
  split at g
  · rename_i y
    obtain ⟨Y, rfl, ry⟩ := rvs1 r2
    split at g
    · rename_i ys ey
      obtain ⟨n, p, vs, rfl, e1, c, rfl, hp, q1⟩ := lstAt_ok rl r1 ey
      split at g
      · rename_i hf
        rw [Bool.and_eq_true] at hf
        split at g
        · rename_i j ej
          rw [List.findIdx?_eq_some_iff_getElem] at ej
          obtain ⟨hj, h1, h2⟩ := ej
          obtain ⟨z, e3, r3⟩ := q1.get (i := j) (x := ys[j]) (by simp [hj])
          refine mt_index pins s σ H _ _ v us Q I rx rxs ⟨p, vs, Y, j, z, rfl, rfl, SqL.of hp, by rw [flat_ok ry]; exact hf.1, by rw [flats_ok q1]; exact hf.2, e3, by rw [eqM_ok r3 ry]; exact h1, fun k z' hk ez => ?_, g _ H mp .refl rl (.int _)⟩
          obtain ⟨w, e4, r4⟩ := q1.getV ez
          rw [eqM_ok r4 ry]
          obtain ⟨hk', e5⟩ := List.getElem?_eq_some_iff.mp e4
          have := h2 k hk
          rw [e5] at this
          simpa using this
        · exact False.elim g
      · exact False.elim g
    · exact False.elim g
  · exact False.elim g
end
end Sm

set_option Elab.async false
set_option linter.all false
set_option maxRecDepth 100000
set_option maxHeartbeats 4000000
/-! fields, calls of defs, statements -/
namespace Sm
open PySem PySem.Spec PyProof.Rows L2
/-! ### fields -/
section
variable {X : Cx} {cl : Str → Option Addr} {W : Wsh} {a b c e o : Expr} {es : List Expr} {ma mb mc m mo : ME} {ms la lb : MA} {pos apos cpos p2 pos' : Pos} {f : Str}
/-- classes whose instances have f as a field -/
def FldOk (K : PySem.W.Frag) (cl : Str → Option Addr) (cs : List Str) (f : Str) : Prop := ∀ c, c ∈ cs → ∀ C, cl c = some C → Cls K C ∧ NoAttr K C f
def lookF (fs : List (Str × MV)) (f : Str) : Option MV := fs.lookup f
theorem look_ok {K : PySem.W.Frag} {mp : Mp} {H : Hp} {f : Str} : ∀ {fs : List (Str × MV)} {vs : List (Str × L2.V)}, RFs K mp H fs vs → (fs.lookup f = none ∧ vs.lookup f = none) ∨ ∃ x v, fs.lookup f = some x ∧ vs.lookup f = some v ∧ RV K mp H x v
  | [], vs, r => by
    have : vs = [] := by have := r.1; cases vs with | nil => rfl | cons _ _ => simp at this
    subst this
    exact .inl ⟨rfl, rfl⟩
  | (k1, x) :: fs, vs, r => by
    cases vs with
    | nil => have := r.1; simp at this
    | cons v vs =>
      obtain ⟨k2, v⟩ := v
      obtain ⟨e, t⟩ := r
      simp only [List.map_cons, List.cons.injEq] at e t
      obtain ⟨rfl, e⟩ := e
      cases t with
      | cons t1 t2 =>
        by_cases hk : f == k1
        · exact .inr ⟨x, v, by simp [List.lookup, hk], by simp [List.lookup, hk], t1⟩
        · rw [Bool.not_eq_true] at hk
          rcases look_ok (f := f) (fs := fs) (vs := vs) ⟨e, t2⟩ with ⟨a, b⟩ | ⟨y, w, a, b, c⟩
          · exact .inl ⟨by simp only [List.lookup, hk]; exact a, by simp only [List.lookup, hk]; exact b⟩
          · exact .inr ⟨y, w, by simp only [List.lookup, hk]; exact a, by simp only [List.lookup, hk]; exact b, c⟩
def putM (f : Str) (v : MV) : List (Str × MV) → List (Str × MV)
  | [] => [(f, v)]
  | (g, x) :: r => if g = f then (g, v) :: r else (g, x) :: putM f v r
theorem put_ok {K : PySem.W.Frag} {mp : Mp} {H : Hp} {f : Str} {x : MV} {v : L2.V} (q : RV K mp H x v) : ∀ {fs : List (Str × MV)} {vs : List (Str × L2.V)}, RFs K mp H fs vs → RFs K mp H (putM f x fs) (putF f v vs)
  | [], vs, r => by
    have : vs = [] := by have := r.1; cases vs with | nil => rfl | cons _ _ => simp at this
    subst this
    exact ⟨rfl, .cons q .nil⟩
  | (k1, y) :: fs, vs, r => by
    cases vs with
    | nil => have := r.1; simp at this
    | cons w vs =>
      obtain ⟨k2, w⟩ := w
      obtain ⟨e, t⟩ := r
      simp only [List.map_cons, List.cons.injEq] at e t
      obtain ⟨rfl, e⟩ := e
      cases t with
      | cons t1 t2 =>
        unfold putM putF
        split
        · exact ⟨by simp [e], .cons q t2⟩
        · have ih := put_ok (f := f) q (fs := fs) (vs := vs) ⟨e, t2⟩
          exact ⟨by simp only [List.map_cons]; rw [ih.1], .cons t1 ih.2⟩
def mFld (cs : List Str) (f : Str) (x : MV) (h : MH) : Res MV := match x with
  | .ref n => match h[n]? with | some (.ins c fs) => if c ∈ cs then optR (fs.lookup f) h else .bad | _ => .bad
  | _ => .bad
theorem se_fld {cs : List Str} (hC : FldOk X.K cl cs f) (he : SE X cl W e m) (hb : attributeBase e f X.env (eval e X.env) = eval e X.env := by rfl) : SE X cl W (.Attribute e f pos) (eUn (mFld cs f) m) :=
  peW (pe_fld he hb) fun σ H Q ⟨ρ, h, mp, rl, rs, g⟩ => tM_bind rl rs g (fun _ _ z => z) fun x h1 V H1 mp1 f1 rl1 rs1 rv1 g1 => by
    unfold mFld at g1
    cases rv1 with
    | @ref n a e1 =>
      dsimp only at g1
      split at g1
      · rename_i c fs cc
        split at g1
        · rename_i hc
          obtain ⟨C, dx, vs, h0, h1', q1⟩ := rl1.obj n _ a cc e1
          obtain ⟨k1, k2⟩ := hC c hc C h0
          rcases look_ok (f := f) q1 with ⟨z1, z2⟩ | ⟨y, w, z1, z2, z3⟩
          · rw [z1] at g1; exact False.elim g1
          · rw [z1] at g1
            exact ⟨a, C, dx, vs, w, rfl, h1', k1, k2, z2, g1 _ H1 mp1 f1 rl1 z3⟩
        · exact False.elim g1
      · exact False.elim g1
    | _ => exact False.elim g1
/-! ### calls -/
/-- a def's promise: it does what the small machine's function does -/
def spM (K : PySem.W.Frag) (cl : Str → Option Addr) (mf : List MV → MH → Res MV) : Sp := fun vs H Q E => ∃ xs h mp, Rl K cl mp h H ∧ RVs K mp H xs vs ∧ Good (mf xs h) (QV K cl mp H Q) never
@[simp] def eCall (mf : List MV → MH → Res MV) (ms : MA) : ME := fun ρ h => (ms ρ h).bind fun xs h1 => mf xs h1
abbrev E0 : XK := fun _ _ _ => False
section
variable {k : Nat} {fa C : Addr} {fd : FuncData} {ps : List Str} {mf : List MV → MH → Res MV} {x : Str} {p : Pos} {dm : List MV} {dvs : List L2.V} {ds : List Value}
@[simp] def eCallD (mf : List MV → MH → Res MV) (dm : List MV) (ms : MA) : ME := fun ρ h => (ms ρ h).bind fun xs h1 => mf (xs ++ dm) h1
theorem tCall_of (ne : NoEx1 mf) (hdm : ∀ mp H, RVs X.K mp H dm dvs) : ∀ σ H Q, tM X.K cl W (eCallD mf dm ms) σ H Q → tCall (spM X.K cl mf) dvs E0 (tMA X.K cl W ms) σ H Q := fun σ H Q ⟨ρ, h, mp, rl, rs, g⟩ =>
  tMA_bind rl rs g (fun _ _ z => z) fun xs h1 V H1 mp1 f1 rl1 rs1 rv1 g1 => ⟨xs ++ dm, h1, mp1, rl1, rv1.append (hdm _ _), toNever (g1.mono (fun v h' q => q.fut f1) fun _ _ z => z) (ne _ _)⟩
theorem se_call (ne : NoEx1 mf) (F : FnOk X.prog X.w X.K X.mg X.base CX0 k fa fd ps (spM X.K cl mf)) (hr : Room k X.A) (hg : Gl X x) (hm : X.mg x = some (.ref fa)) (hk : PySem.W.keepIn X.K (.ref fa) = true) (hb : Binds X.K fd ps []) (ha : SA X cl W (e :: es) ms)
    (hdb : (x == ("__debug__" : Str)) = false := by decide) (he : starEach (e :: es) X.env = (false, eval e X.env) :: starEach es X.env := by rfl) (hpl : (backTo pos (starEach es X.env)).any (·.1) = false := by rfl) :
    SE X cl W (.Call (.Name x p) (e :: es) [] pos) (eCallD mf [] ms) := peW (pe_call F hr hg hm hk hb .nil pass0 ha hdb he hpl) (tCall_of ne fun _ _ => .nil)
theorem se_call0 (ne : NoEx1 mf) (F : FnOk X.prog X.w X.K X.mg X.base CX0 k fa fd ps (spM X.K cl mf)) (hr : Room k X.A) (hg : Gl X x) (hm : X.mg x = some (.ref fa)) (hk : PySem.W.keepIn X.K (.ref fa) = true) (hb : Binds X.K fd ps [])
    (hdb : (x == ("__debug__" : Str)) = false := by decide) :
    SE X cl W (.Call (.Name x p) [] [] pos) (eCallD mf [] aNil) := peW (pe_call0 F hr hg hm hk hb .nil pass0 hdb) fun σ H Q ⟨ρ, h, mp, rl, rs, g⟩ => ⟨[], h, mp, rl, .nil, toNever g (ne _ _)⟩
theorem se_callDf (ne : NoEx1 mf) (hdm : ∀ mp H, RVs X.K mp H dm dvs) (F : FnOk X.prog X.w X.K X.mg X.base CX0 k fa fd ps (spM X.K cl mf)) (hr : Room k X.A) (hg : Gl X x) (hm : X.mg x = some (.ref fa)) (hk : PySem.W.keepIn X.K (.ref fa) = true) (hb : Binds X.K fd ps ds) (hd : Vals dvs ds) (ha : SA X cl W (e :: es) ms)
    (hdb : (x == ("__debug__" : Str)) = false := by decide) (he : starEach (e :: es) X.env = (false, eval e X.env) :: starEach es X.env := by rfl) (hpl : (backTo pos (starEach es X.env)).any (·.1) = false := by rfl) :
    SE X cl W (.Call (.Name x p) (e :: es) [] pos) (eCallD mf dm ms) := peW (pe_call F hr hg hm hk hb hd pass0 ha hdb he hpl) (tCall_of ne hdm)
/-- o.m(..): an instance of the class c -/
@[simp] def eMeth (c m : Str) (mf : List MV → MH → Res MV) (dm : List MV) (mo : ME) (ms : MA) : ME := fun ρ h => (mo ρ h).bind fun x h1 => match x with
  | .ref n => match h1[n]? with
    | some (.ins c' fs) => if c' = c ∧ fs.lookup m = none then (ms ρ h1).bind fun xs h2 => mf (x :: (xs ++ dm)) h2 else .bad
    | _ => .bad
  | _ => .bad
variable {mn cn : Str}
theorem tMeth_of (ne : NoEx1 mf) (hdm : ∀ mp H, RVs X.K mp H dm dvs) (hC : cl cn = some C) : ∀ σ H Q, tM X.K cl W (eMeth cn mn mf dm mo ms) σ H Q → tMeth C mn (spM X.K cl mf) dvs E0 (tM X.K cl W mo) (tMA X.K cl W ms) σ H Q := fun σ H Q ⟨ρ, h, mp, rl, rs, g⟩ =>
  tM_bind rl rs g (fun _ _ z => z) fun x h1 V H1 mp1 f1 rl1 rs1 rv1 g1 => by
    cases rv1 with
    | @ref n a e1 =>
      dsimp only at g1
      split at g1
      · rename_i c' fs cc
        split at g1
        · rename_i hc
          obtain ⟨C', dx, vs, h0, h1', q1⟩ := rl1.obj n _ a cc e1
          rw [hc.1, hC] at h0
          have := Option.some.inj h0
          subst this
          refine ⟨a, dx, vs, rfl, h1', ?_, ?_⟩
          · rcases look_ok (f := mn) q1 with ⟨_, z2⟩ | ⟨y, w, z1, _, _⟩
            · exact z2
            · rw [hc.2] at z1; cases z1
          · exact tMA_bind rl1 rs1 g1 (fun _ _ z => z.fut f1) fun xs h2 Vs H2 mp2 f2 rl2 rs2 rv2 g2 =>
              ⟨_, h2, mp2, rl2, .cons (.ref (f2.le _ _ e1)) (rv2.append (hdm _ _)), toNever (g2.mono (fun v h' q => q.fut (f1.trans f2)) fun _ _ z => z) (ne _ _)⟩
        · exact False.elim g1
      · exact False.elim g1
    | _ => exact False.elim g1
theorem se_meth {pl : Sem Bool} (ne : NoEx1 mf) (hdm : ∀ mp H, RVs X.K mp H dm dvs) (hC : cl cn = some C) (ho : SE X cl W o mo) (c : Cls X.K C) (hm : Meth X.K C mn fa) (F : FnOk X.prog X.w X.K X.mg X.base CX0 k fa fd ps (spM X.K cl mf)) (hr : Room k X.A) (hb : Binds X.K fd ps ds) (hd : Vals dvs ds) (ha : SA X cl W (e :: es) ms)
    (hst : starEach (e :: es) X.env = (false, eval e X.env) :: starEach es X.env := by rfl) (hpl : (backTo pos (starEach es X.env)).any (·.1) = false := by rfl)
    (ht : eval (.Call (.Attribute o mn apos) (e :: es) [] pos) X.env = (do
      let ov ← eval o X.env
      standAt apos.atName
      let (f, first) ← holding [ov] (getMethod ov mn pl)
      callWith pos f first (backTo pos (starEach (e :: es) X.env)) (backToKw pos (keywordEach [] X.env))) := by rfl) :
    SE X cl W (.Call (.Attribute o mn apos) (e :: es) [] pos) (eMeth cn mn mf dm mo ms) := peW (pe_meth ho c hm F hr hb hd pass0 ha hst hpl ht) (tMeth_of ne hdm hC)
theorem se_meth0 {pl : Sem Bool} (ne : NoEx1 mf) (hdm : ∀ mp H, RVs X.K mp H dm dvs) (hC : cl cn = some C) (ho : SE X cl W o mo) (c : Cls X.K C) (hm : Meth X.K C mn fa) (F : FnOk X.prog X.w X.K X.mg X.base CX0 k fa fd ps (spM X.K cl mf)) (hr : Room k X.A) (hb : Binds X.K fd ps ds) (hd : Vals dvs ds)
    (ht : eval (.Call (.Attribute o mn apos) [] [] pos) X.env = (do
      let ov ← eval o X.env
      standAt apos.atName
      let (f, first) ← holding [ov] (getMethod ov mn pl)
      callWith pos f first (backTo pos (starEach [] X.env)) (backToKw pos (keywordEach [] X.env))) := by rfl) :
    SE X cl W (.Call (.Attribute o mn apos) [] [] pos) (eMeth cn mn mf dm mo aNil) := peW (pe_meth0 ho c hm F hr hb hd pass0 ht) fun σ H Q q => by
      obtain ⟨ρ, h, mp, rl, rs, g⟩ := tMeth_of (ms := aNil) ne hdm hC σ H Q q
      exact ⟨ρ, h, mp, rl, rs, g.mono (fun v h' q V H' mp' f1 rl1 rv => by
        obtain ⟨a, dx, fs, e1, e2, e3, ρ2, h2, mp2, rl2, rs2, g2⟩ := q V H' mp' f1 rl1 rv
        exact ⟨a, dx, fs, e1, e2, e3, g2 [] H' mp2 .refl rl2 .nil⟩) fun _ _ z => z⟩
/-- C(..) -/
@[simp] def eMake (c : Str) (mf : List MV → MH → Res MV) (dm : List MV) (ms : MA) : ME := fun ρ h => (ms ρ h).bind fun xs h1 => (mf (.ref h1.length :: (xs ++ dm)) (h1 ++ [.ins c []])).bind fun v h2 => match v with | .non => .ok (.ref h1.length) h2 | _ => .bad
theorem tMake_of (ne : NoEx1 mf) (hdm : ∀ mp H, RVs X.K mp H dm dvs) (hC : cl cn = some C) : ∀ σ H Q, tM X.K cl W (eMake cn mf dm ms) σ H Q → tMake C (spM X.K cl mf) dvs E0 (tMA X.K cl W ms) σ H Q := fun σ H Q ⟨ρ, h, mp, rl, rs, g⟩ =>
  tMA_bind rl rs g (fun _ _ z => z) fun xs h1 Vs H1 mp1 f1 rl1 rs1 rv1 g1 x dx hx hdx hne => by
    have f2 : Fut X.K mp1 mp1 H1 (upd H1 dx (.own x)) := Fut.new hdx
    have rl2 := rl1.new (o := .own x) hdx
    have hx2 : upd H1 dx (.own x) x = none := by rw [upd_ne (Ne.symm hne)]; exact hx
    have f3 : Fut X.K mp1 mp1 (upd H1 dx (.own x)) (upd (upd H1 dx (.own x)) x (.ins C dx [])) := Fut.new hx2
    have rl3 := rl2.new (o := .ins C dx []) hx2
    have f23 := f2.trans f3
    have f4 := f23.toCell (cl := cl) rl3 hx
    have rl4 : Rl X.K cl (Mp.put mp1 h1.length x) (h1 ++ [.ins cn []]) (upd (upd H1 dx (.own x)) x (.ins C dx [])) := rl3.toCell (fun n e => by
      obtain ⟨u, _, ro⟩ := rl1.cell e
      obtain ⟨z, hz, _⟩ := ro.some
      rw [hx] at hz; cases hz) ⟨C, dx, [], hC, upd_same, rfl, .nil⟩
    refine ⟨_, _, _, rl4, .cons (.ref Mp.put_same) ((rv1.fut f4).append (hdm _ _)), (bind_noEx g1 (ne _ _)).mono (fun v h2 g2 V H2 mp2 f5 rl5 rv5 => ?_) fun _ _ z => z⟩
    cases rv5 with
    | non => exact ⟨rfl, g2 _ H2 mp2 (f1.trans (f4.trans f5)) rl5 (.ref (f5.le _ _ Mp.put_same))⟩
    | _ => exact False.elim g2
theorem se_make (ne : NoEx1 mf) (hdm : ∀ mp H, RVs X.K mp H dm dvs) (hC : cl cn = some C) (M : Mk X.K C fa) (F : FnOk X.prog X.w X.K X.mg X.base CX0 k fa fd ps (spM X.K cl mf)) (hr : Room (k + 1) X.A) (hg : Gl X x) (hm : X.mg x = some (.ref C)) (hb : Binds X.K fd ps ds) (hd : Vals dvs ds) (ha : SA X cl W (e :: es) ms)
    (hdb : (x == ("__debug__" : Str)) = false := by decide) (he : starEach (e :: es) X.env = (false, eval e X.env) :: starEach es X.env := by rfl) (hpl : (backTo pos (starEach es X.env)).any (·.1) = false := by rfl) :
    SE X cl W (.Call (.Name x p) (e :: es) [] pos) (eMake cn mf dm ms) := peW (pe_make M F hr hg hm hb hd pass0 ha hdb he hpl) (tMake_of ne hdm hC)
theorem se_make0 (ne : NoEx1 mf) (hdm : ∀ mp H, RVs X.K mp H dm dvs) (hC : cl cn = some C) (M : Mk X.K C fa) (F : FnOk X.prog X.w X.K X.mg X.base CX0 k fa fd ps (spM X.K cl mf)) (hr : Room (k + 1) X.A) (hg : Gl X x) (hm : X.mg x = some (.ref C)) (hb : Binds X.K fd ps ds) (hd : Vals dvs ds)
    (hdb : (x == ("__debug__" : Str)) = false := by decide) :
    SE X cl W (.Call (.Name x p) [] [] pos) (eMake cn mf dm aNil) := peW (pe_make0 M F hr hg hm hb hd pass0 hdb) fun σ H Q q => by
      obtain ⟨ρ, h, mp, rl, rs, g⟩ := tMake_of (ms := aNil) ne hdm hC σ H Q q
      exact g [] H mp .refl rl .nil
end
end
/-! ### statements -/
inductive SRes where
  | nx (ρ : MS) (h : MH) | rt (v : MV) (h : MH) | bk (ρ : MS) (h : MH) | ct (ρ : MS) (h : MH) | ex (e : MV) (ρ : MS) (h : MH) | bad
abbrev MSt := MS → MH → SRes
structure SW4 where
  n : MS → MH → Prop
  r : MV → MH → Prop
  b : MS → MH → Prop
  c : MS → MH → Prop
  e : MV → MS → MH → Prop
def SGood (r : SRes) (D : SW4) : Prop := match r with | .nx ρ h => D.n ρ h | .rt v h => D.r v h | .bk ρ h => D.b ρ h | .ct ρ h => D.c ρ h | .ex e ρ h => D.e e ρ h | .bad => False
structure SW4.Le (D D' : SW4) : Prop where
  n : ∀ ρ h, D.n ρ h → D'.n ρ h
  r : ∀ ρ h, D.r ρ h → D'.r ρ h
  b : ∀ ρ h, D.b ρ h → D'.b ρ h
  c : ∀ ρ h, D.c ρ h → D'.c ρ h
  e : ∀ v ρ h, D.e v ρ h → D'.e v ρ h
theorem SGood.mono {r : SRes} {D D' : SW4} (g : SGood r D) (l : D.Le D') : SGood r D' := by
  cases r with
  | nx ρ h => exact l.n _ _ g
  | rt ρ h => exact l.r _ _ g
  | bk ρ h => exact l.b _ _ g
  | ct ρ h => exact l.c _ _ g
  | ex v ρ h => exact l.e _ _ _ g
  | bad => exact g
/-- an expression's value, then a statement -/
def Res.st {α : Type} (r : Res α) (ρ : MS) (f : α → MH → SRes) : SRes := match r with | .ok a h => f a h | .ex e h => .ex e ρ h | .bad => .bad
@[simp] theorem Res.st_ok {α : Type} (a : α) (h : MH) (ρ : MS) (f : α → MH → SRes) : (Res.ok a h).st ρ f = f a h := rfl
@[simp] theorem Res.st_bad {α : Type} (ρ : MS) (f : α → MH → SRes) : (Res.bad : Res α).st ρ f = .bad := rfl
theorem SGood.st {α : Type} {r : Res α} {ρ : MS} {f : α → MH → SRes} {D : SW4} : SGood (r.st ρ f) D ↔ Good r (fun a h => SGood (f a h) D) (fun e h => D.e e ρ h) := by
  cases r <;> exact Iff.rfl
section
variable (K : PySem.W.Frag) (cl : Str → Option Addr) (mp : Mp) (H : Hp)
def QN (N : L2.St → Hp → Prop) : MS → MH → Prop := fun ρ' h' => ∀ σ' H' mp', Fut K mp mp' H H' → Rl K cl mp' h' H' → RS K mp' H' ρ' σ' → N σ' H'
def QX (W : Wsh) : MV → MS → MH → Prop := fun e ρ' h' => ∀ c d σ' H' mp', Fut K mp mp' H H' → Rl K cl mp' h' H' → RS K mp' H' ρ' σ' → RX K cl mp' H' e c d → W c d σ' H'
def wD (W : Wsh) (D : Ends) : SW4 := ⟨QN K cl mp H D.nx, QV K cl mp H D.rt, QN K cl mp H D.bk, QN K cl mp H D.ct, QX K cl mp H W⟩
end
def tMS (K : PySem.W.Frag) (cl : Str → Option Addr) (W : Wsh) (m : MSt) : TS := fun D σ H => ∃ ρ h mp, Rl K cl mp h H ∧ RS K mp H ρ σ ∧ SGood (m ρ h) (wD K cl mp H W D)
abbrev SS (X : Cx) (cl : Str → Option Addr) (W : Wsh) (st : Stmt) (m : MSt) : Prop := PS X st (tMS X.K cl W m)
abbrev SSs (X : Cx) (cl : Str → Option Addr) (W : Wsh) (st : List Stmt) (m : MSt) : Prop := PSs X st (tMS X.K cl W m)
theorem psW {X : Cx} {e : Stmt} {t t' : TS} (h : PS X e t) (w : ∀ D σ H, t' D σ H → t D σ H) : PS X e t' := ⟨fun pins s σ H D I q => h.run pins s σ H D I (w D σ H q)⟩
theorem pssW {X : Cx} {e : List Stmt} {t t' : TS} (h : PSs X e t) (w : ∀ D σ H, t' D σ H → t D σ H) : PSs X e t' := ⟨fun pins s σ H D I q => h.run pins s σ H D I (w D σ H q)⟩
section
variable {K : PySem.W.Frag} {cl : Str → Option Addr} {W : Wsh} {mp mp1 : Mp} {H H1 : Hp} {h : MH} {ρ : MS} {σ : L2.St}
theorem QN.fut {N : L2.St → Hp → Prop} (f : Fut K mp mp1 H H1) {ρ : MS} {h : MH} (q : QN K cl mp H N ρ h) : QN K cl mp1 H1 N ρ h := fun σ' H' mp' f' => q σ' H' mp' (f.trans f')
theorem QX.fut (f : Fut K mp mp1 H H1) {e : MV} {ρ : MS} {h : MH} (q : QX K cl mp H W e ρ h) : QX K cl mp1 H1 W e ρ h := fun c d σ' H' mp' f' => q c d σ' H' mp' (f.trans f')
theorem wD.fut {D : Ends} (f : Fut K mp mp1 H H1) : (wD K cl mp H W D).Le (wD K cl mp1 H1 W D) := ⟨fun _ _ q => q.fut f, fun _ _ q => q.fut f, fun _ _ q => q.fut f, fun _ _ q => q.fut f, fun _ _ _ q => q.fut f⟩
theorem QX.ew (rs : RS K mp H ρ σ) {e : MV} {h : MH} (q : QX K cl mp H W e ρ h) : EW K cl mp H W σ e h := fun c d H' mp' f rl x => q c d σ H' mp' f rl (rs.fut f) x
/-- an expression first -/
theorem tM_st {m : ME} {f : MV → MH → SRes} {D : SW4} {R : VK} (rl : Rl K cl mp h H) (rs : RS K mp H ρ σ) (g : SGood ((m ρ h).st ρ f) D) (hE : ∀ e h', D.e e ρ h' → EW K cl mp H W σ e h')
    (k : ∀ x h1 V H1 mp1, Fut K mp mp1 H H1 → Rl K cl mp1 h1 H1 → RS K mp1 H1 ρ σ → RV K mp1 H1 x V → SGood (f x h1) D → R V H1) : tM K cl W m σ H R :=
  ⟨ρ, h, mp, rl, rs, (SGood.st.mp g).mono (fun x h1 g1 V H1 mp1 f1 rl1 rv => k x h1 V H1 mp1 f1 rl1 (rs.fut f1) rv g1) hE⟩
theorem tMT_st {m : MS → MH → Res Bool} {f : Bool → MH → SRes} {D : SW4} {R : Bool → Hp → Prop} (rl : Rl K cl mp h H) (rs : RS K mp H ρ σ) (g : SGood ((m ρ h).st ρ f) D) (hE : ∀ e h', D.e e ρ h' → EW K cl mp H W σ e h')
    (k : ∀ x h1 H1 mp1, Fut K mp mp1 H H1 → Rl K cl mp1 h1 H1 → RS K mp1 H1 ρ σ → SGood (f x h1) D → R x H1) : tMT K cl W m σ H R :=
  ⟨ρ, h, mp, rl, rs, (SGood.st.mp g).mono (fun x h1 g1 H1 mp1 f1 rl1 => k x h1 H1 mp1 f1 rl1 (rs.fut f1) g1) hE⟩
end
@[simp] def sNil : MSt := fun ρ h => .nx ρ h
/-- one, then the rest -/
@[simp] def sSeq (m1 m2 : MSt) : MSt := fun ρ h => match m1 ρ h with | .nx ρ1 h1 => m2 ρ1 h1 | .rt v h1 => .rt v h1 | .bk ρ1 h1 => .bk ρ1 h1 | .ct ρ1 h1 => .ct ρ1 h1 | .ex e ρ1 h1 => .ex e ρ1 h1 | .bad => .bad
@[simp] def sRet (m : ME) : MSt := fun ρ h => (m ρ h).st ρ fun x h1 => .rt x h1
@[simp] def sRetN : MSt := fun ρ h => .rt .non h
@[simp] def sExpr (m : ME) : MSt := fun ρ h => (m ρ h).st ρ fun _ h1 => .nx ρ h1
@[simp] def sIf (mc : MS → MH → Res Bool) (m1 m2 : MSt) : MSt := fun ρ h => (mc ρ h).st ρ fun c h1 => if c = true then m1 ρ h1 else m2 ρ h1
@[simp] def sSet (i : Nat) (m : ME) : MSt := fun ρ h => (m ρ h).st ρ fun x h1 => .nx (ρ.set i (some x)) h1
@[simp] def sBreak : MSt := fun ρ h => .bk ρ h
@[simp] def sCont : MSt := fun ρ h => .ct ρ h
@[simp] def sNever : MSt := fun _ _ => .bad
section
variable {X : Cx} {cl : Str → Option Addr} {W : Wsh} {a b c e o : Expr} {es : List Expr} {ma mb mc m mo : ME} {ms la lb : MA} {pos apos cpos p2 pos' : Pos} {f : Str} {st : Stmt} {rest : List Stmt} {m1 m2 : MSt} {mt : MS → MH → Res Bool}
theorem sss_nil : SSs X cl W [] sNil := pssW pss_nil fun D σ H ⟨ρ, h, mp, rl, rs, g⟩ => g σ H mp .refl rl rs
theorem sss_one (h1 : SS X cl W st m1) : SSs X cl W [st] m1 := pss_one h1
theorem sss_cons (h1 : SS X cl W st m1) (h2 : SSs X cl W rest m2) : SSs X cl W (st :: rest) (sSeq m1 m2) := pssW (pss_cons h1 h2) fun D σ H ⟨ρ, h, mp, rl, rs, g⟩ => by
  refine ⟨ρ, h, mp, rl, rs, ?_⟩
  unfold sSeq at g
  cases e : m1 ρ h with
  | nx ρ1 h1 =>
    rw [e] at g
    exact fun σ' H' mp' f rl' rs' => ⟨ρ1, h1, mp', rl', rs', SGood.mono g (wD.fut f)⟩
  | rt v h1 => rw [e] at g; exact g
  | bk v h1 => rw [e] at g; exact g
  | ct v h1 => rw [e] at g; exact g
  | ex v r h1 => rw [e] at g; exact g
  | bad => rw [e] at g; exact g
theorem ss_ret (he : SE X cl W e m) : SS X cl W (.Return (some e) pos) (sRet m) := psW (ps_ret he) fun D σ H ⟨ρ, h, mp, rl, rs, g⟩ =>
  tM_st rl rs g (fun _ _ q => q.ew rs) fun x h1 V H1 mp1 f1 rl1 rs1 rv1 g1 => g1 V H1 mp1 f1 rl1 rv1
theorem ss_retN : SS X cl W (.Return none pos) sRetN := psW ps_retN fun D σ H ⟨ρ, h, mp, rl, rs, g⟩ => g _ H mp .refl rl .non
theorem ss_expr (he : SE X cl W e m) (hs : swapsWith e none pos.line X.env = pure false := by rfl) : SS X cl W (.Expr e pos) (sExpr m) := psW (ps_expr he hs) fun D σ H ⟨ρ, h, mp, rl, rs, g⟩ =>
  tM_st rl rs g (fun _ _ q => q.ew rs) fun x h1 V H1 mp1 f1 rl1 rs1 rv1 g1 => g1 σ H1 mp1 f1 rl1 rs1
theorem ss_if {c : Expr} {a b : List Stmt} (hc : ST X cl W c mt) (ha : SSs X cl W a m1) (hb : SSs X cl W b m2) : SS X cl W (.If c a b pos) (sIf mt m1 m2) := psW (ps_if hc ha hb) fun D σ H ⟨ρ, h, mp, rl, rs, g⟩ =>
  tMT_st rl rs g (fun _ _ q => q.ew rs) fun c h1 H1 mp1 f1 rl1 rs1 g1 => by
    cases c with
    | true => exact ⟨ρ, h1, mp1, rl1, rs1, SGood.mono g1 (wD.fut f1)⟩
    | false => exact ⟨ρ, h1, mp1, rl1, rs1, SGood.mono g1 (wD.fut f1)⟩
theorem ss_set {i : Nat} {x : Str} (hN : X.N.Nodup) (hi : X.N[i]? = some x) (hx : Loc X.env.scope x) (he : SE X cl W e m) (hs : swapsWith e (some (.Name x pos')) pos.line X.env = pure false := by rfl) (hf : X.fn x = true ∨ X.env.scope.names.lookup x = some .local := by first | exact .inl rfl | exact .inr rfl | assumption) :
    SS X cl W (.Assign [.Name x pos'] e pos) (sSet i m) := psW (ps_set hN hi hx he hs hf) fun D σ H ⟨ρ, h, mp, rl, rs, g⟩ =>
  tM_st rl rs g (fun _ _ q => q.ew rs) fun x h1 V H1 mp1 f1 rl1 rs1 rv1 g1 => g1 (σ.set i (some V)) H1 mp1 f1 rl1 (rs1.set rv1)
theorem ss_pass : SS X cl W (.Pass pos) sNil := psW ps_pass fun D σ H ⟨ρ, h, mp, rl, rs, g⟩ => g σ H mp .refl rl rs
theorem ss_break : SS X cl W (.Break pos) sBreak := psW ps_break fun D σ H ⟨ρ, h, mp, rl, rs, g⟩ => g σ H mp .refl rl rs
theorem ss_continue : SS X cl W (.Continue pos) sCont := psW ps_continue fun D σ H ⟨ρ, h, mp, rl, rs, g⟩ => g σ H mp .refl rl rs
theorem ss_never : SS X cl W st sNever := psW ps_never fun D σ H ⟨ρ, h, mp, rl, rs, g⟩ => g
theorem sss_never : SSs X cl W rest sNever := pssW pss_never fun D σ H ⟨ρ, h, mp, rl, rs, g⟩ => g
/-- o.f = e -/
def mSetF (cs : List Str) (f : Str) (x y : MV) (h : MH) : Option MH := match x with
  | .ref n => match h[n]? with | some (.ins c fs) => if c ∈ cs ∧ fs.length < 1000 then some (h.set n (.ins c (putM f y fs))) else none | _ => none
  | _ => none
@[simp] def sSetF (cs : List Str) (f : Str) (mo m : ME) : MSt := fun ρ h => (m ρ h).st ρ fun y h1 => (mo ρ h1).st ρ fun x h2 => match mSetF cs f x y h2 with | some h3 => .nx ρ h3 | none => .bad
theorem ss_fld {cs : List Str} (hC : FldOk X.K cl cs f) (ho : SE X cl W o mo) (he : SE X cl W e m) (hs : swapsWith e (some (.Attribute o f pos')) pos.line X.env = pure false := by rfl) : SS X cl W (.Assign [.Attribute o f pos'] e pos) (sSetF cs f mo m) :=
  psW (ps_fld ho he hs) fun D σ H ⟨ρ, h, mp, rl, rs, g⟩ => tM_st rl rs g (fun _ _ q => q.ew rs) fun y h1 Y H1 mp1 f1 rl1 rs1 rv1 g1 =>
    tM_st rl1 rs1 g1 (fun _ _ q => (q.fut f1).ew rs1) fun x h2 V H2 mp2 f2 rl2 rs2 rv2 g2 => by
      split at g2
      · rename_i h3 e3
        unfold mSetF at e3
        cases rv2 with
        | @ref n a e1 =>
          dsimp only at e3
          split at e3
          · rename_i c fs cc
            split at e3
            · rename_i hc
              have := Option.some.inj e3
              subst this
              obtain ⟨C, dx, vs, h0, h1', q1⟩ := rl2.obj n _ a cc e1
              obtain ⟨k1, k2⟩ := hC c hc.1 C h0
              refine ⟨a, C, dx, vs, rfl, h1', k1, k2, ?_, ?_⟩
              · have : fs.length = vs.length := by simpa using congrArg List.length q1.1
                rw [← this]; exact hc.2
              · have f3 := Fut.set (o := .ins C dx (putF f Y vs)) rl2 e1
                exact g2 σ _ mp2 (f1.trans (f2.trans f3)) (rl2.set e1 ⟨C, dx, _, h0, upd_same, (put_ok (rv1.fut f2) q1).fut f3⟩) (rs2.fut f3)
            · cases e3
          · cases e3
        | _ => cases e3
      · exact False.elim g2
/-- x[i] = e : a list's item, a dict's -/
def putKM (kvs : List (Key × MV)) (k : Key) (v : MV) : List (Key × MV) := match kvs with
  | [] => [(k, v)]
  | (k', w) :: r => if k' = k then (k', v) :: r else (k', w) :: putKM r k v
def mSetI (x i y : MV) (h : MH) : Option MH := match x with
  | .ref n => match h[n]? with
    | some (.lst xs) => (match i with | .int k => (ixN xs.length k).map fun j => h.set n (.lst (xs.set j y)) | _ => none)
    | _ => none
  | _ => none
@[simp] def sSetI (mo mi m : ME) : MSt := fun ρ h => (m ρ h).st ρ fun y h1 => (mo ρ h1).st ρ fun x h2 => (mi ρ h2).st ρ fun i h3 => match mSetI x i y h3 with | some h4 => .nx ρ h4 | none => .bad
theorem ss_setI {i : Expr} {mi : ME} (ho : SE X cl W o mo) (hi : SE X cl W i mi) (he : SE X cl W e m) (hs : swapsWithSole [.Subscript o i pos'] e pos.line X.env = pure false := by rfl) (hw : swappedStores [.Subscript o i pos'] e X.env = pure none := by rfl)
    (h1 : (assignEach [.Subscript o i pos'] X.env).map (·.2) = [assign (.Subscript o i pos') X.env] := by rfl) (ha : ∀ v, assign (.Subscript o i pos') X.env v = (do
      let ov ← holding [v] (eval o X.env)
      let iv ← holding [v, ov] (eval i X.env)
      standAt pos'
      holding [v, ov, iv] (setItem ov iv v)
      release [v, ov, iv] []) := by intro _; rfl) : SS X cl W (.Assign [.Subscript o i pos'] e pos) (sSetI mo mi m) :=
  psW (ps_asg he (pg_sub ho hi set_list ha) hs hw h1) fun D σ H ⟨ρ, h, mp, rl, rs, g⟩ => tM_st rl rs g (fun _ _ q => q.ew rs) fun y h1 Y H1 mp1 f1 rl1 rs1 rv1 g1 =>
    tM_st rl1 rs1 g1 (fun _ _ q => (q.fut f1).ew rs1) fun x h2 V H2 mp2 f2 rl2 rs2 rv2 g2 => tM_st rl2 rs2 g2 (fun _ _ q => (q.fut (f1.trans f2)).ew rs2) fun i h3 Z H3 mp3 f3 rl3 rs3 rv3 g3 => by
      split at g3
      · rename_i h4 e4
        unfold mSetI at e4
        cases rv2.fut f3 with
        | @ref n a e1 =>
          dsimp only at e4
          split at e4
          · rename_i xs cc
            cases rv3 with
            | int k =>
              simp only [Option.map_eq_some_iff] at e4
              obtain ⟨j, e5, e6⟩ := e4
              subst e6
              obtain ⟨vs, h1', q1⟩ := rl3.obj n _ a cc e1
              refine ⟨a, vs, k, j, rfl, rfl, h1', by rw [← q1.length]; exact e5, ?_⟩
              have f4 := Fut.set (o := .lst (vs.set j Y)) rl3 e1
              exact g3 σ _ mp3 (f1.trans (f2.trans (f3.trans f4))) (rl3.set e1 ⟨_, upd_same, (q1.set (rv1.fut (f2.trans f3)) j).fut f4⟩) (rs3.fut f4)
            | _ => cases e4
          · cases e4
        | _ => cases e4
      · exact False.elim g3
/-- name += e -/
@[simp] def sAug (i : Nat) (mo : MV → MV → MH → Res MV) (m : ME) : MSt := fun ρ h => match ρ[i]? with
  | some (some x) => (m ρ h).st ρ fun y h1 => (mo x y h1).st ρ fun z h2 => .nx (ρ.set i (some z)) h2
  | _ => .bad
def mIadd (x y : MV) (h : MH) : Res MV := match x, y with
  | .int i, .int j => .ok (.int (i + j)) h
  | .str a, .str b => if szOk (a.length + b.length) then .ok (.str (a ++ b)) h else .bad
  | _, _ => .bad
theorem mIadd_noEx : NoEx2 mIadd := by
  intro x y h e h' z
  unfold mIadd at z
  repeat' split at z
  all_goals cases z
theorem iaddM : PIp X .Add (rM X.K cl mIadd) := by
  intro pins s σ H V Y v u Q I rx ry ⟨x, y, h, mp, rl, r1, r2, g⟩
  cases r1 with
  | int i =>
    cases r2 with
    | int j => exact iop_add pins s σ H _ _ v u Q I rx ry ⟨i, j, rfl, rfl, g _ H mp .refl rl (.int _)⟩
    | _ => exact False.elim g
  | str a =>
    cases r2 with
    | str b =>
      unfold mIadd at g
      dsimp only at g
      split at g
      · rename_i hz
        exact iop_add_str pins s σ H _ _ v u Q I rx ry ⟨a, b, rfl, rfl, hz.le, g _ H mp .refl rl (.str _)⟩
      · exact False.elim g
    | _ => exact False.elim g
  | _ => exact False.elim g
theorem ss_aug {i : Nat} {x : Str} {op : Operator} {mo : MV → MV → MH → Res MV} (ne : NoEx2 mo) (hN : X.N.Nodup) (hi : X.N[i]? = some x) (hx : Loc X.env.scope x) (he : SE X cl W e m) (ho : PIp X op (rM X.K cl mo)) (hf : X.fn x = true ∨ X.env.scope.names.lookup x = some .local := by first | exact .inl rfl | exact .inr rfl | assumption) :
    SS X cl W (.AugAssign (.Name x pos') op e pos) (sAug i mo m) := psW (ps_aug hN hi hx he ho hf) fun D σ H ⟨ρ, h, mp, rl, rs, g⟩ => by
  unfold sAug at g
  split at g
  · rename_i x ex
    obtain ⟨V, e1, rv⟩ := rs.at_ i x ex
    refine ⟨V, e1, tM_st rl rs g (fun _ _ q => q.ew rs) fun y h1 Y H1 mp1 f1 rl1 rs1 rv1 g1 => ⟨x, y, h1, mp1, rl1, rv.fut f1, rv1, (toNever (SGood.st.mp g1) (ne _ _ _)).mono (fun z h2 g2 Z H2 mp2 f2 rl2 rv2 => ?_) fun _ _ z => z⟩⟩
    exact g2 (σ.set i (some Z)) H2 mp2 (f1.trans f2) rl2 ((rs1.fut f2).set rv2)
  · exact False.elim g
end
end Sm

set_option Elab.async false
set_option linter.all false
set_option maxRecDepth 100000
set_option maxHeartbeats 4000000
/-! targets, what a loop walks, loops, comprehensions, defs -/
namespace Sm
open PySem PySem.Spec PyProof.Rows L2
/-! ### targets -/
inductive Tg where
  | one (i : Nat) | many (is : List Nat)
def setMany {α : Type} (ρ : List (Option α)) : List Nat → List α → List (Option α)
  | i :: is, x :: xs => setMany (ρ.set i (some x)) is xs
  | _, _ => ρ
def Tg.set (t : Tg) (x : MV) (ρ : MS) : Option MS := match t with
  | .one i => some (ρ.set i (some x))
  | .many is => match x with | .tup xs => if xs.length = is.length then some (setMany ρ is xs) else none | _ => none
def Tg.slots : Tg → List Nat | .one i => [i] | .many is => is
def gNames : List Nat → TGs
  | [] => gNil
  | i :: is => gCons (gName i) (gNames is)
def Tg.g (K : PySem.W.Frag) : Tg → TG
  | .one i => gName i
  | .many is => gTup K is.length (gNames is)
theorem gNames_of : ∀ {is : List Nat} {vs : List L2.V} {σ : L2.St} {H : Hp} {Q : L2.St → Hp → Prop}, vs.length = is.length → Q (setMany σ is vs) H → gNames is vs σ H Q
  | [], vs, σ, H, Q, hl, q => by
    have : vs = [] := List.length_eq_zero_iff.mp hl
    subst this
    exact ⟨rfl, q⟩
  | i :: is, [], σ, H, Q, hl, q => by simp at hl
  | i :: is, v :: vs, σ, H, Q, hl, q => ⟨v, vs, rfl, gNames_of (by simpa using hl) q⟩
theorem wipe_get (σ : L2.St) : ∀ (vs : List Nat) (k : Nat), (wipe σ vs)[k]? = if k ∈ vs then (if k < σ.length then some none else none) else σ[k]?
  | [], k => by simp [wipe]
  | v :: vs, k => by
    unfold wipe
    by_cases hk : v = k
    · subst hk
      by_cases hl : v < σ.length
      · rw [List.getElem?_set_self (by rw [wipe_length]; exact hl)]; simp [hl]
      · rw [List.getElem?_eq_none (by rw [List.length_set, wipe_length]; omega)]; simp [hl]
    · rw [List.getElem?_set_ne hk, wipe_get σ vs k]
      have : (k ∈ v :: vs) ↔ k ∈ vs := by simp [Ne.symm hk]
      simp only [this]
theorem wipe_set {σ : L2.St} {i : Nat} {x : Option L2.V} {vs : List Nat} (h : i ∈ vs) : wipe (σ.set i x) vs = wipe σ vs := by
  apply List.ext_getElem?
  intro k
  rw [wipe_get, wipe_get, List.length_set]
  by_cases hk : k ∈ vs
  · simp [hk]
  · have : i ≠ k := fun z => hk (z ▸ h)
    simp [hk, List.getElem?_set_ne this]
theorem wipe_many {vs : List Nat} : ∀ {is : List Nat} {xs : List L2.V} {σ : L2.St}, (∀ i, i ∈ is → i ∈ vs) → wipe (setMany σ is xs) vs = wipe σ vs
  | [], xs, σ, _ => by unfold setMany; rfl
  | i :: is, [], σ, _ => by unfold setMany; rfl
  | i :: is, x :: xs, σ, h => by
    unfold setMany
    rw [wipe_many fun j hj => h j (by simp [hj]), wipe_set (h i (by simp))]
theorem wipe_wipe (σ : L2.St) (vs : List Nat) : wipe (wipe σ vs) vs = wipe σ vs := by
  apply List.ext_getElem?
  intro k
  rw [wipe_get (wipe σ vs), wipe_get σ, wipe_length]
  by_cases hk : k ∈ vs <;> simp [hk]
theorem rs_many {K : PySem.W.Frag} {mp : Mp} {H : Hp} : ∀ {is : List Nat} {xs : List MV} {vs : List L2.V} {ρ : MS} {σ : L2.St}, RS K mp H ρ σ → RVs K mp H xs vs → RS K mp H (setMany ρ is xs) (setMany σ is vs)
  | [], _, _, ρ, σ, r, _ => by unfold setMany; exact r
  | i :: is, _, _, ρ, σ, r, .nil => by unfold setMany; exact r
  | i :: is, _, _, ρ, σ, r, .cons q t => by unfold setMany; exact rs_many (r.set q) t
theorem tg_ok {K : PySem.W.Frag} {mp : Mp} {H : Hp} {t : Tg} {x : MV} {V : L2.V} {ρ ρ' : MS} {σ : L2.St} (e : t.set x ρ = some ρ') (rv : RV K mp H x V) (rs : RS K mp H ρ σ) :
    ∃ σ', RS K mp H ρ' σ' ∧ (∀ Q : L2.St → Hp → Prop, Q σ' H → t.g K V σ H Q) ∧ ∀ vs, (∀ i, i ∈ t.slots → i ∈ vs) → wipe σ' vs = wipe σ vs := by
  cases t with
  | one i =>
    have := Option.some.inj e
    subst this
    exact ⟨σ.set i (some V), rs.set rv, fun Q q => q, fun vs h => wipe_set (h i (by simp [Tg.slots]))⟩
  | many is =>
    unfold Tg.set at e
    cases rv with
    | @tup xs vs a h1 q1 =>
      dsimp only at e
      split at e
      · rename_i hl
        have := Option.some.inj e
        subst this
        exact ⟨setMany σ is vs, rs_many rs q1, fun Q q => ⟨a, vs, rfl, h1, by rw [← q1.length]; exact hl, gNames_of (by rw [← q1.length]; exact hl) q⟩, fun ws h => wipe_many h⟩
      · cases e
    | _ => cases e
/-! ### what is no cell may be written -/
structure Fu (K : PySem.W.Frag) (mp mp' : Mp) (H H' : Hp) : Prop where
  le : ∀ n a, mp n = some a → mp' n = some a
  tt : ∀ a xs, TpA K H a xs → TpA K H' a xs
  sf : ∀ a xs, SqF K H a xs → SqF K H' a xs
theorem Fut.fu {K : PySem.W.Frag} {mp mp' : Mp} {H H' : Hp} (f : Fut K mp mp' H H') : Fu K mp mp' H H' := ⟨f.le, f.tt, f.sf⟩
section
variable {K : PySem.W.Frag} {cl : Str → Option Addr} {mp mp' : Mp} {H H' : Hp} {h : MH}
mutual
theorem RV.fu (f : Fu K mp mp' H H') : ∀ {x : MV} {v : L2.V}, RV K mp H x v → RV K mp' H' x v
  | _, _, .non => .non
  | _, _, .bl b => .bl b
  | _, _, .int i => .int i
  | _, _, .str x => .str x
  | _, _, .ref h => .ref (f.le _ _ h)
  | _, _, .tup h r => .tup (f.tt _ _ h) (RVs.fu f r)
  | _, _, .scr h r => .scr (f.sf _ _ h) (RVs.fu f r)
theorem RVs.fu (f : Fu K mp mp' H H') : ∀ {xs : List MV} {vs : List L2.V}, RVs K mp H xs vs → RVs K mp' H' xs vs
  | _, _, .nil => .nil
  | _, _, .cons r t => .cons (RV.fu f r) (RVs.fu f t)
end
theorem RO.fu {o : MO} {a : Addr} (f : Fu K mp mp' H H') (e : H' a = H a) (r : RO K cl mp H o a) : RO K cl mp' H' o a := by
  cases o with
  | lst xs => obtain ⟨vs, h1, h2⟩ := r; exact ⟨vs, e.trans h1, h2.fu f⟩
  | ins c fs => obtain ⟨C, dx, vs, h0, h1, h2⟩ := r; exact ⟨C, dx, vs, h0, e.trans h1, h2.1, h2.2.fu f⟩
  | dct kvs => obtain ⟨vs, h1, h2⟩ := r; exact ⟨vs, e.trans h1, h2.1, h2.2.fu f⟩
theorem Fu.tmp {D : Addr} {vs ws : List L2.V} (hD : H D = some (.lst vs)) : Fu K mp mp H (upd H D (.lst ws)) :=
  ⟨fun _ _ h => h, TpA.set (fun xs q => by
    rcases q with q | ⟨o, q⟩ <;> rw [hD] at q <;> cases q), fun a xs t => by
    rcases t with ⟨u, t⟩ | t
    · refine .inl ⟨u, ?_⟩
      rw [upd_ne]
      · exact t
      · intro z; subst z; rw [hD] at t; cases t
    · exact .inr t⟩
theorem Rl.tmp {D : Addr} {vs ws : List L2.V} (rl : Rl K cl mp h H) (hD : H D = some (.lst vs)) (np : ∀ n, mp n ≠ some D) : Rl K cl mp h (upd H D (.lst ws)) :=
  ⟨rl.dom, rl.has, rl.inj, fun n o a e q => (rl.obj n o a e q).fu (Fu.tmp hD) (upd_ne fun z => np n (by rw [← z]; exact q))⟩
theorem Fut.tmp {mp0 : Mp} {H0 : Hp} {D : Addr} {vs ws : List L2.V} (f : Fut K mp0 mp H0 H) (h0 : H0 D = none) (hD : H D = some (.lst vs)) : Fut K mp0 mp H0 (upd H D (.lst ws)) :=
  ⟨f.le, fun a xs t => (Fu.tmp (mp := mp) hD).tt a xs (f.tt a xs t), fun a xs t => (Fu.tmp (mp := mp) hD).sf a xs (f.sf a xs t), fun a o e n => by
    obtain ⟨h1, h2⟩ := f.fr a o e n
    exact ⟨by rw [upd_ne (ne_of_none e h0)]; exact h1, h2⟩⟩
/-- what is new now was new before -/
theorem Fut.back {mp0 : Mp} {H0 : Hp} {p : Addr} (f : Fut K mp0 mp H0 H) (rl : Rl K cl mp h H) (hp : H p = none) : H0 p = none := by
  cases e : H0 p with
  | none => rfl
  | some o =>
    by_cases hn : ∃ n, mp0 n = some p
    · obtain ⟨n, hn⟩ := hn
      obtain ⟨u, _, ro⟩ := rl.cell (f.le n p hn)
      obtain ⟨z, hz, _⟩ := ro.some
      rw [hp] at hz; cases hz
    · have := (f.fr p o e fun n hz => hn ⟨n, hz⟩).1
      rw [hp] at this; cases this
theorem Rl.np {p : Addr} (rl : Rl K cl mp h H) (hp : H p = Option.none) : ∀ n, mp n ≠ some p := fun n hn => by
  obtain ⟨u, _, ro⟩ := rl.cell hn
  obtain ⟨z, hz, _⟩ := ro.some
  rw [hp] at hz; cases hz
end
/-! ### what a loop walks -/
abbrev Gs := List (Nat × List MV)
/-- the walked lists are as they were -/
def gOk (gs : Gs) (h : MH) : Prop := ∀ g, g ∈ gs → h[g.1]? = some (.lst g.2)
@[simp] theorem gOk_nil (h : MH) : gOk [] h = True := eq_true (fun g hg => by cases hg)
structure JOk (K : PySem.W.Frag) (cl : Str → Option Addr) (J : It) (xs : List MV) (gs : Gs) (mp0 : Mp) (H0 : Hp) : Prop where
  step : ∀ (i : Nat) x mp h H, Fut K mp0 mp H0 H → Rl K cl mp h H → gOk gs h → xs[i]? = some x → J.go i H ∧ ∀ V H', J.yld i H V H' → Fut K mp mp H H' ∧ Rl K cl mp h H' ∧ RV K mp H' x V
  stop : ∀ (i : Nat) mp h H, Fut K mp0 mp H0 H → Rl K cl mp h H → gOk gs h → xs.length ≤ i → J.stop i H
abbrev MI := MS → MH → Res (List MV × Gs)
def tMI (K : PySem.W.Frag) (cl : Str → Option Addr) (W : Wsh) (m : MI) : TI := fun σ H R => ∃ ρ h mp, Rl K cl mp h H ∧ RS K mp H ρ σ ∧ Good (m ρ h) (fun xg h' => ∀ J H' mp', Fut K mp mp' H H' → Rl K cl mp' h' H' → JOk K cl J xg.1 xg.2 mp' H' → R J H') (EW K cl mp H W σ)
abbrev SI (X : Cx) (cl : Str → Option Addr) (W : Wsh) (tg iter : Expr) (m : MI) : Prop := PI X tg iter (tMI X.K cl W m)
theorem piW {X : Cx} {tg e : Expr} {t t' : TI} (h : PI X tg e t) (w : ∀ σ H R, t' σ H R → t σ H R) : PI X tg e t' := ⟨fun pins s σ H R I q => h.run pins s σ H R I (w σ H R q)⟩
def iAny (K : PySem.W.Frag) (tl : TE) : TI := fun σ H R => tl σ H fun x H1 => (∃ a, x = .ref a ∧ (((∃ xs, SqL K H1 a xs) ∧ R (Itl K a) H1) ∨ ((∃ xs, SqT K H1 a xs) ∧ R (Itt K a) H1))) ∨ ∃ z, x = .str z ∧ R (Its z) H1
theorem pi_any {X : Cx} {tg ex : Expr} {te : TE} (pe : PE X ex te) : PI X tg ex (iAny X.K te) where
  run := by
    intro pn st sg Hh Rr inv hw
    apply thn (pe.run pn st sg Hh _ inv hw)
    rintro val st1 ⟨vv, Hn, inv1, rel, alt⟩
    have fresh1 : ∀ b, b ∈ [st1.heap.objs.size] → FpOk X pn Hn b := by
      intro b hb
      rw [List.mem_singleton] at hb
      rw [hb]
      exact inv1.fpOk (Nat.le_refl _) (inv1.hok.fresh (Nat.le_refl _))
    have keep1 : ∀ ob : Obj, Inv X pn sg Hn { st1 with heap := st1.heap.push ob } := fun ob =>
      inv1.kept (t' := st1.toks) (fun _ _ e => Heap.get?_push_of_some _ e)
    rcases alt with ⟨adr, eadr, ⟨⟨ys, hys⟩, go⟩ | ⟨⟨ys, hys⟩, go⟩⟩ | ⟨z, ez, go⟩
    · subst eadr
      cases rel
      obtain ⟨vals, _, pl, _⟩ := inv1.list hys
      apply wpAny_pyIter_list pl.isList
      exact ⟨_, _, _, _, Hn, rfl, keep1 _, turn_list adr _, ⟨_, Heap.get?_push_size _ rfl, rfl, rfl⟩, fresh1, go⟩
    · subst eadr
      cases rel
      obtain ⟨vals, _, pl, _⟩ := inv1.tuple hys
      apply wpAny_pyIter_tuple (show st1.heap.IsTuple adr vals.toArray from pl)
      exact ⟨_, _, _, _, Hn, rfl, keep1 _, turn_tuple adr _, ⟨_, Heap.get?_push_size _ rfl, rfl, rfl⟩, fresh1, go⟩
    · subst ez
      obtain ⟨t, rfl⟩ := rel
      cases ha : z.cps.all (· < 128)
      · exact wpAny_pyIter_wide ha (pi_one (tk := st1.toks) inv1 _ (turn_str _ z t "str_iterator" (.inr rfl)) ⟨_, Heap.get?_push_size _ rfl, rfl, rfl⟩ go)
      · exact wpAny_pyIter_ascii ha (pi_one (tk := st1.toks) inv1 _ (turn_str _ z t "str_ascii_iterator" (.inl rfl)) ⟨_, Heap.get?_push_size _ rfl, rfl, rfl⟩ go)
section
variable {X : Cx} {cl : Str → Option Addr} {W : Wsh} {tg a b c e o : Expr} {es : List Expr} {ma mb mc m mo : ME} {ms la lb : MA} {pos apos cpos p2 pos' p : Pos} {mi : MI}
def signs (z : Str) : List MV := z.cps.toList.map fun c => .str ⟨#[c]⟩
/-- the items of a value that is walked, and what must stay -/
def walkOf (x : MV) (h : MH) : Option (List MV × Gs) := match x with
  | .tup xs => some (xs, [])
  | .scr xs => some (xs, [])
  | .str z => some (signs z, [])
  | .ref n => match h[n]? with | some (.lst xs) => some (xs, [(n, xs)]) | _ => none
  | _ => none
@[simp] def iOf (m : ME) : MI := fun ρ h => (m ρ h).bind fun x h1 => match walkOf x h1 with | some xg => .ok xg h1 | none => .bad
theorem jok_list {K : PySem.W.Frag} {mp0 : Mp} {H0 : Hp} {a : Addr} {xs : List MV} {gs : Gs} (hs : ∀ mp h H, Fut K mp0 mp H0 H → Rl K cl mp h H → gOk gs h → ∃ vs, SqL K H a vs ∧ RVs K mp H xs vs ∧ ∀ ws, SqL K H a ws → ws = vs) : JOk K cl (Itl K a) xs gs mp0 H0 where
  step := fun i x mp h H f rl g e => by
    obtain ⟨vs, h1, h2, h3⟩ := hs mp h H f rl g
    obtain ⟨v, e1, r1⟩ := h2.get e
    refine ⟨⟨vs, v, h1, e1⟩, fun V H' ⟨e2, e3⟩ => ?_⟩
    subst e2
    have := e3 vs h1
    rw [e1] at this
    have := Option.some.inj this
    subst this
    exact ⟨.refl, rl, r1⟩
  stop := fun i mp h H f rl g l => by
    obtain ⟨vs, h1, h2, h3⟩ := hs mp h H f rl g
    exact ⟨vs, h1, by rw [← h2.length]; exact l⟩
theorem jok_tup {K : PySem.W.Frag} {mp0 : Mp} {H0 : Hp} {a : Addr} {xs : List MV} {vs : List L2.V} (h1 : TpA K H0 a vs) (q1 : RVs K mp0 H0 xs vs) : JOk K cl (Itt K a) xs [] mp0 H0 where
  step := fun i x mp h H f rl g e => by
    obtain ⟨v, e1, r1⟩ := (q1.fut f).get e
    refine ⟨⟨vs, v, f.tt _ _ h1, e1⟩, fun V H' ⟨e2, e3⟩ => ?_⟩
    subst e2
    have := e3 vs (f.tt _ _ h1)
    rw [e1] at this
    have := Option.some.inj this
    subst this
    exact ⟨.refl, rl, r1⟩
  stop := fun i mp h H f rl g l => ⟨vs, f.tt _ _ h1, by rw [← q1.length]; exact l⟩
theorem jok_str {K : PySem.W.Frag} {mp0 : Mp} {H0 : Hp} {z : Str} : JOk K cl (Its z) (signs z) [] mp0 H0 where
  step := fun i x mp h H f rl g e => by
    unfold signs at e
    rw [List.getElem?_map, Option.map_eq_some_iff] at e
    obtain ⟨c, e1, rfl⟩ := e
    have l : i < z.cps.size := by
      have := (List.getElem?_eq_some_iff.mp e1).1
      simpa using this
    refine ⟨l, fun V H' ⟨e2, c', e3, e4⟩ => ?_⟩
    subst e2 e4
    have : c = c' := by
      rw [Array.getElem?_toList] at e1
      rw [e1] at e3
      exact Option.some.inj e3
    subst this
    exact ⟨.refl, rl, .str _⟩
  stop := fun i mp h H f rl g l => by
    have : z.cps.size ≤ i := by simpa [signs] using l
    exact this
/-- a list's items are told by the list alone -/
theorem jok_list' {K : PySem.W.Frag} {mp0 : Mp} {H0 : Hp} {a : Addr} {xs : List MV} {gs : Gs} (hs : ∀ mp h H, Fut K mp0 mp H0 H → Rl K cl mp h H → gOk gs h → ∃ vs, SqL K H a vs ∧ RVs K mp H xs vs) : JOk K cl (Itl K a) xs gs mp0 H0 where
  step := fun i x mp h H f rl g e => by
    obtain ⟨vs, h1, h2⟩ := hs mp h H f rl g
    obtain ⟨v, e1, r1⟩ := h2.get e
    refine ⟨⟨vs, v, h1, e1⟩, fun V H' ⟨e2, e3⟩ => ?_⟩
    subst e2
    have := e3 vs h1
    rw [e1] at this
    have := Option.some.inj this
    subst this
    exact ⟨.refl, rl, r1⟩
  stop := fun i mp h H f rl g l => by
    obtain ⟨vs, h1, h2⟩ := hs mp h H f rl g
    exact ⟨vs, h1, by rw [← h2.length]; exact l⟩
theorem cell_list {K : PySem.W.Frag} {mp0 : Mp} {H0 : Hp} {n : Nat} {a : Addr} {xs : List MV} (e1 : mp0 n = some a) : ∀ mp h H, Fut K mp0 mp H0 H → Rl K cl mp h H → gOk [(n, xs)] h → ∃ vs, SqL K H a vs ∧ RVs K mp H xs vs := fun mp h H f rl g => by
  obtain ⟨vs, h1, q1⟩ := rl.obj n _ a (g (n, xs) (by simp)) (f.le _ _ e1)
  exact ⟨vs, SqL.of h1, q1⟩
theorem si_of (he : SE X cl W e m) : SI X cl W tg e (iOf m) := piW (pi_any he) fun σ H R ⟨ρ, h, mp, rl, rs, g⟩ =>
  tM_bind rl rs g (fun _ _ z => z) fun x h1 V H1 mp1 f1 rl1 rs1 rv1 g1 => by
    split at g1
    · rename_i xg ex
      unfold walkOf at ex
      cases rv1 with
      | tup h2 q2 =>
        have := Option.some.inj ex
        subst this
        exact .inl ⟨_, rfl, .inr ⟨⟨_, h2⟩, g1 _ H1 mp1 f1 rl1 (jok_tup h2 q2)⟩⟩
      | scr h2 q2 =>
        have := Option.some.inj ex
        subst this
        exact .inl ⟨_, rfl, .inl ⟨⟨_, h2.sql⟩, g1 _ H1 mp1 f1 rl1 (jok_list' fun mp h H f rl g => ⟨_, (f.sf _ _ h2).sql, q2.fut f⟩)⟩⟩
      | str z =>
        have := Option.some.inj ex
        subst this
        exact .inr ⟨z, rfl, g1 _ H1 mp1 f1 rl1 jok_str⟩
      | @ref n a e1 =>
        dsimp only at ex
        split at ex
        · rename_i xs cc
          have := Option.some.inj ex
          subst this
          obtain ⟨vs, h2, q2⟩ := rl1.obj n _ a cc e1
          exact .inl ⟨_, rfl, .inl ⟨⟨_, SqL.of h2⟩, g1 _ H1 mp1 f1 rl1 (jok_list' (cell_list e1))⟩⟩
        · cases ex
      | _ => cases ex
    · exact False.elim g1
@[simp] def iLst (la : MA) : MI := fun ρ h => (la ρ h).bind fun xs h1 => .ok (xs, []) h1
theorem si_lst (he : SL X cl W e la) : SI X cl W tg e (iLst la) := piW (pi_list he) fun σ H R ⟨ρ, h, mp, rl, rs, g⟩ =>
  tML_bind rl rs g (fun _ _ z => z) fun xs h1 p vs H1 mp1 f1 rl1 rs1 h0 np hp rv g1 =>
    ⟨p, rfl, ⟨vs, SqL.of hp⟩, g1 _ H1 mp1 f1 rl1 (jok_list' fun mp h H f rl g => ⟨vs, SqL.of (f.fr p _ hp np).1, rv.fut f⟩)⟩
def intR (lo : Int) (n : Nat) : List MV := (List.range n).map fun (k : Nat) => MV.int (lo + (k : Int))
theorem jok_range {K : PySem.W.Frag} {mp0 : Mp} {H0 : Hp} {lo : Int} {n : Nat} : JOk K cl (Itr lo n) (intR lo n) [] mp0 H0 where
  step := fun i x mp h H f rl g e => by
    unfold intR at e
    rw [List.getElem?_map, Option.map_eq_some_iff] at e
    obtain ⟨k, e1, rfl⟩ := e
    obtain ⟨l, e2⟩ := List.getElem?_eq_some_iff.mp e1
    simp at l e2
    subst e2
    refine ⟨l, fun V H' ⟨e2, e3⟩ => ?_⟩
    subst e2 e3
    exact ⟨.refl, rl, .int _⟩
  stop := fun i mp h H f rl g l => by
    have : n ≤ i := by simpa [intR] using l
    exact this
@[simp] def iRange1 (ms : MA) : MI := fun ρ h => (ms ρ h).bind fun xs h1 => match xs with
  | [.int j] => if -(2 ^ 62) ≤ j ∧ j < 2 ^ 62 then .ok (intR 0 j.toNat, []) h1 else .bad
  | _ => .bad
@[simp] def iRange2 (ms : MA) : MI := fun ρ h => (ms ρ h).bind fun xs h1 => match xs with
  | [.int i, .int j] => if (-(2 ^ 62) ≤ i ∧ i < 2 ^ 62) ∧ -(2 ^ 62) ≤ j ∧ j < 2 ^ 62 then .ok (intR i (j - i).toNat, []) h1 else .bad
  | _ => .bad
theorem si_range1 (hg : Gl X "range") (hm : X.mg "range" = none) (ha : SA X cl W [a] ms) (hs : starEach [a] X.env = [(false, eval a X.env)] := by rfl) : SI X cl W tg (.Call (.Name "range" p) [a] [] pos) (iRange1 ms) :=
  piW (pi_range1 hg hm ha hs) fun σ H R ⟨ρ, h, mp, rl, rs, g⟩ => tMA_bind rl rs g (fun _ _ z => z) fun xs h1 V H1 mp1 f1 rl1 rs1 rv1 g1 => by
    split at g1
    · rename_i j
      obtain ⟨Y, rfl, ry⟩ := rvs1 rv1
      cases ry
      split at g1
      · rename_i hz
        exact ⟨j, rfl, hz.1, hz.2, g1 _ H1 mp1 f1 rl1 jok_range⟩
      · exact False.elim g1
    · exact False.elim g1
theorem si_range2 (hg : Gl X "range") (hm : X.mg "range" = none) (ha : SA X cl W [a, b] ms) (hs : starEach [a, b] X.env = [(false, eval a X.env), (false, eval b X.env)] := by rfl) (hs2 : starEach [b] X.env = [(false, eval b X.env)] := by rfl) : SI X cl W tg (.Call (.Name "range" p) [a, b] [] pos) (iRange2 ms) :=
  piW (pi_range2 hg hm ha hs hs2) fun σ H R ⟨ρ, h, mp, rl, rs, g⟩ => tMA_bind rl rs g (fun _ _ z => z) fun xs h1 V H1 mp1 f1 rl1 rs1 rv1 g1 => by
    split at g1
    · rename_i i j
      obtain ⟨Z, Y, rfl, rz, ry⟩ := rvs2 rv1
      cases ry
      cases rz
      split at g1
      · rename_i hz
        exact ⟨i, j, rfl, ⟨hz.1.1, hz.1.2, hz.2.1, hz.2.2⟩, g1 _ H1 mp1 f1 rl1 jok_range⟩
      · exact False.elim g1
    · exact False.elim g1
/-- enumerate -/
def enumM (xs : List MV) : List MV := xs.zipIdx.map fun p => .tup [.int (p.2 : Nat), p.1]
theorem enumM_get {xs : List MV} {i : Nat} {y : MV} (e : (enumM xs)[i]? = some y) : ∃ x, xs[i]? = some x ∧ y = .tup [.int (i : Nat), x] := by
  unfold enumM at e
  rw [List.getElem?_map, Option.map_eq_some_iff] at e
  obtain ⟨q, e1, e2⟩ := e
  rw [List.getElem?_zipIdx, Option.map_eq_some_iff] at e1
  obtain ⟨x, e3, e4⟩ := e1
  subst e4
  exact ⟨x, e3, by simpa using e2.symm⟩
theorem jok_enum {K : PySem.W.Frag} {mp0 : Mp} {H0 : Hp} {a : Addr} {xs : List MV} {gs : Gs} (hs : ∀ mp h H, Fut K mp0 mp H0 H → Rl K cl mp h H → gOk gs h → ∃ vs, SqL K H a vs ∧ RVs K mp H xs vs) : JOk K cl (Ite K a) (enumM xs) gs mp0 H0 where
  step := fun i x mp h H f rl g e => by
    obtain ⟨vs, h1, h2⟩ := hs mp h H f rl g
    obtain ⟨y, e0, rfl⟩ := enumM_get e
    obtain ⟨v, e1, r1⟩ := h2.get e0
    refine ⟨⟨vs, v, h1, e1⟩, fun V H' ⟨T, w, e2, hT, e3, e4⟩ => ?_⟩
    subst e2 e3
    have := e4 vs h1
    rw [e1] at this
    have := Option.some.inj this
    subst this
    exact ⟨Fut.new hT, rl.new hT, .tup (SqT.of upd_same) (.cons (.int _) (.cons (r1.fut (Fut.new hT)) .nil))⟩
  stop := fun i mp h H f rl g l => by
    obtain ⟨vs, h1, h2⟩ := hs mp h H f rl g
    exact ⟨vs, h1, by rw [← h2.length]; simpa [enumM] using l⟩
@[simp] def iEnumE (m : ME) : MI := fun ρ h => (m ρ h).bind fun x h1 => match x with
  | .ref n => (match h1[n]? with | some (.lst xs) => .ok (enumM xs, [(n, xs)]) h1 | _ => .bad)
  | _ => .bad
@[simp] def iEnumL (la : MA) : MI := fun ρ h => (la ρ h).bind fun xs h1 => .ok (enumM xs, []) h1
variable {elts : List Expr} {kk : Nat} {tpos : Pos}
theorem si_enumE (hg : Gl X "enumerate") (hm : X.mg "enumerate" = none) (he : SE X cl W e m) (hs : starEach [e] X.env = [(false, eval e X.env)] := by rfl) : SI X cl W (.Tuple elts kk tpos) (.Call (.Name "enumerate" p) [e] [] pos) (iEnumE m) :=
  piW (pi_enum hg hm (pa_cons he pa_nil hs) hs) fun σ H R ⟨ρ, h, mp, rl, rs, g⟩ => tM_bind rl rs g (fun _ _ z => z) fun x h1 V H1 mp1 f1 rl1 rs1 rv1 g1 => by
    cases rv1 with
    | @ref n a e1 =>
      dsimp only at g1
      split at g1
      · rename_i xs cc
        obtain ⟨vs, h2, q2⟩ := rl1.obj n _ a cc e1
        exact ⟨a, vs, rfl, SqL.of h2, g1 _ H1 mp1 f1 rl1 (jok_enum (cell_list e1))⟩
      · exact False.elim g1
    | _ => exact False.elim g1
theorem si_enumL (hg : Gl X "enumerate") (hm : X.mg "enumerate" = none) (he : SL X cl W e la) (hs : starEach [e] X.env = [(false, eval e X.env)] := by rfl) : SI X cl W (.Tuple elts kk tpos) (.Call (.Name "enumerate" p) [e] [] pos) (iEnumL la) :=
  piW (pi_enum hg hm (pa_cons he pa_nil hs) hs) fun σ H R ⟨ρ, h, mp, rl, rs, g⟩ => tML_bind rl rs g (fun _ _ z => z) fun xs h1 p vs H1 mp1 f1 rl1 rs1 h0 np hp rv g1 =>
    ⟨p, vs, rfl, SqL.of hp, g1 _ H1 mp1 f1 rl1 (jok_enum fun mp h H f rl g => ⟨vs, SqL.of (f.fr p _ hp np).1, rv.fut f⟩)⟩
/-- zip of two tuples -/
def zipM (xs ys : List MV) : List MV := (xs.zip ys).map fun p => .tup [p.1, p.2]
theorem zipM_get {xs ys : List MV} {i : Nat} {z : MV} (e : (zipM xs ys)[i]? = some z) : ∃ x y, xs[i]? = some x ∧ ys[i]? = some y ∧ z = .tup [x, y] := by
  unfold zipM at e
  rw [List.getElem?_map, Option.map_eq_some_iff] at e
  obtain ⟨q, e1, e2⟩ := e
  rw [List.getElem?_zip_eq_some] at e1
  exact ⟨q.1, q.2, e1.1, e1.2, e2.symm⟩
theorem jok_zip {K : PySem.W.Frag} {mp0 : Mp} {H0 : Hp} {a b : Addr} {xs ys : List MV} {vs ws : List L2.V} (h1 : TpA K H0 a vs) (q1 : RVs K mp0 H0 xs vs) (h2 : TpA K H0 b ws) (q2 : RVs K mp0 H0 ys ws) : JOk K cl (RZ.ItzT K a b) (zipM xs ys) [] mp0 H0 where
  step := fun i x mp h H f rl g e => by
    obtain ⟨u, w, e1, e2, rfl⟩ := zipM_get e
    obtain ⟨U, e3, r3⟩ := (q1.fut f).get e1
    obtain ⟨Z, e4, r4⟩ := (q2.fut f).get e2
    refine ⟨⟨vs, ws, U, Z, f.tt _ _ h1, f.tt _ _ h2, e3, e4⟩, fun V H' ⟨T, x, y, e5, hT, e6, e7, e8⟩ => ?_⟩
    subst e5 e6
    have z1 := e7 vs (f.tt _ _ h1)
    rw [e3] at z1
    have z2 := e8 ws (f.tt _ _ h2)
    rw [e4] at z2
    have z1 := Option.some.inj z1
    have z2 := Option.some.inj z2
    subst z1 z2
    exact ⟨Fut.new hT, rl.new hT, .tup (SqT.of upd_same) (.cons (r3.fut (Fut.new hT)) (.cons (r4.fut (Fut.new hT)) .nil))⟩
  stop := fun i mp h H f rl g l => ⟨vs, ws, f.tt _ _ h1, f.tt _ _ h2, by
    have : min xs.length ys.length ≤ i := by simpa [zipM] using l
    rw [← q1.length, ← q2.length]
    omega⟩
@[simp] def iZip2 (ms : MA) : MI := fun ρ h => (ms ρ h).bind fun xs h1 => match xs with
  | [.tup xs, .tup ys] => .ok (zipM xs ys, []) h1
  | _ => .bad
theorem si_zip (hg : Gl X "zip") (hm : X.mg "zip" = none) (ha : SA X cl W [a, b] ms) (hs : starEach [a, b] X.env = (false, eval a X.env) :: starEach [b] X.env := by rfl) (hpl : (backTo pos (starEach [b] X.env)).any (·.1) = false := by rfl) : SI X cl W (.Tuple elts kk tpos) (.Call (.Name "zip" p) [a, b] [] pos) (iZip2 ms) :=
  piW (RZ.pi_zipA hg hm ha hs hpl) fun σ H R ⟨ρ, h, mp, rl, rs, g⟩ => tMA_bind rl rs g (fun _ _ z => z) fun xs h1 V H1 mp1 f1 rl1 rs1 rv1 g1 => by
    split at g1
    · obtain ⟨Z, Y, rfl, rz, ry⟩ := rvs2 rv1
      cases rz with
      | tup h1 q1 =>
        cases ry with
        | tup h2 q2 => exact ⟨_, _, _, _, rfl, .inr ⟨h1, h2, g1 _ H1 mp1 f1 rl1 (jok_zip h1 q1 h2 q2)⟩⟩
    · exact False.elim g1
end
/-! ### for -/
open Classical in
noncomputable def forGo (gs : Gs) (t : Tg) (body : MSt) : List MV → MSt
  | [], ρ, h => if gOk gs h then .nx ρ h else .bad
  | x :: xs, ρ, h => if gOk gs h then match t.set x ρ with
    | some ρ1 => match body ρ1 h with
      | .nx ρ2 h2 => forGo gs t body xs ρ2 h2
      | .ct ρ2 h2 => forGo gs t body xs ρ2 h2
      | .bk ρ2 h2 => .nx ρ2 h2
      | .rt v h2 => .rt v h2
      | .ex e ρ2 h2 => .ex e ρ2 h2
      | .bad => .bad
    | none => .bad
    else .bad
@[simp] noncomputable def sFor (mi : MI) (t : Tg) (body : MSt) : MSt := fun ρ h => (mi ρ h).st ρ fun xg h1 => forGo xg.2 t body xg.1 ρ h1
section
variable {X : Cx} {cl : Str → Option Addr} {W : Wsh} {tg iter : Expr} {body : List Stmt} {mi : MI} {t : Tg} {mb : MSt} {pos : Pos}
theorem ss_for (hp : PassesOwn (model X.prog X.w) X.A X.env X.xe) (hc : X.calm = true) (hi : SI X cl W tg iter mi) (hg : PG X tg (t.g X.K)) (hb : SSs X cl W body mb) (hs : ∀ x, foldedSetIterable iter X.env x = pure x := by intro _; rfl) :
    SS X cl W (.For tg iter body [] pos) (sFor mi t mb) := psW (ps_for hp hc hi hg hb hs) fun D σ H ⟨ρ, h, mp, rl, rs, g⟩ => by
  refine ⟨ρ, h, mp, rl, rs, (SGood.st.mp g).mono (fun xg h1 g1 J H1 mp1 f1 rl1 jok => ?_) fun e h' q => QX.ew rs q⟩
  obtain ⟨xs, gs⟩ := xg
  dsimp only at g1 jok
  have g1 := SGood.mono g1 (wD.fut f1)
  have rs1 := rs.fut f1
  refine ⟨fun i m σ' H' => m = xs.length - i ∧ i ≤ xs.length ∧ ∃ ρ' h' mp', Fut X.K mp1 mp' H1 H' ∧ Rl X.K cl mp' h' H' ∧ RS X.K mp' H' ρ' σ' ∧ SGood (forGo gs t mb (xs.drop i) ρ' h') (wD X.K cl mp1 H1 W D),
    ⟨_, rfl, Nat.zero_le _, ρ, h1, mp1, .refl, rl1, rs1, g1⟩, ?_⟩
  rintro i m σ' H' ⟨rfl, hi, ρ', h', mp', f', rl', rs', g'⟩
  by_cases hlt : i < xs.length
  · have hd : xs.drop i = xs[i] :: xs.drop (i + 1) := List.drop_eq_getElem_cons hlt
    rw [hd] at g'
    unfold forGo at g'
    split at g'
    · rename_i gok
      obtain ⟨go, yl⟩ := jok.step i xs[i] mp' h' H' f' rl' gok (by simp [hlt])
      refine .inr ⟨go, fun σ3 H3 => ∃ ρ3 h3 mp3, Fut X.K mp1 mp3 H1 H3 ∧ Rl X.K cl mp3 h3 H3 ∧ RS X.K mp3 H3 ρ3 σ3 ∧ SGood (forGo gs t mb (xs.drop (i + 1)) ρ3 h3) (wD X.K cl mp1 H1 W D), fun σ3 H3 z => ⟨xs.length - (i + 1), by omega, rfl, hlt, z⟩, fun V H'' y => ?_⟩
      obtain ⟨f2, rl2, rv2⟩ := yl V H'' y
      split at g'
      · rename_i ρ1 et
        obtain ⟨σ2, rs2, q2, _⟩ := tg_ok et rv2 (rs'.fut f2)
        refine q2 _ ⟨ρ1, h', mp', rl2, rs2, ?_⟩
        have f3 := f'.trans f2
        cases eb : mb ρ1 h' with
        | nx ρ2 h2 =>
          rw [eb] at g'
          exact fun σ4 H4 mp4 f4 rl4 rs4 => ⟨ρ2, h2, mp4, f3.trans f4, rl4, rs4, g'⟩
        | ct ρ2 h2 =>
          rw [eb] at g'
          exact fun σ4 H4 mp4 f4 rl4 rs4 => ⟨ρ2, h2, mp4, f3.trans f4, rl4, rs4, g'⟩
        | bk ρ2 h2 => rw [eb] at g'; exact QN.fut f3 g'
        | rt v h2 => rw [eb] at g'; exact QV.fut f3 g'
        | ex v ρ2 h2 => rw [eb] at g'; exact QX.fut f3 g'
        | bad => rw [eb] at g'; exact False.elim g'
      · exact False.elim g'
    · exact False.elim g'
  · have e : i = xs.length := by omega
    subst e
    rw [List.drop_length] at g'
    unfold forGo at g'
    split at g'
    · rename_i gok
      exact .inl ⟨jok.stop _ mp' h' H' f' rl' gok (Nat.le_refl _), g' σ' H' mp' f' rl' rs'⟩
    · exact False.elim g'
/-! ### while -/
def whileGo (mt : MS → MH → Res Bool) (body : MSt) : Nat → MSt
  | 0, _, _ => .bad
  | n + 1, ρ, h => (mt ρ h).st ρ fun c h1 => if c = true then (match body ρ h1 with
      | .nx ρ2 h2 => whileGo mt body n ρ2 h2
      | .ct ρ2 h2 => whileGo mt body n ρ2 h2
      | .bk ρ2 h2 => .nx ρ2 h2
      | .rt v h2 => .rt v h2
      | .ex e ρ2 h2 => .ex e ρ2 h2
      | .bad => .bad) else .nx ρ h1
/-- how often at most -/
def manyTurns : Nat := 1000000000
def sWhile (mt : MS → MH → Res Bool) (body : MSt) : MSt := whileGo mt body manyTurns
variable {c : Expr} {mt : MS → MH → Res Bool}
theorem ss_while (hp : PassesOwn (model X.prog X.w) X.A X.env X.xe) (hc : ST X cl W c mt) (hb : SSs X cl W body mb) : SS X cl W (.While c body [] pos) (sWhile mt mb) := psW (ps_while hp hc hb) fun D σ H ⟨ρ, h, mp, rl, rs, g⟩ => by
  refine ⟨fun m σ' H' => ∃ ρ' h' mp', Fut X.K mp mp' H H' ∧ Rl X.K cl mp' h' H' ∧ RS X.K mp' H' ρ' σ' ∧ SGood (whileGo mt mb m ρ' h') (wD X.K cl mp H W D), ⟨manyTurns, ρ, h, mp, .refl, rl, rs, g⟩, ?_⟩
  rintro m σ' H' ⟨ρ', h', mp', f', rl', rs', g'⟩
  cases m with
  | zero => exact False.elim g'
  | succ n =>
    unfold whileGo at g'
    refine tMT_st rl' rs' g' (fun e h' q => (QX.fut f' q).ew rs') fun c h1 H1 mp1 f1 rl1 rs1 g1 => ?_
    have f2 := f'.trans f1
    cases c with
    | true =>
      refine ⟨fun σ3 H3 => ∃ ρ3 h3 mp3, Fut X.K mp mp3 H H3 ∧ Rl X.K cl mp3 h3 H3 ∧ RS X.K mp3 H3 ρ3 σ3 ∧ SGood (whileGo mt mb n ρ3 h3) (wD X.K cl mp H W D), fun σ3 H3 z => ⟨n, Nat.lt_succ_self n, z⟩, ρ', h1, mp1, rl1, rs1, ?_⟩
      rw [if_pos rfl] at g1
      cases eb : mb ρ' h1 with
      | nx ρ2 h2 =>
        rw [eb] at g1
        exact fun σ4 H4 mp4 f4 rl4 rs4 => ⟨ρ2, h2, mp4, f2.trans f4, rl4, rs4, g1⟩
      | ct ρ2 h2 =>
        rw [eb] at g1
        exact fun σ4 H4 mp4 f4 rl4 rs4 => ⟨ρ2, h2, mp4, f2.trans f4, rl4, rs4, g1⟩
      | bk ρ2 h2 => rw [eb] at g1; exact QN.fut f2 g1
      | rt v h2 => rw [eb] at g1; exact QV.fut f2 g1
      | ex v ρ2 h2 => rw [eb] at g1; exact QX.fut f2 g1
      | bad => rw [eb] at g1; exact False.elim g1
    | false => exact g1 σ' H1 mp1 f2 rl1 rs1
/-! ### a, b = e -/
@[simp] def sSetT (t : Tg) (m : ME) : MSt := fun ρ h => (m ρ h).st ρ fun x h1 => match t.set x ρ with | some ρ1 => .nx ρ1 h1 | none => .bad
theorem ss_setT {e : Expr} {m : ME} (he : SE X cl W e m) (hg : PG X tg (t.g X.K)) (hs : swapsWithSole [tg] e pos.line X.env = pure false := by rfl) (hw : swappedStores [tg] e X.env = pure none := by rfl)
    (h1 : (assignEach [tg] X.env).map (·.2) = [assign tg X.env] := by rfl) : SS X cl W (.Assign [tg] e pos) (sSetT t m) := psW (ps_asg he hg hs hw h1) fun D σ H ⟨ρ, h, mp, rl, rs, g⟩ =>
  tM_st rl rs g (fun _ _ q => q.ew rs) fun x h1 V H1 mp1 f1 rl1 rs1 rv1 g1 => by
    split at g1
    · rename_i ρ1 et
      obtain ⟨σ2, rs2, q2, _⟩ := tg_ok et rv1 rs1
      exact q2 _ (g1 σ2 H1 mp1 f1 rl1 rs2)
    · exact False.elim g1
end
end Sm

set_option Elab.async false
set_option linter.all false
set_option maxRecDepth 100000
set_option maxHeartbeats 4000000
/-! comprehensions, defs -/
namespace Sm
open PySem PySem.Spec PyProof.Rows L2
/-- an exception is no end here -/
def Res.nx {α : Type} (r : Res α) : Res α := match r with | .ok a h => .ok a h | _ => .bad
@[simp] theorem Res.nx_ok {α : Type} (a : α) (h : MH) : (Res.ok a h).nx = .ok a h := rfl
@[simp] theorem Res.nx_bad {α : Type} : (Res.bad : Res α).nx = .bad := rfl
theorem Good.nx {α : Type} {r : Res α} {Q : α → MH → Prop} {E E' : MV → MH → Prop} (g : Good r.nx Q E) : Good r Q E' := by
  cases r with
  | ok a h => exact g
  | ex e h => exact False.elim g
  | bad => exact g
abbrev W0 : Wsh := fun _ _ _ _ => False
/-- slots forgotten -/
def wipeM (ρ : MS) : List Nat → MS
  | [] => ρ
  | v :: vs => (wipeM ρ vs).set v none
theorem rs_wipe {K : PySem.W.Frag} {mp : Mp} {H : Hp} {ρ : MS} {σ : L2.St} (rs : RS K mp H ρ σ) : ∀ vs, RS K mp H (wipeM ρ vs) (wipe σ vs)
  | [] => rs
  | v :: vs => by
    have ih := rs_wipe rs vs
    unfold wipeM wipe
    refine ⟨by simp [ih.len], fun i x e => ?_⟩
    by_cases hi : i = v
    · subst hi
      by_cases hl : i < (wipeM ρ vs).length
      · rw [List.getElem?_set_self hl] at e; cases e
      · rw [List.getElem?_eq_none (by simpa using hl)] at e; cases e
    · rw [List.getElem?_set_ne (Ne.symm hi)] at e
      obtain ⟨v', h1, h2⟩ := ih.at_ i x e
      exact ⟨v', by rw [List.getElem?_set_ne (Ne.symm hi)]; exact h1, h2⟩
open Classical in
noncomputable def compGo (gs : Gs) (t : Tg) (mt : MS → MH → Res Bool) (me : ME) (ρ : MS) : List MV → MH → Res (List MV)
  | [], h => if gOk gs h then .ok [] h else .bad
  | x :: xs, h => if gOk gs h then match t.set x ρ with
    | some ρ1 => (mt ρ1 h).nx.bind fun b h1 => if b = true then (me ρ1 h1).nx.bind fun y h2 => (compGo gs t mt me ρ xs h2).bind fun ys h3 => .ok (y :: ys) h3 else compGo gs t mt me ρ xs h1
    | none => .bad
    else .bad
noncomputable def lComp (mi : MI) (t : Tg) (vs : List Nat) (mt : MS → MH → Res Bool) (me : ME) : MA := fun ρ h => (mi ρ h).bind fun xg h1 => if szOk xg.1.length then compGo xg.2 t mt me (wipeM ρ vs) xg.1 h1 else .bad
@[simp] def tYesM : MS → MH → Res Bool := fun _ h => .ok true h
abbrev STs (X : Cx) (cl : Str → Option Addr) (W : Wsh) (ifs : List Expr) (m : MS → MH → Res Bool) : Prop := PTs X ifs (tMT X.K cl W m)
theorem ptsW {X : Cx} {e : List Expr} {t t' : TT} (h : PTs X e t) (w : ∀ σ H Q, t' σ H Q → t σ H Q) : PTs X e t' := ⟨fun pins s σ H Q I q => h.run pins s σ H Q I (w σ H Q q)⟩
section
variable {X : Cx} {cl : Str → Option Addr} {W : Wsh} {tg iter elt c : Expr} {mi : MI} {t : Tg} {mt : MS → MH → Res Bool} {me : ME} {pos spos py : Pos} {ifs : List Expr} {scope : Scope} {own : List (Str × Nat)}
theorem sts_nil : STs X cl W [] tYesM := ptsW pts_nil fun σ H Q ⟨ρ, h, mp, rl, rs, g⟩ => g H mp .refl rl
theorem sts_one (hc : ST X cl W c mt) : STs X cl W [c] mt := pts_one hc
theorem lc_read {K : PySem.W.Frag} {vs : List Nat} (hv : ∀ i, i ∈ t.slots → i ∈ vs) : ∀ σ H Q, tML K cl W (lComp mi t vs mt me) σ H Q → tLc (tMI K cl W mi) (t.g K) (tMT K cl W0 mt) (tM K cl W0 me) vs σ H Q := fun σ H Q ⟨ρ, h, mp, rl, rs, g⟩ => by
  refine ⟨ρ, h, mp, rl, rs, (Good.bind.mp g).mono (fun xg h1 g1 J H1 mp1 f1 rl1 jok D hD => ?_) fun _ _ z => z⟩
  obtain ⟨xs, gs⟩ := xg
  dsimp only at g1 jok
  split at g1
  · rename_i hz
    have h0 : H D = none := f1.back rl1 hD
    have rs1 := rs_wipe (rs.fut f1) vs
    have np1 := rl1.np hD
    have hz' : xs.length ≤ 1000000 := hz
    refine ⟨fun i m H' => m = xs.length - i ∧ i ≤ xs.length ∧ ∃ h' mp' acc accV, Fut K mp1 mp' H1 H' ∧ Rl K cl mp' h' H' ∧ (∀ n, mp' n ≠ some D) ∧ H' D = some (.lst accV) ∧ RVs K mp' H' acc accV ∧ acc.length ≤ i ∧
      Good (compGo gs t mt me (wipeM ρ vs) (xs.drop i) h') (fun ys h'' => QL K cl mp H Q (acc ++ ys) h'') (EW K cl mp H W σ), ⟨_, rfl, Nat.zero_le _, h1, mp1, [], [], Fut.new hD, rl1.new hD, np1, upd_same, .nil, Nat.le_refl _, g1⟩, ?_⟩
    rintro i m H' ⟨rfl, hi, h', mp', acc, accV, f', rl', np', hD', rv', la, g'⟩
    by_cases hlt : i < xs.length
    · have hd : xs.drop i = xs[i] :: xs.drop (i + 1) := List.drop_eq_getElem_cons hlt
      rw [hd] at g'
      unfold compGo at g'
      split at g'
      · rename_i gok
        obtain ⟨go, yl⟩ := jok.step i xs[i] mp' h' H' f' rl' gok (by simp [hlt])
        refine .inr ⟨go, fun H3 => ∃ h3 mp3 acc3 accV3, Fut K mp1 mp3 H1 H3 ∧ Rl K cl mp3 h3 H3 ∧ (∀ n, mp3 n ≠ some D) ∧ H3 D = some (.lst accV3) ∧ RVs K mp3 H3 acc3 accV3 ∧ acc3.length ≤ i + 1 ∧
          Good (compGo gs t mt me (wipeM ρ vs) (xs.drop (i + 1)) h3) (fun ys h'' => QL K cl mp H Q (acc3 ++ ys) h'') (EW K cl mp H W σ), fun H3 z => ⟨xs.length - (i + 1), by omega, rfl, hlt, z⟩, fun V H'' y => ?_⟩
        obtain ⟨f2, rl2, rv2⟩ := yl V H'' y
        split at g'
        · rename_i ρ1 et
          obtain ⟨σ2, rs2, q2, w2⟩ := tg_ok et rv2 ((rs1.fut f').fut f2)
          obtain ⟨hD2, np2⟩ := f2.fr D _ hD' np'
          refine q2 _ ⟨(w2 vs hv).trans (wipe_wipe σ vs), ρ1, h', mp', rl2, rs2, ?_⟩
          refine Good.nx ((Good.bind.mp g').mono (fun b hb gb H3 mp3 f3 rl3 => ?_) fun _ _ z => z)
          obtain ⟨hD3, np3⟩ := f3.fr D _ hD2 np2
          cases b with
          | true =>
            rw [if_pos rfl] at gb
            refine ⟨ρ1, hb, mp3, rl3, rs2.fut f3, Good.nx ((Good.bind.mp gb).mono (fun y hy gy Y H4 mp4 f4 rl4 rv4 => ?_) fun _ _ z => z)⟩
            obtain ⟨hD4, np4⟩ := f4.fr D _ hD3 np3
            have f14 : Fut K mp1 mp4 H1 H4 := f'.trans (f2.trans (f3.trans f4))
            have fu := Fu.tmp (K := K) (mp := mp4) (ws := accV ++ [Y]) hD4
            refine ⟨accV, hD4, ?_, hy, mp4, acc ++ [y], accV ++ [Y], f14.tmp hD hD4, rl4.tmp hD4 np4, np4, upd_same, ?_, by simp; omega, ?_⟩
            · rw [← rv'.length]
              exact Nat.lt_of_le_of_lt la (Nat.lt_of_lt_of_le hlt (Nat.le_trans hz' (by decide)))
            · exact ((rv'.fut (f2.trans (f3.trans f4))).append (.cons rv4 .nil)).fu fu
            · refine (Good.bind.mp gy).mono (fun ys h3 q => ?_) fun _ _ z => z
              rw [List.append_assoc]
              exact q
          | false =>
            rw [if_neg (by decide)] at gb
            exact ⟨hb, mp3, acc, accV, f'.trans (f2.trans f3), rl3, np3, hD3, rv'.fut (f2.trans f3), by omega, gb⟩
        · exact False.elim g'
      · exact False.elim g'
    · have e : i = xs.length := by omega
      subst e
      rw [List.drop_length] at g'
      unfold compGo at g'
      split at g'
      · rename_i gok
        refine .inl ⟨jok.stop _ mp' h' H' f' rl' gok (Nat.le_refl _), ?_⟩
        have q : QL K cl mp H Q (acc ++ []) h' := g'
        rw [List.append_nil] at q
        exact q D accV H' mp' (f1.trans f') rl' h0 np' hD' rv'
      · exact False.elim g'
  · exact False.elim g1
theorem sl_comp (hv : ∀ i, i ∈ t.slots → i ∈ own.map (·.2) := by decide) (hc : X.calm = true) (hN : X.N.Nodup) (hi : SI X cl W tg iter mi) (ok : BlkOk X.N X.env.scope scope own)
    (hg : ∀ (s : Shared) (H : Hp) (C : Addr) (cl' : List (Str × Addr)) (fp : List Addr), PG (X.blk s H scope (compEnvC scope cl' C X.env) fp) tg (t.g X.K)) (ht : ∀ (s : Shared) (H : Hp) (C : Addr) (cl' : List (Str × Addr)) (fp : List Addr), STs (X.blk s H scope (compEnvC scope cl' C X.env) fp) cl W0 ifs mt)
    (he : ∀ (s : Shared) (H : Hp) (C : Addr) (cl' : List (Str × Addr)) (fp : List Addr), SE (X.blk s H scope (compEnvC scope cl' C X.env) fp) cl W0 elt me) (hs : ∀ x, foldedSetIterable iter X.env x = pure x := by intro _; rfl) :
    SL X cl W (.ListComp elt [⟨tg, iter, ifs, 0⟩] scope pos) (lComp mi t (own.map (·.2)) mt me) := peW (pe_lc hc hN hi ok hg ht he hs) (lc_read hv)
theorem st_bind {α β : Type} (r : Res α) (f : α → MH → Res β) (ρ : MS) (g : β → MH → SRes) : (r.bind f).st ρ g = r.st ρ fun a h => (f a h).st ρ g := by cases r <;> rfl
theorem ss_setLc {i : Nat} {y : Str} (hv : ∀ i, i ∈ t.slots → i ∈ own.map (·.2) := by decide) (hc : X.calm = true) (hN : X.N.Nodup) (hy : X.N[i]? = some y) (hyl : X.env.scope.names.lookup y = some .local)
    (hsw : swapsWith (.ListComp elt [⟨tg, iter, ifs, 0⟩] scope pos) (some (.Name y py)) spos.line X.env = pure true) (hi : SI X cl W tg iter mi) (ok : BlkOk X.N X.env.scope scope own)
    (hg : ∀ (s : Shared) (H : Hp) (C : Addr) (cl' : List (Str × Addr)) (fp : List Addr), PG (X.blk s H scope (compEnvC scope cl' C X.env) fp) tg (t.g X.K)) (ht : ∀ (s : Shared) (H : Hp) (C : Addr) (cl' : List (Str × Addr)) (fp : List Addr), STs (X.blk s H scope (compEnvC scope cl' C X.env) fp) cl W0 ifs mt)
    (he : ∀ (s : Shared) (H : Hp) (C : Addr) (cl' : List (Str × Addr)) (fp : List Addr), SE (X.blk s H scope (compEnvC scope cl' C X.env) fp) cl W0 elt me) (hs : ∀ x, foldedSetIterable iter X.env x = pure x := by intro _; rfl) :
    SS X cl W (.Assign [.Name y py] (.ListComp elt [⟨tg, iter, ifs, 0⟩] scope pos) spos) (sSet i (eNew (lComp mi t (own.map (·.2)) mt me))) := psW (ps_setLc hc hN hy hyl hsw hi ok hg ht he hs) fun D σ H ⟨ρ, h, mp, rl, rs, g⟩ => by
  refine lc_read (mt := mt) (me := me) hv σ H _ ⟨ρ, h, mp, rl, rs, ?_⟩
  unfold sSet eNew at g
  rw [st_bind] at g
  refine (SGood.st.mp g).mono (fun xs h1 g1 p vs H1 mp1 f1 rl1 h0 np hp rv => ?_) fun e h' q => QX.ew rs q
  have f2 := f1.toCell rl1 h0
  exact g1 (σ.set i (some (.ref p))) H1 (Mp.put mp1 h1.length p) f2 (rl1.toCell np ⟨vs, hp, rv⟩) ((rs.fut f2).set (.ref Mp.put_same))
end
/-! ### what nothing knows any more goes -/
mutual
def bel (n : Nat) : MV → Bool
  | .ref k => decide (k < n)
  | .tup xs => bels n xs
  | .scr xs => bels n xs
  | .exn _ _ vs => bels n vs
  | .non => true
  | .bl _ => true
  | .int _ => true
  | .str _ => true
def bels (n : Nat) : List MV → Bool
  | [] => true
  | x :: xs => bel n x && bels n xs
end
def belO (n : Nat) : MO → Bool
  | .lst xs => bels n xs
  | .ins _ fs => bels n (fs.map (·.2))
  | .dct kvs => bels n (kvs.map (·.2))
def gcOk (h : MH) (v : MV) (h' : MH) : Prop := bel h.length v = true ∧ ∀ i, i < h.length → ∃ o, h'[i]? = some o ∧ (h[i]? = some o ∨ belO h.length o = true)
open Classical in
noncomputable def gc (h : MH) (v : MV) (h' : MH) : MH := if gcOk h v h' then h'.take h.length else h'
def Mp.cut (mp : Mp) (n : Nat) : Mp := fun k => if k < n then mp k else none
section
variable {K : PySem.W.Frag} {cl : Str → Option Addr} {mp mp' : Mp} {H H' : Hp} {h h' : MH}
mutual
theorem RV.cut {n : Nat} : ∀ {x : MV} {v : L2.V}, RV K mp H x v → bel n x = true → RV K (mp.cut n) H x v
  | _, _, .non, _ => .non
  | _, _, .bl b, _ => .bl b
  | _, _, .int i, _ => .int i
  | _, _, .str x, _ => .str x
  | _, _, @RV.ref _ _ _ k a h, e => .ref (by
    have e : k < n := by simpa [bel] using e
    simp [Mp.cut, e, h])
  | _, _, .tup h r, e => .tup h (RVs.cut r (by simpa [bel] using e))
  | _, _, .scr h r, e => .scr h (RVs.cut r (by simpa [bel] using e))
theorem RVs.cut {n : Nat} : ∀ {xs : List MV} {vs : List L2.V}, RVs K mp H xs vs → bels n xs = true → RVs K (mp.cut n) H xs vs
  | _, _, .nil, _ => .nil
  | x :: xs, _, .cons r t, e => by
    have e : bel n x = true ∧ bels n xs = true := by simpa [bels] using e
    exact .cons (RV.cut r e.1) (RVs.cut t e.2)
end
mutual
theorem RV.bel {n : Nat} (hn : ∀ k a, mp k = some a → k < n) : ∀ {x : MV} {v : L2.V}, RV K mp H x v → bel n x = true
  | _, _, .non => by simp [Sm.bel]
  | _, _, .bl b => by simp [Sm.bel]
  | _, _, .int i => by simp [Sm.bel]
  | _, _, .str x => by simp [Sm.bel]
  | _, _, .ref h => by simp [Sm.bel, hn _ _ h]
  | _, _, .tup h r => by simp only [Sm.bel]; exact RVs.bel hn r
  | _, _, .scr h r => by simp only [Sm.bel]; exact RVs.bel hn r
theorem RVs.bel {n : Nat} (hn : ∀ k a, mp k = some a → k < n) : ∀ {xs : List MV} {vs : List L2.V}, RVs K mp H xs vs → bels n xs = true
  | _, _, .nil => by simp [Sm.bels]
  | _, _, .cons r t => by simp [Sm.bels, RV.bel hn r, RVs.bel hn t]
end
theorem ro_bel {n : Nat} (hn : ∀ k a, mp k = Option.some a → k < n) {o : MO} {a : Addr} (r : RO K cl mp H o a) : belO n o = true := by
  cases o with
  | lst xs => obtain ⟨vs, _, q⟩ := r; exact q.bel hn
  | ins c fs => obtain ⟨C, dx, vs, _, _, q⟩ := r; exact q.2.bel hn
  | dct kvs => obtain ⟨vs, _, q⟩ := r; exact q.2.bel hn
theorem RO.cut {n : Nat} {o : MO} {a : Addr} (r : RO K cl mp H o a) (e : belO n o = true) : RO K cl (mp.cut n) H o a := by
  cases o with
  | lst xs => obtain ⟨vs, h1, q⟩ := r; exact ⟨vs, h1, q.cut e⟩
  | ins c fs => obtain ⟨C, dx, vs, h0, h1, q⟩ := r; exact ⟨C, dx, vs, h0, h1, q.1, q.2.cut e⟩
  | dct kvs => obtain ⟨vs, h1, q⟩ := r; exact ⟨vs, h1, q.1, q.2.cut e⟩
theorem gc_ok {v : MV} {V : L2.V} (rl : Rl K cl mp h H) (f : Fut K mp mp' H H') (rl' : Rl K cl mp' h' H') (rv : RV K mp' H' v V) : ∃ mp'', Fut K mp mp'' H H' ∧ Rl K cl mp'' (gc h v h') H' ∧ RV K mp'' H' v V := by
  unfold gc
  split
  · rename_i ok
    obtain ⟨ok1, ok2⟩ := ok
    have cutE : ∀ {k a}, mp'.cut h.length k = some a → k < h.length ∧ mp' k = some a := fun {k a} e => by
      unfold Mp.cut at e
      split at e
      · rename_i l; exact ⟨l, e⟩
      · cases e
    have len : h.length ≤ h'.length := by
      by_cases hz : h.length = 0
      · omega
      · obtain ⟨o, e, _⟩ := ok2 (h.length - 1) (by omega)
        have := (List.getElem?_eq_some_iff.mp e).1
        omega
    refine ⟨mp'.cut h.length, ⟨fun n a e => ?_, f.tt, f.sf, fun a o e n => ?_⟩, ⟨fun n a e => ?_, fun n l => ?_, fun n k a e1 e2 => ?_, fun n o a e q => ?_⟩, rv.cut ok1⟩
    · have := rl.dom n a e
      simp [Mp.cut, this, f.le n a e]
    · obtain ⟨h1, h2⟩ := f.fr a o e n
      exact ⟨h1, fun k q => h2 k (cutE q).2⟩
    · have := (cutE e).1
      rw [List.length_take]; omega
    · rw [List.length_take] at l
      obtain ⟨a, e⟩ := rl'.has n (by omega)
      exact ⟨a, by simp [Mp.cut, show n < h.length by omega, e]⟩
    · exact rl'.inj n k a (cutE e1).2 (cutE e2).2
    · obtain ⟨l, q'⟩ := cutE q
      rw [List.getElem?_take_of_lt l] at e
      have ro := rl'.obj n o a e q'
      refine ro.cut ?_
      obtain ⟨o', e1, e2⟩ := ok2 n l
      rw [e] at e1
      have := Option.some.inj e1
      subst this
      rcases e2 with e2 | e2
      · obtain ⟨b, _, ro0⟩ := rl.at e2
        exact ro_bel rl.dom ro0
      · exact e2
  · exact ⟨mp', f, rl', rv⟩
end
/-! ### a def -/
noncomputable def mfun (np n : Nat) (body : MSt) : List MV → MH → Res MV := fun args h => if args.length = np then (match body (args.map some ++ List.replicate (n - np) none) h with
  | .rt v h' => .ok v (gc h v h')
  | .nx _ h' => .ok .non (gc h .non h')
  | _ => .bad) else .bad
theorem mfun_noEx {np n : Nat} {body : MSt} : NoEx1 (mfun np n body) := by
  intro xs h e h' z
  unfold mfun at z
  repeat' split at z
  all_goals cases z
theorem rs_start {K : PySem.W.Frag} {mp : Mp} {H : Hp} {xs : List MV} {vs : List L2.V} (r : RVs K mp H xs vs) (n : Nat) : RS K mp H (xs.map some ++ List.replicate n none) (vs.map some ++ List.replicate n none) :=
  ⟨by simp [r.length], fun i x e => by
    by_cases hl : i < xs.length
    · rw [List.getElem?_append_left (by simpa using hl), List.getElem?_map, Option.map_eq_some_iff] at e
      obtain ⟨y, e1, e2⟩ := e
      have := Option.some.inj e2
      subst this
      obtain ⟨v, e3, r3⟩ := r.get e1
      exact ⟨v, by rw [List.getElem?_append_left (by rw [List.length_map, ← r.length]; exact hl), List.getElem?_map, e3]; rfl, r3⟩
    · rw [List.getElem?_append_right (by simpa using hl), List.getElem?_replicate] at e
      split at e
      · cases Option.some.inj e
      · cases e⟩
section
variable {P : Program} {w : World} {K : PySem.W.Frag} {mg : Str → Option Value} {base : Heap} {cl : Str → Option Addr}
/-- the reading of a def's body -/
theorem fun_read {N ps : List Str} {mb : MSt} {vs : List L2.V} {H : Hp} {Q : VK} {E : XK} (h : spM K cl (mfun ps.length N.length mb) vs H Q E) : tMS K cl W0 mb { nx := fun _ H' => Q .non H', rt := Q } (L2.start N vs) H := by
  obtain ⟨xs, h, mp, rl, rv, g⟩ := h
  unfold mfun at g
  split at g
  · rename_i hl
    refine ⟨xs.map some ++ List.replicate (N.length - ps.length) none, h, mp, rl, ?_, ?_⟩
    · unfold L2.start
      rw [← hl, rv.length]
      exact rs_start rv _
    · cases e : mb (xs.map some ++ List.replicate (N.length - ps.length) none) h with
      | rt v h' =>
        rw [e] at g
        exact fun V H' mp' f rl' rv' => by
          obtain ⟨mp2, f2, rl2, rv2⟩ := gc_ok rl f rl' rv'
          exact g V H' mp2 f2 rl2 rv2
      | nx ρ h' =>
        rw [e] at g
        exact fun σ' H' mp' f rl' rs' => by
          obtain ⟨mp2, f2, rl2, rv2⟩ := gc_ok (v := .non) rl f rl' .non
          exact g _ H' mp2 f2 rl2 rv2
      | bk ρ h' => rw [e] at g; exact False.elim g
      | ct ρ h' => rw [e] at g; exact False.elim g
      | ex v ρ h' => rw [e] at g; exact False.elim g
      | bad => rw [e] at g; exact False.elim g
  · exact False.elim g
theorem spM_len {np n : Nat} {mb : MSt} {vs : List L2.V} {H : Hp} {Q : VK} {E : XK} (h : spM K cl (mfun np n mb) vs H Q E) : vs.length = np := by
  obtain ⟨xs, h, mp, rl, rv, g⟩ := h
  unfold mfun at g
  split at g
  · rename_i hl
    rw [← rv.length]; exact hl
  · exact False.elim g
theorem fnM {x qual : Str} {st : Stmt} {f : Addr} {fd : FuncData} {N ps : List Str} {k : Nat} {mb : MSt} (F : L2.Fun K x qual st f fd) (S : FnScope N ps (defScope st))
    (hb : ∀ (cdv : Value) (A : Around) (outer : List Env) (s : Shared) (H : Hp) (E : XK), Room k (A.deeper (envOfC qual (defScope st) s.heap.objs.size f cdv)) → SSs (cxOf CX0 P w K mg base N qual (defScope st) f cdv A outer s H E).nox cl W0 (defBody st) mb) :
    FnOk P w K mg base CX0 (k + 1) f fd ps (spM K cl (mfun ps.length N.length mb)) :=
  F.ok S (fun vs H Q E h => spM_len h) fun cdv A outer s H vs Q E hr h => ⟨_, hb cdv A outer s H E hr, fun_read h⟩
theorem fnMD {x qual : Str} {params : Arguments} {body : List Stmt} {scope : Scope} {dvs : List L2.V} {kws : List (Str × L2.V)} {f : Addr} {fd : FuncData} {N ps : List Str} {k : Nat} {mb : MSt} (F : FunD K x qual params body scope dvs kws f fd) (S : FnScope N ps scope)
    (hb : ∀ (cdv : Value) (A : Around) (outer : List Env) (s : Shared) (H : Hp) (E : XK), Room k (A.deeper (envOfC qual scope s.heap.objs.size f cdv)) → SSs (cxOf CX0 P w K mg base N qual scope f cdv A outer s H E).nox cl W0 body mb) :
    FnOk P w K mg base CX0 (k + 1) f fd ps (spM K cl (mfun ps.length N.length mb)) :=
  F.ok S (fun vs H Q E h => spM_len h) fun cdv A outer s H vs Q E hr h => ⟨_, (hb cdv A outer s H E hr).nox, fun_read h⟩
/-- the law itself -/
theorem law_read {m : List MV → MH → Res MV} (hm : ∀ ns : List Int, ns.length ≤ 63 → ∃ h, m [.scr (ns.map MV.int)] [] = .ok (.bl true) h) (H : Hp) (a : Addr) (ns : List Int) (hl : ns.length ≤ 63) (hO : Only H) (hS : SqL K H a (ns.map L2.V.int)) :
    spM K cl m [.ref a] H (fun v _ => v = .bl true) fun _ _ _ => False := by
  obtain ⟨h', e⟩ := hm ns hl
  have rvI : ∀ (ns : List Int), RVs K (fun _ => none) H (ns.map MV.int) (ns.map L2.V.int) := fun ns => by
    induction ns with
    | nil => exact .nil
    | cons n ns ih => exact .cons (.int n) ih
  refine ⟨[.scr (ns.map MV.int)], [], fun _ => none, Rl.mk (fun n a e => nomatch e) (fun n l => absurd l (Nat.not_lt_zero n)) (fun n k a e => nomatch e) (fun n o a e => by simp at e), .cons (.scr ?_ (rvI ns)) .nil, ?_⟩
  · rcases hS with hS | hS
    · rcases hS with hS | ⟨o, hS⟩
      · rcases hO a with z | ⟨ob, xs, z⟩
        · rw [hS] at z; cases z
        · rw [hS] at z; cases z
      · exact .inl ⟨o, hS⟩
    · exact .inr hS
  · rw [e]
    intro V H' mp' f rl rv
    cases rv
    rfl
end
end Sm

set_option Elab.async false
set_option linter.all false
set_option maxRecDepth 100000
set_option maxHeartbeats 4000000
/-! the rules as the printer names them -/
namespace Sm
open PySem PySem.Spec PyProof.Rows L2
local macro_rules | `(tactic| trivial) => `(tactic| (intro x y h e h' z; simp only [mAdd, mSub, mMul, mMod, mDiv, mPow, mLt, mLe, mGt, mGe, mEq, mNe, mIs, mIsNot, mIn, mNotIn, mIx, ixL, ixS, ixD, optR] at z; (repeat' split at z); all_goals cases z))
theorem mAdd_noEx : NoEx2 mAdd := by trivial
theorem mSub_noEx : NoEx2 mSub := by trivial
theorem mMul_noEx : NoEx2 mMul := by trivial
theorem mMod_noEx : NoEx2 mMod := by trivial
theorem mDiv_noEx : NoEx2 mDiv := by trivial
theorem mPow_noEx : NoEx2 mPow := by trivial
theorem mLt_noEx : NoEx2 mLt := by trivial
theorem mLe_noEx : NoEx2 mLe := by trivial
theorem mGt_noEx : NoEx2 mGt := by trivial
theorem mGe_noEx : NoEx2 mGe := by trivial
theorem mEq_noEx : NoEx2 mEq := by trivial
theorem mNe_noEx : NoEx2 mNe := by trivial
theorem mIs_noEx : NoEx2 mIs := by trivial
theorem mIsNot_noEx : NoEx2 mIsNot := by trivial
theorem mIn_noEx : NoEx2 mIn := by trivial
theorem mNotIn_noEx : NoEx2 mNotIn := by trivial
theorem mIx_noEx : NoEx2 mIx := by trivial
theorem mLen_noEx : NoEx1 mLen := by
  intro xs h e h' z; unfold mLen at z; (repeat' split at z); all_goals cases z
theorem mTuple_noEx : NoEx1 mTuple := by
  intro xs h e h' z; unfold mTuple at z; (repeat' split at z); all_goals cases z
theorem mInt_noEx : NoEx1 mInt := by
  intro xs h e h' z; unfold mInt at z; (repeat' split at z); all_goals cases z
theorem mBool_noEx : NoEx1 mBool := by
  intro xs h e h' z; unfold mBool at z; (repeat' split at z); all_goals cases z
theorem mAbs_noEx : NoEx1 mAbs := by
  intro xs h e h' z; unfold mAbs at z; (repeat' split at z); all_goals cases z
theorem mMin_noEx : NoEx1 mMin := by
  intro xs h e h' z; unfold mMin at z; (repeat' split at z); all_goals cases z
theorem mMax_noEx : NoEx1 mMax := by
  intro xs h e h' z; unfold mMax at z; (repeat' split at z); all_goals cases z
theorem mStr_noEx : NoEx1 mStr := by
  intro xs h e h' z; unfold mStr at z; (repeat' split at z); all_goals cases z
section
variable {X : Cx} {cl : Str → Option Addr} {W : Wsh} {a b c e o : Expr} {es : List Expr} {ma mb mc m mo : ME} {ms la lb : MA} {pos apos cpos p p2 : Pos} {k : Nat}
theorem b_Add (ha : SE X cl W a ma) (hb : SE X cl W b mb) : SE X cl W (.BinOp a .Add b pos) (eBin mAdd ma mb) := se_bin op_addM rM_ok mAdd_noEx ha hb
theorem b_Sub (ha : SE X cl W a ma) (hb : SE X cl W b mb) : SE X cl W (.BinOp a .Sub b pos) (eBin mSub ma mb) := se_bin op_subM rM_ok mSub_noEx ha hb
theorem b_Mult (ha : SE X cl W a ma) (hb : SE X cl W b mb) : SE X cl W (.BinOp a .Mult b pos) (eBin mMul ma mb) := se_bin op_mulM rM_ok mMul_noEx ha hb
theorem b_Mod (ha : SE X cl W a ma) (hb : SE X cl W b mb) : SE X cl W (.BinOp a .Mod b pos) (eBin mMod ma mb) := se_bin op_modM rM_ok mMod_noEx ha hb
theorem b_FloorDiv (ha : SE X cl W a ma) (hb : SE X cl W b mb) : SE X cl W (.BinOp a .FloorDiv b pos) (eBin mDiv ma mb) := se_bin op_divM rM_ok mDiv_noEx ha hb
theorem b_Pow (ha : SE X cl W a ma) (hb : SE X cl W b mb) : SE X cl W (.BinOp a .Pow b pos) (eBin mPow ma mb) := se_bin op_powM rM_ok mPow_noEx ha hb
theorem c_Lt (ha : SE X cl W a ma) (hb : SE X cl W b mb) : SE X cl W (.Compare a [.Lt] [b] pos) (eBin mLt ma mb) := se_cmp op_ltM rM_ok mLt_noEx ha hb (nomark _)
theorem c_LtE (ha : SE X cl W a ma) (hb : SE X cl W b mb) : SE X cl W (.Compare a [.LtE] [b] pos) (eBin mLe ma mb) := se_cmp op_leM rM_ok mLe_noEx ha hb (nomark _)
theorem c_Gt (ha : SE X cl W a ma) (hb : SE X cl W b mb) : SE X cl W (.Compare a [.Gt] [b] pos) (eBin mGt ma mb) := se_cmp op_gtM rM_ok mGt_noEx ha hb (nomark _)
theorem c_GtE (ha : SE X cl W a ma) (hb : SE X cl W b mb) : SE X cl W (.Compare a [.GtE] [b] pos) (eBin mGe ma mb) := se_cmp op_geM rM_ok mGe_noEx ha hb (nomark _)
theorem c_Eq (hr : Room k X.A) (ha : SE X cl W a ma) (hb : SE X cl W b mb) : SE X cl W (.Compare a [.Eq] [b] pos) (eBin mEq ma mb) := se_cmp (op_eqM hr.units) rM_ok mEq_noEx ha hb (nomark _)
theorem c_NotEq (hr : Room k X.A) (ha : SE X cl W a ma) (hb : SE X cl W b mb) : SE X cl W (.Compare a [.NotEq] [b] pos) (eBin mNe ma mb) := se_cmp (op_neM hr.units) rM_ok mNe_noEx ha hb (nomark _)
theorem c_Is (ha : SE X cl W a ma) (hb : SE X cl W b mb) : SE X cl W (.Compare a [.Is] [b] pos) (eBin mIs ma mb) := se_cmp op_isM rM_ok mIs_noEx ha hb (nomark _)
theorem c_IsNot (ha : SE X cl W a ma) (hb : SE X cl W b mb) : SE X cl W (.Compare a [.IsNot] [b] pos) (eBin mIsNot ma mb) := se_cmp op_isNotM rM_ok mIsNot_noEx ha hb (nomark _)
theorem c_In (hr : Room k X.A) (ha : SE X cl W a ma) (hb : SE X cl W b mb) (hm : behindInMarks .In b = false := by with_unfolding_all rfl) : SE X cl W (.Compare a [.In] [b] pos) (eBin mIn ma mb) := se_cmp (op_inM (hu_of hr)) rM_ok mIn_noEx ha hb hm
theorem c_NotIn (hr : Room k X.A) (ha : SE X cl W a ma) (hb : SE X cl W b mb) (hm : behindInMarks .NotIn b = false := by with_unfolding_all rfl) : SE X cl W (.Compare a [.NotIn] [b] pos) (eBin mNotIn ma mb) := se_cmp (op_notInM (hu_of hr)) rM_ok mNotIn_noEx ha hb hm
theorem t_Lt (ha : SE X cl W a ma) (hb : SE X cl W b mb) : ST X cl W (.Compare a [.Lt] [b] pos) (tOfE (eBin mLt ma mb)) := st_cmp op_ltM rM_ok mLt_noEx ha hb (nomark _)
theorem t_LtE (ha : SE X cl W a ma) (hb : SE X cl W b mb) : ST X cl W (.Compare a [.LtE] [b] pos) (tOfE (eBin mLe ma mb)) := st_cmp op_leM rM_ok mLe_noEx ha hb (nomark _)
theorem t_Gt (ha : SE X cl W a ma) (hb : SE X cl W b mb) : ST X cl W (.Compare a [.Gt] [b] pos) (tOfE (eBin mGt ma mb)) := st_cmp op_gtM rM_ok mGt_noEx ha hb (nomark _)
theorem t_GtE (ha : SE X cl W a ma) (hb : SE X cl W b mb) : ST X cl W (.Compare a [.GtE] [b] pos) (tOfE (eBin mGe ma mb)) := st_cmp op_geM rM_ok mGe_noEx ha hb (nomark _)
theorem t_Eq (hr : Room k X.A) (ha : SE X cl W a ma) (hb : SE X cl W b mb) : ST X cl W (.Compare a [.Eq] [b] pos) (tOfE (eBin mEq ma mb)) := st_cmp (op_eqM hr.units) rM_ok mEq_noEx ha hb (nomark _)
theorem t_NotEq (hr : Room k X.A) (ha : SE X cl W a ma) (hb : SE X cl W b mb) : ST X cl W (.Compare a [.NotEq] [b] pos) (tOfE (eBin mNe ma mb)) := st_cmp (op_neM hr.units) rM_ok mNe_noEx ha hb (nomark _)
theorem t_Is (ha : SE X cl W a ma) (hb : SE X cl W b mb) : ST X cl W (.Compare a [.Is] [b] pos) (tOfE (eBin mIs ma mb)) := st_cmp op_isM rM_ok mIs_noEx ha hb (nomark _)
theorem t_IsNot (ha : SE X cl W a ma) (hb : SE X cl W b mb) : ST X cl W (.Compare a [.IsNot] [b] pos) (tOfE (eBin mIsNot ma mb)) := st_cmp op_isNotM rM_ok mIsNot_noEx ha hb (nomark _)
theorem t_In (hr : Room k X.A) (ha : SE X cl W a ma) (hb : SE X cl W b mb) (hm : behindInMarks .In b = false := by with_unfolding_all rfl) : ST X cl W (.Compare a [.In] [b] pos) (tOfE (eBin mIn ma mb)) := st_cmp (op_inM (hu_of hr)) rM_ok mIn_noEx ha hb hm
theorem t_NotIn (hr : Room k X.A) (ha : SE X cl W a ma) (hb : SE X cl W b mb) (hm : behindInMarks .NotIn b = false := by with_unfolding_all rfl) : ST X cl W (.Compare a [.NotIn] [b] pos) (tOfE (eBin mNotIn ma mb)) := st_cmp (op_notInM (hu_of hr)) rM_ok mNotIn_noEx ha hb hm
theorem x_ix (hr : Room k X.A) (ha : SE X cl W a ma) (hb : SE X cl W b mb) (hs : PlainIx b) : SE X cl W (.Subscript a b pos) (eBin mIx ma mb) := se_ix (hu_of hr) mIx_noEx ha hb hs
/-! what is never come to -/
@[simp] def eBad : ME := fun _ _ => .bad
@[simp] def lBad : MA := fun _ _ => .bad
theorem se_never : SE X cl W e eBad := ⟨fun pins s σ H Q I ⟨ρ, h, mp, rl, rs, g⟩ => False.elim g⟩
theorem sl_never : SL X cl W e lBad := ⟨fun pins s σ H Q I ⟨ρ, h, mp, rl, rs, g⟩ => False.elim g⟩
/-- {} -/
@[simp] def eDict0 : ME := fun _ h => .ok (.ref h.length) (h ++ [.dct []])
theorem se_dict0 : SE X cl W (.Dict [] [] pos) eDict0 := peW pe_dnewK fun σ H Q ⟨ρ, h, mp, rl, rs, g⟩ p hp =>
  g _ _ (Mp.put mp h.length p) ((Fut.new hp).toCell (rl.new hp) hp) ((rl.new hp).toCell (rl.np hp) ⟨[], upd_same, rfl, .nil⟩) (.ref Mp.put_same)
/-- the class of names -/
theorem fld1 {K : PySem.W.Frag} {c f : Str} {C : Addr} (hc : cl c = some C) (h1 : Cls K C) (h2 : NoAttr K C f) : FldOk K cl [c] f := fun c' hc' C' e => by
  have : c' = c := by simpa using hc'
  subst this
  rw [hc] at e
  have := Option.some.inj e
  subst this
  exact ⟨h1, h2⟩
theorem fldCons {K : PySem.W.Frag} {c f : Str} {cs : List Str} {C : Addr} (hc : cl c = some C) (h1 : Cls K C) (h2 : NoAttr K C f) (h : FldOk K cl cs f) : FldOk K cl (c :: cs) f := fun c' hc' C' e => by
  rcases List.mem_cons.mp hc' with z | z
  · subst z
    rw [hc] at e
    have := Option.some.inj e
    subst this
    exact ⟨h1, h2⟩
  · exact h c' z C' e
end
theorem fnNever {P : Program} {w : World} {K : PySem.W.Frag} {mg : Str → Option Value} {base : Heap} {cl : Str → Option Addr} {k : Nat} {f : Addr} {fd : FuncData} {ps : List Str} : FnOk P w K mg base CX0 k f fd ps (spM K cl fun _ _ => .bad) :=
  ⟨fun vs H Q E h => by obtain ⟨_, _, _, _, _, g⟩ := h; exact False.elim g, fun A outer s H args us vs Q E _ _ _ _ h => by obtain ⟨_, _, _, _, _, g⟩ := h; exact False.elim g⟩
theorem neBad : NoEx1 (fun (_ : List MV) (_ : MH) => (Res.bad : Res MV)) := fun _ _ _ _ z => by cases z
end Sm

set_option Elab.async false
set_option linter.all false
set_option maxRecDepth 100000
set_option maxHeartbeats 4000000
/-! more rules: o.f += e, texts' join, displayed dicts, dict.get -/
namespace Sm
open PySem PySem.Spec PyProof.Rows L2
section
variable {X : Cx} {cl : Str → Option Addr} {W : Wsh} {a b c e o : Expr} {es : List Expr} {ma mb mc m mo : ME} {ms la lb : MA} {pos apos cpos p p2 pos' : Pos} {k : Nat} {f : Str}
/-! ### o.f += e -/
theorem in_addM : InOp X .Add (rM X.K cl mIadd) := fun pins s σ H x y u v Q I rx ry h => iaddM pins s σ H x y u v Q I rx ry h
theorem in_subM : InOp X .Sub (rM X.K cl mSub) := by
  intro pins s σ H V Y v u Q I rx ry ⟨x, y, h, mp, rl, r1, r2, g⟩
  cases r1 with
  | int i =>
    cases r2 with
    | int j => exact in_sub pins s σ H _ _ v u Q I rx ry ⟨i, j, rfl, rfl, g _ H mp .refl rl (.int _)⟩
    | _ => exact False.elim g
  | _ => exact False.elim g
/-- the class of an instance, its field -/
def insAt (x : MV) (h : MH) : Option (Str × List (Str × MV)) := match x with | .ref n => (match h[n]? with | some (.ins c fs) => some (c, fs) | _ => none) | _ => none
def mAugF (cs : List Str) (f : Str) (op : MV → MV → MH → Res MV) (m : ME) (ρ : MS) (x : MV) (h : MH) : SRes := match insAt x h with
  | some (c, fs) => if c ∈ cs then match fs.lookup f with
    | some v => (m ρ h).st ρ fun y h1 => (op v y h1).st ρ fun z h2 => match insAt x h2 with
      | some (c', fs') => if c' = c ∧ fs'.length < 1000 then (match x with | .ref n => .nx ρ (h2.set n (.ins c (putM f z fs'))) | _ => .bad) else .bad
      | none => .bad
    | none => .bad
    else .bad
  | none => .bad
@[simp] def sAugF (cs : List Str) (f : Str) (op : MV → MV → MH → Res MV) (mo m : ME) : MSt := fun ρ h => (mo ρ h).st ρ fun x h1 => mAugF cs f op m ρ x h1
theorem insAt_ok {K : PySem.W.Frag} {mp : Mp} {h : MH} {H : Hp} {x : MV} {V : L2.V} {c : Str} {fs : List (Str × MV)} (rl : Rl K cl mp h H) (r : RV K mp H x V) (e : insAt x h = some (c, fs)) : ∃ n a C dx vs, x = .ref n ∧ mp n = some a ∧ V = .ref a ∧ cl c = some C ∧ H a = some (.ins C dx vs) ∧ RFs K mp H fs vs := by
  cases r with
  | @ref n a e1 =>
    unfold insAt at e
    dsimp only at e
    split at e
    · rename_i c' fs' cc
      have := Option.some.inj e
      cases this
      obtain ⟨C, dx, vs, h0, h1, q1⟩ := rl.obj n _ a cc e1
      exact ⟨n, a, C, dx, vs, rfl, e1, rfl, h0, h1, q1⟩
    · cases e
  | _ => cases e
theorem ss_augF {cs : List Str} {op : Operator} {mop : MV → MV → MH → Res MV} (ne : NoEx2 mop) (hC : FldOk X.K cl cs f) (ho : SE X cl W o mo) (he : SE X cl W e m) (hop : InOp X op (rM X.K cl mop)) : SS X cl W (.AugAssign (.Attribute o f pos') op e pos) (sAugF cs f mop mo m) :=
  psW (ps_fldaug ho he hop) fun D σ H ⟨ρ, h, mp, rl, rs, g⟩ => tM_st rl rs g (fun _ _ q => q.ew rs) fun x h1 V H1 mp1 f1 rl1 rs1 rv1 g1 => by
    unfold mAugF at g1
    split at g1
    · rename_i c fs ei
      obtain ⟨n, a, C, dx, vs, rfl, e1, rfl, h0, hA, q1⟩ := insAt_ok rl1 rv1 ei
      split at g1
      · rename_i hc
        obtain ⟨k1, k2⟩ := hC c hc C h0
        split at g1
        · rename_i v ev
          rcases look_ok (f := f) q1 with ⟨z1, z2⟩ | ⟨y, w, z1, z2, z3⟩
          · rw [z1] at ev; cases ev
          · rw [z1] at ev
            have := Option.some.inj ev
            subst this
            refine ⟨a, C, dx, vs, w, rfl, hA, k1, k2, z2, tM_st rl1 rs1 g1 (fun _ _ q => (q.fut f1).ew rs1) fun y2 h2 Y H2 mp2 f2 rl2 rs2 rv2 g2 => ⟨y, y2, h2, mp2, rl2, z3.fut f2, rv2, (toNever (SGood.st.mp g2) (ne _ _ _)).mono (fun z h3 g3 Z H3 mp3 f3 rl3 rv3 => ?_) fun _ _ z => z⟩⟩
            split at g3
            · rename_i c' fs' ei'
              split at g3
              · rename_i hc'
                have rvx : RV X.K mp3 H3 (.ref n) (.ref a) := .ref (f3.le _ _ (f2.le _ _ e1))
                obtain ⟨n', a', C', dx', vs', ex, e1', ea, h0', hA', q1'⟩ := insAt_ok rl3 rvx ei'
                cases ex
                cases ea
                rw [hc'.1, h0] at h0'
                have := Option.some.inj h0'
                subst this
                refine ⟨dx', vs', hA', ?_, ?_⟩
                · have : fs'.length = vs'.length := by simpa using congrArg List.length q1'.1
                  rw [← this]; exact hc'.2
                · have f4 := Fut.set (o := .ins C dx' (putF f Z vs')) rl3 e1'
                  exact g3 σ _ mp3 (f1.trans (f2.trans (f3.trans f4))) (rl3.set e1' ⟨C, dx', _, h0, upd_same, (put_ok rv3 q1').fut f4⟩) ((rs2.fut f3).fut f4)
              · exact False.elim g3
            · exact False.elim g3
        · exact False.elim g1
      · exact False.elim g1
    · exact False.elim g1
/-! ### texts' join -/
def strsOf : List MV → Option (List Str)
  | [] => some []
  | .str s :: xs => (strsOf xs).map (s :: ·)
  | _ => none
@[simp] theorem strsOf_map (ss : List Str) : strsOf (ss.map MV.str) = some ss := by
  induction ss with
  | nil => rfl
  | cons s ss ih => simp [strsOf, ih]
theorem strsOf_ok {K : PySem.W.Frag} {mp : Mp} {H : Hp} : ∀ {xs : List MV} {vs : List L2.V} {ss : List Str}, RVs K mp H xs vs → strsOf xs = some ss → vs = ss.map L2.V.str
  | [], _, _, .nil, e => by simp [strsOf] at e; subst e; rfl
  | x :: xs, _, ss, .cons r t, e => by
    cases r with
    | str b =>
      simp only [strsOf, Option.map_eq_some_iff] at e
      obtain ⟨cs, e1, rfl⟩ := e
      rw [strsOf_ok t e1]
      rfl
    | _ => simp [strsOf] at e
def joinOk (a : Str) (ss : List Str) : Prop := (ss.map (·.length)).sum + ss.length * a.length ≤ 16777216
instance {a : Str} {ss : List Str} : Decidable (joinOk a ss) := inferInstanceAs (Decidable (_ ≤ _))
def mJoin (x : MV) (xs : List MV) (h : MH) : Res MV := match x, xs with
  | .str a, [y] => (match itemsOf y h with
    | some ys => (match strsOf ys with
      | some ss => if joinOk a ss then .ok (.str (Txt.join a ss)) h else .bad
      | none => .bad)
    | none => .bad)
  | _, _ => .bad
theorem mJoin_noEx : NoExM mJoin := by
  intro x xs h e h' z
  unfold mJoin at z
  repeat' split at z
  all_goals cases z
theorem joinM : MtR X "str.join" (rMM X.K cl mJoin) := by
  intro pins s σ H V Vs v us Q I rx rxs ⟨x, xs, h, mp, rl, r1, r2, g⟩
  unfold mJoin at g
  split at g
  · rename_i a y
    obtain ⟨Y, rfl, ry⟩ := rvs1 r2
    cases r1
    split at g
    · rename_i ys ey
      obtain ⟨p, vs, rfl, hs, q1⟩ := items_ok rl ry ey
      split at g
      · rename_i ss es
        have := strsOf_ok q1 es
        subst this
        split at g
        · rename_i hz
          exact mt_join pins s σ H _ _ v us Q I rx rxs ⟨a, p, ss, rfl, rfl, hs.imp (fun z => z.1) (fun z => z.1), hz, g _ H mp .refl rl (.str _)⟩
        · exact False.elim g
      · exact False.elim g
    · exact False.elim g
  · exact False.elim g
/-! ### {k: v, ..} -/
def pairsM : List (ME × ME) → MS → MH → Res (List (MV × MV))
  | [], _, h => .ok [] h
  | (mk, mv) :: r, ρ, h => (mk ρ h).bind fun x h1 => (mv ρ h1).bind fun y h2 => (pairsM r ρ h2).bind fun ps h3 => .ok ((x, y) :: ps) h3
@[simp] theorem pairsM_nil (ρ : MS) (h : MH) : pairsM [] ρ h = .ok [] h := rfl
@[simp] theorem pairsM_cons (mk mv : ME) (r : List (ME × ME)) (ρ : MS) (h : MH) : pairsM ((mk, mv) :: r) ρ h = (mk ρ h).bind fun x h1 => (mv ρ h1).bind fun y h2 => (pairsM r ρ h2).bind fun ps h3 => .ok ((x, y) :: ps) h3 := rfl
def keyed : List (MV × MV) → Option (List (Key × MV))
  | [] => some []
  | (x, y) :: r => match keyOf x, keyed r with | some k, some kvs => some ((k, y) :: kvs) | _, _ => none
def putDM (kvs : List (Key × MV)) (k : Key) (v : MV) : List (Key × MV) := if (kvs.any fun kv => decide (kv.1 = k)) = true then kvs.map (fun kv => if kv.1 = k then (kv.1, v) else kv) else kvs ++ [(k, v)]
def mergeM (kvs more : List (Key × MV)) : List (Key × MV) := more.foldl (fun acc kv => putDM acc kv.1 kv.2) kvs
@[simp] def eDisp (prs : List (ME × ME)) : ME := fun ρ h => (pairsM prs ρ h).bind fun ps h1 => match keyed ps with
  | some kvs => if kvs.length ≤ 15 then .ok (.ref h1.length) (h1 ++ [.dct (mergeM [] kvs)]) else .bad
  | none => .bad
def RPs (K : PySem.W.Frag) (mp : Mp) (H : Hp) (ps : List (MV × MV)) (vs : List (L2.V × L2.V)) : Prop := RVs K mp H (ps.map (·.1)) (vs.map (·.1)) ∧ RVs K mp H (ps.map (·.2)) (vs.map (·.2))
theorem putK_ok {K : PySem.W.Frag} {mp : Mp} {H : Hp} {k : Key} {x : MV} {v : L2.V} (q : RV K mp H x v) {fs : List (Key × MV)} {vs : List (Key × L2.V)} (r : RFs K mp H fs vs) : RFs K mp H (putDM fs k x) (putK vs k v) := by
  have any : ∀ {fs : List (Key × MV)} {vs : List (Key × L2.V)}, RFs K mp H fs vs → (fs.any fun kv => decide (kv.1 = k)) = vs.any fun kv => decide (kv.1 = k) := by
    intro fs vs r
    have h1 : (fs.any fun kv => decide (kv.1 = k)) = (fs.map (·.1)).any fun z => decide (z = k) := by rw [List.any_map]; rfl
    have h2 : (vs.any fun kv => decide (kv.1 = k)) = (vs.map (·.1)).any fun z => decide (z = k) := by rw [List.any_map]; rfl
    rw [h1, h2, r.1]
  have all : ∀ {fs : List (Key × MV)} {vs : List (Key × L2.V)}, RFs K mp H fs vs → RFs K mp H (fs.map fun kv => if kv.1 = k then (kv.1, x) else kv) (vs.map fun kv => if kv.1 = k then (kv.1, v) else kv) := by
    intro fs
    induction fs with
    | nil =>
      intro vs r
      have : vs = [] := by have := r.1; cases vs with | nil => rfl | cons _ _ => simp at this
      subst this
      exact ⟨rfl, .nil⟩
    | cons a fs ih =>
      intro vs r
      cases vs with
      | nil => have := r.1; simp at this
      | cons w vs =>
        obtain ⟨k1, y⟩ := a
        obtain ⟨k2, w⟩ := w
        obtain ⟨e, t⟩ := r
        simp only [List.map_cons, List.cons.injEq] at e t
        obtain ⟨rfl, e⟩ := e
        cases t with
        | cons t1 t2 =>
          obtain ⟨i1, i2⟩ := ih (vs := vs) ⟨e, t2⟩
          by_cases hk : k1 = k
          · exact ⟨by simp only [List.map_cons, hk, if_true, i1], by simp only [List.map_cons, hk, if_true]; exact .cons q i2⟩
          · exact ⟨by simp only [List.map_cons, hk, if_false, i1], by simp only [List.map_cons, hk, if_false]; exact .cons t1 i2⟩
  unfold putDM putK
  rw [any r]
  split
  · exact all r
  · exact ⟨by simp [r.1], by simp only [List.map_append, List.map_cons, List.map_nil]; exact r.2.append (.cons q .nil)⟩
theorem merge_ok {K : PySem.W.Frag} {mp : Mp} {H : Hp} : ∀ {more : List (Key × MV)} {mv : List (Key × L2.V)} {fs : List (Key × MV)} {vs : List (Key × L2.V)}, RFs K mp H more mv → RFs K mp H fs vs → RFs K mp H (mergeM fs more) (mergeK vs mv)
  | [], mv, fs, vs, r, q => by
    have : mv = [] := by have := r.1; cases mv with | nil => rfl | cons _ _ => simp at this
    subst this
    exact q
  | (k1, y) :: more, mv, fs, vs, r, q => by
    cases mv with
    | nil => have := r.1; simp at this
    | cons w mv =>
      obtain ⟨k2, w⟩ := w
      obtain ⟨e, t⟩ := r
      simp only [List.map_cons, List.cons.injEq] at e t
      obtain ⟨rfl, e⟩ := e
      cases t with
      | cons t1 t2 => exact merge_ok (more := more) (mv := mv) ⟨e, t2⟩ (putK_ok t1 q)
theorem keyed_ok {K : PySem.W.Frag} {mp : Mp} {H : Hp} : ∀ {ps : List (MV × MV)} {vs : List (L2.V × L2.V)} {kvs : List (Key × MV)}, RPs K mp H ps vs → keyed ps = some kvs → ∃ ws : List (Key × L2.V), vs = ws.map (fun kv => (kV kv.1, kv.2)) ∧ RFs K mp H kvs ws
  | [], vs, kvs, r, e => by
    have : vs = [] := by have := r.1.length; cases vs with | nil => rfl | cons _ _ => simp at this
    subst this
    have := Option.some.inj e
    subst this
    exact ⟨[], rfl, rfl, .nil⟩
  | (x, y) :: ps, vs, kvs, r, e => by
    cases vs with
    | nil => have := r.1.length; simp at this
    | cons v vs =>
      obtain ⟨v1, v2⟩ := v
      unfold keyed at e
      split at e
      · rename_i k kvs' ek ekv
        have := Option.some.inj e
        subst this
        obtain ⟨r1, r2⟩ := r
        cases r1 with
        | cons a1 t1 =>
          cases r2 with
          | cons a2 t2 =>
            obtain ⟨ws, e1, e2⟩ := keyed_ok (ps := ps) (vs := vs) ⟨t1, t2⟩ ekv
            have := keyOf_ok a1 ek
            subst this
            subst e1
            exact ⟨(k, v2) :: ws, rfl, by simp [e2.1], .cons a2 e2.2⟩
      · cases e
theorem tPairs_of : ∀ {prs : List (ME × ME)} {ρ : MS} {h : MH} {mp : Mp} {σ : L2.St} {H : Hp} {R : List (L2.V × L2.V) → Hp → Prop} {β : Type} {Q1 : β → MH → Prop} {E1 : MV → MH → Prop} {fn : List (MV × MV) → MH → Res β}, Rl X.K cl mp h H → RS X.K mp H ρ σ →
    Good ((pairsM prs ρ h).bind fn) Q1 E1 → (∀ e h', E1 e h' → EW X.K cl mp H W σ e h') →
    (∀ ps h1 vs H1 mp1, Fut X.K mp mp1 H H1 → Rl X.K cl mp1 h1 H1 → RPs X.K mp1 H1 ps vs → Good (fn ps h1) Q1 E1 → R vs H1) → tPairs (prs.map fun pr => (tM X.K cl W pr.1, tM X.K cl W pr.2)) σ H R
  | [], ρ, h, mp, σ, H, R, β, Q1, E1, fn, rl, rs, g, hE, k => k [] h [] H mp .refl rl ⟨.nil, .nil⟩ g
  | (mk, mv) :: prs, ρ, h, mp, σ, H, R, β, Q1, E1, fn, rl, rs, g, hE, k => by
    show tM X.K cl W mk σ H _
    have g' : Good ((mk ρ h).bind fun x h1 => (mv ρ h1).bind fun y h2 => (pairsM prs ρ h2).bind fun ps h3 => fn ((x, y) :: ps) h3) Q1 E1 := by
      have as : ∀ {α β γ : Type} (r : Res α) (f : α → MH → Res β) (g : β → MH → Res γ), (r.bind f).bind g = r.bind fun a h => (f a h).bind g := fun r f g => by cases r <;> rfl
      rw [pairsM_cons, as] at g
      simpa only [as, Res.bind_ok] using g
    refine tM_bind rl rs g' hE fun x h1 V H1 mp1 f1 rl1 rs1 rv1 g1 => tM_bind rl1 rs1 g1 (fun e h' q => (hE e h' q).fut f1) fun y h2 Y H2 mp2 f2 rl2 rs2 rv2 g2 => ?_
    refine tPairs_of (prs := prs) (fn := fun ps h3 => fn ((x, y) :: ps) h3) rl2 rs2 g2 (fun e h' q => (hE e h' q).fut (f1.trans f2)) fun ps h3 vs H3 mp3 f3 rl3 rp g3 => ?_
    exact k ((x, y) :: ps) h3 ((V, Y) :: vs) H3 mp3 (f1.trans (f2.trans f3)) rl3 ⟨.cons (rv1.fut (f2.trans f3)) rp.1, .cons (rv2.fut f3) rp.2⟩ g3
/-- what is no cell is written -/
theorem tmpD {K : PySem.W.Frag} {mp0 mp : Mp} {H0 H : Hp} {h : MH} {D : Addr} {u u' : List (Key × L2.V)} (rl : Rl K cl mp h H) (f : Fut K mp0 mp H0 H) (h0 : H0 D = none) (hD : H D = some (.dK u)) (np : ∀ n, mp n ≠ some D) :
    Fu K mp mp H (upd H D (.dK u')) ∧ Rl K cl mp h (upd H D (.dK u')) ∧ Fut K mp0 mp H0 (upd H D (.dK u')) := by
  have fu : Fu K mp mp H (upd H D (.dK u')) := ⟨fun _ _ h => h, TpA.set (fun xs q => by
    rcases q with q | ⟨o, q⟩ <;> rw [hD] at q <;> cases q), fun a xs t => by
    rcases t with ⟨u, t⟩ | t
    · refine .inl ⟨u, ?_⟩
      rw [upd_ne]
      · exact t
      · intro z; subst z; rw [hD] at t; cases t
    · exact .inr t⟩
  refine ⟨fu, ⟨rl.dom, rl.has, rl.inj, fun n o a e q => (rl.obj n o a e q).fu fu (upd_ne fun z => np n (by rw [← z]; exact q))⟩, ⟨f.le, fun a xs t => fu.tt a xs (f.tt a xs t), fun a xs t => fu.sf a xs (f.sf a xs t), fun a o e n => ?_⟩⟩
  obtain ⟨h1, h2⟩ := f.fr a o e n
  exact ⟨by rw [upd_ne (ne_of_none e h0)]; exact h1, h2⟩
theorem se_disp {prs : List (ME × ME)} {keys : List (Option Expr)} {values : List Expr} (hp : PPs X pos keys values (prs.map fun pr => (tM X.K cl W pr.1, tM X.K cl W pr.2))) (hall : keys.all (·.isSome) = true) (hl : keys.length = values.length) (h0 : keys ≠ [])
    (h15 : keys.length ≤ 15) : SE X cl W (.Dict keys values pos) (eDisp prs) := peW (pe_disp hp hall hl h0 h15) fun σ H Q ⟨ρ, h, mp, rl, rs, g⟩ p hp => by
  have f0 : Fut X.K mp mp H (upd H p (.dK [])) := Fut.new hp
  have rl0 := rl.new (o := .dK []) hp
  refine tPairs_of rl0 (rs.fut f0) g (fun e h' q => q.fut f0) fun ps h1 vs H1 mp1 f1 rl1 rp g1 => ?_
  obtain ⟨hD, np⟩ := f1.fr p _ upd_same (rl.np hp)
  refine ⟨hD, ?_⟩
  split at g1
  · rename_i kvs ek
    obtain ⟨ws, e1, e2⟩ := keyed_ok rp ek
    split at g1
    · rename_i hz
      have hlen : kvs.length = ws.length := by simpa using congrArg List.length e2.1
      obtain ⟨fu, rl2, f2⟩ := tmpD (u' := mergeK [] ws) rl1 (f0.trans f1) hp hD np
      refine ⟨ws, e1, by rw [← hlen]; exact hz, ?_⟩
      have mo := merge_ok (fs := []) (vs := []) e2 ⟨rfl, .nil⟩
      exact g1 _ _ (Mp.put mp1 h1.length p) (f2.toCell rl2 hp) (rl2.toCell np ⟨_, upd_same, mo.1, mo.2.fu fu⟩) (.ref Mp.put_same)
    · exact False.elim g1
  · exact False.elim g1
/-! ### d.get(k), d.get(k, x) -/
def dctAt (x : MV) (h : MH) : Option (List (Key × MV)) := match x with | .ref n => (match h[n]? with | some (.dct kvs) => some kvs | _ => none) | _ => none
theorem dctAt_ok {K : PySem.W.Frag} {mp : Mp} {h : MH} {H : Hp} {x : MV} {V : L2.V} {kvs : List (Key × MV)} (rl : Rl K cl mp h H) (r : RV K mp H x V) (e : dctAt x h = some kvs) : ∃ n a vs, x = .ref n ∧ mp n = some a ∧ V = .ref a ∧ H a = some (.dK vs) ∧ RFs K mp H kvs vs := by
  cases r with
  | @ref n a e1 =>
    unfold dctAt at e
    dsimp only at e
    split at e
    · rename_i kvs' cc
      have := Option.some.inj e
      subst this
      obtain ⟨vs, h1, q1⟩ := rl.obj n _ a cc e1
      exact ⟨n, a, vs, rfl, e1, rfl, h1, q1⟩
    · cases e
  | _ => cases e
@[simp] def eGet1 (mo m : ME) : ME := fun ρ h => (mo ρ h).bind fun x h1 => if (dctAt x h1).isSome = true then (m ρ h1).bind fun y h2 => match dctAt x h2, keyOf y with
  | some kvs, some k => .ok ((valM kvs k).getD .non) h2
  | _, _ => .bad
  else .bad
@[simp] def eGet2 (mo m m2 : ME) : ME := fun ρ h => (mo ρ h).bind fun x h1 => if (dctAt x h1).isSome = true then (m ρ h1).bind fun y h2 => (m2 ρ h2).bind fun z h3 => match dctAt x h3, keyOf y with
  | some kvs, some k => .ok ((valM kvs k).getD z) h3
  | _, _ => .bad
  else .bad
theorem getD_ok {K : PySem.W.Frag} {mp : Mp} {H : Hp} {k : Key} {fs : List (Key × MV)} {vs : List (Key × L2.V)} {z : MV} {Z : L2.V} (r : RFs K mp H fs vs) (rz : RV K mp H z Z) : RV K mp H ((valM fs k).getD z) ((valV vs k).getD Z) := by
  rcases val_ok (k := k) r with ⟨z1, z2⟩ | ⟨y, w, z1, z2, z3⟩
  · rw [z1, z2]; exact rz
  · rw [z1, z2]; exact z3
theorem se_get1 (hr : Room k X.A) (ho : SE X cl W o mo) (he : SE X cl W e m) (mm : M1 X o "get" apos e cpos) : SE X cl W (.Call (.Attribute o "get" apos) [e] [] cpos) (eGet1 mo m) :=
  peW (pe_dget1 (hu_of hr) ho he mm) fun σ H Q ⟨ρ, h, mp, rl, rs, g⟩ => tM_bind rl rs g (fun _ _ z => z) fun x h1 V H1 mp1 f1 rl1 rs1 rv1 g1 => by
    split at g1
    · rename_i hs
      obtain ⟨kvs, ek⟩ := Option.isSome_iff_exists.mp hs
      obtain ⟨n, a, vs, rfl, e1, rfl, hA, q1⟩ := dctAt_ok rl1 rv1 ek
      refine ⟨a, rfl, .inl ⟨vs, .inl hA⟩, tM_bind rl1 rs1 g1 (fun _ _ z => z.fut f1) fun y h2 Y H2 mp2 f2 rl2 rs2 rv2 g2 => ?_⟩
      split at g2
      · rename_i kvs' k ek' hk
        obtain ⟨n', a', vs', ex, e1', ea, hA', q1'⟩ := dctAt_ok rl2 (rv1.fut f2) ek'
        cases ea
        have := keyOf_ok rv2 hk
        subst this
        exact ⟨_, DGet.k hA', g2 _ H2 mp2 (f1.trans f2) rl2 (getD_ok q1' .non)⟩
      · exact False.elim g2
    · exact False.elim g1
theorem se_get2 {e2 : Expr} {m2 : ME} (hr : Room k X.A) (ho : SE X cl W o mo) (he : SE X cl W e m) (he2 : SE X cl W e2 m2) (mm : M2 X o "get" apos e e2 cpos) : SE X cl W (.Call (.Attribute o "get" apos) [e, e2] [] cpos) (eGet2 mo m m2) :=
  peW (pe_dget2 (hu_of hr) ho he he2 mm) fun σ H Q ⟨ρ, h, mp, rl, rs, g⟩ => tM_bind rl rs g (fun _ _ z => z) fun x h1 V H1 mp1 f1 rl1 rs1 rv1 g1 => by
    split at g1
    · rename_i hs
      obtain ⟨kvs, ek⟩ := Option.isSome_iff_exists.mp hs
      obtain ⟨n, a, vs, rfl, e1, rfl, hA, q1⟩ := dctAt_ok rl1 rv1 ek
      refine ⟨a, rfl, .inl ⟨vs, .inl hA⟩, tM_bind rl1 rs1 g1 (fun _ _ z => z.fut f1) fun y h2 Y H2 mp2 f2 rl2 rs2 rv2 g2 => tM_bind rl2 rs2 g2 (fun _ _ z => z.fut (f1.trans f2)) fun z h3 Z H3 mp3 f3 rl3 rs3 rv3 g3 => ?_⟩
      split at g3
      · rename_i kvs' k ek' hk
        obtain ⟨n', a', vs', ex, e1', ea, hA', q1'⟩ := dctAt_ok rl3 (rv1.fut (f2.trans f3)) ek'
        cases ea
        have := keyOf_ok rv2 hk
        subst this
        exact ⟨_, DGet.k hA', g3 _ H3 mp3 (f1.trans (f2.trans f3)) rl3 (getD_ok q1' rv3)⟩
      · exact False.elim g3
    · exact False.elim g1
end
end Sm

set_option Elab.async false
set_option linter.all false
set_option maxRecDepth 100000
set_option maxHeartbeats 4000000
/-! more words: enumerate of a text, split, lower, partition -/
namespace Sm
open PySem L2 PyProof.Rows
/-- the signs of a text with their numbers, in new pairs -/
def Ites (z : Str) : It :=
  ⟨fun i _ => ∃ c, z.cps[i]? = some c,
   fun i H v H' => ∃ T c, v = .ref T ∧ H T = none ∧ z.cps[i]? = some c ∧ H' = upd H T (.tup [.int (i : Nat), .str ⟨#[c]⟩]),
   fun i _ => z.cps.size ≤ i⟩
def enStr (z : Str) (t : Tok) (q r : Addr) : Nat → Heap → Prop := fun k g => (∃ was, IsEnum g q r ((k : Nat) : Int) was) ∧ (q ≠ r ∧ k ≤ z.cps.size ∧ g.IsStrIter r (strIterType z) z t k)
theorem turn_enS {P : Program} {w : World} {K : PySem.W.Frag} {elts : List Expr} {kk : Nat} {tpos : Pos} {z : Str} {t : Tok} {q r : Addr} : Turn P w K (.Tuple elts kk tpos) (Ites z) [q, r] q (enStr z t q r) where
  mem := .head _
  obj := by
    rintro k g ⟨⟨was, e1⟩, ne, -, ⟨ob, e2, -, e3⟩⟩ c hc
    rcases List.mem_cons.mp hc with rfl | hc
    · exact ⟨_, e1, fun v => by intro y; cases y⟩
    · obtain rfl := List.mem_singleton.mp hc
      exact ⟨ob, e2, fun v y => by rw [e3] at y; cases y⟩
  keep := by
    rintro k g g' ⟨⟨was, e1⟩, ne, le, ⟨ob, e2, e3⟩⟩ kp
    exact ⟨⟨was, kp q (.head _) _ e1⟩, ne, le, ⟨ob, kp r (.tail _ (.head _)) ob e2, e3⟩⟩
  item := by
    intro X e1 e2 e3 calm k pins s σ H E I free st go
    subst e1; subst e2; subst e3
    obtain ⟨⟨was, en⟩, ne, -, si⟩ := st
    obtain ⟨c, hc⟩ := go
    have lq := Heap.lt_size en
    have lr : r < s.heap.objs.size := by
      obtain ⟨ob, y, -⟩ := si
      exact Heap.lt_size y
    have D : Draws X.prog X.w X.A.in1 r [r] z.cps.size (fun i v => ∃ c u, z.cps[i]? = some c ∧ v = .str ⟨#[c]⟩ u) (fun i h => h.IsStrIter r (strIterType z) z t i) := Draws.text (show X.A.in1.handled = none from I.ok.hd calm) r z t
    have kz : k < z.cps.size := (Array.getElem?_eq_some_iff.mp hc).1
    refine wpAny_pyNext_enum_itemD D en si kz ne (by simpa using ne) ?_
    rintro v g tk ⟨c', u, hc', rfl⟩ out si' tup - kp
    rw [hc] at hc'
    obtain rfl := Option.some.inj hc'
    refine ⟨_, rfl, ?_⟩
    refine wpAny_letOwnedTupleGo_enum (s := { s with heap := g, toks := tk + 1 }) out ?_
    intro g2 en2 sb
    have nq : s.heap.objs.size ≠ q := fun y => Nat.lt_irrefl _ (y ▸ lq)
    have tup2 := (sb.2 _ nq).trans tup
    have fresh := I.hok.fresh (Nat.le_refl s.heap.objs.size)
    have okT : ObjOk X.prog X.w (upd H s.heap.objs.size (.tup [.int (k : Nat), .str ⟨#[c]⟩])) g2 s.heap.objs.size (.tup [.int (k : Nat), .str ⟨#[c]⟩]) := by
      refine ⟨by show 2 ≤ sizeLine; decide, [.int k tk, .str ⟨#[c]⟩ u], ?_, ⟨_, tup2, rfl, _, rfl⟩⟩
      exact .cons ⟨tk, rfl⟩ (.cons ⟨u, rfl⟩ .nil)
    have J : Inv X pins σ (upd H s.heap.objs.size (.tup [.int (k : Nat), .str ⟨#[c]⟩])) { s with heap := g2, toks := tk + 1 } := by
      refine I.turnedNew (ch := [q, r]) ?_ free (Nat.le_refl _) okT
      intro b ob hb y
      have b1 : b ≠ q := fun y => hb (by rw [y]; exact .head _)
      have b2 : b ≠ r := fun y => hb (by rw [y]; exact .tail _ (.head _))
      exact (sb.2 b b1).trans (kp b ob b1 b2 y)
    have en3 := en2
    rw [show (k : Int) + 1 = ((k + 1 : Nat) : Int) from by push_cast; rfl] at en3
    refine ⟨.ref s.heap.objs.size, _, J, rfl, ⟨_, c, rfl, fresh, hc, rfl⟩, ⟨⟨_, en3⟩, ne, kz, ?_⟩, ?_⟩
    · obtain ⟨ob, e2, e3⟩ := si'
      exact ⟨ob, (sb.2 r ne.symm).trans e2, e3⟩
    · intro b hb
      have hb0 := hb
      have nb : b ≠ s.heap.objs.size := by
        rcases List.mem_cons.mp hb with rfl | hb
        · exact Nat.ne_of_lt lq
        · obtain rfl := List.mem_singleton.mp hb
          exact Nat.ne_of_lt lr
      rw [upd_ne nb]
      exact (free b hb0).1
  done := by
    intro X e1 e2 e3 calm k pins s σ H E I free st stop
    subst e1; subst e2; subst e3
    obtain ⟨⟨was, en⟩, ne, le, si⟩ := st
    have D : Draws X.prog X.w X.A.in1 r [r] z.cps.size (fun i v => ∃ c u, z.cps[i]? = some c ∧ v = .str ⟨#[c]⟩ u) (fun i h => h.IsStrIter r (strIterType z) z t i) := Draws.text (show X.A.in1.handled = none from I.ok.hd calm) r z t
    obtain rfl := Nat.le_antisymm le stop
    obtain ⟨g0, g1, -, g3, g4, g5⟩ := free r (.tail _ (.head _))
    exact wpAny_pyNext_enum_endD D en si fun g x => ⟨rfl, I.turned (t' := s.toks) (fun b ob nb y => x b ob nb y) g0 g1 g3 g4 g5⟩
  self := by
    rintro A k s Q E ⟨⟨was, en⟩, -⟩ g
    exact wpAny_pyIter_enum en g
/-- a list, or a text -/
def enOf (K : PySem.W.Frag) (R : It → Hp → Prop) (x : V) (H1 : Hp) : Prop := (∃ a xs, x = .ref a ∧ SqL K H1 a xs ∧ R (Ite K a) H1) ∨ ∃ z, x = .str z ∧ R (Ites z) H1
def enOfL (K : PySem.W.Frag) (R : It → Hp → Prop) : List V → Hp → Prop | [x], H1 => enOf K R x H1 | _, _ => False
def iEn (K : PySem.W.Frag) (te : TE) : TI := fun σ H R => te σ H fun x H1 => enOf K R x H1
section
variable {X : Cx} {cl : Str → Option Addr} {W : Wsh} {a b c e o : Expr} {es elts : List Expr} {ma mb mc m mo : ME} {ms la lb : MA} {pos apos cpos p p2 pos' tpos : Pos} {k kk : Nat} {f : Str}
theorem pi_en {te : TE} (hg : Gl X "enumerate") (hm : X.mg "enumerate" = none) (he : PE X e te) (hs : starEach [e] X.env = [(false, eval e X.env)] := by rfl) :
    PI X (.Tuple elts kk tpos) (.Call (.Name "enumerate" p) [e] [] pos) (iEn X.K te) where
  run := by
    intro pins s σ H R I h
    have hA := (pa_cons he pa_nil hs).run pos pins s σ H (enOfL X.K R) I h
    refine Call_ (ld_blt I hg hm boot_enumerate (PyProof.Rows.callWith_type1 (thn hA ?_) hs rfl))
    rintro us s1 ⟨vs, H1, J, rv, q⟩
    cases rv with
    | nil => exact False.elim q
    | cons r rr =>
      cases rr with
      | cons _ _ => exact False.elim q
      | nil =>
        have two : ∀ b, b ∈ [s1.heap.objs.size + 1, s1.heap.objs.size] → s1.heap.objs.size ≤ b := fun b hb => by
          rcases List.mem_cons.mp hb with rfl | hb
          · exact Nat.le_succ _
          · rw [List.mem_singleton.mp hb]; exact Nat.le_refl _
        rcases q with ⟨a, xs, rfl, hq, q⟩ | ⟨z, rfl, q⟩
        · cases r
          obtain ⟨its, rv, pl, -⟩ := J.list hq
          refine call_enumerate_list pl.isList fun g en li _ kp => wpAny_pyIter_enum en ?_
          have J2 := J.kept (t' := s1.toks) kp
          exact ⟨_, _, _, _, H1, rfl, J2, turn_enum a _ _, ⟨⟨_, en⟩, li, Nat.succ_ne_self _⟩, fun b hb => J.fpOk (two b hb) (J.hok.fresh (two b hb)), q⟩
        · obtain ⟨t, rfl⟩ := r
          refine call_enumerate_str fun g en li _ kp => wpAny_pyIter_enum en ?_
          have J2 := J.kept (t' := s1.toks) kp
          exact ⟨_, _, _, _, H1, rfl, J2, turn_enS (z := z) (t := t), ⟨⟨_, en⟩, Nat.succ_ne_self _, Nat.zero_le _, li⟩, fun b hb => J.fpOk (two b hb) (J.hok.fresh (two b hb)), q⟩
theorem jok_enS {K : PySem.W.Frag} {mp0 : Mp} {H0 : Hp} {z : Str} : JOk K cl (Ites z) (enumM (signs z)) [] mp0 H0 where
  step := fun i x mp h H f rl g e => by
    obtain ⟨y, e0, rfl⟩ := enumM_get e
    unfold signs at e0
    rw [List.getElem?_map, Option.map_eq_some_iff] at e0
    obtain ⟨c, e1, rfl⟩ := e0
    have e2 : z.cps[i]? = some c := by rw [← Array.getElem?_toList]; exact e1
    refine ⟨⟨c, e2⟩, fun V H' ⟨T, c', e3, hT, e4, e5⟩ => ?_⟩
    subst e3 e5
    rw [e2] at e4
    obtain rfl := Option.some.inj e4
    exact ⟨Fut.new hT, rl.new hT, .tup (SqT.of upd_same) (.cons (.int _) (.cons (.str _) .nil))⟩
  stop := fun i mp h H f rl g l => by
    have : z.cps.size ≤ i := by simpa [enumM, signs] using l
    exact this
/-- of a list or a text -/
def enR (o : Option MO) (n : Nat) (h : MH) : Res (List MV × Gs) := match o with | some (.lst xs) => .ok (enumM xs, [(n, xs)]) h | _ => .bad
@[simp] def iEnumA (m : ME) : MI := fun ρ h => (m ρ h).bind fun x h1 => match x with
  | .ref n => enR h1[n]? n h1
  | .str z => .ok (enumM (signs z), []) h1
  | _ => .bad
theorem si_enumA (hg : Gl X "enumerate") (hm : X.mg "enumerate" = none) (he : SE X cl W e m) (hs : starEach [e] X.env = [(false, eval e X.env)] := by rfl) : SI X cl W (.Tuple elts kk tpos) (.Call (.Name "enumerate" p) [e] [] pos) (iEnumA m) :=
  piW (pi_en hg hm he hs) fun σ H R ⟨ρ, h, mp, rl, rs, g⟩ => tM_bind rl rs g (fun _ _ z => z) fun x h1 V H1 mp1 f1 rl1 rs1 rv1 g1 => by
    cases rv1 with
    | @ref n a e1 =>
      dsimp only at g1
      unfold enR at g1
      split at g1
      · rename_i xs cc
        obtain ⟨vs, h2, q2⟩ := rl1.obj n _ a cc e1
        exact .inl ⟨a, vs, rfl, SqL.of h2, g1 _ H1 mp1 f1 rl1 (jok_enum (cell_list e1))⟩
      · exact False.elim g1
    | str z => exact .inr ⟨z, rfl, g1 _ H1 mp1 f1 rl1 jok_enS⟩
    | _ => exact False.elim g1
/-! ### texts' methods -/
def mSplit (x : MV) (xs : List MV) (h : MH) : Res MV := match x, xs with
  | .str a, [.str b] => if (b.length == 0) = false ∧ a.length ≤ 999998 then .ok (.ref h.length) (h ++ [.lst ((Txt.split a b).map MV.str)]) else .bad
  | _, _ => .bad
theorem mSplit_noEx : NoExM mSplit := by
  intro x xs h e h' z
  unfold mSplit at z
  repeat' split at z
  all_goals cases z
theorem rvs_strs {K : PySem.W.Frag} {mp : Mp} {H : Hp} : ∀ ys : List Str, RVs K mp H (ys.map MV.str) (ys.map L2.V.str)
  | [] => .nil
  | y :: ys => .cons (.str y) (rvs_strs ys)
theorem line2 {n : Nat} (h : n ≤ 999998) : n + 2 ≤ sizeLine := Nat.le_trans (by omega : n + 2 ≤ 1000000) (by decide)
theorem splitM : MtR X "str.split" (rMM X.K cl mSplit) := by
  intro pins s σ H V Vs v us Q I rx rxs ⟨x, xs, h, mp, rl, r1, r2, g⟩
  unfold mSplit at g
  split at g
  · rename_i a b
    obtain ⟨Y, rfl, ry⟩ := rvs1 r2
    cases r1
    cases ry
    split at g
    · rename_i hz
      refine mt_split pins s σ H _ _ v us Q I rx rxs ⟨a, b, rfl, rfl, hz.1, line2 hz.2, fun p hp => ?_⟩
      obtain ⟨f1, rl1⟩ := newCell (xs := (Txt.split a b).map MV.str) rl hp (rvs_strs _)
      exact g _ _ _ f1 rl1 (.ref Mp.put_same)
    · exact False.elim g
  · exact False.elim g
def mLower (x : MV) (xs : List MV) (h : MH) : Res MV := match x, xs with
  | .str a, [] => if a.length ≤ 1000000 then .ok (.str (Txt.lower a)) h else .bad
  | _, _ => .bad
theorem mLower_noEx : NoExM mLower := by
  intro x xs h e h' z
  unfold mLower at z
  repeat' split at z
  all_goals cases z
theorem lowerM : MtR X "str.lower" (rMM X.K cl mLower) := by
  intro pins s σ H V Vs v us Q I rx rxs ⟨x, xs, h, mp, rl, r1, r2, g⟩
  unfold mLower at g
  split at g
  · cases r2
    cases r1
    split at g
    · rename_i hz
      exact mt_lower pins s σ H _ _ v us Q I rx rxs ⟨_, rfl, rfl, by omega, g _ H mp .refl rl (.str _)⟩
    · exact False.elim g
  · exact False.elim g
def mPartition (x : MV) (xs : List MV) (h : MH) : Res MV := match x, xs with
  | .str a, [.str b] => if (b.length == 0) = false ∧ a.length ≤ 1000000 then .ok (.tup [.str (Txt.partition a b).1, .str (Txt.partition a b).2.1, .str (Txt.partition a b).2.2]) h else .bad
  | _, _ => .bad
theorem mPartition_noEx : NoExM mPartition := by
  intro x xs h e h' z
  unfold mPartition at z
  repeat' split at z
  all_goals cases z
theorem partitionM : MtR X "str.partition" (rMM X.K cl mPartition) := by
  intro pins s σ H V Vs v us Q I rx rxs ⟨x, xs, h, mp, rl, r1, r2, g⟩
  unfold mPartition at g
  split at g
  · rename_i a b
    obtain ⟨Y, rfl, ry⟩ := rvs1 r2
    cases r1
    cases ry
    split at g
    · rename_i hz
      refine mt_partition pins s σ H _ _ v us Q I rx rxs ⟨a, b, rfl, rfl, hz.1, Nat.le_trans hz.2 (by decide), fun p hp => ?_⟩
      exact g _ _ mp (Fut.new hp) (rl.new hp) (.tup (SqT.of upd_same) (.cons (.str _) (.cons (.str _) (.cons (.str _) .nil))))
    · exact False.elim g
  · exact False.elim g
end
end Sm

set_option Elab.async false
set_option linter.all false
set_option maxRecDepth 100000
set_option maxHeartbeats 4000000
/-! more stores: a list's or dict's item, o.f in a row of targets; int of a text -/
namespace Sm
open PySem L2
/-- .. = v , by mirrors -/
abbrev MG := MV → MSt
def gVar (i : Nat) : MG := fun x ρ h => .nx (ρ.set i (some x)) h
def setR (o : Option MH) (ρ : MS) : SRes := match o with | some h => .nx ρ h | none => .bad
def gFld (cs : List Str) (f : Str) (mo : ME) : MG := fun y ρ h => (mo ρ h).st ρ fun x h1 => setR (mSetF cs f x y h1) ρ
def setIO (o : Option MO) (n : Nat) (i y : MV) (h : MH) : Option MH := match o with
  | some (.lst xs) => (match i with | .int k => (ixN xs.length k).map fun j => h.set n (.lst (xs.set j y)) | _ => none)
  | some (.dct kvs) => (match keyOf i with | some k => if kvs.length < 1000000 then some (h.set n (.dct (putDM kvs k y))) else none | none => none)
  | _ => none
def mSetJ (x i y : MV) (h : MH) : Option MH := match x with | .ref n => setIO h[n]? n i y h | _ => none
def gIt (mo mi : ME) : MG := fun y ρ h => (mo ρ h).st ρ fun x h1 => (mi ρ h1).st ρ fun i h2 => setR (mSetJ x i y h2) ρ
def gAll : List MG → List MV → MSt
  | [], [] => fun ρ h => .nx ρ h
  | g :: gs, x :: xs => fun ρ h => match g x ρ h with | .nx ρ1 h1 => gAll gs xs ρ1 h1 | .ex e ρ1 h1 => .ex e ρ1 h1 | _ => .bad
  | _, _ => fun _ _ => .bad
def gMany (gs : List MG) : MG := fun x ρ h => match x with | .tup xs => if xs.length = gs.length then gAll gs xs ρ h else .bad | _ => .bad
def onlyN (r : SRes) : SRes := match r with | .nx ρ h => .nx ρ h | .ex e ρ h => .ex e ρ h | _ => .bad
def sAsg (g : MG) (m : ME) : MSt := fun ρ h => (m ρ h).st ρ fun x h1 => onlyN (g x ρ h1)
section
variable (K : PySem.W.Frag) (cl : Str → Option Addr) (W : Wsh)
def eG (Q : L2.St → Hp → Prop) : Ends := { nx := Q, rt := fun _ _ => False }
def tMG (g : MG) : TG := fun V σ H Q => ∃ x ρ h mp, Rl K cl mp h H ∧ RS K mp H ρ σ ∧ RV K mp H x V ∧ SGood (g x ρ h) (wD K cl mp H W (eG Q))
def tMGs (gs : List MG) : TGs := fun Vs σ H Q => ∃ xs ρ h mp, Rl K cl mp h H ∧ RS K mp H ρ σ ∧ RVs K mp H xs Vs ∧ SGood (gAll gs xs ρ h) (wD K cl mp H W (eG Q))
end
abbrev SG (X : Cx) (cl : Str → Option Addr) (W : Wsh) (e : Expr) (g : MG) : Prop := PG X e (tMG X.K cl W g)
abbrev SGs (X : Cx) (cl : Str → Option Addr) (W : Wsh) (es : List Expr) (gs : List MG) : Prop := PGs X es (tMGs X.K cl W gs)
theorem pgW {X : Cx} {e : Expr} {t t' : TG} (h : PG X e t) (w : ∀ V σ H Q, t' V σ H Q → t V σ H Q) : PG X e t' := ⟨fun pins s σ H v u Q I r q => h.run pins s σ H v u Q I r (w v σ H Q q)⟩
theorem pgsW {X : Cx} {e : List Expr} {t t' : TGs} (h : PGs X e t) (w : ∀ V σ H Q, t' V σ H Q → t V σ H Q) : PGs X e t' := ⟨fun pins s σ H v u Q I r q => h.run pins s σ H v u Q I r (w v σ H Q q)⟩
section
variable {X : Cx} {cl : Str → Option Addr} {W : Wsh} {a b c e o i tg : Expr} {es : List Expr} {ma mb m mo mi : ME} {pos pos' p p2 : Pos} {k : Nat} {f : Str} {g : MG} {gs : List MG}
theorem sg_var {i : Nat} {e : Expr} (h : PG X e (gName i)) : SG X cl W e (gVar i) := pgW h fun V σ H Q ⟨x, ρ, h, mp, rl, rs, rv, g⟩ => g _ H mp .refl rl (rs.set rv)
/-- o.f = .., as a target -/
def gFldH (K : PySem.W.Frag) (to : TE) (f : Str) : TG := fun V σ H Q => to σ H fun x H1 => ∃ a C dx fs, x = .ref a ∧ H1 a = some (.ins C dx fs) ∧ Cls K C ∧ NoAttr K C f ∧ fs.length < 1000 ∧ Q σ (upd H1 a (.ins C dx (putF f V fs)))
theorem pg_fldH {to : TE} (ho : PE X o to) : PG X (.Attribute o f pos) (gFldH X.K to f) where
  run := by
    intro pins s σ H v u Q I r h
    refine PySem.W.kas_attr (thn (ho.run pins s σ H _ I h) ?_)
    rintro ov s1 ⟨x, H1, J, rx, a, C, dx, fs, rfl, ea, c, n, l, q⟩
    obtain rfl : ov = Value.ref a := rx
    exact setattr_ok J ea c n l r fun s2 J2 => ⟨σ, _, J2, q⟩
theorem sg_fld {cs : List Str} (hC : FldOk X.K cl cs f) (ho : SE X cl W o mo) : SG X cl W (.Attribute o f pos) (gFld cs f mo) := pgW (pg_fldH ho) fun V σ H Q ⟨y, ρ, h, mp, rl, rs, rv, g⟩ =>
  tM_st rl rs g (fun _ _ q => q.ew rs) fun x h1 Y H1 mp1 f1 rl1 rs1 rv1 g1 => by
    unfold setR at g1
    split at g1
    · rename_i h3 e3
      unfold mSetF at e3
      cases rv1 with
      | @ref n a e1 =>
        dsimp only at e3
        split at e3
        · rename_i c fs cc
          split at e3
          · rename_i hc
            obtain rfl := Option.some.inj e3
            obtain ⟨C, dx, vs, h0, h1', q1⟩ := rl1.obj n _ a cc e1
            obtain ⟨k1, k2⟩ := hC c hc.1 C h0
            refine ⟨a, C, dx, vs, rfl, h1', k1, k2, ?_, ?_⟩
            · have : fs.length = vs.length := by simpa using congrArg List.length q1.1
              rw [← this]; exact hc.2
            · have f3 := Fut.set (o := .ins C dx (putF f V vs)) rl1 e1
              exact g1 σ _ mp1 (f1.trans f3) (rl1.set e1 ⟨C, dx, _, h0, upd_same, (put_ok (rv.fut f1) q1).fut f3⟩) (rs1.fut f3)
          · cases e3
        · cases e3
      | _ => cases e3
    · exact False.elim g1
/-- a list's item or a dict's -/
def rSetB : TSet := fun o i v H Q => rSetL o i v H Q ∨ rSetD o i v H Q
theorem set_both (hu : X.A.units + 1 < cLine) : PSet X rSetB := by
  intro pins s σ H o i v ov iv u Q I ro ri rv h
  rcases h with h | h
  · exact set_list pins s σ H o i v ov iv u Q I ro ri rv h
  · exact set_dict hu pins s σ H o i v ov iv u Q I ro ri rv h
theorem setJ_ok {K : PySem.W.Frag} {mp mp0 : Mp} {h h4 : MH} {H H0 : Hp} {x i y : MV} {V Z Y : L2.V} {ρ : MS} {σ : L2.St} {Q : L2.St → Hp → Prop} (rl : Rl K cl mp h H) (rs : RS K mp H ρ σ) (f0 : Fut K mp0 mp H0 H) (r1 : RV K mp H x V) (r2 : RV K mp H i Z) (r3 : RV K mp H y Y) (e4 : mSetJ x i y h = some h4) (q : QN K cl mp0 H0 Q ρ h4) :
    rSetB V Z Y H fun H3 => Q σ H3 := by
  unfold mSetJ at e4
  cases r1 with
  | @ref n a e1 =>
    dsimp only at e4
    unfold setIO at e4
    split at e4
    · rename_i xs cc
      cases r2 with
      | int k =>
        simp only [Option.map_eq_some_iff] at e4
        obtain ⟨j, e5, rfl⟩ := e4
        obtain ⟨vs, h1', q1⟩ := rl.obj n _ a cc e1
        have f4 := Fut.set (o := .lst (vs.set j Y)) rl e1
        exact .inl ⟨a, vs, k, j, rfl, rfl, h1', by rw [← q1.length]; exact e5, q σ _ mp (f0.trans f4) (rl.set e1 ⟨_, upd_same, (q1.set r3 j).fut f4⟩) (rs.fut f4)⟩
      | _ => cases e4
    · rename_i kvs cc
      split at e4
      · rename_i k ek
        split at e4
        · rename_i lk
          obtain rfl := Option.some.inj e4
          obtain ⟨vs, h1', q1⟩ := rl.obj n _ a cc e1
          have f4 := Fut.set (o := .dK (putK vs k Y)) rl e1
          have lv : vs.length < sizeLine := by
            have : kvs.length = vs.length := by simpa using congrArg List.length q1.1
            rw [← this]; exact szlt lk
          obtain rfl := keyOf_ok r2 ek
          exact .inr ⟨a, _, rfl, DPut.k h1' lv, q σ _ mp (f0.trans f4) (rl.set e1 ⟨_, upd_same, (putK_ok r3 q1).fut f4⟩) (rs.fut f4)⟩
        · cases e4
      · cases e4
    · cases e4
  | _ => cases e4
theorem sg_it (hu : X.A.units + 1 < cLine) (ho : SE X cl W o mo) (hi : SE X cl W i mi) (ha : ∀ v, assign (.Subscript o i pos') X.env v = (do
      let ov ← holding [v] (eval o X.env)
      let iv ← holding [v, ov] (eval i X.env)
      standAt pos'
      holding [v, ov, iv] (setItem ov iv v)
      release [v, ov, iv] []) := by intro _; rfl) : SG X cl W (.Subscript o i pos') (gIt mo mi) := pgW (pg_sub ho hi (set_both hu) ha) fun V σ H Q ⟨y, ρ, h, mp, rl, rs, rv, g⟩ =>
  tM_st rl rs g (fun _ _ q => q.ew rs) fun x h1 Y H1 mp1 f1 rl1 rs1 rv1 g1 => tM_st rl1 rs1 g1 (fun _ _ q => (q.fut f1).ew rs1) fun i h2 Z H2 mp2 f2 rl2 rs2 rv2 g2 => by
    unfold setR at g2
    split at g2
    · rename_i h4 e4
      exact setJ_ok rl2 rs2 (f1.trans f2) (rv1.fut f2) rv2 (rv.fut (f1.trans f2)) e4 g2
    · exact False.elim g2
theorem sgs_nil : SGs X cl W [] [] := pgsW pgs_nil fun Vs σ H Q ⟨xs, ρ, h, mp, rl, rs, rv, g⟩ => by
  cases rv with
  | nil => exact ⟨rfl, g σ H mp .refl rl rs⟩
  | cons _ _ => exact False.elim g
theorem sgs_cons (h1 : SG X cl W e g) (h2 : SGs X cl W es gs) (hs : (assignEach (e :: es) X.env).map (·.2) = assign e X.env :: (assignEach es X.env).map (·.2) := by rfl) : SGs X cl W (e :: es) (g :: gs) := pgsW (pgs_cons h1 h2 hs) fun Vs σ H Q ⟨xs, ρ, h, mp, rl, rs, rv, gg⟩ => by
  cases rv with
  | nil => exact False.elim gg
  | @cons x V xs Vs r t =>
    refine ⟨V, Vs, rfl, x, ρ, h, mp, rl, rs, r, ?_⟩
    unfold gAll at gg
    cases e : g x ρ h with
    | nx ρ1 h1 =>
      rw [e] at gg
      exact fun σ' H' mp' f' rl' rs' => ⟨xs, ρ1, h1, mp', rl', rs', t.fut f', SGood.mono gg (wD.fut f')⟩
    | rt v h1 => rw [e] at gg; exact False.elim gg
    | bk ρ1 h1 => rw [e] at gg; exact False.elim gg
    | ct ρ1 h1 => rw [e] at gg; exact False.elim gg
    | ex v ρ1 h1 => rw [e] at gg; exact gg
    | bad => rw [e] at gg; exact False.elim gg
theorem sg_tup {es : List Expr} {k : Nat} {n : Nat} (hc : X.calm = true) (h : SGs X cl W es gs) (hl : gs.length = n := by rfl)
    (hn : (assignEach es X.env).length = n := by rfl) (hst : (assignEach es X.env).findIdx? (·.1) = none := by rfl) : SG X cl W (.Tuple es k pos) (gMany gs) := pgW (pg_tup hc h hn hst) fun V σ H Q ⟨x, ρ, h, mp, rl, rs, rv, g⟩ => by
  cases rv with
  | @tup xs vs a h1 r =>
    unfold gMany at g
    dsimp only at g
    split at g
    · rename_i e
      exact ⟨a, vs, rfl, h1, by rw [← r.length, e]; exact hl, xs, ρ, h, mp, rl, rs, r, g⟩
    · exact False.elim g
  | _ => exact False.elim g
theorem ss_asg (he : SE X cl W e m) (hg : SG X cl W tg g) (hs : swapsWithSole [tg] e pos.line X.env = pure false := by rfl) (hw : swappedStores [tg] e X.env = pure none := by rfl)
    (h1 : (assignEach [tg] X.env).map (·.2) = [assign tg X.env] := by rfl) : SS X cl W (.Assign [tg] e pos) (sAsg g m) := psW (ps_asg he hg hs hw h1) fun D σ H ⟨ρ, h, mp, rl, rs, gg⟩ =>
  tM_st rl rs gg (fun _ _ q => q.ew rs) fun x h1 V H1 mp1 f1 rl1 rs1 rv1 g1 => by
    refine ⟨x, ρ, h1, mp1, rl1, rs1, rv1, ?_⟩
    unfold onlyN at g1
    cases e : g x ρ h1 with
    | nx ρ1 h2 => rw [e] at g1; exact QN.fut f1 g1
    | rt v h2 => rw [e] at g1; exact False.elim g1
    | bk ρ1 h2 => rw [e] at g1; exact False.elim g1
    | ct ρ1 h2 => rw [e] at g1; exact False.elim g1
    | ex v ρ1 h2 => rw [e] at g1; exact QX.fut f1 g1
    | bad => rw [e] at g1; exact False.elim g1
/-! ### int of a text too -/
def mInt2 (xs : List MV) (h : MH) : Res MV := match xs with
  | [.int i] => .ok (.int i) h | [.bl b] => .ok (.int (if b then 1 else 0)) h
  | [.str a] => (match PySem.intText? a with | some n => if a.length ≤ 640 then .ok (.int n) h else .bad | none => .bad)
  | _ => .bad
theorem mInt2_noEx : NoEx1 mInt2 := by
  intro xs h e h' z
  unfold mInt2 at z
  repeat' split at z
  all_goals cases z
theorem int2M : CallR X (.type "int") (rMC X.K cl mInt2) := by
  intro pins s σ H Vs us Q I r ⟨xs, h, mp, rl, rv, g⟩
  unfold mInt2 at g
  split at g
  · obtain ⟨V, rfl, rx⟩ := rvs1 rv
    cases rx
    exact call_int1 pins s σ H _ us Q I r (.inl ⟨_, rfl, g _ H mp .refl rl (.int _)⟩)
  · obtain ⟨V, rfl, rx⟩ := rvs1 rv
    cases rx
    exact call_int1 pins s σ H _ us Q I r (.inr ⟨_, rfl, g _ H mp .refl rl (.int _)⟩)
  · obtain ⟨V, rfl, rx⟩ := rvs1 rv
    cases rx
    split at g
    · rename_i n en
      split at g
      · rename_i hz
        exact call_int_str pins s σ H _ us Q I r ⟨_, n, rfl, en, hz, g _ H mp .refl rl (.int _)⟩
      · exact False.elim g
    · exact False.elim g
  · exact False.elim g
end
end Sm

set_option Elab.async false
set_option linter.all false
set_option maxRecDepth 100000
set_option maxHeartbeats 4000000
namespace PySem
section
open Builtin Builtin.Str Builtin.Int
variable {prog : Program} {w : World} {A : Around} {E : Value → Shared → Prop} {s : Shared} {K : PySem.W.Frag} {x C f : Addr} {ox : Obj} {odd : Option Obj}
/-- a text of an instance by its own way -/
theorem strOf_ins {Q : Value → Shared → Prop} (hu : A.units < cLine) (X : K.In s.heap) (I : PySem.W.InstAt s.heap x ox C odd) (hs : PySem.W.findIn K (.ref C) "__str__" = some (some (.ref f))) (hf : PySem.W.isFn K (.ref f) = true)
    (h : wpAny (model prog w) A (call (.ref f) [.ref x]) (fun r s₁ => ∃ n u, r = Value.str n u ∧ Q r s₁) E s) : wpAny (model prog w) A (strOf (.ref x)) Q E s := by
  unfold strOf
  refine wpAny_ite_false (by rfl) ?_
  refine wpAny_bind (wpAny_cRoomFor hu ?_)
  refine wpAny_bind (m := callSpecial? (.ref x) (Str.ofString "__str__")) (PySem.W.special_fn X I hs (beq_iff_eq.mp hf) (wpAny_mono h (fun r s' hr => ?_) fun _ _ y => y))
  obtain ⟨n, u, rfl, hq⟩ := hr
  exact wpAny_bind (wpAny_pure (wpAny_ite_false (by rfl) (wpAny_pure hq)))
theorem str_ins {Q : Value → Shared → Prop} (hu : A.in1.in1.units < cLine) (X : K.In s.heap) (I : PySem.W.InstAt s.heap x ox C odd) (hs : PySem.W.findIn K (.ref C) "__str__" = some (some (.ref f))) (hf : PySem.W.isFn K (.ref f) = true)
    (h : wpAny (model prog w) A.in1.in1 (call (.ref f) [.ref x]) (fun r s₁ => ∃ n u, r = Value.str n u ∧ Q r s₁) E s) : wpAny (model prog w) A (call (.type "str") [.ref x]) Q E s := by
  refine callType_codes (T := "str") (Bi := Builtin.«object.__init__») (Q₁ := fun r s₁ => ∃ n u, r = Value.str n u ∧ Q r s₁) PySem.F.called_str (PySem.F.typeCall_str_1 _) PySem.F.entry_object_init ?_ ?_
  · refine codeAny_of_tree ?_
    show wpAny _ A.in1.in1 (do checkBuiltinCall "str.__new__" ⟨[.type "str", .ref x], []⟩; again (.builtin "str.__new__" ⟨[.type "str", .ref x], []⟩)) _ _ s
    refine wpAny_bind (wpAny_of_eq (PySem.F.newCall_str_1 _) (wpAny_pure ⟨plainId_quiet (by decide +kernel) _, codeAny_builtin PySem.F.entry_str_new ?_⟩))
    rw [Around.under_plainId (by decide +kernel) _]
    rw [str_new_tree]
    refine wpAny_bind (wpAny_pure ?_)
    refine wpAny_bind (wpAny_of_eq isSubtype_str_str ?_)
    refine wpAny_bind (strOf_ins hu X I hs hf (wpAny_mono h (fun r s₁ hr => ?_) fun _ _ y => y))
    obtain ⟨n, u, rfl, hq⟩ := hr
    exact ⟨n, u, rfl, wpAny_pure ⟨n, u, rfl, hq⟩⟩
  · rintro obj s₁ ⟨n, u, rfl, hq⟩
    exact ⟨typeIs_str _ _ _, PySem.F.args_object_init_2 _ _, object_init_meets PySem.F.called_str.init.lookup PySem.F.called_str.made (by decide) prog w A.in1 _ s₁ ⟨typeIs_str _ _ _, rfl, hq⟩⟩
end
end PySem
namespace Sm
open PySem L2
section
variable {X : Cx} {cl : Str → Option Addr} {W : Wsh} {fa C : Addr} {fd : FuncData} {ps : List Str} {k : Nat} {cn : Str} {mf : List MV → MH → Res MV}
def insOf (cn : Str) (x : MV) (h : MH) : Bool := match x with | .ref n => (match h[n]? with | some (.ins c _) => decide (c = cn) | _ => false) | _ => false
def isTx (x : MV) : Bool := match x with | .str _ => true | _ => false
/-- x == y, x an instance with its own == -/
def mEqI (cn : Str) (mf : List MV → MH → Res MV) (x y : MV) (h : MH) : Res MV := if insOf cn x h = true ∧ (isTx y = true ∨ insOf cn y h = true) then mf [x, y] h else .bad
theorem mEqI_noEx (ne : NoEx1 mf) : NoEx2 (mEqI cn mf) := fun x y h e h' z => by
  unfold mEqI at z
  split at z
  · exact ne _ _ _ _ z
  · cases z
theorem ins_ok {K : PySem.W.Frag} {mp : Mp} {h : MH} {H : Hp} {x : MV} {V : L2.V} (hC : cl cn = some C) (rl : Rl K cl mp h H) (r : RV K mp H x V) (e : insOf cn x h = true) : ∃ a dx fs, V = .ref a ∧ H a = some (.ins C dx fs) := by
  unfold insOf at e
  cases r with
  | @ref n a e1 =>
    dsimp only at e
    split at e
    · rename_i c' fs cc
      obtain ⟨C', dx, vs, h0, h1', q1⟩ := rl.obj n _ a cc e1
      have ec := of_decide_eq_true e
      rw [ec, hC] at h0
      have := Option.some.inj h0
      subst this
      exact ⟨a, dx, vs, rfl, h1'⟩
    · cases e
  | _ => cases e
theorem op_eqI (hC : cl cn = some C) (hm : Meth X.K C "__eq__" fa) (F : FnOk X.prog X.w X.K X.mg X.base CX0 k fa fd ps (spM X.K cl mf)) (ne : NoEx1 mf) (hr : Room k X.A) (hb : Binds X.K fd ps []) : OpR X (compareOp .Eq) (rM X.K cl (mEqI cn mf)) := by
  intro pins s σ H V Y v u Q I rx ry ⟨x, y, h, mp, rl, r1, r2, g⟩
  unfold mEqI at g
  split at g
  · rename_i hc
    obtain ⟨a, dx, fs, rfl, ha⟩ := ins_ok hC rl r1 hc.1
    cases (show v = Value.ref a from rx)
    obtain ⟨mA, J, _⟩ := ins_get I.hok ha
    obtain ⟨od, J, _⟩ := J.look
    obtain ⟨m, hF⟩ := I.fr
    have run : wpAny (model X.prog X.w) X.A (call (.ref fa) [.ref a, u]) (PySem.W.CmpBack (EP X pins σ Q)) X.xe s := by
      refine wpAny_mono (run_fn (us := [.ref a, u]) (vs := [.ref a, Y]) F hr hb .nil pass0 I (.cons rfl (.cons ry .nil)) ⟨[x, y], h, mp, rl, .cons r1 (.cons r2 .nil), toNever g (ne _ _)⟩) (fun r s' z => ?_) fun _ _ z => z
      obtain ⟨z', H', I', rz, qz⟩ := z
      exact SlX.cmpback rz ⟨z', H', I', rz, qz⟩
    rcases hc.2 with hy | hy
    · cases r2 with
      | str z =>
        obtain ⟨t, rfl⟩ := (show ∃ t, u = Value.str z t from ry)
        exact PySem.W.cmp_K (op := .Eq) (tb := .type "str") hr.units0 hF I.ok.mod.kin J (PySem.W.Looks.of_pure rfl) (by rfl) hm.at_ hm.fn run
      | _ => cases hy
    · obtain ⟨b, dy, gs, rfl, hb'⟩ := ins_ok hC rl r2 hy
      cases (show u = Value.ref b from ry)
      obtain ⟨mB, J', _⟩ := ins_get I.hok hb'
      obtain ⟨od', J', _⟩ := J'.look
      exact PySem.W.cmp_K (op := .Eq) (tb := .ref C) hr.units0 hF I.ok.mod.kin J J'.type (by simp [PySem.W.notFirst]) hm.at_ hm.fn run
  · exact False.elim g
theorem se_eqI {a b : Expr} {ma mb : ME} (hC : cl cn = some C) (hm : Meth X.K C "__eq__" fa) (F : FnOk X.prog X.w X.K X.mg X.base CX0 k fa fd ps (spM X.K cl mf)) (ne : NoEx1 mf) (hr : Room k X.A) (hb : Binds X.K fd ps []) (ha : SE X cl W a ma) (hb' : SE X cl W b mb) :
    SE X cl W (.Compare a [.Eq] [b] pos) (eBin (mEqI cn mf) ma mb) := se_cmp (op_eqI hC hm F ne hr hb) rM_ok (mEqI_noEx ne) ha hb' (nomark _)
theorem st_eqI {a b : Expr} {ma mb : ME} (hC : cl cn = some C) (hm : Meth X.K C "__eq__" fa) (F : FnOk X.prog X.w X.K X.mg X.base CX0 k fa fd ps (spM X.K cl mf)) (ne : NoEx1 mf) (hr : Room k X.A) (hb : Binds X.K fd ps []) (ha : SE X cl W a ma) (hb' : SE X cl W b mb) :
    ST X cl W (.Compare a [.Eq] [b] pos) (tOfE (eBin (mEqI cn mf) ma mb)) := st_cmp (op_eqI hC hm F ne hr hb) rM_ok (mEqI_noEx ne) ha hb' (nomark _)
/-- str(x), x an instance with its own __str__ -/
def mStrI (cn : Str) (mf : List MV → MH → Res MV) (xs : List MV) (h : MH) : Res MV := match xs with
  | [x] => if insOf cn x h = true then (match mf [x] h with | .ok (.str z) h' => .ok (.str z) h' | _ => .bad) else .bad
  | _ => .bad
theorem mStrI_noEx : NoEx1 (mStrI cn mf) := fun xs h e h' z => by
  unfold mStrI at z
  repeat' split at z
  all_goals cases z
theorem strI (hC : cl cn = some C) (hm : Meth X.K C "__str__" fa) (F : FnOk X.prog X.w X.K X.mg X.base CX0 k fa fd ps (spM X.K cl mf)) (hr : Room (k + 2) X.A) (hb : Binds X.K fd ps []) : CallR X (.type "str") (rMC X.K cl (mStrI cn mf)) := by
  intro pins s σ H Vs us Q I r ⟨xs, h, mp, rl, rv, g⟩
  unfold mStrI at g
  split at g
  · rename_i x
    split at g
    · rename_i hc
      obtain ⟨V, rfl, rx⟩ := rvs1 rv
      obtain ⟨a, dx, fs, rfl, ha⟩ := ins_ok hC rl rx hc
      obtain ⟨u, rfl, ru⟩ := vals1 r
      cases (show u = Value.ref a from ru)
      obtain ⟨mA, J, _⟩ := ins_get I.hok ha
      obtain ⟨od, J, _⟩ := J.look
      have hr1 : Room (k + 1) X.A.in1 := Room.in1 hr
      have hr2 : Room k X.A.in1.in1 := hr1.in1
      split at g
      · rename_i z h' em
        have sp : spM X.K cl mf [.ref a] H (fun v H' => ∃ z, v = .str z ∧ Q v H') E0 := ⟨[x], h, mp, rl, .cons rx .nil, by
          rw [em]
          intro V' H' mp' f1 rl1 rv1
          cases rv1
          exact ⟨_, rfl, g _ H' mp' f1 rl1 (.str _)⟩⟩
        refine PySem.str_ins hr2.units0 I.kIn J hm.at_ hm.fn ?_
        have hl : ([.ref a] : List Value).length = ps.length := by have := F.len _ _ _ _ sp; simpa using this
        refine wpAny_call (codeAny_mono (F.run X.A.in1.in1 X.stack s H ⟨[.ref a], []⟩ [.ref a] [.ref a] _ E0 hr2 I.env0.in1.in1 (by simpa using hb s [.ref a] I.kIn (by simpa using hl)) (.cons rfl .nil) sp) fun r s' hq => ?_)
        cases r with
        | error e => exact pass0 pins σ H s e s' I hq
        | ok fl =>
          cases fl with
          | ret w =>
            obtain ⟨z', H', I', rz, i, ei, qz⟩ := I.after hq
            subst ei
            obtain ⟨t, e⟩ := (show ∃ t, w = Value.str i t from rz)
            cases e
            exact ⟨i, t, rfl, .str i, H', I', ⟨t, rfl⟩, qz⟩
          | next => exact False.elim hq
          | brk => exact False.elim hq
          | cont => exact False.elim hq
      · exact False.elim g
    · exact False.elim g
  · exact False.elim g
theorem me_of {K : PySem.W.Frag} {C : Addr} : PySem.W.kitOne K (.ref C) (.ref C) = some true := by
  unfold PySem.W.kitOne
  rw [if_pos (by simp)]
theorem ks_of {K : PySem.W.Frag} {C : Addr} (ic : PySem.W.isClsIn K C = true) (ty : PySem.W.typeIn K (.ref C) = some (.type "type")) : PySem.W.kitOne K (.type "str") (.ref C) = some false := by
  unfold PySem.W.kitOne
  rw [if_neg (show ¬ ((Value.type "str" == Value.ref C) = true) from fun z => by cases z)]
  show (if _ then _ else _) = _
  rw [if_pos (by rw [Bool.and_eq_true]; exact ⟨ic, by rw [ty]; rfl⟩)]
  rfl
/-- isinstance(x, C), C an own class -/
def mIsC (cn : Str) (x : MV) (h : MH) : Res MV := if insOf cn x h = true then .ok (.bl true) h else if isTx x = true then .ok (.bl false) h else .bad
theorem se_isC {e : Expr} {m : ME} {x : Str} {p pT : Pos} (hC : cl cn = some C) (ic : C8.InsC X.K C) (ks : PySem.W.kitOne X.K (.type "str") (.ref C) = some false) (hg : Gl X "isinstance") (hm : X.mg "isinstance" = none) (he : SE X cl W e m) (ht : PE X (.Name x pT) (tC (.ref C)))
    (hs : starEach [e, .Name x pT] X.env = (false, eval e X.env) :: starEach [.Name x pT] X.env := by rfl) (hs2 : starEach [.Name x pT] X.env = [(false, eval (.Name x pT) X.env)] := by rfl) (hpl : (backTo pos (starEach [.Name x pT] X.env)).any (·.1) = false := by rfl) :
    SE X cl W (.Call (.Name "isinstance" p) [e, .Name x pT] [] pos) (eUn (mIsC cn) m) :=
  peW (pe_callB call_isi hg hm (by decide +kernel) (pa_cons he (pa_cons ht pa_nil hs2) hs) (hn := by decide) (hdb := by decide) (he := hs) (hpl := hpl)) fun σ H Q ⟨ρ, h, mp, rl, rs, g⟩ =>
    tM_bind rl rs g (fun _ _ z => z) fun x h1 V H1 mp1 f1 rl1 rs1 rv1 g1 => by
      unfold mIsC at g1
      split at g1
      · rename_i hc
        obtain ⟨a, dx, fs, rfl, ha⟩ := ins_ok hC rl1 rv1 hc
        exact ⟨.ref a, _, .ref C, .ref C, _, rfl, .own C, .base (.ins ha ic.cl ic.ha ic.hn ic.htk ic.hm), ic.me, g1 _ H1 mp1 f1 rl1 (.bl _)⟩
      · split at g1
        · rename_i hc
          cases rv1 with
          | str z => exact ⟨.str z, _, .type "str", .ref C, _, rfl, .own C, .base (.str z), ks, g1 _ H1 mp1 f1 rl1 (.bl _)⟩
          | _ => cases hc
        · exact False.elim g1
end
end Sm

set_option Elab.async false
set_option linter.all false
set_option maxRecDepth 100000
set_option maxHeartbeats 4000000
/-! exceptions with four fields: made, raised, let out of a def -/
namespace Sm
open PySem L2 PyProof.Rows PySem.Spec
/-- a class without own __init__ whose base's is called by its name -/
structure ExB (K : PySem.W.Frag) (mg : Str → Option Value) (x : Str) where
  C : Addr
  m : mg x = some (.ref C)
  sg : PySem.W.specialIn K (.ref C) "__getattribute__" = some (some (.builtin "type.__getattribute__"))
  rd : PySem.W.readsIn K C (.type "type") = true
  fi : PySem.W.findCls K (.ref C) (.type "type") "__init__" = some (.val (.builtin "ValueError.__init__"))
section
variable {X : Cx} {e : Expr} {es : List Expr} {ta : TA} {p1 p2 pos : Pos} {x : Str}
theorem pe_binit {pl : Sem Bool} (B : ExB X.K X.mg x) (hg : Gl X x) (ha : PA X (e :: es) ta) (hdb : (x == ("__debug__" : Str)) = false := by decide)
    (hc : eval (.Call (.Attribute (.Name x p1) "__init__" p2) (e :: es) [] pos) X.env = (do
      let cv ← eval (.Name x p1) X.env
      standAt p2.atName
      let (g, ahead) ← holding [cv] (getMethod cv "__init__" pl)
      callWith pos g ahead (backTo pos (starEach (e :: es) X.env)) (backToKw pos (keywordEach [] X.env))) := by rfl)
    (he : starEach (e :: es) X.env = (false, eval e X.env) :: starEach es X.env := by rfl) (hpl : (backTo pos (starEach es X.env)).any (·.1) = false := by rfl) :
    PE X (.Call (.Attribute (.Name x p1) "__init__" p2) (e :: es) [] pos) (tVeI X.K ta) := by
  refine ⟨fun pins s σ H Q I h => ?_⟩
  refine PySem.W.methodCall_KW (ld_glob I hg B.m ?_ hdb) hc
  refine PySem.W.method_cls I.kIn B.sg (PySem.W.cls_value I.kIn B.rd B.fi (by decide +kernel) ?_)
  show wpAny _ _ (callWith pos (Value.builtin "ValueError.__init__") ([] : List Value) (backTo pos (starEach (e :: es) X.env)) []) _ _ _
  refine PyProof.Rows.callWith_method1 (thn (ha.run pos pins _ σ H _ (I.tok _) h) fun us s1 q => ?_) he hpl
  obtain ⟨vs, H1, I1, r1, a, C, ws, ev, hl, T, ea, q⟩ := q
  subst ev
  cases r1 with
  | @cons _ u0 _ ur ra rb =>
    obtain rfl : u0 = Value.ref a := ra
    have hz : ur.length ≤ sizeLine := by
      have := Paired.length rb
      rw [sizeLine_eq]
      omega
    exact oinit_ok T I1 ea hz fun s' J => ⟨.non, H1, J, rfl, q⟩
end
/-- an exception with four fields: page, row, column, why -/
def xfs (p : Str) (r c : Int) (y : Str) : List (Str × L2.V) := [("why", .str y), ("column", .int c), ("row", .int r), ("page", .str p)]
abbrev xOk (p : Str) (r c : Int) (y : Str) : Prop := p.length ≤ 1000 ∧ y.length ≤ 1000 ∧ r.natAbs.log2 < 1920 ∧ c.natAbs.log2 < 1920
/-- what its __init__ promises -/
def spFI (C : Addr) : Sp := fun vs H Q _ => ∃ (a : Addr) (p : Str) (r c : Int) (y : Str), vs = [.ref a, .str p, .int r, .int c, .str y] ∧ H a = some (exo a C none) ∧ xOk p r c y ∧
  ∀ dx H', H dx = none → dx ≠ a → H' a = some (exo a C (some dx)) → H' dx = some (exd dx (xfs p r c y)) → (∀ b, b ≠ a → b ≠ dx → H' b = H b) → Q .non H'
def rAS : R2 := fun x y H Q => ∃ i j, x = .str i ∧ y = .str j ∧ i.length + j.length ≤ sizeLine ∧ Q (.str (i ++ j)) H
def rSI : List L2.V → Hp → VK → Prop := fun xs H Q => ∃ i : Int, xs = [.int i] ∧ i.natAbs.log2 < 1920 ∧ Q (.str (toString i)) H
/-- the reading of the four stores behind the text -/
def tFI (K : PySem.W.Frag) : TS :=
  tSeq (tDrop (tVeI K (tCons (tVar 0) (tCons (tOp rAS (tOp rAS (tOp rAS (tOp rAS (tOp rAS (tOp rAS (tVar 1) (tC (.str " "))) (tCB rSI (tCons (tVar 2) tNil))) (tC (.str ":"))) (tCB rSI (tCons (tVar 3) tNil))) (tC (.str ": "))) (tVar 4)) tNil))))
    (tSeq (tOst K "page" (tVar 0) (tVar 1)) (tSeq (tOst K "row" (tVar 0) (tVar 2)) (tSeq (tOst K "column" (tVar 0) (tVar 3)) (tOst K "why" (tVar 0) (tVar 4)))))
theorem read_FI {K : PySem.W.Frag} {C : Addr} (ox : OexC K C) (n1 : PySem.W.findIn K (.ref C) "page" = some none) (n2 : PySem.W.findIn K (.ref C) "row" = some none) (n3 : PySem.W.findIn K (.ref C) "column" = some none) (n4 : PySem.W.findIn K (.ref C) "why" = some none)
    {N : List Str} (hN : N.length = 5) {vs : List L2.V} {H : Hp} {Q : VK} {E : XK} (h : spFI C vs H Q E) : tFI K { nx := fun _ H' => Q .non H', rt := Q } (L2.start N vs) H := by
  obtain ⟨a, p, r, c, y, rfl, ha, ⟨b1, b2, b3, b4⟩, q⟩ := h
  have es : L2.start N [.ref a, .str p, .int r, .int c, .str y] = [some (.ref a), some (.str p), some (.int r), some (.int c), some (.str y)] := by
    unfold L2.start; rw [hN]; rfl
  rw [es]
  have t1 := PyProof.Rows.int_text_len_1921 b3
  have t2 := PyProof.Rows.int_text_len_1921 b4
  have l1 : Str.length " " = 1 := rfl
  have l2 : Str.length ":" = 1 := rfl
  have l3 : Str.length ": " = 2 := rfl
  have la : ∀ a b : Str, (a ++ b).length = a.length + b.length := Str.length_append
  have z : sizeLine = 16777216 := sizeLine_eq
  have la0 : ∀ a b : Str, (a ++ b).length = a.length + b.length := la
  refine ⟨_, rfl, _, rfl, _, _, rfl, rfl, by rw [z]; omega, _, rfl, _, rfl, b3, _, _, rfl, rfl, by rw [z]; simp only [la]; omega, _, _, rfl, rfl, by rw [z]; simp only [la]; omega, _, rfl, _, rfl, b4, _, _, rfl, rfl, by rw [z]; simp only [la]; omega, _, _, rfl, rfl, by rw [z]; simp only [la]; omega, _, rfl, _, _, rfl, rfl, by rw [z]; simp only [la]; omega, a, C, _, rfl, by simp, ox, ha, ?_⟩
  refine ⟨_, rfl, _, rfl, a, C, rfl, ox, n1, .inl ⟨ha, fun dx hd ne => ?_⟩⟩
  refine ⟨_, rfl, _, rfl, a, C, rfl, ox, n2, .inr ⟨dx, _, upd_same, (upd_ne ne).trans upd_same, by simp, ?_⟩⟩
  refine ⟨_, rfl, _, rfl, a, C, rfl, ox, n3, .inr ⟨dx, _, (upd_ne ne.symm).trans upd_same, upd_same, by simp, ?_⟩⟩
  refine ⟨_, rfl, _, rfl, a, C, rfl, ox, n4, .inr ⟨dx, _, (upd_ne ne.symm).trans ((upd_ne ne.symm).trans upd_same), upd_same, by simp, ?_⟩⟩
  exact q dx _ hd ne ((upd_ne ne.symm).trans ((upd_ne ne.symm).trans ((upd_ne ne.symm).trans upd_same))) upd_same fun b h1 h2 => by rw [upd_ne h2, upd_ne h2, upd_ne h2, upd_ne h1, upd_ne h2]
/-- raise k(page, row, column, why) -/
def xns : List Str := ["why", "column", "row", "page"]
def raise4 (k : Str) (xs : List MV) (ρ : MS) (h : MH) : SRes := match xs with
  | [.str p, .int r, .int c, .str y] => if xOk p r c y then .ex (.exn k xns [.str y, .int c, .int r, .str p]) ρ h else .bad
  | _ => .bad
def sRaise4 (k : Str) (ms : MA) : MSt := fun ρ h => (ms ρ h).st ρ fun xs h1 => raise4 k xs ρ h1
section
variable {X : Cx} {cl : Str → Option Addr} {W : Wsh} {e : Expr} {es : List Expr} {ms : MA} {p pos pos2 : Pos} {x : Str} {C fI : Addr} {k : Nat} {fd : FuncData} {ps : List Str}
theorem ss_raise4 (hc : X.calm = true) (tk : Takes X W) (hcl : cl x = some C) (ox : OexC X.K C) (iC : PySem.W.findIn X.K (.ref C) "__init__" = some (some (.ref fI))) (tI : PySem.W.typeIn X.K (.ref fI) = some (.type "function")) (F : FnOk X.prog X.w X.K X.mg X.base CX0 k fI fd ps (spFI C)) (hr : Room (k + 1) X.A)
    (hb : Binds X.K fd ps []) (hg : Gl X x) (hm : X.mg x = some (.ref C)) (ha : SA X cl W (e :: es) ms) (hdb : (x == ("__debug__" : Str)) = false := by decide) (he : starEach (e :: es) X.env = (false, eval e X.env) :: starEach es X.env := by rfl) (hpl : (backTo pos (starEach es X.env)).any (·.1) = false := by rfl) :
    SS X cl W (.Raise (some (.Call (.Name x p) (e :: es) [] pos)) none pos2) (sRaise4 x ms) :=
  psW (ps_raise hc tk (pmk_oex (dvs := []) ox iC tI F hr hb .nil pass0 hg hm ha hdb he hpl)) fun D σ H ⟨ρ, h, mp, rl, rs, g⟩ =>
    ⟨ρ, h, mp, rl, rs, (SGood.st.mp g).mono (fun xs h1 g1 Vs H1 mp1 f1 rl1 rv1 => by
      unfold raise4 at g1
      split at g1
      · rename_i P R Cc Y
        split at g1
        · rename_i ok
          cases rv1 with
          | cons r1 rv1 => cases r1; cases rv1 with
            | cons r2 rv1 => cases r2; cases rv1 with
              | cons r3 rv1 => cases r3; cases rv1 with
                | cons r4 rv1 =>
                  cases r4; cases rv1
                  refine ⟨by simp, fun a na => ⟨a, P, R, Cc, Y, rfl, upd_same, ok, fun dx H' hd ne ea ed oth => ⟨rfl, dx, xfs P R Cc Y, ea, ed, ?_, ?_⟩⟩⟩
                  · rw [upd_ne ne] at hd; exact hd
                  · have nd : H1 dx = none := by rw [upd_ne ne] at hd; exact hd
                    have eH : upd (del H' a) dx (.xd (xfs P R Cc Y)) = upd H1 dx (.xd (xfs P R Cc Y)) := by
                      funext b
                      by_cases hb1 : b = dx
                      · rw [hb1, upd_same, upd_same]
                      · rw [upd_ne hb1, upd_ne hb1]
                        by_cases hb2 : b = a
                        · rw [hb2, del_same, na]
                        · rw [del_ne hb2, oth b hb2 hb1, upd_ne hb2]
                    rw [eH]
                    exact g1 _ _ σ _ mp1 (f1.trans (Fut.new nd)) (rl1.new nd) (rs.fut (f1.trans (Fut.new nd))) ⟨x, xns, _, C, rfl, hcl, rfl, .inr ⟨dx, xfs P R Cc Y, rfl, upd_same, rfl, .cons (.str _) (.cons (.int _) (.cons (.int _) (.cons (.str _) .nil)))⟩⟩
        · exact False.elim g1
      · exact False.elim g1) fun e h' q => QX.ew rs q⟩
end
/-! ### a def that lets exceptions out -/
def EXk (K : PySem.W.Frag) (cl : Str → Option Addr) (mp : Mp) (H : Hp) (E : XK) : MV → MH → Prop := fun e h' => ∀ c d H' mp', Fut K mp mp' H H' → Rl K cl mp' h' H' → RX K cl mp' H' e c d → E c d H'
def spX (K : PySem.W.Frag) (cl : Str → Option Addr) (mf : List MV → MH → Res MV) : Sp := fun vs H Q E => ∃ xs h mp, Rl K cl mp h H ∧ RVs K mp H xs vs ∧ Good (mf xs h) (QV K cl mp H Q) (EXk K cl mp H E)
noncomputable def mfunX (np n : Nat) (body : MSt) : List MV → MH → Res MV := fun args h => if args.length = np then (match body (args.map some ++ List.replicate (n - np) none) h with
  | .rt v h' => .ok v (gc h v h')
  | .nx _ h' => .ok .non (gc h .non h')
  | .ex e _ h' => .ex e h'
  | _ => .bad) else .bad
abbrev WEx (E : XK) : Wsh := fun c d _ H => E c d H
section
variable {P : Program} {w : World} {K : PySem.W.Frag} {mg : Str → Option Value} {base : Heap} {cl : Str → Option Addr}
theorem funX_read {N ps : List Str} {mb : MSt} {vs : List L2.V} {H : Hp} {Q : VK} {E : XK} (h : spX K cl (mfunX ps.length N.length mb) vs H Q E) : tMS K cl (WEx E) mb { nx := fun _ H' => Q .non H', rt := Q } (L2.start N vs) H := by
  obtain ⟨xs, h, mp, rl, rv, g⟩ := h
  unfold mfunX at g
  split at g
  · rename_i hl
    refine ⟨xs.map some ++ List.replicate (N.length - ps.length) none, h, mp, rl, ?_, ?_⟩
    · unfold L2.start
      rw [← hl, rv.length]
      exact rs_start rv _
    · cases e : mb (xs.map some ++ List.replicate (N.length - ps.length) none) h with
      | rt v h' =>
        rw [e] at g
        exact fun V H' mp' f rl' rv' => by
          obtain ⟨mp2, f2, rl2, rv2⟩ := gc_ok rl f rl' rv'
          exact g V H' mp2 f2 rl2 rv2
      | nx ρ h' =>
        rw [e] at g
        exact fun σ' H' mp' f rl' rs' => by
          obtain ⟨mp2, f2, rl2, rv2⟩ := gc_ok (v := .non) rl f rl' .non
          exact g _ H' mp2 f2 rl2 rv2
      | ex v ρ h' => rw [e] at g; exact fun c d σ' H' mp' f rl' rs' rx => g c d H' mp' f rl' rx
      | bk ρ h' => rw [e] at g; exact False.elim g
      | ct ρ h' => rw [e] at g; exact False.elim g
      | bad => rw [e] at g; exact False.elim g
  · exact False.elim g
theorem spX_len {np n : Nat} {mb : MSt} {vs : List L2.V} {H : Hp} {Q : VK} {E : XK} (h : spX K cl (mfunX np n mb) vs H Q E) : vs.length = np := by
  obtain ⟨xs, h, mp, rl, rv, g⟩ := h
  unfold mfunX at g
  split at g
  · rename_i hl
    rw [← rv.length]; exact hl
  · exact False.elim g
theorem fnX {x qual : Str} {st : Stmt} {f : Addr} {fd : FuncData} {N ps : List Str} {k : Nat} {mb : MSt} (F : L2.Fun K x qual st f fd) (S : FnScope N ps (defScope st))
    (hb : ∀ (cdv : Value) (A : Around) (outer : List Env) (s : Shared) (H : Hp) (E : XK), Room k (A.deeper (envOfC qual (defScope st) s.heap.objs.size f cdv)) →
      PassesOwn (model P w) (cxOf (L2.CX P w) P w K mg base N qual (defScope st) f cdv A outer s H E).A (cxOf (L2.CX P w) P w K mg base N qual (defScope st) f cdv A outer s H E).env (cxOf (L2.CX P w) P w K mg base N qual (defScope st) f cdv A outer s H E).xe →
      Takes (cxOf (L2.CX P w) P w K mg base N qual (defScope st) f cdv A outer s H E) (WEx E) → SSs (cxOf (L2.CX P w) P w K mg base N qual (defScope st) f cdv A outer s H E) cl (WEx E) (defBody st) mb) :
    FnOk P w K mg base (L2.CX P w) (k + 1) f fd ps (spX K cl (mfunX ps.length N.length mb)) :=
  F.okX S (fun vs H Q E h => spX_len h) fun cdv A outer s H vs Q E hr h => ⟨_, hb cdv A outer s H E hr (passes_of rfl) (takes_of rfl rfl rfl rfl), funX_read h⟩
end
section
variable {X : Cx} {cl : Str → Option Addr} {W : Wsh} {e : Expr} {es : List Expr} {ms : MA} {p pos : Pos} {x : Str} {fa : Addr} {k : Nat} {fd : FuncData} {ps : List Str} {mf : List MV → MH → Res MV}
/-- f(e, ..), what it lets out is wished for here -/
theorem tCallX_of : ∀ σ H Q, tM X.K cl W (eCallD mf [] ms) σ H Q → tCallS (spX X.K cl mf) (L2.WE W) (tMA X.K cl W ms) σ H Q := fun σ H Q ⟨ρ, h, mp, rl, rs, g⟩ =>
  tMA_bind rl rs g (fun _ _ z => z) fun xs h1 V H1 mp1 f1 rl1 rs1 rv1 g1 => ⟨xs ++ [], h1, mp1, rl1, by rw [List.append_nil]; exact rv1, g1.mono (fun v h' q => q.fut f1) fun e h' q => q.fut f1⟩
theorem se_callX (tk : Takes X W) (F : FnOk X.prog X.w X.K X.mg X.base (L2.CX X.prog X.w) k fa fd ps (spX X.K cl mf)) (hr : Room k X.A) (hg : Gl X x) (hm : X.mg x = some (.ref fa)) (hk : PySem.W.keepIn X.K (.ref fa) = true) (hb : Binds X.K fd ps []) (ha : SA X cl W (e :: es) ms)
    (hdb : (x == ("__debug__" : Str)) = false := by decide) (he : starEach (e :: es) X.env = (false, eval e X.env) :: starEach es X.env := by rfl) (hpl : (backTo pos (starEach es X.env)).any (·.1) = false := by rfl) :
    SE X cl W (.Call (.Name x p) (e :: es) [] pos) (eCallD mf [] ms) := peW (pe_callS F hr hg hm hk hb (fun σ => passAt tk σ) ha hdb he hpl) tCallX_of
end
/-! ### try .. except k as n: a suite that reads the four fields -/
def clr (i : Nat) (r : SRes) : SRes := match r with
  | .nx ρ h => .nx (ρ.set i none) h | .rt v h => .rt v h | .bk ρ h => .bk (ρ.set i none) h | .ct ρ h => .ct (ρ.set i none) h | _ => .bad
def caught4 (ks : List Str) (i : Nat) (mx : List MV → MSt) (e : MV) (ρ : MS) (h : MH) : SRes := match e with
  | .exn k ns vs => if k ∈ ks ∧ ns = xns ∧ i < ρ.length then clr i (mx vs (ρ.set i none) h) else .bad
  | _ => .bad
def sTry4 (ks : List Str) (i : Nat) (mb : MSt) (mx : List MV → MSt) : MSt := fun ρ h => match mb ρ h with
  | .ex e ρ' h' => caught4 ks i mx e ρ' h'
  | r => r
theorem RS.none {K : PySem.W.Frag} {mp : Mp} {H : Hp} {ρ : MS} {σ : L2.St} {i : Nat} {v : Option L2.V} (r : RS K mp H ρ σ) : RS K mp H (ρ.set i none) (σ.set i v) := ⟨by simp [r.len], fun j y e => by
  by_cases hj : j = i
  · subst hj
    by_cases hl : j < ρ.length
    · rw [List.getElem?_set_self hl] at e; cases e
    · rw [List.getElem?_eq_none (by simp; omega)] at e; cases e
  · rw [List.getElem?_set_ne (Ne.symm hj)] at e
    obtain ⟨w, h1, h2⟩ := r.at_ j y e
    exact ⟨w, by rw [List.getElem?_set_ne (Ne.symm hj)]; exact h1, h2⟩⟩
/-- an exception's four worths, as they stand -/
def Xv (K : PySem.W.Frag) (mp : Mp) (H : Hp) (dd : Addr) (vs : List MV) : Prop := ∃ fs, H dd = some (.xd fs) ∧ fs.map (·.1) = xns ∧ RVs K mp H vs (fs.map (·.2))
/-- how a suite is read -/
def SuiteOk (K : PySem.W.Frag) (cl : Str → Option Addr) (ks : List Str) (i : Nat) (mx : List MV → MSt) (ts : Addr → Value → Option Addr → TS) : Prop :=
  ∀ (k : Str) (C a dd : Addr) (vs : List MV) (D : Ends) (σ : L2.St) (H : Hp) (ρ : MS) (h : MH) (mp : Mp), k ∈ ks → cl k = some C → Xv K mp H dd vs → Rl K cl mp h H → RS K mp H ρ σ → i < σ.length → SGood (mx vs (ρ.set i none) h) (wD K cl mp H W0 D) → ts a (.ref C) (some dd) D (σ.set i (some (.ref a))) H
section
variable {X : Cx} {cl : Str → Option Addr} {x n : Str} {c : Value} {i : Nat} {body suite : List Stmt} {b₀ : Stmt} {np pos pos' : Pos} {mb : MSt} {mx : List MV → MSt} {ks : List Str} {ts : Addr → Value → Option Addr → TS}
theorem ss_try4 (hs : X.stack = X.env :: X.outer) (hf : X.env.frame = some X.env.locals) (hN : X.N.Nodup) (hi : X.N[i]? = some n) (hln : X.env.kindOf n = some .local) (hc : Names X x c) (hk : ∀ k, k ∈ ks → ∀ C, cl k = some C → PySem.W.exmOne X.K (.ref C) c = some true)
    (hb : ∀ (W : WX) (pn : List (Addr × Obj)) (xe : Value → Shared → Prop), Takes (X.tr pn xe) W → SSs (X.tr pn xe) cl W body mb)
    (hsu : ∀ (a : Addr) (oe : Obj) (cls : Value) (d : Option Addr) (pn : List (Addr × Obj)), Zc cls d oe → (∃ vs, oe.data = .fields vs) → PSs (X.suite a ((a, oe) :: pn)) (b₀ :: suite) (ts a cls d)) (hr : SuiteOk X.K cl ks i mx ts) :
    SS X cl W0 (.Try body [.ExceptHandler (some (.Name x np)) (some n) (b₀ :: suite) pos'] [] [] pos) (sTry4 ks i mb mx) :=
  psW (ps_try_as (tb := fun W => tMS X.K cl W mb) hs hf hN hi hln hc takes0 (fun W pn xe tk _ => hb W pn xe tk) hsu) fun D σ H ⟨ρ, h, mp, rl, rs, g⟩ => by
    refine ⟨ρ, h, mp, rl, rs, ?_⟩
    unfold sTry4 at g
    cases e : mb ρ h with
    | nx ρ' h' => rw [e] at g; exact g
    | rt v h' => rw [e] at g; exact g
    | bk ρ' h' => rw [e] at g; exact g
    | ct ρ' h' => rw [e] at g; exact g
    | bad => rw [e] at g; exact g.elim
    | ex v ρ' h' =>
      rw [e] at g
      intro c0 d σ' H' mp' f rl' rs' rx
      dsimp only at g
      unfold caught4 at g
      obtain ⟨k, ns, vs, C, rfl, hC, rfl, rx⟩ := rx
      dsimp only at g
      split at g
      · rename_i hk'
        obtain ⟨hk1, rfl, hl0⟩ := hk'
        rcases rx with ⟨z, _⟩ | ⟨dd, fs, rfl, hdd, hfs, rfs⟩
        · cases z
        · refine ⟨true, hk k hk1 C hC, fun _ a na => ?_, fun z => by cases z⟩
          have hl : i < σ'.length := by rw [← rs'.len]; exact hl0
          · refine hr k C a dd vs _ σ' H' ρ' h' mp' hk1 hC ⟨fs, hdd, hfs, rfs⟩ rl' rs' hl ?_
            unfold clr at g
            cases e2 : mx vs (ρ'.set i Option.none) h' with
            | nx ρ2 h2 => rw [e2] at g; exact fun σ2 H2 mp2 f2 rl2 rs2 => g (σ2.set i Option.none) H2 mp2 (f.trans f2) rl2 rs2.none
            | rt v2 h2 => rw [e2] at g; exact fun V2 H2 mp2 f2 rl2 rv2 => g V2 H2 mp2 (f.trans f2) rl2 rv2
            | bk ρ2 h2 => rw [e2] at g; exact fun σ2 H2 mp2 f2 rl2 rs2 => g (σ2.set i Option.none) H2 mp2 (f.trans f2) rl2 rs2.none
            | ct ρ2 h2 => rw [e2] at g; exact fun σ2 H2 mp2 f2 rl2 rs2 => g (σ2.set i Option.none) H2 mp2 (f.trans f2) rl2 rs2.none
            | ex v2 ρ2 h2 => rw [e2] at g; exact g.elim
            | bad => rw [e2] at g; exact g.elim
      · exact g.elim
end
end Sm

set_option Elab.async false
set_option linter.all false
set_option maxRecDepth 100000
set_option maxHeartbeats 4000000
/-! the suites that read the four fields of what was caught -/
namespace Sm
open PySem L2 PyProof.Rows PySem.Spec
/-- isinstance(e, C), C just the class -/
theorem isi_same {x t : Value} {L : Heap → Prop} (LT : ∀ (M : Model) (h : Heap), L h → PySem.W.Looks M h (typeOf x) t) : Answers (fun s => L s.heap) x t true := by
  intro dep tk prog w A R s hs
  obtain ⟨h0, g, d, tt, os⟩ := s
  obtain ⟨p, hq⟩ := hs
  unfold Builtin.«isinstance.nested»
  refine wpAny_bind ((LT (model prog w) h0 p).at ?_)
  rw [if_pos (by simp)]
  first
    | exact hq tt
    | exact wpAny_bind (wpAny_rule (hq tt))
    | exact wpAny_bind (wpAny_rule (wpAny_pure (hq tt)))
def rIsX (cls : Value) (C a : Addr) : List L2.V → Hp → VK → Prop := fun xs H Q => xs = [.ref a, .ref C] ∧ cls = .ref C ∧ Q (.bl true) H
theorem call_isX {X : Cx} {a C : Addr} {oe : Obj} {cls : Value} {d : Option Addr} {pn : List (Addr × Obj)} (hz : Zc cls d oe) : CallR (X.suite a ((a, oe) :: pn)) (.builtin "isinstance") (rIsX cls C a) := by
  intro pins s σ H xs us Q I r h
  obtain ⟨rfl, rfl, q⟩ := h
  obtain ⟨u1, u2, rfl, r1, r2⟩ := vals2 r
  cases (show u1 = Value.ref a from r1)
  cases (show u2 = Value.ref C from r2)
  obtain ⟨ha, _⟩ := I.pin (a, oe) (List.mem_append_left _ List.mem_cons_self)
  have LT : ∀ (M : Model) (h : Heap), h.get? a = some oe → PySem.W.Looks M h (typeOf (.ref a)) (.ref C) := fun M h e => hz.1 ▸ (PySem.W.Looks.ld e).andThen .now
  exact PySem.call_isinstance (S := fun _ R s => s.heap.get? a = some oe ∧ ∀ tk, R (.ok (.ret (.bool true))) { s with toks := tk })
    (fun prog w A R s hs => isinstance_outer (isi_same (L := fun h => h.get? a = some oe) LT 0 _ prog w A R s hs) (by intro e; cases e)) ⟨ha, fun tk => ⟨.bl true, H, I.tok tk, rfl, q⟩⟩
/-! ### v = (e.page, e.row, e.column, e.why) -/
def mxA (j : Nat) (vs : List MV) : MSt := fun ρ h => match vs with | [y, c, r, p] => .nx (ρ.set j (some (.tup [p, r, c, y]))) h | _ => .bad
def tsA (C : Addr) (i j : Nat) (a : Addr) (cls : Value) (d : Option Addr) : TS := tAsg (tTup (tCons (tXf a cls d C "page" (tVar i)) (tCons (tXf a cls d C "row" (tVar i)) (tCons (tXf a cls d C "column" (tVar i)) (tCons (tXf a cls d C "why" (tVar i)) tNil))))) (gName j)
section
variable {K : PySem.W.Frag} {cl : Str → Option Addr} {mp : Mp} {H : Hp}
theorem xv4 {dd : Addr} {y c r p : MV} (x : Xv K mp H dd [y, c, r, p]) : ∃ Y Cc R P, H dd = some (.xd [("why", Y), ("column", Cc), ("row", R), ("page", P)]) ∧ RV K mp H y Y ∧ RV K mp H c Cc ∧ RV K mp H r R ∧ RV K mp H p P := by
  obtain ⟨fs, h1, h2, h3⟩ := x
  match fs, h2, h3 with
  | [(k1, Y), (k2, Cc), (k3, R), (k4, P)], h2, h3 =>
    simp only [xns, List.map_cons, List.map_nil, List.cons.injEq, and_true] at h2
    obtain ⟨rfl, rfl, rfl, rfl⟩ := h2
    cases h3 with
    | cons r1 h3 => cases h3 with
      | cons r2 h3 => cases h3 with
        | cons r3 h3 => cases h3 with
          | cons r4 h3 => exact ⟨Y, Cc, R, P, h1, r1, r2, r3, r4⟩
theorem nq : ((("column" : Str) == "why") = false) ∧ ((("row" : Str) == "why") = false) ∧ ((("row" : Str) == "column") = false) ∧ ((("page" : Str) == "why") = false) ∧ ((("page" : Str) == "column") = false) ∧ ((("page" : Str) == "row") = false) := by decide +kernel
theorem lk_y {Y Cc R P : L2.V} : List.lookup ("why" : Str) [(("why" : Str), Y), ("column", Cc), ("row", R), ("page", P)] = some Y := by simp [List.lookup]
theorem lk_c {Y Cc R P : L2.V} : List.lookup ("column" : Str) [(("why" : Str), Y), ("column", Cc), ("row", R), ("page", P)] = some Cc := by simp [List.lookup, nq]
theorem lk_r {Y Cc R P : L2.V} : List.lookup ("row" : Str) [(("why" : Str), Y), ("column", Cc), ("row", R), ("page", P)] = some R := by simp [List.lookup, nq]
theorem lk_p {Y Cc R P : L2.V} : List.lookup ("page" : Str) [(("why" : Str), Y), ("column", Cc), ("row", R), ("page", P)] = some P := by simp [List.lookup, nq]
theorem suiteA {k : Str} {C : Addr} {i j : Nat} (hcl : cl k = some C) (hij : j ≠ i) : SuiteOk K cl [k] i (mxA j) (tsA C i j) := by
  intro k' C' a dd vs D σ H ρ h mp hk hC xv rl rs hl g
  rw [List.mem_singleton] at hk
  subst hk
  rw [hcl] at hC
  cases hC
  unfold mxA at g
  split at g
  · rename_i y c r p
    obtain ⟨Y, Cc, R, P, hd, ry, rc, rr, rp⟩ := xv4 xv
    have e1 : (σ.set i (some (L2.V.ref a)))[i]? = some (some (.ref a)) := List.getElem?_set_self hl
    refine ⟨_, e1, rfl, rfl, dd, _, P, rfl, hd, lk_p, _, e1, rfl, rfl, dd, _, R, rfl, hd, lk_r, _, e1, rfl, rfl, dd, _, Cc, rfl, hd, lk_c, _, e1, rfl, rfl, dd, _, Y, rfl, hd, lk_y, by show 4 ≤ sizeLine; decide, fun q hq => ?_⟩
    have f := Fut.new (K := K) (mp := mp) (o := .tup [P, R, Cc, Y]) hq
    exact g _ _ mp f (rl.new hq) ((RS.none rs).fut f |>.set (.tup (SqT.of upd_same) (.cons (rp.fut f) (.cons (rr.fut f) (.cons (rc.fut f) (.cons (ry.fut f) .nil))))))
  · exact g.elim
end
/-! ### l.append(isinstance(e, C) and (e.row, e.column, e.why, e.page) == what is due) -/
def mxB (j : Nat) (mR : ME) (vs : List MV) : MSt := fun ρ h => match vs, ρ[j]? with
  | [y, c, r, p], some (some L) => if tyOk "list" L h = true then (mR ρ h).st ρ fun R h1 => (mEq (.tup [r, c, y, p]) R h1).st ρ fun b h2 => (mAppend L [b] h2).st ρ fun _ h3 => .nx ρ h3 else .bad
  | _, _ => .bad
def tsB (K : PySem.W.Frag) (cl : Str → Option Addr) (C : Addr) (i j : Nat) (mR : ME) (a : Addr) (cls : Value) (d : Option Addr) : TS :=
  tDrop (tBM K "list" (rMM K cl mAppend) (tVar j) (tCons (tAndV (tCB (rIsX cls C a) (tCons (tVar i) (tCons (tC (.ref C)) tNil)))
    (tOp (rM K cl mEq) (tTup (tCons (tXf a cls d C "row" (tVar i)) (tCons (tXf a cls d C "column" (tVar i)) (tCons (tXf a cls d C "why" (tVar i)) (tCons (tXf a cls d C "page" (tVar i)) tNil))))) (tM K cl W0 mR))) tNil))
section
variable {K : PySem.W.Frag} {cl : Str → Option Addr}
theorem suiteB {k : Str} {C : Addr} {i j : Nat} {mR : ME} (hcl : cl k = some C) (hij : j ≠ i) : SuiteOk K cl [k] i (mxB j mR) (tsB K cl C i j mR) := by
  intro k' C' a dd vs D σ H ρ h mp hk hC xv rl rs hl g
  rw [List.mem_singleton] at hk
  subst hk
  rw [hcl] at hC
  cases hC
  have rs0 := rs.none (i := i) (v := some (.ref a))
  unfold mxB at g
  split at g
  · rename_i y c r p L eL
    split at g
    · rename_i ht
      obtain ⟨Y, Cc, R, P, hd, ry, rc, rr, rp⟩ := xv4 xv
      have e1 : (σ.set i (some (L2.V.ref a)))[i]? = some (some (.ref a)) := List.getElem?_set_self hl
      obtain ⟨VL, eV, rL⟩ := rs0.at_ j L eL
      refine ⟨VL, eV, tyOk_ok rl rL ht, _, e1, rfl, rfl, true, rfl, ?_⟩
      rw [if_pos rfl]
      refine ⟨_, e1, rfl, rfl, dd, _, R, rfl, hd, lk_r, _, e1, rfl, rfl, dd, _, Cc, rfl, hd, lk_c, _, e1, rfl, rfl, dd, _, Y, rfl, hd, lk_y, _, e1, rfl, rfl, dd, _, P, rfl, hd, lk_p, by show 4 ≤ sizeLine; decide, fun q hq => ?_⟩
      have f := Fut.new (K := K) (mp := mp) (o := .tup [R, Cc, Y, P]) hq
      refine ⟨_, h, mp, rl.new hq, rs0.fut f, (SGood.st.mp g).mono (fun Rv h1 g1 V1 H1 mp1 f1 rl1 rv1 => ?_) fun e h' z => (QX.ew rs0 z).fut f⟩
      have rt : RV K mp1 H1 (.tup [r, c, y, p]) (.ref q) := (RV.tup (SqT.of upd_same) (.cons (rr.fut f) (.cons (rc.fut f) (.cons (ry.fut f) (.cons (rp.fut f) .nil))))).fut f1
      refine ⟨_, _, h1, mp1, rl1, rt, rv1, toNever ((SGood.st.mp g1).mono (fun b h2 g2 V2 H2 mp2 f2 rl2 rv2 => ?_) fun e h' z => z) (mEq_noEx _ _ _)⟩
      refine ⟨L, [b], h2, mp2, rl2, ((rL.fut f).fut f1).fut f2, .cons rv2 .nil, toNever ((SGood.st.mp g2).mono (fun u h3 g3 V3 H3 mp3 f3 rl3 rv3 => ?_) fun e h' z => z) (mAppend_noEx _ _ _)⟩
      exact g3 _ H3 mp3 (((f.trans f1).trans f2).trans f3) rl3 ((((rs0.fut f).fut f1).fut f2).fut f3)
    · exact g.elim
  · exact g.elim
end
end Sm

set_option Elab.async false
set_option linter.all false
set_option maxRecDepth 100000
namespace My
open PySem L2
/-! ### the text by places -/
def top (i : Nat) : Stmt := PySem.Challenge.pw_sendstead_k01_words.main.body.getD i (.Pass ⟨0, 0, 0, 0⟩)
abbrev s_Fault_init__ : Stmt := inClass (top 2) 0
abbrev N_Fault_init__ : List Str := ["self", "page", "row", "column", "why"]
theorem sc_Fault_init__ : FnScope N_Fault_init__ ["self", "page", "row", "column", "why"] (defScope s_Fault_init__) := ⟨rfl, rfl, rfl, by decide +kernel, rfl, by decide +kernel, by decide +kernel⟩
abbrev s_is_made_of : Stmt := top 13
abbrev N_is_made_of : List Str := ["text", "signs", "low", "high", "sign"]
theorem sc_is_made_of : FnScope N_is_made_of ["text", "signs", "low", "high"] (defScope s_is_made_of) := ⟨rfl, rfl, rfl, by decide +kernel, rfl, by decide +kernel, by decide +kernel⟩
abbrev s_is_small : Stmt := top 14
abbrev N_is_small : List Str := ["word"]
theorem sc_is_small : FnScope N_is_small ["word"] (defScope s_is_small) := ⟨rfl, rfl, rfl, by decide +kernel, rfl, by decide +kernel, by decide +kernel⟩
abbrev s_is_kind_name : Stmt := top 15
abbrev N_is_kind_name : List Str := ["word"]
theorem sc_is_kind_name : FnScope N_is_kind_name ["word"] (defScope s_is_kind_name) := ⟨rfl, rfl, rfl, by decide +kernel, rfl, by decide +kernel, by decide +kernel⟩
abbrev s_is_text : Stmt := top 16
abbrev N_is_text : List Str := ["text"]
theorem sc_is_text : FnScope N_is_text ["text"] (defScope s_is_text) := ⟨rfl, rfl, rfl, by decide +kernel, rfl, by decide +kernel, by decide +kernel⟩
abbrev s_is_figures : Stmt := top 17
abbrev N_is_figures : List Str := ["word", "figures"]
theorem sc_is_figures : FnScope N_is_figures ["word"] (defScope s_is_figures) := ⟨rfl, rfl, rfl, by decide +kernel, rfl, by decide +kernel, by decide +kernel⟩
abbrev s_is_word : Stmt := top 18
abbrev N_is_word : List Str := ["word"]
theorem sc_is_word : FnScope N_is_word ["word"] (defScope s_is_word) := ⟨rfl, rfl, rfl, by decide +kernel, rfl, by decide +kernel, by decide +kernel⟩
abbrev s_row_words : Stmt := top 19
abbrev N_row_words : List Str := ["text", "found", "word", "at", "sign"]
theorem sc_row_words : FnScope N_row_words ["text"] (defScope s_row_words) := ⟨rfl, rfl, rfl, by decide +kernel, rfl, by decide +kernel, by decide +kernel⟩
abbrev s_scanned : Stmt := top 20
abbrev N_scanned : List Str := ["text", "found", "at", "row", "word", "column"]
theorem sc_scanned : FnScope N_scanned ["text"] (defScope s_scanned) := ⟨rfl, rfl, rfl, by decide +kernel, rfl, by decide +kernel, by decide +kernel⟩
abbrev s_words_of : Stmt := top 21
abbrev N_words_of : List Str := ["text", "found", "fault"]
theorem sc_words_of : FnScope N_words_of ["text"] (defScope s_words_of) := ⟨rfl, rfl, rfl, by decide +kernel, rfl, by decide +kernel, by decide +kernel⟩
abbrev s_law_deck : Stmt := top 23
abbrev N_law_deck : List Str := ["_law_script", "_law_row", "_law_k", "_law_cell", "_law_n", "_law_one"]
theorem sc_law_deck : FnScope N_law_deck ["_law_script"] (defScope s_law_deck) := ⟨rfl, rfl, rfl, by decide +kernel, rfl, by decide +kernel, by decide +kernel⟩
abbrev s_law_next : Stmt := top 24
abbrev N_law_next : List Str := ["_law_deck_here", "_law_at", "_law_row", "_law_one"]
theorem sc_law_next : FnScope N_law_next ["_law_deck_here"] (defScope s_law_next) := ⟨rfl, rfl, rfl, by decide +kernel, rfl, by decide +kernel, by decide +kernel⟩
abbrev s_law_laid : Stmt := top 25
abbrev N_law_laid : List Str := ["_law_words", "_law_deck_here", "_law_text", "_law_row", "_law_column", "_law_spots", "_law_k", "_law_draw", "_law_word", "_law_glued", "_law_gap", "_law_many"]
theorem sc_law_laid : FnScope N_law_laid ["_law_words", "_law_deck_here"] (defScope s_law_laid) := ⟨rfl, rfl, rfl, by decide +kernel, rfl, by decide +kernel, by decide +kernel⟩
abbrev s_law_right : Stmt := top 26
abbrev N_law_right : List Str := ["_law_draw", "_law_rest", "_law_way"]
theorem sc_law_right : FnScope N_law_right ["_law_draw"] (defScope s_law_right) := ⟨rfl, rfl, rfl, by decide +kernel, rfl, by decide +kernel, by decide +kernel⟩
abbrev s_law_wrong : Stmt := top 27
abbrev N_law_wrong : List Str := ["_law_draw", "_law_some"]
theorem sc_law_wrong : FnScope N_law_wrong ["_law_draw"] (defScope s_law_wrong) := ⟨rfl, rfl, rfl, by decide +kernel, rfl, by decide +kernel, by decide +kernel⟩
abbrev s_law : Stmt := top 28
abbrev N_law : List Str := ["_law_script", "_law_deck_here", "_law_found", "_law_at", "_law_text", "_law_spots", "_law_due", "_law_told", "_law_caught", "e", "_law_k"]
theorem sc_law : FnScope N_law ["_law_script"] (defScope s_law) := ⟨rfl, rfl, rfl, by decide +kernel, rfl, by decide +kernel, by decide +kernel⟩
/-! ### what the top has left -/
structure DefT (K : PySem.W.Frag) (mg : Str → Option Value) (x qual : Str) (st : Stmt) (ps : List Str) where
  f : Addr
  fd : FuncData
  fn : Fun K x qual st f fd
  m : mg x = some (.ref f)
  b : Binds K fd ps []
theorem DefT.kp {K : PySem.W.Frag} {mg : Str → Option Value} {x qual : Str} {st : Stmt} {ps : List Str} (D : DefT K mg x qual st ps) : PySem.W.keepIn K (.ref D.f) = true := D.fn.kp
structure MetT (K : PySem.W.Frag) (C : Addr) (x qual : Str) (st : Stmt) (ps : List Str) where
  f : Addr
  fd : FuncData
  fn : Fun K x qual st f fd
  me : Meth K C x f
  b : Binds K fd ps []
structure InitT (K : PySem.W.Frag) (C : Addr) (x qual : Str) (st : Stmt) (ps : List Str) where
  f : Addr
  fd : FuncData
  fn : Fun K x qual st f fd
  mkk : Mk K C f
  b : Binds K fd ps []
/-- a method whose last parameter's default is an empty tuple at E -/
structure MetD (K : PySem.W.Frag) (C : Addr) (x qual : Str) (st : Stmt) (ps : List Str) where
  f : Addr
  fd : FuncData
  E : Addr
  e0 : ∀ H : Hp, SqT K H E []
  fn : FunD K x qual (defArgs st) (defBody st) (defScope st) [.ref E] [] f fd
  me : Meth K C x f
  b : Binds K fd ps []
  bd : Binds K fd ps [.ref E]
/-- a constant tuple of texts -/
structure TupT (K : PySem.W.Frag) (mg : Str → Option Value) (x : Str) (xs : List V) where
  a : Addr
  m : mg x = some (.ref a)
  t : ∀ H : Hp, SqT K H a xs
structure FaultT (K : PySem.W.Frag) (mg : Str → Option Value) where
  C : Addr
  m : mg "Fault" = some (.ref C)
  ox : OexC K C
  xf : XfC K C
  n_page : PySem.W.findIn K (.ref C) "page" = some none
  n_row : PySem.W.findIn K (.ref C) "row" = some none
  n_column : PySem.W.findIn K (.ref C) "column" = some none
  n_why : PySem.W.findIn K (.ref C) "why" = some none
  f : Addr
  fd : FuncData
  fn : Fun K "__init__" "Fault.__init__" s_Fault_init__ f fd
  iC : PySem.W.findIn K (.ref C) "__init__" = some (some (.ref f))
  tI : PySem.W.typeIn K (.ref f) = some (.type "function")
  b : Binds K fd ["self", "page", "row", "column", "why"] []
structure Tx (K : PySem.W.Frag) (mg : Str → Option Value) where
  z_len : mg "len" = none
  z_range : mg "range" = none
  z_tuple : mg "tuple" = none
  z_isinstance : mg "isinstance" = none
  z_min : mg "min" = none
  z_str : mg "str" = none
  z_int : mg "int" = none
  z_enumerate : mg "enumerate" = none
  z_all : mg "all" = none
  t_BIG : Tok
  c_BIG : mg "BIG" = some (.int 1000000000000 t_BIG)
  t_ROWS : Tok
  c_ROWS : mg "ROWS" = some (.int 300 t_ROWS)
  t_COLUMNS : Tok
  c_COLUMNS : mg "COLUMNS" = some (.int 120 t_COLUMNS)
  t_SMALL : Tok
  c_SMALL : mg "SMALL" = some (.str "abcdefghijklmnopqrstuvwxyz" t_SMALL)
  t_GREAT : Tok
  c_GREAT : mg "GREAT" = some (.str "ABCDEFGHIJKLMNOPQRSTUVWXYZ" t_GREAT)
  t_FIGURES : Tok
  c_FIGURES : mg "FIGURES" = some (.str "0123456789" t_FIGURES)
  t_BRACKETS : Tok
  c_BRACKETS : mg "BRACKETS" = some (.str "(){}[]|" t_BRACKETS)
  k_OPERATORS : TupT K mg "OPERATORS" [.str "+", .str "-", .str "*", .str "/", .str "<", .str "="]
  k_KEPT : TupT K mg "KEPT" [.str "do", .str "else", .str "end", .str "false", .str "field", .str "if", .str "kind", .str "method", .str "more", .str "new", .str "none", .str "raise", .str "return", .str "say", .str "self", .str "taken", .str "then", .str "true", .str "try", .str "under", .str "up", .str "while"]
  SteadError : Sm.ExB K mg "SteadError"
  Fault : FaultT K mg
  x_Fault_SteadError : PySem.W.exmOne K (.ref Fault.C) (.ref SteadError.C) = some true
  d_is_made_of : DefT K mg "is_made_of" "is_made_of" s_is_made_of ["text", "signs", "low", "high"]
  d_is_small : DefT K mg "is_small" "is_small" s_is_small ["word"]
  d_is_kind_name : DefT K mg "is_kind_name" "is_kind_name" s_is_kind_name ["word"]
  d_is_text : DefT K mg "is_text" "is_text" s_is_text ["text"]
  d_is_figures : DefT K mg "is_figures" "is_figures" s_is_figures ["word"]
  d_is_word : DefT K mg "is_word" "is_word" s_is_word ["word"]
  d_row_words : DefT K mg "row_words" "row_words" s_row_words ["text"]
  d_scanned : DefT K mg "scanned" "scanned" s_scanned ["text"]
  d_words_of : DefT K mg "words_of" "words_of" s_words_of ["text"]
  d_law_deck : DefT K mg "_law_deck" "_law_deck" s_law_deck ["_law_script"]
  d_law_next : DefT K mg "_law_next" "_law_next" s_law_next ["_law_deck_here"]
  d_law_laid : DefT K mg "_law_laid" "_law_laid" s_law_laid ["_law_words", "_law_deck_here"]
  d_law_right : DefT K mg "_law_right" "_law_right" s_law_right ["_law_draw"]
  d_law_wrong : DefT K mg "_law_wrong" "_law_wrong" s_law_wrong ["_law_draw"]
  d_law : DefT K mg "law" "law" s_law ["_law_script"]
end My

set_option Elab.async false
set_option linter.all false
set_option maxRecDepth 100000
set_option maxHeartbeats 4000000
namespace My
open PySem L2 Sm
abbrev c_BIG : MV := (.int 1000000000000)
abbrev c_ROWS : MV := (.int 300)
abbrev c_COLUMNS : MV := (.int 120)
abbrev c_SMALL : MV := (.str "abcdefghijklmnopqrstuvwxyz")
abbrev c_GREAT : MV := (.str "ABCDEFGHIJKLMNOPQRSTUVWXYZ")
abbrev c_FIGURES : MV := (.str "0123456789")
abbrev c_BRACKETS : MV := (.str "(){}[]|")
abbrev c_OPERATORS : MV := (.tup [(.str "+"), (.str "-"), (.str "*"), (.str "/"), (.str "<"), (.str "=")])
abbrev c_KEPT : MV := (.tup [(.str "do"), (.str "else"), (.str "end"), (.str "false"), (.str "field"), (.str "if"), (.str "kind"), (.str "method"), (.str "more"), (.str "new"), (.str "none"), (.str "raise"), (.str "return"), (.str "say"), (.str "self"), (.str "taken"), (.str "then"), (.str "true"), (.str "try"), (.str "under"), (.str "up"), (.str "while")])
@[irreducible] noncomputable def b_is_made_of : MSt :=
    (sRet (eAnd (eChain mLe mLe (eVar 2) (eCallB mLen (aCons (eVar 0) aNil)) (eVar 3)) (eCallB lAll (lComp (iOf (eVar 0)) (.one 4) [4] tYesM (eBin mIn (eVar 4) (eVar 1))))))
noncomputable def m_is_made_of : List MV → MH → Res MV := mfun 4 5 b_is_made_of
theorem ne_is_made_of : NoEx1 m_is_made_of := mfun_noEx
@[irreducible] noncomputable def b_is_small : MSt :=
    (sRet (eAnd (eBin mIn (eSl (eVar 0) pNone (pSome (eC (.int 1)))) (eC c_SMALL)) (eCallD m_is_made_of [] (aCons (eVar 0) (aCons (eBin mAdd (eC c_SMALL) (eC c_FIGURES)) (aCons (eC (.int 1)) (aCons (eC (.int 12)) aNil)))))))
noncomputable def m_is_small : List MV → MH → Res MV := mfun 1 1 b_is_small
theorem ne_is_small : NoEx1 m_is_small := mfun_noEx
@[irreducible] noncomputable def b_is_kind_name : MSt :=
    (sRet (eAnd (eBin mIn (eSl (eVar 0) pNone (pSome (eC (.int 1)))) (eC c_GREAT)) (eCallD m_is_made_of [] (aCons (eVar 0) (aCons (eBin mAdd (eBin mAdd (eC c_SMALL) (eC c_GREAT)) (eC c_FIGURES)) (aCons (eC (.int 1)) (aCons (eC (.int 12)) aNil)))))))
noncomputable def m_is_kind_name : List MV → MH → Res MV := mfun 1 1 b_is_kind_name
theorem ne_is_kind_name : NoEx1 m_is_kind_name := mfun_noEx
@[irreducible] noncomputable def b_is_text : MSt :=
    (sRet (eCallD m_is_made_of [] (aCons (eVar 0) (aCons (eBin mAdd (eBin mAdd (eBin mAdd (eC c_SMALL) (eC c_GREAT)) (eC c_FIGURES)) (eC (.str "_"))) (aCons (eC (.int 0)) (aCons (eC (.int 40)) aNil))))))
noncomputable def m_is_text : List MV → MH → Res MV := mfun 1 1 b_is_text
theorem ne_is_text : NoEx1 m_is_text := mfun_noEx
@[irreducible] noncomputable def b_is_figures : MSt :=
    (sSeq (sSet 1 (eVar 0))
    (sSeq (sIf (tOfE (eBin mEq (eSl (eVar 0) pNone (pSome (eC (.int 1)))) (eC (.str "-"))))
    (sSet 1 (eSl (eVar 0) (pSome (eC (.int 1))) pNone))
    sNil)
    (sSeq (sIf (tNotM (tOfE (eCallD m_is_made_of [] (aCons (eVar 1) (aCons (eC c_FIGURES) (aCons (eC (.int 1)) (aCons (eC (.int 12)) aNil)))))))
    (sRet (eC (.bl false)))
    sNil)
    (sRet (eOr (eBin mEq (eVar 0) (eC (.str "0"))) (eBin mNe (eBin mIx (eVar 1) (eC (.int 0))) (eC (.str "0"))))))))
noncomputable def m_is_figures : List MV → MH → Res MV := mfun 1 2 b_is_figures
theorem ne_is_figures : NoEx1 m_is_figures := mfun_noEx
@[irreducible] noncomputable def b_is_word : MSt :=
    (sSeq (sIf (tOrM (tOfE (eBin mIn (eVar 0) (eC c_BRACKETS))) (tOrM (tOfE (eBin mIn (eVar 0) (eC c_OPERATORS))) (tOfE (eBin mIn (eVar 0) (eTup (aCons (eC (.str ":=")) (aCons (eC (.str ":")) aNil)))))))
    (sRet (eC (.bl true)))
    sNil)
    (sSeq (sIf (tOfE (eBin mEq (eBin mIx (eVar 0) (eC (.int 0))) (eC (.str "@"))))
    (sRet (eAnd (eBin mGt (eCallB mLen (aCons (eVar 0) aNil)) (eC (.int 1))) (eCallD m_is_small [] (aCons (eSl (eVar 0) (pSome (eC (.int 1))) pNone) aNil))))
    sNil)
    (sSeq (sIf (tOfE (eBin mEq (eBin mIx (eVar 0) (eC (.int 0))) (eC (.str "'"))))
    (sRet (eCallD m_is_text [] (aCons (eSl (eVar 0) (pSome (eC (.int 1))) pNone) aNil)))
    sNil)
    (sRet (eOr (eCallD m_is_small [] (aCons (eVar 0) aNil)) (eOr (eCallD m_is_kind_name [] (aCons (eVar 0) aNil)) (eCallD m_is_figures [] (aCons (eVar 0) aNil))))))))
noncomputable def m_is_word : List MV → MH → Res MV := mfun 1 1 b_is_word
theorem ne_is_word : NoEx1 m_is_word := mfun_noEx
@[irreducible] noncomputable def b_row_words : MSt :=
    (sSeq (sSet 1 (eNew (lDisp aNil)))
    (sSeq (sSet 2 (eC (.str "")))
    (sSeq (sFor (iEnumA (eBin mAdd (eVar 0) (eC (.str " ")))) (.many [3, 4])
    (sIf (tOrM (tOfE (eBin mEq (eVar 4) (eC (.str " ")))) (tOfE (eBin mIn (eVar 4) (eC c_BRACKETS))))
    (sSeq (sIf (tOfE (eBin mNe (eVar 2) (eC (.str ""))))
    (sExpr (eBM "list" mAppend (eVar 1) (aCons (eTup (aCons (eVar 2) (aCons (eBin mSub (eBin mAdd (eVar 3) (eC (.int 1))) (eCallB mLen (aCons (eVar 2) aNil))) aNil))) aNil)))
    sNil)
    (sSeq (sSet 2 (eC (.str "")))
    (sIf (tOfE (eBin mNe (eVar 4) (eC (.str " "))))
    (sExpr (eBM "list" mAppend (eVar 1) (aCons (eTup (aCons (eVar 4) (aCons (eBin mAdd (eVar 3) (eC (.int 1))) aNil))) aNil)))
    sNil)))
    (sAug 2 mIadd (eVar 4))))
    (sRet (eVar 1)))))
noncomputable def m_row_words : List MV → MH → Res MV := mfun 1 5 b_row_words
theorem ne_row_words : NoEx1 m_row_words := mfun_noEx
@[irreducible] noncomputable def b_scanned : MSt :=
    (sSeq (sSet 1 (eNew (lDisp aNil)))
    (sSeq (sFor (iEnumA (eBM "str" mSplit (eVar 0) (aCons (eC (.str "\n")) aNil))) (.many [2, 3])
    (sSeq (sIf (tOfE (eBin mEq (eVar 2) (eC c_ROWS)))
    (sRet (eTup (aCons (eVar 1) (aCons (eTup (aCons (eBin mAdd (eC c_ROWS) (eC (.int 1))) (aCons (eC (.int 1)) aNil))) aNil))))
    sNil)
    (sSeq (sFor (iOf (eCallD m_row_words [] (aCons (eVar 3) aNil))) (.many [4, 5])
    (sSeq (sIf (tOrM (tOfE (eBin mGt (eVar 5) (eC c_COLUMNS))) (tNotM (tOfE (eCallD m_is_word [] (aCons (eVar 4) aNil)))))
    (sRet (eTup (aCons (eVar 1) (aCons (eTup (aCons (eBin mAdd (eVar 2) (eC (.int 1))) (aCons (eCallB mMin (aCons (eVar 5) (aCons (eBin mAdd (eC c_COLUMNS) (eC (.int 1))) aNil))) aNil))) aNil))))
    sNil)
    (sExpr (eBM "list" mAppend (eVar 1) (aCons (eTup (aCons (eVar 4) (aCons (eBin mAdd (eVar 2) (eC (.int 1))) (aCons (eVar 5) aNil)))) aNil)))))
    (sIf (tOfE (eBin mGt (eCallB mLen (aCons (eVar 3) aNil)) (eC c_COLUMNS)))
    (sRet (eTup (aCons (eVar 1) (aCons (eTup (aCons (eBin mAdd (eVar 2) (eC (.int 1))) (aCons (eBin mAdd (eC c_COLUMNS) (eC (.int 1))) aNil))) aNil))))
    sNil))))
    (sRet (eTup (aCons (eVar 1) (aCons (eC .non) aNil))))))
noncomputable def m_scanned : List MV → MH → Res MV := mfun 1 6 b_scanned
theorem ne_scanned : NoEx1 m_scanned := mfun_noEx
@[irreducible] noncomputable def b_words_of : MSt :=
    (sSeq (sSetT (.many [1, 2]) (eCallD m_scanned [] (aCons (eVar 0) aNil)))
    (sSeq (sIf (tOfE (eBin mIsNot (eVar 2) (eC .non)))
    (sRaise4 "Fault" (aCons (eC (.str "")) (aCons (eBin mIx (eVar 2) (eC (.int 0))) (aCons (eBin mIx (eVar 2) (eC (.int 1))) (aCons (eC (.str "sign")) aNil)))))
    sNil)
    (sRet (eCallB mTuple (aCons (eVar 1) aNil)))))
noncomputable def m_words_of : List MV → MH → Res MV := mfunX 1 3 b_words_of
@[irreducible] noncomputable def b_law_deck : MSt :=
    (sSeq (sSet 1 (eNew (lDisp aNil)))
    (sSeq (sFor (iRange1 (aCons (eCallB mMin (aCons (eCallB mLen (aCons (eVar 0) aNil)) (aCons (eC (.int 63)) aNil))) aNil)) (.one 2)
    (sSeq (sSet 3 (eBin mIx (eVar 0) (eVar 2)))
    (sIf (tOfE (eBin mGe (eVar 3) (eBin mPow (eC (.int 10)) (eC (.int 18)))))
    (sFor (iRange1 (aCons (eC (.int 60)) aNil)) (.one 4)
    (sIf (tOfE (eBin mGt (eVar 3) (eC (.int 0))))
    (sSeq (sExpr (eBM "list" mAppend (eVar 1) (aCons (eBin mMod (eVar 3) (eC (.int 1000000))) aNil)))
    (sSet 3 (eBin mDiv (eVar 3) (eC (.int 1000000)))))
    sNil))
    (sSeq (sSet 5 (eBin mAdd (eBin mAdd (eBin mMul (eVar 3) (eC (.int 48271))) (eBin mMul (eBin mMul (eBin mAdd (eVar 2) (eC (.int 1))) (eBin mAdd (eVar 2) (eC (.int 1)))) (eC (.int 7919)))) (eC (.int 11))))
    (sSeq (sSet 5 (eBin mMod (eVar 5) (eC (.int 2147483647))))
    (sExpr (eBM "list" mAppend (eVar 1) (aCons (eBin mMod (eBin mMul (eVar 5) (eVar 5)) (eC (.int 2147483629))) aNil))))))))
    (sRet (eNew (lDisp (aCons (eC (.int 0)) (aCons (eVar 1) (aCons (eC (.int 70)) aNil))))))))
noncomputable def m_law_deck : List MV → MH → Res MV := mfun 1 6 b_law_deck
theorem ne_law_deck : NoEx1 m_law_deck := mfun_noEx
@[irreducible] noncomputable def b_law_next : MSt :=
    (sSeq (sSet 1 (eBin mIx (eVar 0) (eC (.int 0))))
    (sSeq (sSetI (eVar 0) (eC (.int 0)) (eBin mAdd (eVar 1) (eC (.int 1))))
    (sSeq (sSet 2 (eBin mIx (eVar 0) (eC (.int 1))))
    (sSeq (sIf (tOfE (eBin mLt (eVar 1) (eCallB mLen (aCons (eVar 2) aNil))))
    (sRet (eBin mIx (eVar 2) (eVar 1)))
    sNil)
    (sSeq (sIf (tOfE (eBin mEq (eCallB mLen (aCons (eVar 2) aNil)) (eC (.int 0))))
    (sRet (eBin mMod (eBin mMul (eBin mMul (eBin mMul (eBin mAdd (eVar 1) (eC (.int 1))) (eBin mAdd (eVar 1) (eC (.int 1)))) (eBin mAdd (eVar 1) (eC (.int 3)))) (eC (.int 48271))) (eC (.int 2147483629))))
    sNil)
    (sSeq (sSet 3 (eBin mAdd (eBin mIx (eVar 2) (eBin mMod (eVar 1) (eCallB mLen (aCons (eVar 2) aNil)))) (eBin mMul (eC (.int 7)) (eBin mIx (eVar 2) (eBin mMod (eBin mMul (eVar 1) (eC (.int 5))) (eCallB mLen (aCons (eVar 2) aNil)))))))
    (sSeq (sSet 3 (eBin mAdd (eBin mAdd (eVar 3) (eBin mMul (eBin mMul (eVar 1) (eVar 1)) (eC (.int 40503)))) (eC (.int 1))))
    (sRet (eBin mMod (eBin mMul (eVar 3) (eVar 3)) (eC (.int 2147483629)))))))))))
noncomputable def m_law_next : List MV → MH → Res MV := mfun 1 4 b_law_next
theorem ne_law_next : NoEx1 m_law_next := mfun_noEx
@[irreducible] noncomputable def b_law_laid : MSt :=
    (sSeq (sSet 2 (eC (.str "")))
    (sSeq (sSet 3 (eC (.int 1)))
    (sSeq (sSet 4 (eC (.int 1)))
    (sSeq (sSet 5 (eNew (lDisp aNil)))
    (sSeq (sFor (iRange1 (aCons (eCallB mLen (aCons (eVar 0) aNil)) aNil)) (.one 6)
    (sSeq (sSet 7 (eCallD m_law_next [] (aCons (eVar 1) aNil)))
    (sSeq (sSet 8 (eBin mIx (eVar 0) (eVar 6)))
    (sSeq (sSet 9 (eAnd (eBin mGt (eVar 6) (eC (.int 0))) (eOr (eBin mIn (eVar 8) (eC (.str "(){}[]|"))) (eBin mIn (eBin mIx (eVar 0) (eBin mSub (eVar 6) (eC (.int 1)))) (eC (.str "(){}[]|"))))))
    (sSeq (sSet 10 (eBin mMul (eC (.str " ")) (eBin mAdd (eC (.int 1)) (eBin mMod (eVar 7) (eC (.int 3))))))
    (sSeq (sIf (tOrM (tAndM (tOfE (eVar 9)) (tOfE (eBin mEq (eBin mMod (eVar 7) (eC (.int 2))) (eC (.int 0))))) (tAndM (tOfE (eBin mEq (eVar 6) (eC (.int 0)))) (tOfE (eBin mGt (eBin mMod (eVar 7) (eC (.int 4))) (eC (.int 0))))))
    (sSet 10 (eC (.str "")))
    sNil)
    (sSeq (sSet 11 (eBin mAdd (eC (.int 1)) (eBin mMul (eCallB mInt2 (aCons (eBin mLt (eVar 3) (eC (.int 100))) aNil)) (eBin mMod (eBin mDiv (eVar 7) (eC (.int 30))) (eC (.int 2))))))
    (sSeq (sIf (tOrM (tAndM (tOfE (eBin mEq (eBin mMod (eBin mDiv (eVar 7) (eC (.int 6))) (eC (.int 5))) (eC (.int 0)))) (tOfE (eBin mLt (eVar 3) (eC (.int 100))))) (tOfE (eBin mGt (eBin mAdd (eBin mAdd (eVar 4) (eCallB mLen (aCons (eVar 10) aNil))) (eCallB mLen (aCons (eVar 8) aNil))) (eC (.int 121)))))
    (sSeq (sSet 2 (eBin mAdd (eVar 2) (eBin mMul (eC (.str "\n")) (eVar 11))))
    (sSeq (sSet 3 (eBin mAdd (eVar 3) (eVar 11)))
    (sSeq (sSet 4 (eC (.int 1)))
    (sSet 10 (eBin mMul (eC (.str " ")) (eBin mMod (eBin mDiv (eVar 7) (eC (.int 60))) (eC (.int 4))))))))
    sNil)
    (sSeq (sSet 2 (eBin mAdd (eBin mAdd (eVar 2) (eVar 10)) (eVar 8)))
    (sSeq (sExpr (eBM "list" mAppend (eVar 5) (aCons (eTup (aCons (eVar 3) (aCons (eBin mAdd (eVar 4) (eCallB mLen (aCons (eVar 10) aNil))) aNil))) aNil)))
    (sSet 4 (eBin mAdd (eBin mAdd (eVar 4) (eCallB mLen (aCons (eVar 10) aNil))) (eCallB mLen (aCons (eVar 8) aNil))))))))))))))
    (sRet (eTup (aCons (eBin mAdd (eVar 2) (eIxL (lDisp (aCons (eC (.str "")) (aCons (eC (.str "\n")) (aCons (eC (.str "\n ")) (aCons (eC (.str "\n  \n ")) aNil))))) (eBin mMod (eCallD m_law_next [] (aCons (eVar 1) aNil)) (eC (.int 4))))) (aCons (eVar 5) aNil)))))))))
noncomputable def m_law_laid : List MV → MH → Res MV := mfun 2 12 b_law_laid
theorem ne_law_laid : NoEx1 m_law_laid := mfun_noEx
@[irreducible] noncomputable def b_law_right : MSt :=
    (sSeq (sSet 1 (eBin mDiv (eVar 0) (eC (.int 8))))
    (sSeq (sSet 2 (eBin mMod (eVar 0) (eC (.int 8))))
    (sSeq (sIf (tOfE (eBin mEq (eVar 2) (eC (.int 0))))
    (sRet (eBin mIx (eC c_KEPT) (eBin mMod (eVar 1) (eCallB mLen (aCons (eC c_KEPT) aNil)))))
    sNil)
    (sSeq (sIf (tOfE (eBin mEq (eVar 2) (eC (.int 1))))
    (sRet (eIxL (lDisp (aCons (eC (.str "a")) (aCons (eC (.str "z9")) (aCons (eC (.str "aaaaaaaaaaaa")) (aCons (eC (.str "x1y2z3")) (aCons (eC (.str "kinds")) (aCons (eC (.str "selfs")) aNil))))))) (eBin mMod (eVar 1) (eC (.int 6)))))
    sNil)
    (sSeq (sIf (tOfE (eBin mEq (eVar 2) (eC (.int 2))))
    (sRet (eIxL (lDisp (aCons (eC (.str "A")) (aCons (eC (.str "Thing")) (aCons (eC (.str "Z99999999999")) (aCons (eC (.str "AbCdE")) (aCons (eC (.str "N0")) aNil)))))) (eBin mMod (eVar 1) (eC (.int 5)))))
    sNil)
    (sSeq (sIf (tOfE (eBin mEq (eVar 2) (eC (.int 3))))
    (sRet (eBin mAdd (eC (.str "@")) (eIxL (lDisp (aCons (eC (.str "a")) (aCons (eC (.str "b9")) (aCons (eC (.str "zzzzzzzzzzzz")) (aCons (eC (.str "if")) (aCons (eC (.str "field")) aNil)))))) (eBin mMod (eVar 1) (eC (.int 5))))))
    sNil)
    (sSeq (sIf (tOfE (eBin mEq (eVar 2) (eC (.int 4))))
    (sRet (eBin mAdd (eC (.str "'")) (eIxL (lDisp (aCons (eC (.str "")) (aCons (eC (.str "a")) (aCons (eC (.str "_")) (aCons (eC (.str "9")) (aCons (eC (.str "A_b")) (aCons (eBin mMul (eC (.str "abcdefghij")) (eC (.int 4))) (aCons (eBin mMul (eC (.str "Z")) (eC (.int 39))) aNil)))))))) (eBin mMod (eVar 1) (eC (.int 7))))))
    sNil)
    (sSeq (sIf (tOfE (eBin mEq (eVar 2) (eC (.int 5))))
    (sRet (eCallB mStr (aCons (eIxL (lDisp (aCons (eC (.int 0)) (aCons (eC (.int 5)) (aCons (eUn mNeg (eC (.int 5))) (aCons (eBin mSub (eC c_BIG) (eC (.int 1))) (aCons (eBin mSub (eC (.int 1)) (eC c_BIG)) (aCons (eC (.int 10)) (aCons (eUn mNeg (eC (.int 10))) (aCons (eC (.int 99999999999)) aNil))))))))) (eBin mMod (eVar 1) (eC (.int 8)))) aNil)))
    sNil)
    (sSeq (sIf (tOfE (eBin mEq (eVar 2) (eC (.int 6))))
    (sRet (eIxL (lDisp (aCons (eC (.str "+")) (aCons (eC (.str "-")) (aCons (eC (.str "*")) (aCons (eC (.str "/")) (aCons (eC (.str "<")) (aCons (eC (.str "=")) (aCons (eC (.str ":=")) (aCons (eC (.str ":")) aNil))))))))) (eBin mMod (eVar 1) (eC (.int 8)))))
    sNil)
    (sRet (eBin mIx (eC (.str "(){}[]|")) (eBin mMod (eVar 1) (eC (.int 7))))))))))))))
noncomputable def m_law_right : List MV → MH → Res MV := mfun 1 3 b_law_right
theorem ne_law_right : NoEx1 m_law_right := mfun_noEx
@[irreducible] noncomputable def b_law_wrong : MSt :=
    (sSeq (sSet 1 (eNew (lDisp (aCons (eC (.str "aA")) (aCons (eC (.str "aaaaaaaaaaaaa")) (aCons (eC (.str "a_")) (aCons (eC (.str "9a")) (aCons (eC (.str "A_")) (aCons (eC (.str "Z999999999999")) (aCons (eC (.str "@")) (aCons (eC (.str "@9")) (aCons (eC (.str "@A")) (aCons (eC (.str "@aaaaaaaaaaaaa")) (aCons (eBin mAdd (eC (.str "'")) (eBin mMul (eC (.str "a")) (eC (.int 41)))) aNil))))))))))))))
    (sSeq (sSet 1 (eNew (lCatE (eVar 1) (lDisp (aCons (eC (.str "'a'")) (aCons (eC (.str "'a.")) (aCons (eC (.str "-0")) (aCons (eC (.str "007")) (aCons (eC (.str "-07")) (aCons (eCallB mStr (aCons (eC c_BIG) aNil)) (aCons (eCallB mStr (aCons (eUn mNeg (eC c_BIG)) aNil)) (aCons (eC (.str "+1")) (aCons (eC (.str "--1")) (aCons (eC (.str "1-")) aNil))))))))))))))
    (sSeq (sSet 1 (eNew (lCatE (eVar 1) (lDisp (aCons (eC (.str "==")) (aCons (eC (.str ":=:")) (aCons (eC (.str "::")) (aCons (eC (.str ".")) (aCons (eC (.str "#")) aNil)))))))))
    (sSeq (sSet 1 (eNew (lCatE (eVar 1) (lDisp (aCons (eC (.str "a\tb")) (aCons (eC (.str "~")) (aCons (eC (.str "<=")) (aCons (eC (.str "\"a\"")) (aCons (eC (.str "a,")) (aCons (eC (.str "10000000000000")) aNil))))))))))
    (sRet (eBin mIx (eVar 1) (eBin mMod (eVar 0) (eCallB mLen (aCons (eVar 1) aNil)))))))))
noncomputable def m_law_wrong : List MV → MH → Res MV := mfun 1 2 b_law_wrong
theorem ne_law_wrong : NoEx1 m_law_wrong := mfun_noEx
@[irreducible] noncomputable def b_law : MSt :=
    (sSeq (sSet 1 (eCallD m_law_deck [] (aCons (eVar 0) aNil)))
    (sSeq (sSet 2 (eNew (lComp (iRange1 (aCons (eBin mMod (eCallD m_law_next [] (aCons (eVar 1) aNil)) (eC (.int 81))) aNil)) (.one 10) [10] tYesM (eCallD m_law_right [] (aCons (eCallD m_law_next [] (aCons (eVar 1) aNil)) aNil)))))
    (sSeq (sSet 3 (eC .non))
    (sSeq (sIf (tOfE (eBin mEq (eBin mMod (eCallD m_law_next [] (aCons (eVar 1) aNil)) (eC (.int 2))) (eC (.int 1))))
    (sSeq (sSet 3 (eBin mMod (eCallD m_law_next [] (aCons (eVar 1) aNil)) (eBin mAdd (eCallB mLen (aCons (eVar 2) aNil)) (eC (.int 1)))))
    (sExpr (eBM "list" mInsert (eVar 2) (aCons (eVar 3) (aCons (eCallD m_law_wrong [] (aCons (eCallD m_law_next [] (aCons (eVar 1) aNil)) aNil)) aNil)))))
    sNil)
    (sSeq (sSetT (.many [4, 5]) (eCallD m_law_laid [] (aCons (eVar 2) (aCons (eVar 1) aNil))))
    (sSeq (sIf (tOfE (eBin mIs (eVar 3) (eC .non)))
    (sSeq (sSet 6 (eCallB lTuple (lComp (iRange1 (aCons (eCallB mLen (aCons (eVar 2) aNil)) aNil)) (.one 10) [10] tYesM (eBin mAdd (eTup (aCons (eBin mIx (eVar 2) (eVar 10)) aNil)) (eBin mIx (eVar 5) (eVar 10))))))
    (sSeq (sSet 7 (eCallD m_words_of [] (aCons (eVar 4) aNil)))
    (sRet (eAnd (eUn (mIsi "tuple") (eVar 7)) (eBin mEq (eVar 7) (eVar 6))))))
    sNil)
    (sSeq (sSet 8 (eNew (lDisp aNil)))
    (sSeq (sTry4 ["Fault"] 9
    (sExpr (eCallD m_words_of [] (aCons (eVar 4) aNil)))
    (mxB 8 (eBin mAdd (eBin mIx (eVar 5) (eVar 3)) (eTup (aCons (eC (.str "sign")) (aCons (eC (.str "")) aNil))))))
    (sRet (eBin mEq (eVar 8) (eNew (lDisp (aCons (eC (.bl true)) aNil)))))))))))))
noncomputable def m_law : List MV → MH → Res MV := mfun 1 11 b_law
theorem ne_law : NoEx1 m_law := mfun_noEx
end My

set_option Elab.async false
set_option linter.all false
set_option maxRecDepth 100000
set_option maxHeartbeats 4000000
namespace My
open PySem L2 Sm
def clOf {K : PySem.W.Frag} {mg : Str → Option Value} (T : Tx K mg) : Str → Option Addr := fun c => if c = "Fault" then some T.Fault.C else none
theorem cl_Fault {K : PySem.W.Frag} {mg : Str → Option Value} (T : Tx K mg) : clOf T "Fault" = some T.Fault.C := by
  unfold clOf; rw [if_pos rfl]
section
variable {P : Program} {w : World} {K : PySem.W.Frag} {mg : Str → Option Value} {base : Heap}
theorem ok_Fault (T : Tx K mg) : FnOk P w K mg base CX0 1 T.Fault.f T.Fault.fd ["self", "page", "row", "column", "why"] (spFI T.Fault.C) := by
  refine T.Fault.fn.ok sc_Fault_init__ (fun vs H Q E h => by obtain ⟨a, p, r, c, y, rfl, _⟩ := h; rfl) fun cdv A outer s H vs Q E hr h => ⟨tFI K, ?_, read_FI T.Fault.ox T.Fault.n_page T.Fault.n_row T.Fault.n_column T.Fault.n_why rfl h⟩
  exact pss_cons (ps_expr (pe_binit T.SteadError (by rfl) (pa_cons (pv 0) (pa_cons (pe_op op_add_str (pe_op op_add_str (pe_op op_add_str (pe_op op_add_str (pe_op op_add_str (pe_op op_add_str (pv 1) pe_str) (pe_callTy call_str_int (by rfl) T.z_str (by decide +kernel) (pa_cons (pv 2) pa_nil))) pe_str) (pe_callTy call_str_int (by rfl) T.z_str (by decide +kernel) (pa_cons (pv 3) pa_nil))) pe_str) (pv 4)) pa_nil)))) (pss_cons (ps_ost (pv 0) (pv 1)) (pss_cons (ps_ost (pv 0) (pv 2)) (pss_cons (ps_ost (pv 0) (pv 3)) (pss_one (ps_ost (pv 0) (pv 4))))))
theorem ex_Fault_SteadError (T : Tx K mg) : ∀ k, k ∈ (["Fault"] : List Str) → ∀ C, clOf T k = some C → PySem.W.exmOne K (.ref C) (.ref T.SteadError.C) = some true := fun k hk C hC => by
  rw [List.mem_singleton] at hk
  subst hk
  rw [cl_Fault T] at hC
  cases hC
  exact T.x_Fault_SteadError
theorem ok_is_made_of (T : Tx K mg) : FnOk P w K mg base CX0 1 T.d_is_made_of.f T.d_is_made_of.fd ["text", "signs", "low", "high"] (spM K (clOf T) m_is_made_of) := by
  have nd := sc_is_made_of.nd
  unfold m_is_made_of b_is_made_of
  exact fnM (k := 0) T.d_is_made_of.fn sc_is_made_of fun cdv A outer s H E hr =>
    (sss_one (ss_ret (se_and (se_chain op_leM op_leM mLe_noEx mLe_noEx (se_var (pv 2)) (se_callB mLen_noEx lenM (by rfl) T.z_len (by decide +kernel) (sa_cons (se_var (pv 0)) sa_nil)) (se_var (pv 3))) (se_one (se_callBL lAll_ok lAll_noEx (cr_all rfl) (by rfl) T.z_all (by decide +kernel) (sl_comp (own := [("sign", 4)]) (t := (Tg.one 4)) (by decide) rfl nd (si_of (se_var (pv 0))) (blkOk_by (N := N_is_made_of) (sc := defScope s_is_made_of) (by decide +kernel)) (fun _ _ _ _ _ => (pg_name (i := 4) nd rfl (Or.inl rfl))) (fun _ _ _ _ _ => sts_nil) (fun _ _ _ _ _ => (c_In hr (se_var (pv 4)) (se_var (pv 1))))))))))
theorem ok_is_small (T : Tx K mg) : FnOk P w K mg base CX0 2 T.d_is_small.f T.d_is_small.fd ["word"] (spM K (clOf T) m_is_small) := by
  have nd := sc_is_small.nd
  unfold m_is_small b_is_small
  exact fnM (k := 1) T.d_is_small.fn sc_is_small fun cdv A outer s H E hr =>
    (sss_one (ss_ret (se_and (c_In hr (se_sl (se_var (pv 0)) sp_none (sp_some se_int)) (se_const (pe_glob (v := .str "abcdefghijklmnopqrstuvwxyz") rfl T.c_SMALL ⟨_, rfl⟩) fun _ _ => .str _)) (se_one (se_call ne_is_made_of (ok_is_made_of T) (hr.mono (by omega)) rfl T.d_is_made_of.m T.d_is_made_of.kp T.d_is_made_of.b (sa_cons (se_var (pv 0)) (sa_cons (b_Add (se_const (pe_glob (v := .str "abcdefghijklmnopqrstuvwxyz") rfl T.c_SMALL ⟨_, rfl⟩) fun _ _ => .str _) (se_const (pe_glob (v := .str "0123456789") rfl T.c_FIGURES ⟨_, rfl⟩) fun _ _ => .str _)) (sa_cons se_int (sa_cons se_int sa_nil)))))))))
theorem ok_is_kind_name (T : Tx K mg) : FnOk P w K mg base CX0 2 T.d_is_kind_name.f T.d_is_kind_name.fd ["word"] (spM K (clOf T) m_is_kind_name) := by
  have nd := sc_is_kind_name.nd
  unfold m_is_kind_name b_is_kind_name
  exact fnM (k := 1) T.d_is_kind_name.fn sc_is_kind_name fun cdv A outer s H E hr =>
    (sss_one (ss_ret (se_and (c_In hr (se_sl (se_var (pv 0)) sp_none (sp_some se_int)) (se_const (pe_glob (v := .str "ABCDEFGHIJKLMNOPQRSTUVWXYZ") rfl T.c_GREAT ⟨_, rfl⟩) fun _ _ => .str _)) (se_one (se_call ne_is_made_of (ok_is_made_of T) (hr.mono (by omega)) rfl T.d_is_made_of.m T.d_is_made_of.kp T.d_is_made_of.b (sa_cons (se_var (pv 0)) (sa_cons (b_Add (b_Add (se_const (pe_glob (v := .str "abcdefghijklmnopqrstuvwxyz") rfl T.c_SMALL ⟨_, rfl⟩) fun _ _ => .str _) (se_const (pe_glob (v := .str "ABCDEFGHIJKLMNOPQRSTUVWXYZ") rfl T.c_GREAT ⟨_, rfl⟩) fun _ _ => .str _)) (se_const (pe_glob (v := .str "0123456789") rfl T.c_FIGURES ⟨_, rfl⟩) fun _ _ => .str _)) (sa_cons se_int (sa_cons se_int sa_nil)))))))))
theorem ok_is_text (T : Tx K mg) : FnOk P w K mg base CX0 2 T.d_is_text.f T.d_is_text.fd ["text"] (spM K (clOf T) m_is_text) := by
  have nd := sc_is_text.nd
  unfold m_is_text b_is_text
  exact fnM (k := 1) T.d_is_text.fn sc_is_text fun cdv A outer s H E hr =>
    (sss_one (ss_ret (se_call ne_is_made_of (ok_is_made_of T) (hr.mono (by omega)) rfl T.d_is_made_of.m T.d_is_made_of.kp T.d_is_made_of.b (sa_cons (se_var (pv 0)) (sa_cons (b_Add (b_Add (b_Add (se_const (pe_glob (v := .str "abcdefghijklmnopqrstuvwxyz") rfl T.c_SMALL ⟨_, rfl⟩) fun _ _ => .str _) (se_const (pe_glob (v := .str "ABCDEFGHIJKLMNOPQRSTUVWXYZ") rfl T.c_GREAT ⟨_, rfl⟩) fun _ _ => .str _)) (se_const (pe_glob (v := .str "0123456789") rfl T.c_FIGURES ⟨_, rfl⟩) fun _ _ => .str _)) se_str) (sa_cons se_int (sa_cons se_int sa_nil)))))))
theorem ok_is_figures (T : Tx K mg) : FnOk P w K mg base CX0 2 T.d_is_figures.f T.d_is_figures.fd ["word"] (spM K (clOf T) m_is_figures) := by
  have nd := sc_is_figures.nd
  unfold m_is_figures b_is_figures
  exact fnM (k := 1) T.d_is_figures.fn sc_is_figures fun cdv A outer s H E hr =>
    (sss_cons (ss_set (i := 1) nd rfl (Or.inl rfl) (se_var (pv 0)))
    (sss_cons (ss_if (t_Eq hr (se_sl (se_var (pv 0)) sp_none (sp_some se_int)) se_str)
    (sss_one (ss_set (i := 1) nd rfl (Or.inl rfl) (se_sl (se_var (pv 0)) (sp_some se_int) sp_none)))
    sss_nil)
    (sss_cons (ss_if (st_not (st_val (se_call ne_is_made_of (ok_is_made_of T) (hr.mono (by omega)) rfl T.d_is_made_of.m T.d_is_made_of.kp T.d_is_made_of.b (sa_cons (se_var (pv 1)) (sa_cons (se_const (pe_glob (v := .str "0123456789") rfl T.c_FIGURES ⟨_, rfl⟩) fun _ _ => .str _) (sa_cons se_int (sa_cons se_int sa_nil)))))))
    (sss_one (ss_ret se_bl))
    sss_nil)
    (sss_one (ss_ret (se_or (c_Eq hr (se_var (pv 0)) se_str) (se_one (c_NotEq hr (x_ix hr (se_var (pv 1)) se_int (fun _ _ => rfl)) se_str))))))))
theorem ok_is_word (T : Tx K mg) : FnOk P w K mg base CX0 3 T.d_is_word.f T.d_is_word.fd ["word"] (spM K (clOf T) m_is_word) := by
  have nd := sc_is_word.nd
  unfold m_is_word b_is_word
  exact fnM (k := 2) T.d_is_word.fn sc_is_word fun cdv A outer s H E hr =>
    (sss_cons (ss_if (PW.pt (sw_or (t_In hr (se_var (pv 0)) (se_const (pe_glob (v := .str "(){}[]|") rfl T.c_BRACKETS ⟨_, rfl⟩) fun _ _ => .str _)) (sw_or (t_In hr (se_var (pv 0)) (se_const (pe_glob (v := .ref T.k_OPERATORS.a) rfl T.k_OPERATORS.m rfl) fun _ H => .tup (T.k_OPERATORS.t H) (.cons (.str _) (.cons (.str _) (.cons (.str _) (.cons (.str _) (.cons (.str _) (.cons (.str _) .nil)))))))) (sw_or1 (t_In hr (se_var (pv 0)) (se_tup (sa_cons se_str (sa_cons se_str sa_nil))))))))
    (sss_one (ss_ret se_bl))
    sss_nil)
    (sss_cons (ss_if (t_Eq hr (x_ix hr (se_var (pv 0)) se_int (fun _ _ => rfl)) se_str)
    (sss_one (ss_ret (se_and (c_Gt (se_callB mLen_noEx lenM (by rfl) T.z_len (by decide +kernel) (sa_cons (se_var (pv 0)) sa_nil)) se_int) (se_one (se_call ne_is_small (ok_is_small T) (hr.mono (by omega)) rfl T.d_is_small.m T.d_is_small.kp T.d_is_small.b (sa_cons (se_sl (se_var (pv 0)) (sp_some se_int) sp_none) sa_nil))))))
    sss_nil)
    (sss_cons (ss_if (t_Eq hr (x_ix hr (se_var (pv 0)) se_int (fun _ _ => rfl)) se_str)
    (sss_one (ss_ret (se_call ne_is_text (ok_is_text T) (hr.mono (by omega)) rfl T.d_is_text.m T.d_is_text.kp T.d_is_text.b (sa_cons (se_sl (se_var (pv 0)) (sp_some se_int) sp_none) sa_nil))))
    sss_nil)
    (sss_one (ss_ret (se_or (se_call ne_is_small (ok_is_small T) (hr.mono (by omega)) rfl T.d_is_small.m T.d_is_small.kp T.d_is_small.b (sa_cons (se_var (pv 0)) sa_nil)) (se_or (se_call ne_is_kind_name (ok_is_kind_name T) (hr.mono (by omega)) rfl T.d_is_kind_name.m T.d_is_kind_name.kp T.d_is_kind_name.b (sa_cons (se_var (pv 0)) sa_nil)) (se_one (se_call ne_is_figures (ok_is_figures T) (hr.mono (by omega)) rfl T.d_is_figures.m T.d_is_figures.kp T.d_is_figures.b (sa_cons (se_var (pv 0)) sa_nil))))))))))
theorem ok_row_words (T : Tx K mg) : FnOk P w K mg base CX0 1 T.d_row_words.f T.d_row_words.fd ["text"] (spM K (clOf T) m_row_words) := by
  have nd := sc_row_words.nd
  unfold m_row_words b_row_words
  exact fnM (k := 0) T.d_row_words.fn sc_row_words fun cdv A outer s H E hr =>
    (sss_cons (ss_set (i := 1) nd rfl (Or.inl rfl) (se_new (sl_disp sa_nil)))
    (sss_cons (ss_set (i := 2) nd rfl (Or.inl rfl) se_str)
    (sss_cons (ss_for (t := (Tg.many [3, 4])) PassesOwn.never rfl (si_enumA (by rfl) T.z_enumerate (b_Add (se_var (pv 0)) se_str)) (pg_tup rfl (pgs_cons (pg_name (i := 3) nd rfl (Or.inl rfl)) (pgs_cons (pg_name (i := 4) nd rfl (Or.inl rfl)) pgs_nil)))
    (sss_one (ss_if (PW.pt (sw_or (t_Eq hr (se_var (pv 4)) se_str) (sw_or1 (t_In hr (se_var (pv 4)) (se_const (pe_glob (v := .str "(){}[]|") rfl T.c_BRACKETS ⟨_, rfl⟩) fun _ _ => .str _)))))
    (sss_cons (ss_if (t_NotEq hr (se_var (pv 2)) se_str)
    (sss_one (ss_expr (se_bm mAppend_noEx PySem.F.plainAttrs_list PySem.F.slot_list_append PySem.F.type_list_append appendM (se_var (pv 1)) (sa_cons (se_tup (sa_cons (se_var (pv 2)) (sa_cons (b_Sub (b_Add (se_var (pv 3)) se_int) (se_callB mLen_noEx lenM (by rfl) T.z_len (by decide +kernel) (sa_cons (se_var (pv 2)) sa_nil))) sa_nil))) sa_nil))))
    sss_nil)
    (sss_cons (ss_set (i := 2) nd rfl (Or.inl rfl) se_str)
    (sss_one (ss_if (t_NotEq hr (se_var (pv 4)) se_str)
    (sss_one (ss_expr (se_bm mAppend_noEx PySem.F.plainAttrs_list PySem.F.slot_list_append PySem.F.type_list_append appendM (se_var (pv 1)) (sa_cons (se_tup (sa_cons (se_var (pv 4)) (sa_cons (b_Add (se_var (pv 3)) se_int) sa_nil))) sa_nil))))
    sss_nil))))
    (sss_one (ss_aug (i := 2) mIadd_noEx nd rfl (Or.inl rfl) (se_var (pv 4)) iaddM)))))
    (sss_one (ss_ret (se_var (pv 1)))))))
theorem ok_scanned (T : Tx K mg) : FnOk P w K mg base CX0 4 T.d_scanned.f T.d_scanned.fd ["text"] (spM K (clOf T) m_scanned) := by
  have nd := sc_scanned.nd
  unfold m_scanned b_scanned
  exact fnM (k := 3) T.d_scanned.fn sc_scanned fun cdv A outer s H E hr =>
    (sss_cons (ss_set (i := 1) nd rfl (Or.inl rfl) (se_new (sl_disp sa_nil)))
    (sss_cons (ss_for (t := (Tg.many [2, 3])) PassesOwn.never rfl (si_enumA (by rfl) T.z_enumerate (se_bm mSplit_noEx PySem.F.plainAttrs_str PySem.F.slot_str_split PySem.F.type_str_split splitM (se_var (pv 0)) (sa_cons se_str sa_nil))) (pg_tup rfl (pgs_cons (pg_name (i := 2) nd rfl (Or.inl rfl)) (pgs_cons (pg_name (i := 3) nd rfl (Or.inl rfl)) pgs_nil)))
    (sss_cons (ss_if (t_Eq hr (se_var (pv 2)) (se_const (pe_glob (v := .int 300) rfl T.c_ROWS ⟨_, rfl⟩) fun _ _ => .int _))
    (sss_one (ss_ret (se_tup (sa_cons (se_var (pv 1)) (sa_cons (se_tup (sa_cons (b_Add (se_const (pe_glob (v := .int 300) rfl T.c_ROWS ⟨_, rfl⟩) fun _ _ => .int _) se_int) (sa_cons se_int sa_nil))) sa_nil)))))
    sss_nil)
    (sss_cons (ss_for (t := (Tg.many [4, 5])) PassesOwn.never rfl (si_of (se_call ne_row_words (ok_row_words T) (hr.mono (by omega)) rfl T.d_row_words.m T.d_row_words.kp T.d_row_words.b (sa_cons (se_var (pv 3)) sa_nil))) (pg_tup rfl (pgs_cons (pg_name (i := 4) nd rfl (Or.inl rfl)) (pgs_cons (pg_name (i := 5) nd rfl (Or.inl rfl)) pgs_nil)))
    (sss_cons (ss_if (PW.pt (sw_or (t_Gt (se_var (pv 5)) (se_const (pe_glob (v := .int 120) rfl T.c_COLUMNS ⟨_, rfl⟩) fun _ _ => .int _)) (sw_or1 (st_not (st_val (se_call ne_is_word (ok_is_word T) (hr.mono (by omega)) rfl T.d_is_word.m T.d_is_word.kp T.d_is_word.b (sa_cons (se_var (pv 4)) sa_nil)))))))
    (sss_one (ss_ret (se_tup (sa_cons (se_var (pv 1)) (sa_cons (se_tup (sa_cons (b_Add (se_var (pv 2)) se_int) (sa_cons (se_callB mMin_noEx (minM rfl) (by rfl) T.z_min (by decide +kernel) (sa_cons (se_var (pv 5)) (sa_cons (b_Add (se_const (pe_glob (v := .int 120) rfl T.c_COLUMNS ⟨_, rfl⟩) fun _ _ => .int _) se_int) sa_nil))) sa_nil))) sa_nil)))))
    sss_nil)
    (sss_one (ss_expr (se_bm mAppend_noEx PySem.F.plainAttrs_list PySem.F.slot_list_append PySem.F.type_list_append appendM (se_var (pv 1)) (sa_cons (se_tup (sa_cons (se_var (pv 4)) (sa_cons (b_Add (se_var (pv 2)) se_int) (sa_cons (se_var (pv 5)) sa_nil)))) sa_nil))))))
    (sss_one (ss_if (t_Gt (se_callB mLen_noEx lenM (by rfl) T.z_len (by decide +kernel) (sa_cons (se_var (pv 3)) sa_nil)) (se_const (pe_glob (v := .int 120) rfl T.c_COLUMNS ⟨_, rfl⟩) fun _ _ => .int _))
    (sss_one (ss_ret (se_tup (sa_cons (se_var (pv 1)) (sa_cons (se_tup (sa_cons (b_Add (se_var (pv 2)) se_int) (sa_cons (b_Add (se_const (pe_glob (v := .int 120) rfl T.c_COLUMNS ⟨_, rfl⟩) fun _ _ => .int _) se_int) sa_nil))) sa_nil)))))
    sss_nil)))))
    (sss_one (ss_ret (se_tup (sa_cons (se_var (pv 1)) (sa_cons se_non sa_nil)))))))
theorem ok_words_of (T : Tx K mg) : FnOk P w K mg base (L2.CX P w) 5 T.d_words_of.f T.d_words_of.fd ["text"] (spX K (clOf T) m_words_of) := by
  have nd := sc_words_of.nd
  unfold m_words_of b_words_of
  exact fnX (k := 4) T.d_words_of.fn sc_words_of fun cdv A outer s H E hr hp tk =>
    (sss_cons (ss_setT (t := (Tg.many [1, 2])) (se_call ne_scanned (ok_scanned T) (hr.mono (by omega)) rfl T.d_scanned.m T.d_scanned.kp T.d_scanned.b (sa_cons (se_var (pv 0)) sa_nil)) (pg_tup rfl (pgs_cons (pg_name (i := 1) nd rfl (Or.inl rfl)) (pgs_cons (pg_name (i := 2) nd rfl (Or.inl rfl)) pgs_nil))))
    (sss_cons (ss_if (t_IsNot (se_var (pv 2)) se_non)
    (sss_one (ss_raise4 rfl tk (cl_Fault T) T.Fault.ox T.Fault.iC T.Fault.tI (ok_Fault T) (hr.mono (by omega)) T.Fault.b rfl T.Fault.m (sa_cons se_str (sa_cons (x_ix hr (se_var (pv 2)) se_int (fun _ _ => rfl)) (sa_cons (x_ix hr (se_var (pv 2)) se_int (fun _ _ => rfl)) (sa_cons se_str sa_nil))))))
    sss_nil)
    (sss_one (ss_ret (se_callTy mTuple_noEx tupleM (by rfl) T.z_tuple (by decide +kernel) (sa_cons (se_var (pv 1)) sa_nil))))))
theorem ok_law_deck (T : Tx K mg) : FnOk P w K mg base CX0 1 T.d_law_deck.f T.d_law_deck.fd ["_law_script"] (spM K (clOf T) m_law_deck) := by
  have nd := sc_law_deck.nd
  unfold m_law_deck b_law_deck
  exact fnM (k := 0) T.d_law_deck.fn sc_law_deck fun cdv A outer s H E hr =>
    (sss_cons (ss_set (i := 1) nd rfl (Or.inl rfl) (se_new (sl_disp sa_nil)))
    (sss_cons (ss_for (t := (Tg.one 2)) PassesOwn.never rfl (si_range1 (by rfl) T.z_range (sa_cons (se_callB mMin_noEx (minM rfl) (by rfl) T.z_min (by decide +kernel) (sa_cons (se_callB mLen_noEx lenM (by rfl) T.z_len (by decide +kernel) (sa_cons (se_var (pv 0)) sa_nil)) (sa_cons se_int sa_nil))) sa_nil)) (pg_name (i := 2) nd rfl (Or.inl rfl))
    (sss_cons (ss_set (i := 3) nd rfl (Or.inl rfl) (x_ix hr (se_var (pv 0)) (se_var (pv 2)) (fun _ _ => rfl)))
    (sss_one (ss_if (t_GtE (se_var (pv 3)) (b_Pow se_int se_int))
    (sss_one (ss_for (t := (Tg.one 4)) PassesOwn.never rfl (si_range1 (by rfl) T.z_range (sa_cons se_int sa_nil)) (pg_name (i := 4) nd rfl (Or.inl rfl))
    (sss_one (ss_if (t_Gt (se_var (pv 3)) se_int)
    (sss_cons (ss_expr (se_bm mAppend_noEx PySem.F.plainAttrs_list PySem.F.slot_list_append PySem.F.type_list_append appendM (se_var (pv 1)) (sa_cons (b_Mod (se_var (pv 3)) se_int) sa_nil)))
    (sss_one (ss_set (i := 3) nd rfl (Or.inl rfl) (b_FloorDiv (se_var (pv 3)) se_int))))
    sss_nil))))
    (sss_cons (ss_set (i := 5) nd rfl (Or.inl rfl) (b_Add (b_Add (b_Mult (se_var (pv 3)) se_int) (b_Mult (b_Mult (b_Add (se_var (pv 2)) se_int) (b_Add (se_var (pv 2)) se_int)) se_int)) se_int))
    (sss_cons (ss_set (i := 5) nd rfl (Or.inl rfl) (b_Mod (se_var (pv 5)) se_int))
    (sss_one (ss_expr (se_bm mAppend_noEx PySem.F.plainAttrs_list PySem.F.slot_list_append PySem.F.type_list_append appendM (se_var (pv 1)) (sa_cons (b_Mod (b_Mult (se_var (pv 5)) (se_var (pv 5))) se_int) sa_nil))))))))))
    (sss_one (ss_ret (se_new (sl_disp (sa_cons se_int (sa_cons (se_var (pv 1)) (sa_cons se_int sa_nil)))))))))
theorem ok_law_next (T : Tx K mg) : FnOk P w K mg base CX0 1 T.d_law_next.f T.d_law_next.fd ["_law_deck_here"] (spM K (clOf T) m_law_next) := by
  have nd := sc_law_next.nd
  unfold m_law_next b_law_next
  exact fnM (k := 0) T.d_law_next.fn sc_law_next fun cdv A outer s H E hr =>
    (sss_cons (ss_set (i := 1) nd rfl (Or.inl rfl) (x_ix hr (se_var (pv 0)) se_int (fun _ _ => rfl)))
    (sss_cons (ss_setI (se_var (pv 0)) se_int (b_Add (se_var (pv 1)) se_int))
    (sss_cons (ss_set (i := 2) nd rfl (Or.inl rfl) (x_ix hr (se_var (pv 0)) se_int (fun _ _ => rfl)))
    (sss_cons (ss_if (t_Lt (se_var (pv 1)) (se_callB mLen_noEx lenM (by rfl) T.z_len (by decide +kernel) (sa_cons (se_var (pv 2)) sa_nil)))
    (sss_one (ss_ret (x_ix hr (se_var (pv 2)) (se_var (pv 1)) (fun _ _ => rfl))))
    sss_nil)
    (sss_cons (ss_if (t_Eq hr (se_callB mLen_noEx lenM (by rfl) T.z_len (by decide +kernel) (sa_cons (se_var (pv 2)) sa_nil)) se_int)
    (sss_one (ss_ret (b_Mod (b_Mult (b_Mult (b_Mult (b_Add (se_var (pv 1)) se_int) (b_Add (se_var (pv 1)) se_int)) (b_Add (se_var (pv 1)) se_int)) se_int) se_int)))
    sss_nil)
    (sss_cons (ss_set (i := 3) nd rfl (Or.inl rfl) (b_Add (x_ix hr (se_var (pv 2)) (b_Mod (se_var (pv 1)) (se_callB mLen_noEx lenM (by rfl) T.z_len (by decide +kernel) (sa_cons (se_var (pv 2)) sa_nil))) (fun _ _ => rfl)) (b_Mult se_int (x_ix hr (se_var (pv 2)) (b_Mod (b_Mult (se_var (pv 1)) se_int) (se_callB mLen_noEx lenM (by rfl) T.z_len (by decide +kernel) (sa_cons (se_var (pv 2)) sa_nil))) (fun _ _ => rfl)))))
    (sss_cons (ss_set (i := 3) nd rfl (Or.inl rfl) (b_Add (b_Add (se_var (pv 3)) (b_Mult (b_Mult (se_var (pv 1)) (se_var (pv 1))) se_int)) se_int))
    (sss_one (ss_ret (b_Mod (b_Mult (se_var (pv 3)) (se_var (pv 3))) se_int))))))))))
theorem ok_law_laid (T : Tx K mg) : FnOk P w K mg base CX0 2 T.d_law_laid.f T.d_law_laid.fd ["_law_words", "_law_deck_here"] (spM K (clOf T) m_law_laid) := by
  have nd := sc_law_laid.nd
  unfold m_law_laid b_law_laid
  exact fnM (k := 1) T.d_law_laid.fn sc_law_laid fun cdv A outer s H E hr =>
    (sss_cons (ss_set (i := 2) nd rfl (Or.inl rfl) se_str)
    (sss_cons (ss_set (i := 3) nd rfl (Or.inl rfl) se_int)
    (sss_cons (ss_set (i := 4) nd rfl (Or.inl rfl) se_int)
    (sss_cons (ss_set (i := 5) nd rfl (Or.inl rfl) (se_new (sl_disp sa_nil)))
    (sss_cons (ss_for (t := (Tg.one 6)) PassesOwn.never rfl (si_range1 (by rfl) T.z_range (sa_cons (se_callB mLen_noEx lenM (by rfl) T.z_len (by decide +kernel) (sa_cons (se_var (pv 0)) sa_nil)) sa_nil)) (pg_name (i := 6) nd rfl (Or.inl rfl))
    (sss_cons (ss_set (i := 7) nd rfl (Or.inl rfl) (se_call ne_law_next (ok_law_next T) (hr.mono (by omega)) rfl T.d_law_next.m T.d_law_next.kp T.d_law_next.b (sa_cons (se_var (pv 1)) sa_nil)))
    (sss_cons (ss_set (i := 8) nd rfl (Or.inl rfl) (x_ix hr (se_var (pv 0)) (se_var (pv 6)) (fun _ _ => rfl)))
    (sss_cons (ss_set (i := 9) nd rfl (Or.inl rfl) (se_and (c_Gt (se_var (pv 6)) se_int) (se_one (se_or (c_In hr (se_var (pv 8)) se_str) (se_one (c_In hr (x_ix hr (se_var (pv 0)) (b_Sub (se_var (pv 6)) se_int) (fun _ _ => rfl)) se_str))))))
    (sss_cons (ss_set (i := 10) nd rfl (Or.inl rfl) (b_Mult se_str (b_Add se_int (b_Mod (se_var (pv 7)) se_int))))
    (sss_cons (ss_if (PW.pt (sw_or (PW.pt (sw_and (st_val (se_var (pv 9))) (sw_and1 (t_Eq hr (b_Mod (se_var (pv 7)) se_int) se_int)))) (sw_or1 (PW.pt (sw_and (t_Eq hr (se_var (pv 6)) se_int) (sw_and1 (t_Gt (b_Mod (se_var (pv 7)) se_int) se_int)))))))
    (sss_one (ss_set (i := 10) nd rfl (Or.inl rfl) se_str))
    sss_nil)
    (sss_cons (ss_set (i := 11) nd rfl (Or.inl rfl) (b_Add se_int (b_Mult (se_callTy mInt2_noEx int2M (by rfl) T.z_int (by decide +kernel) (sa_cons (c_Lt (se_var (pv 3)) se_int) sa_nil)) (b_Mod (b_FloorDiv (se_var (pv 7)) se_int) se_int))))
    (sss_cons (ss_if (PW.pt (sw_or (PW.pt (sw_and (t_Eq hr (b_Mod (b_FloorDiv (se_var (pv 7)) se_int) se_int) se_int) (sw_and1 (t_Lt (se_var (pv 3)) se_int)))) (sw_or1 (t_Gt (b_Add (b_Add (se_var (pv 4)) (se_callB mLen_noEx lenM (by rfl) T.z_len (by decide +kernel) (sa_cons (se_var (pv 10)) sa_nil))) (se_callB mLen_noEx lenM (by rfl) T.z_len (by decide +kernel) (sa_cons (se_var (pv 8)) sa_nil))) se_int))))
    (sss_cons (ss_set (i := 2) nd rfl (Or.inl rfl) (b_Add (se_var (pv 2)) (b_Mult se_str (se_var (pv 11)))))
    (sss_cons (ss_set (i := 3) nd rfl (Or.inl rfl) (b_Add (se_var (pv 3)) (se_var (pv 11))))
    (sss_cons (ss_set (i := 4) nd rfl (Or.inl rfl) se_int)
    (sss_one (ss_set (i := 10) nd rfl (Or.inl rfl) (b_Mult se_str (b_Mod (b_FloorDiv (se_var (pv 7)) se_int) se_int)))))))
    sss_nil)
    (sss_cons (ss_set (i := 2) nd rfl (Or.inl rfl) (b_Add (b_Add (se_var (pv 2)) (se_var (pv 10))) (se_var (pv 8))))
    (sss_cons (ss_expr (se_bm mAppend_noEx PySem.F.plainAttrs_list PySem.F.slot_list_append PySem.F.type_list_append appendM (se_var (pv 5)) (sa_cons (se_tup (sa_cons (se_var (pv 3)) (sa_cons (b_Add (se_var (pv 4)) (se_callB mLen_noEx lenM (by rfl) T.z_len (by decide +kernel) (sa_cons (se_var (pv 10)) sa_nil))) sa_nil))) sa_nil)))
    (sss_one (ss_set (i := 4) nd rfl (Or.inl rfl) (b_Add (b_Add (se_var (pv 4)) (se_callB mLen_noEx lenM (by rfl) T.z_len (by decide +kernel) (sa_cons (se_var (pv 10)) sa_nil))) (se_callB mLen_noEx lenM (by rfl) T.z_len (by decide +kernel) (sa_cons (se_var (pv 8)) sa_nil)))))))))))))))
    (sss_one (ss_ret (se_tup (sa_cons (b_Add (se_var (pv 2)) (se_ixL (sl_disp (sa_cons se_str (sa_cons se_str (sa_cons se_str (sa_cons se_str sa_nil))))) (b_Mod (se_call ne_law_next (ok_law_next T) (hr.mono (by omega)) rfl T.d_law_next.m T.d_law_next.kp T.d_law_next.b (sa_cons (se_var (pv 1)) sa_nil)) se_int) (fun _ _ => rfl))) (sa_cons (se_var (pv 5)) sa_nil))))))))))
theorem ok_law_right (T : Tx K mg) : FnOk P w K mg base CX0 1 T.d_law_right.f T.d_law_right.fd ["_law_draw"] (spM K (clOf T) m_law_right) := by
  have nd := sc_law_right.nd
  unfold m_law_right b_law_right
  exact fnM (k := 0) T.d_law_right.fn sc_law_right fun cdv A outer s H E hr =>
    (sss_cons (ss_set (i := 1) nd rfl (Or.inl rfl) (b_FloorDiv (se_var (pv 0)) se_int))
    (sss_cons (ss_set (i := 2) nd rfl (Or.inl rfl) (b_Mod (se_var (pv 0)) se_int))
    (sss_cons (ss_if (t_Eq hr (se_var (pv 2)) se_int)
    (sss_one (ss_ret (x_ix hr (se_const (pe_glob (v := .ref T.k_KEPT.a) rfl T.k_KEPT.m rfl) fun _ H => .tup (T.k_KEPT.t H) (.cons (.str _) (.cons (.str _) (.cons (.str _) (.cons (.str _) (.cons (.str _) (.cons (.str _) (.cons (.str _) (.cons (.str _) (.cons (.str _) (.cons (.str _) (.cons (.str _) (.cons (.str _) (.cons (.str _) (.cons (.str _) (.cons (.str _) (.cons (.str _) (.cons (.str _) (.cons (.str _) (.cons (.str _) (.cons (.str _) (.cons (.str _) (.cons (.str _) .nil))))))))))))))))))))))) (b_Mod (se_var (pv 1)) (se_callB mLen_noEx lenM (by rfl) T.z_len (by decide +kernel) (sa_cons (se_const (pe_glob (v := .ref T.k_KEPT.a) rfl T.k_KEPT.m rfl) fun _ H => .tup (T.k_KEPT.t H) (.cons (.str _) (.cons (.str _) (.cons (.str _) (.cons (.str _) (.cons (.str _) (.cons (.str _) (.cons (.str _) (.cons (.str _) (.cons (.str _) (.cons (.str _) (.cons (.str _) (.cons (.str _) (.cons (.str _) (.cons (.str _) (.cons (.str _) (.cons (.str _) (.cons (.str _) (.cons (.str _) (.cons (.str _) (.cons (.str _) (.cons (.str _) (.cons (.str _) .nil))))))))))))))))))))))) sa_nil))) (fun _ _ => rfl))))
    sss_nil)
    (sss_cons (ss_if (t_Eq hr (se_var (pv 2)) se_int)
    (sss_one (ss_ret (se_ixL (sl_disp (sa_cons se_str (sa_cons se_str (sa_cons se_str (sa_cons se_str (sa_cons se_str (sa_cons se_str sa_nil))))))) (b_Mod (se_var (pv 1)) se_int) (fun _ _ => rfl))))
    sss_nil)
    (sss_cons (ss_if (t_Eq hr (se_var (pv 2)) se_int)
    (sss_one (ss_ret (se_ixL (sl_disp (sa_cons se_str (sa_cons se_str (sa_cons se_str (sa_cons se_str (sa_cons se_str sa_nil)))))) (b_Mod (se_var (pv 1)) se_int) (fun _ _ => rfl))))
    sss_nil)
    (sss_cons (ss_if (t_Eq hr (se_var (pv 2)) se_int)
    (sss_one (ss_ret (b_Add se_str (se_ixL (sl_disp (sa_cons se_str (sa_cons se_str (sa_cons se_str (sa_cons se_str (sa_cons se_str sa_nil)))))) (b_Mod (se_var (pv 1)) se_int) (fun _ _ => rfl)))))
    sss_nil)
    (sss_cons (ss_if (t_Eq hr (se_var (pv 2)) se_int)
    (sss_one (ss_ret (b_Add se_str (se_ixL (sl_disp (sa_cons se_str (sa_cons se_str (sa_cons se_str (sa_cons se_str (sa_cons se_str (sa_cons (b_Mult se_str se_int) (sa_cons (b_Mult se_str se_int) sa_nil)))))))) (b_Mod (se_var (pv 1)) se_int) (fun _ _ => rfl)))))
    sss_nil)
    (sss_cons (ss_if (t_Eq hr (se_var (pv 2)) se_int)
    (sss_one (ss_ret (se_callTy mStr_noEx strM (by rfl) T.z_str (by decide +kernel) (sa_cons (se_ixL (sl_disp (sa_cons se_int (sa_cons se_int (sa_cons (se_neg se_int) (sa_cons (b_Sub (se_const (pe_glob (v := .int 1000000000000) rfl T.c_BIG ⟨_, rfl⟩) fun _ _ => .int _) se_int) (sa_cons (b_Sub se_int (se_const (pe_glob (v := .int 1000000000000) rfl T.c_BIG ⟨_, rfl⟩) fun _ _ => .int _)) (sa_cons se_int (sa_cons (se_neg se_int) (sa_cons se_int sa_nil))))))))) (b_Mod (se_var (pv 1)) se_int) (fun _ _ => rfl)) sa_nil))))
    sss_nil)
    (sss_cons (ss_if (t_Eq hr (se_var (pv 2)) se_int)
    (sss_one (ss_ret (se_ixL (sl_disp (sa_cons se_str (sa_cons se_str (sa_cons se_str (sa_cons se_str (sa_cons se_str (sa_cons se_str (sa_cons se_str (sa_cons se_str sa_nil))))))))) (b_Mod (se_var (pv 1)) se_int) (fun _ _ => rfl))))
    sss_nil)
    (sss_one (ss_ret (x_ix hr se_str (b_Mod (se_var (pv 1)) se_int) (fun _ _ => rfl)))))))))))))
theorem ok_law_wrong (T : Tx K mg) : FnOk P w K mg base CX0 1 T.d_law_wrong.f T.d_law_wrong.fd ["_law_draw"] (spM K (clOf T) m_law_wrong) := by
  have nd := sc_law_wrong.nd
  unfold m_law_wrong b_law_wrong
  exact fnM (k := 0) T.d_law_wrong.fn sc_law_wrong fun cdv A outer s H E hr =>
    (sss_cons (ss_set (i := 1) nd rfl (Or.inl rfl) (se_new (sl_disp (sa_cons se_str (sa_cons se_str (sa_cons se_str (sa_cons se_str (sa_cons se_str (sa_cons se_str (sa_cons se_str (sa_cons se_str (sa_cons se_str (sa_cons se_str (sa_cons (b_Add se_str (b_Mult se_str se_int)) sa_nil))))))))))))))
    (sss_cons (ss_set (i := 1) nd rfl (Or.inl rfl) (se_new (sl_catE (se_var (pv 1)) (sl_disp (sa_cons se_str (sa_cons se_str (sa_cons se_str (sa_cons se_str (sa_cons se_str (sa_cons (se_callTy mStr_noEx strM (by rfl) T.z_str (by decide +kernel) (sa_cons (se_const (pe_glob (v := .int 1000000000000) rfl T.c_BIG ⟨_, rfl⟩) fun _ _ => .int _) sa_nil)) (sa_cons (se_callTy mStr_noEx strM (by rfl) T.z_str (by decide +kernel) (sa_cons (se_neg (se_const (pe_glob (v := .int 1000000000000) rfl T.c_BIG ⟨_, rfl⟩) fun _ _ => .int _)) sa_nil)) (sa_cons se_str (sa_cons se_str (sa_cons se_str sa_nil))))))))))))))
    (sss_cons (ss_set (i := 1) nd rfl (Or.inl rfl) (se_new (sl_catE (se_var (pv 1)) (sl_disp (sa_cons se_str (sa_cons se_str (sa_cons se_str (sa_cons se_str (sa_cons se_str sa_nil)))))))))
    (sss_cons (ss_set (i := 1) nd rfl (Or.inl rfl) (se_new (sl_catE (se_var (pv 1)) (sl_disp (sa_cons se_str (sa_cons se_str (sa_cons se_str (sa_cons se_str (sa_cons se_str (sa_cons se_str sa_nil))))))))))
    (sss_one (ss_ret (x_ix hr (se_var (pv 1)) (b_Mod (se_var (pv 0)) (se_callB mLen_noEx lenM (by rfl) T.z_len (by decide +kernel) (sa_cons (se_var (pv 1)) sa_nil))) (fun _ _ => rfl))))))))
theorem ok_law (T : Tx K mg) : FnOk P w K mg base CX0 6 T.d_law.f T.d_law.fd ["_law_script"] (spM K (clOf T) m_law) := by
  have nd := sc_law.nd
  unfold m_law b_law
  exact fnM (k := 5) T.d_law.fn sc_law fun cdv A outer s H E hr =>
    (sss_cons (ss_set (i := 1) nd rfl (Or.inr rfl) (se_call ne_law_deck (ok_law_deck T) (hr.mono (by omega)) rfl T.d_law_deck.m T.d_law_deck.kp T.d_law_deck.b (sa_cons (se_var (pv 0)) sa_nil)))
    (sss_cons (ss_set (i := 2) nd rfl (Or.inr rfl) (se_new (sl_comp (own := [("_law_k", 10)]) (t := (Tg.one 10)) (by decide) rfl nd (si_range1 (by rfl) T.z_range (sa_cons (b_Mod (se_call ne_law_next (ok_law_next T) (hr.mono (by omega)) rfl T.d_law_next.m T.d_law_next.kp T.d_law_next.b (sa_cons (se_var (pv 1)) sa_nil)) se_int) sa_nil)) (blkOk_by (N := N_law) (sc := defScope s_law) (by decide +kernel)) (fun _ _ _ _ _ => (pg_name (i := 10) nd rfl (Or.inl rfl))) (fun _ _ _ _ _ => sts_nil) (fun _ _ _ _ _ => (se_call ne_law_right (ok_law_right T) (hr.mono (by omega)) rfl T.d_law_right.m T.d_law_right.kp T.d_law_right.b (sa_cons (se_call ne_law_next (ok_law_next T) (hr.mono (by omega)) rfl T.d_law_next.m T.d_law_next.kp T.d_law_next.b (sa_cons (se_var (pv 1)) sa_nil)) sa_nil))))))
    (sss_cons (ss_set (i := 3) nd rfl (Or.inl rfl) se_non)
    (sss_cons (ss_if (t_Eq hr (b_Mod (se_call ne_law_next (ok_law_next T) (hr.mono (by omega)) rfl T.d_law_next.m T.d_law_next.kp T.d_law_next.b (sa_cons (se_var (pv 1)) sa_nil)) se_int) se_int)
    (sss_cons (ss_set (i := 3) nd rfl (Or.inl rfl) (b_Mod (se_call ne_law_next (ok_law_next T) (hr.mono (by omega)) rfl T.d_law_next.m T.d_law_next.kp T.d_law_next.b (sa_cons (se_var (pv 1)) sa_nil)) (b_Add (se_callB mLen_noEx lenM (by rfl) T.z_len (by decide +kernel) (sa_cons (se_var (pv 2)) sa_nil)) se_int)))
    (sss_one (ss_expr (se_bm mInsert_noEx PySem.F.plainAttrs_list PySem.F.slot_list_insert PySem.F.type_list_insert insertM (se_var (pv 2)) (sa_cons (se_var (pv 3)) (sa_cons (se_call ne_law_wrong (ok_law_wrong T) (hr.mono (by omega)) rfl T.d_law_wrong.m T.d_law_wrong.kp T.d_law_wrong.b (sa_cons (se_call ne_law_next (ok_law_next T) (hr.mono (by omega)) rfl T.d_law_next.m T.d_law_next.kp T.d_law_next.b (sa_cons (se_var (pv 1)) sa_nil)) sa_nil)) sa_nil))))))
    sss_nil)
    (sss_cons (ss_setT (t := (Tg.many [4, 5])) (se_call ne_law_laid (ok_law_laid T) (hr.mono (by omega)) rfl T.d_law_laid.m T.d_law_laid.kp T.d_law_laid.b (sa_cons (se_var (pv 2)) (sa_cons (se_var (pv 1)) sa_nil))) (pg_tup rfl (pgs_cons (pg_name (i := 4) nd rfl (Or.inl rfl)) (pgs_cons (pg_name (i := 5) nd rfl (Or.inr rfl)) pgs_nil))))
    (sss_cons (ss_if (t_Is (se_var (pv 3)) se_non)
    (sss_cons (ss_set (i := 6) nd rfl (Or.inl rfl) (se_callTyL lTuple_ok lTuple_noEx call_tuple_of (by rfl) T.z_tuple (by decide +kernel) (sl_comp (own := [("_law_k", 10)]) (t := (Tg.one 10)) (by decide) rfl nd (si_range1 (by rfl) T.z_range (sa_cons (se_callB mLen_noEx lenM (by rfl) T.z_len (by decide +kernel) (sa_cons (se_var (pv 2)) sa_nil)) sa_nil)) (blkOk_by (N := N_law) (sc := defScope s_law) (by decide +kernel)) (fun _ _ _ _ _ => (pg_name (i := 10) nd rfl (Or.inl rfl))) (fun _ _ _ _ _ => sts_nil) (fun _ _ _ _ _ => (b_Add (se_tup (sa_cons (x_ix hr (se_var (pv 2)) (se_var (pv 10)) (fun _ _ => rfl)) sa_nil)) (x_ix hr (se_var (pv 5)) (se_var (pv 10)) (fun _ _ => rfl)))))))
    (sss_cons (ss_set (i := 7) nd rfl (Or.inl rfl) (se_callX takes0 (ok_words_of T) (hr.mono (by omega)) rfl T.d_words_of.m T.d_words_of.kp T.d_words_of.b (sa_cons (se_var (pv 4)) sa_nil)))
    (sss_one (ss_ret (se_and (se_isi (T := "tuple") (by decide) (by rfl) T.z_isinstance (se_var (pv 7)) (pe_bltn (v := .ty "tuple") (by rfl) T.z_tuple (by decide +kernel) rfl)) (se_one (c_Eq hr (se_var (pv 7)) (se_var (pv 6)))))))))
    sss_nil)
    (sss_cons (ss_set (i := 8) nd rfl (Or.inl rfl) (se_new (sl_disp sa_nil)))
    (sss_cons (ss_try4 (i := 9) (mb := (sExpr (eCallD m_words_of [] (aCons (eVar 4) aNil)))) (mx := (mxB 8 (eBin mAdd (eBin mIx (eVar 5) (eVar 3)) (eTup (aCons (eC (.str "sign")) (aCons (eC (.str "")) aNil)))))) (ts := (tsB K (clOf T) T.Fault.C 9 8 (eBin mAdd (eBin mIx (eVar 5) (eVar 3)) (eTup (aCons (eC (.str "sign")) (aCons (eC (.str "")) aNil)))))) rfl rfl nd rfl rfl ⟨rfl, by decide, Or.inl T.SteadError.m⟩ (ex_Fault_SteadError T)
    (fun W pn xe tk => (sss_one (ss_expr (se_callX tk (ok_words_of T) (hr.mono (by omega)) rfl T.d_words_of.m T.d_words_of.kp T.d_words_of.b (sa_cons (se_var (pv 4)) sa_nil)))))
    (fun a oe cls d pn hz hf => (pss_one (ps_expr (pe_bm PySem.F.plainAttrs_list PySem.F.slot_list_append PySem.F.type_list_append appendM (pv 8) (pa_cons (pe_and (pe_callB (call_isX hz) (by rfl) T.z_isinstance (by decide +kernel) (pa_cons (pv 9) (pa_cons (pe_glob (v := .ref T.Fault.C) (by rfl) T.Fault.m rfl) pa_nil))) (pe_one (pe_cmpR (op_eqM hr.units) (pe_tup (pa_cons (pe_xf T.Fault.xf T.Fault.n_row hz hf (pv 9)) (pa_cons (pe_xf T.Fault.xf T.Fault.n_column hz hf (pv 9)) (pa_cons (pe_xf T.Fault.xf T.Fault.n_why hz hf (pv 9)) (pa_cons (pe_xf T.Fault.xf T.Fault.n_page hz hf (pv 9)) pa_nil))))) (b_Add (se_ix (show A.units + 3 + 1 < cLine from hu_of hr) mIx_noEx (se_var (pv 5)) (se_var (pv 3)) (fun _ _ => rfl)) (se_tup (sa_cons se_str (sa_cons se_str sa_nil)))) (nomark _)))) pa_nil))))) (suiteB (cl_Fault T) (by decide)))
    (sss_one (ss_ret (c_Eq hr (se_var (pv 8)) (se_new (sl_disp (sa_cons se_bl sa_nil))))))))))))))
end
end My

set_option Elab.async false
set_option linter.all false
set_option maxRecDepth 100000
set_option maxHeartbeats 4000000
/-! running the small machine -/
namespace Sm
open PySem L2
@[simp] theorem ofString_inj {a b : String} : (Str.ofString a = Str.ofString b) = (a = b) := by
  apply propext
  constructor
  · intro h
    rw [Str.ofString_eq_toList, Str.ofString_eq_toList] at h
    have h1 : (a.toList.map Char.toNat) = (b.toList.map Char.toNat) := by
      have := congrArg (fun z => z.cps.toList) h
      simpa using this
    have h2 : a.toList = b.toList := by
      have inj : ∀ (xs ys : List Char), xs.map Char.toNat = ys.map Char.toNat → xs = ys := by
        intro xs
        induction xs with
        | nil => intro ys h; cases ys with | nil => rfl | cons _ _ => simp at h
        | cons x xs ih =>
          intro ys h
          cases ys with
          | nil => simp at h
          | cons y ys =>
            simp only [List.map_cons, List.cons.injEq] at h
            have : x = y := by
              have := h.1
              exact Char.toNat_inj.mp this
            rw [this, ih ys h.2]
      exact inj _ _ h1
    exact String.toList_inj.mp h2
  · rintro rfl; rfl
end Sm
namespace Sm
open PySem L2
theorem mfun_rt {np n : Nat} {body : MSt} {args : List MV} {h h' : MH} {v : MV} (hl : args.length = np) (e : body (args.map some ++ List.replicate (n - np) none) h = .rt v h') : mfun np n body args h = .ok v (gc h v h') := by
  unfold mfun; rw [if_pos hl, e]
theorem mfun_nx {np n : Nat} {body : MSt} {args : List MV} {h h' : MH} {ρ : MS} (hl : args.length = np) (e : body (args.map some ++ List.replicate (n - np) none) h = .nx ρ h') : mfun np n body args h = .ok .non (gc h .non h') := by
  unfold mfun; rw [if_pos hl, e]
/-- nothing was made -/
theorem gc_len {h h' : MH} {v : MV} (e : h'.length = h.length) : gc h v h' = h' := by
  unfold gc
  split
  · rw [← e, List.take_length]
  · rfl
/-- what was made goes: the old cells are as they were -/
theorem gc_ext {h h' : MH} {v : MV} (hv : bel h.length v = true) (e : ∀ i, i < h.length → h'[i]? = h[i]?) : gc h v h' = h := by
  unfold gc
  rw [if_pos ⟨hv, fun i hi => ⟨h[i], by rw [e i hi]; simp [hi], .inl (by simp [hi])⟩⟩]
  apply List.ext_getElem?
  intro k
  by_cases hk : k < h.length
  · rw [List.getElem?_take_of_lt hk, e k hk]
  · rw [List.getElem?_eq_none (by rw [List.length_take]; omega), List.getElem?_eq_none (by omega)]
theorem gc_app {h g : MH} {v : MV} (hv : bel h.length v = true) : gc h v (h ++ g) = h := gc_ext hv fun i hi => List.getElem?_append_left hi
/-- cells apart -/
theorem cells_ne {h : MH} {a b : Nat} {o u : MO} (ha : h[a]? = some o) (hb : h[b]? = some u) (d : o ≠ u) : a ≠ b := fun e => by
  subst e; rw [ha] at hb; exact d (Option.some.inj hb)
theorem lt_of_get {α : Type} {h : List α} {a : Nat} {o : α} (ha : h[a]? = some o) : a < h.length := (List.getElem?_eq_some_iff.mp ha).1
end Sm
namespace Sm
open PySem L2
theorem runs {np n : Nat} {body : MSt} {args : List MV} {h h' h2 : MH} {v : MV} (hl : args.length = np) (e : body (args.map some ++ List.replicate (n - np) none) h = .rt v h') (g : gc h v h' = h2) : mfun np n body args h = .ok v h2 := by
  rw [mfun_rt hl e, g]
theorem runsN {np n : Nat} {body : MSt} {args : List MV} {h h' h2 : MH} {ρ : MS} (hl : args.length = np) (e : body (args.map some ++ List.replicate (n - np) none) h = .nx ρ h') (g : gc h .non h' = h2) : mfun np n body args h = .ok .non h2 := by
  rw [mfun_nx hl e, g]
end Sm
namespace Sm
open PySem L2
theorem gss {h : MH} {a : Nat} {u o : MO} (ha : h[a]? = some u) : (h.set a o)[a]? = some o := List.getElem?_set_self (lt_of_get ha)
theorem gsn {h : MH} {a b : Nat} {o : MO} (n : a ≠ b) : (h.set b o)[a]? = h[a]? := List.getElem?_set_ne (Ne.symm n)
/-- a cell behind which others come -/
theorem gap {h g : MH} {a : Nat} {u : MO} (ha : h[a]? = some u) : (h ++ g)[a]? = some u := by rw [List.getElem?_append_left (lt_of_get ha)]; exact ha
theorem gnew {h : MH} {o : MO} : (h ++ [o])[h.length]? = some o := by simp
end Sm
namespace Sm
open PySem L2
theorem ixNat {α : Type} {xs : List α} {i : Nat} {x : α} (h : xs[i]? = some x) : atI xs (i : Int) = some x := by
  have l := lt_of_get h
  unfold atI ixN
  simp only [Int.natCast_nonneg, if_true, Int.ofNat_lt]
  rw [if_pos l]
  simpa using h
section
variable {α : Type} {x y z u v : α} {xs : List α}
theorem i0 : atI (x :: xs) 0 = some x := ixNat (i := 0) rfl
theorem i1 : atI (x :: y :: xs) 1 = some y := ixNat (i := 1) rfl
theorem i2 : atI (x :: y :: z :: xs) 2 = some z := ixNat (i := 2) rfl
theorem i3 : atI (x :: y :: z :: u :: xs) 3 = some u := ixNat (i := 3) rfl
theorem i4 : atI (x :: y :: z :: u :: v :: xs) 4 = some v := ixNat (i := 4) rfl
end
end Sm
namespace Sm
open PySem L2
theorem seq_nx {m1 m2 : MSt} {ρ ρ1 : MS} {h h1 : MH} (e : m1 ρ h = .nx ρ1 h1) : sSeq m1 m2 ρ h = m2 ρ1 h1 := by unfold sSeq; rw [e]
theorem seq_rt {m1 m2 : MSt} {ρ : MS} {h h1 : MH} {v : MV} (e : m1 ρ h = .rt v h1) : sSeq m1 m2 ρ h = .rt v h1 := by unfold sSeq; rw [e]
theorem set0 {h0 ks : MH} {o o' : MO} : (h0 ++ o :: ks).set h0.length o' = h0 ++ o' :: ks := by rw [List.set_append_right _ _ (Nat.le_refl _)]; simp
theorem get0 {h0 ks : MH} {o : MO} : (h0 ++ o :: ks)[h0.length]? = some o := by simp
end Sm

set_option Elab.async false
set_option linter.all false
set_option maxRecDepth 100000
set_option maxHeartbeats 4000000
/-! running the small machine by what is wanted behind -/
namespace Sm
open PySem L2
@[simp] theorem ofString_beq {a b : String} : (Str.ofString a == Str.ofString b) = decide (a = b) := by
  rw [Bool.eq_iff_iff, beq_iff_eq, decide_eq_true_iff, ofString_inj]
def Wp {α : Type} (r : Res α) (Q : α → MH → Prop) : Prop := match r with | .ok a h => Q a h | _ => False
@[simp] theorem Wp_ok {α : Type} {a : α} {h : MH} {Q : α → MH → Prop} : Wp (.ok a h) Q = Q a h := rfl
@[simp] theorem Wp_bad {α : Type} {Q : α → MH → Prop} : Wp .bad Q = False := rfl
@[simp] theorem Wp_bind {α β : Type} {r : Res α} {f : α → MH → Res β} {Q : β → MH → Prop} : Wp (r.bind f) Q = Wp r fun a h => Wp (f a h) Q := by cases r <;> rfl
@[simp] theorem Wp_nx {α : Type} {r : Res α} {Q : α → MH → Prop} : Wp r.nx Q = Wp r Q := by cases r <;> rfl
theorem Wp_ite {α : Type} {c : Prop} [Decidable c] {a b : Res α} {Q : α → MH → Prop} : Wp (if c then a else b) Q = if c then Wp a Q else Wp b Q := by split <;> rfl
theorem Wp.mono {α : Type} {r : Res α} {Q Q' : α → MH → Prop} (g : Wp r Q) (k : ∀ a h, Q a h → Q' a h) : Wp r Q' := by
  cases r with
  | ok a h => exact k a h g
  | ex e h => exact g
  | bad => exact g
theorem Wp.of {α : Type} {r : Res α} {a : α} {h : MH} {Q : α → MH → Prop} (e : r = .ok a h) (q : Q a h) : Wp r Q := by rw [e]; exact q
theorem Wp.ex {α : Type} {r : Res α} {Q : α → MH → Prop} (g : Wp r Q) : ∃ a h, r = .ok a h ∧ Q a h := by
  cases r with
  | ok a h => exact ⟨a, h, rfl, g⟩
  | ex e h => exact g.elim
  | bad => exact g.elim
structure Ks where
  n : MS → MH → Prop
  r : MV → MH → Prop := fun _ _ => False
  b : MS → MH → Prop := fun _ _ => False
  c : MS → MH → Prop := fun _ _ => False
def Ws (r : SRes) (D : Ks) : Prop := match r with | .nx ρ h => D.n ρ h | .rt v h => D.r v h | .bk ρ h => D.b ρ h | .ct ρ h => D.c ρ h | _ => False
@[simp] theorem Ws_nx {ρ : MS} {h : MH} {D : Ks} : Ws (.nx ρ h) D = D.n ρ h := rfl
@[simp] theorem Ws_rt {v : MV} {h : MH} {D : Ks} : Ws (.rt v h) D = D.r v h := rfl
@[simp] theorem Ws_bk {ρ : MS} {h : MH} {D : Ks} : Ws (.bk ρ h) D = D.b ρ h := rfl
@[simp] theorem Ws_ct {ρ : MS} {h : MH} {D : Ks} : Ws (.ct ρ h) D = D.c ρ h := rfl
@[simp] theorem Ws_bad {D : Ks} : Ws .bad D = False := rfl
@[simp] theorem Ws_st {α : Type} {r : Res α} {ρ : MS} {f : α → MH → SRes} {D : Ks} : Ws (r.st ρ f) D = Wp r fun a h => Ws (f a h) D := by cases r <;> rfl
theorem Ws_ite {c : Prop} [Decidable c] {a b : SRes} {D : Ks} : Ws (if c then a else b) D = if c then Ws a D else Ws b D := by split <;> rfl
theorem ws_seq {a b : MSt} {ρ : MS} {h : MH} {D : Ks} (g : Ws (a ρ h) { D with n := fun ρ h => Ws (b ρ h) D }) : Ws (sSeq a b ρ h) D := by
  unfold sSeq
  cases e : a ρ h with
  | nx ρ h => rw [e] at g; exact g
  | rt ρ h => rw [e] at g; exact g
  | bk ρ h => rw [e] at g; exact g
  | ct ρ h => rw [e] at g; exact g
  | ex v ρ h => rw [e] at g; exact g
  | bad => rw [e] at g; exact g
theorem Ws.mono {r : SRes} {D D' : Ks} (g : Ws r D) (kn : ∀ ρ h, D.n ρ h → D'.n ρ h) (kr : ∀ v h, D.r v h → D'.r v h) (kb : ∀ ρ h, D.b ρ h → D'.b ρ h := by intro _ _ z; exact z) (kc : ∀ ρ h, D.c ρ h → D'.c ρ h := by intro _ _ z; exact z) : Ws r D' := by
  cases r with
  | nx ρ h => exact kn _ _ g
  | rt ρ h => exact kr _ _ g
  | bk ρ h => exact kb _ _ g
  | ct ρ h => exact kc _ _ g
  | ex v ρ h => exact g
  | bad => exact g
/-- a def -/
theorem wp_fun {np n : Nat} {body : MSt} {args : List MV} {h : MH} {Q : MV → MH → Prop} (hl : args.length = np) (g : Ws (body (args.map some ++ List.replicate (n - np) none) h) { n := fun _ h' => Q .non (gc h .non h'), r := fun v h' => Q v (gc h v h') }) : Wp (mfun np n body args h) Q := by
  unfold mfun
  rw [if_pos hl]
  cases e : body (args.map some ++ List.replicate (n - np) none) h with
  | nx ρ h => rw [e] at g; exact g
  | rt ρ h => rw [e] at g; exact g
  | bk ρ h => rw [e] at g; exact g
  | ct ρ h => rw [e] at g; exact g
  | ex v ρ h => rw [e] at g; exact g
  | bad => rw [e] at g; exact g
/-- a walk: I holds ahead of each item -/
theorem ws_for {gs : Gs} {t : Tg} {body : MSt} {D : Ks} (I : List MV → MS → MH → Prop) (hg : ∀ xs ρ h, I xs ρ h → gOk gs h)
    (hs : ∀ x xs ρ h, I (x :: xs) ρ h → ∃ ρ1, t.set x ρ = some ρ1 ∧ Ws (body ρ1 h) { n := I xs, c := I xs, b := D.n, r := D.r }) (he : ∀ ρ h, I [] ρ h → D.n ρ h) : ∀ xs ρ h, I xs ρ h → Ws (forGo gs t body xs ρ h) D
  | [], ρ, h, i => by
    rw [forGo, if_pos (hg _ _ _ i)]
    exact he _ _ i
  | x :: xs, ρ, h, i => by
    obtain ⟨ρ1, e1, g⟩ := hs x xs ρ h i
    rw [forGo, if_pos (hg _ _ _ i), e1]
    dsimp only
    cases e : body ρ1 h with
    | nx ρ h => rw [e] at g; exact ws_for I hg hs he xs _ _ g
    | rt ρ h => rw [e] at g; exact g
    | bk ρ h => rw [e] at g; exact g
    | ct ρ h => rw [e] at g; exact ws_for I hg hs he xs _ _ g
    | ex v ρ h => rw [e] at g; exact g
    | bad => rw [e] at g; exact g
/-- a comprehension: I holds of what is made, what is left, the heap -/
theorem wp_comp {gs : Gs} {t : Tg} {mt : MS → MH → Res Bool} {me : ME} {ρ : MS} {Q : List MV → MH → Prop} (I : List MV → List MV → MH → Prop) (hg : ∀ ys xs h, I ys xs h → gOk gs h)
    (hs : ∀ ys x xs h, I ys (x :: xs) h → ∃ ρ1, t.set x ρ = some ρ1 ∧ Wp (mt ρ1 h) fun c h1 => if c = true then Wp (me ρ1 h1) fun y h2 => I (ys ++ [y]) xs h2 else I ys xs h1) (he : ∀ ys h, I ys [] h → Q ys h) :
    ∀ xs ys h, I ys xs h → Wp (compGo gs t mt me ρ xs h) fun zs h' => Q (ys ++ zs) h'
  | [], ys, h, i => by
    rw [compGo, if_pos (hg _ _ _ i)]
    simpa using he _ _ i
  | x :: xs, ys, h, i => by
    obtain ⟨ρ1, e1, g⟩ := hs ys x xs h i
    rw [compGo, if_pos (hg _ _ _ i), e1]
    dsimp only
    rw [Wp_bind, Wp_nx]
    refine g.mono fun c h1 q => ?_
    cases c with
    | true =>
      rw [if_pos rfl] at q ⊢
      rw [Wp_bind, Wp_nx]
      refine q.mono fun y h2 q2 => ?_
      rw [Wp_bind]
      refine (wp_comp I hg hs he xs (ys ++ [y]) h2 q2).mono fun zs h3 q3 => ?_
      rw [Wp_ok]
      simpa using q3
    | false =>
      rw [if_neg (by decide)] at q ⊢
      exact wp_comp I hg hs he xs ys h1 q
/-- what is made stays -/
theorem gc_new' {h h' : MH} {v : MV} (hv : bel h.length v = false) : gc h v h' = h' := by
  unfold gc
  rw [if_neg]
  intro z
  have z1 := z.1
  rw [hv] at z1
  exact absurd z1 (by decide)
theorem gc_ref {h h' : MH} {n : Nat} (hn : h.length ≤ n) : gc h (.ref n) h' = h' := gc_new' (by simp [bel]; omega)
/-- cells made go, others may have been written -/
theorem gc_cut {h h' g : MH} {v : MV} (hv : bel h.length v = true) (hl : h'.length = h.length) (hb : ∀ (i : Nat) (o : MO), h'[i]? = some o → h[i]? = some o ∨ belO h.length o = true) : gc h v (h' ++ g) = h' := by
  unfold gc
  rw [if_pos ?ok]
  case ok => refine ⟨hv, fun i hi => ?_⟩; have hi' : i < h'.length := by omega
             exact ⟨h'[i], by rw [List.getElem?_append_left hi']; simp [hi'], hb i _ (by simp [hi'])⟩
  rw [← hl]; exact List.take_left
theorem Wp.eq {α : Type} {r : Res α} {a : α} {h : MH} (g : Wp r fun v h' => v = a ∧ h' = h) : r = .ok a h := by
  cases r with
  | ok a h => obtain ⟨rfl, rfl⟩ := g; rfl
  | ex e h => exact g.elim
  | bad => exact g.elim
/-- a walk that folds: the slots are ρ0 of the loop's name, the heap is H of a state -/
theorem ws_fold {α S : Type} (vf : α → MV) (H : S → MH) (step : S → α → S) (P : S → List α → Prop) (ρ0 : Option MV → MS) {gs : Gs} {t : Tg} {B : MSt} {D : Ks} (hg : ∀ s, gOk gs (H s)) (ht : ∀ x y, t.set (vf x) (ρ0 y) = some (ρ0 (some (vf x))))
    (hB : ∀ s x xs, P s (x :: xs) → Ws (B (ρ0 (some (vf x))) (H s)) { n := fun ρ h => ρ = ρ0 (some (vf x)) ∧ h = H (step s x), c := fun ρ h => ρ = ρ0 (some (vf x)) ∧ h = H (step s x) } ∧ P (step s x) xs) :
    ∀ (xs : List α) (s : S) (y : Option MV), P s xs → (∀ y', P (xs.foldl step s) [] → D.n (ρ0 y') (H (xs.foldl step s))) → Ws (forGo gs t B (xs.map vf) (ρ0 y) (H s)) D
  | [], s, y, p, k => by
    rw [List.map_nil, forGo, if_pos (hg s)]
    exact k y p
  | x :: xs, s, y, p, k => by
    obtain ⟨g, p'⟩ := hB s x xs p
    rw [List.map_cons, forGo, if_pos (hg s), ht]
    dsimp only
    cases e : B (ρ0 (some (vf x))) (H s) with
    | nx ρ h => rw [e] at g; obtain ⟨rfl, rfl⟩ := g; exact ws_fold vf H step P ρ0 hg ht hB xs _ _ p' k
    | ct ρ h => rw [e] at g; obtain ⟨rfl, rfl⟩ := g; exact ws_fold vf H step P ρ0 hg ht hB xs _ _ p' k
    | rt ρ h => rw [e] at g; exact g.elim
    | bk ρ h => rw [e] at g; exact g.elim
    | ex v ρ h => rw [e] at g; exact g.elim
    | bad => rw [e] at g; exact g.elim
end Sm

set_option Elab.async false
set_option linter.all false
set_option maxRecDepth 100000
set_option maxHeartbeats 4000000
/-! running step by step (printed by sygen.py) -/
namespace Sm
open PySem L2
abbrev EK := MV → MH → Prop
variable {α β : Type} {Q : MV → MH → Prop} {QB : Bool → MH → Prop} {QA : List MV → MH → Prop} {E : EK} {D : SW4} {ρ : MS} {h : MH} {x y v : MV} {xs ys : List MV}
@[irreducible] def Gd (r : Res α) (Q : α → MH → Prop) (E : EK) : Prop := Good r Q E
theorem Gd_def {r : Res α} {Q : α → MH → Prop} : Gd r Q E = Good r Q E := by unfold Gd; rfl
theorem Gd.mono {r : Res α} {Q Q' : α → MH → Prop} {E' : EK} (g : Gd r Q E) (hq : ∀ a h, Q a h → Q' a h) (he : ∀ e h, E e h → E' e h) : Gd r Q' E' := by rw [Gd_def] at *; exact g.mono hq he
theorem Gd.of {r : Res α} {a : α} {Q : α → MH → Prop} (e : r = .ok a h) (q : Q a h) : Gd r Q E := by rw [e, Gd_def]; exact q
theorem Wp.gd {r : Res α} {Q Q' : α → MH → Prop} (g : Wp r Q) (k : ∀ a h, Q a h → Q' a h) : Gd r Q' E := by
  rw [Gd_def]
  cases r with
  | ok a h => exact k a h g
  | ex e h => exact g.elim
  | bad => exact g.elim
theorem Gd.wp {r : Res α} {Q : α → MH → Prop} (g : Gd r Q fun _ _ => False) : Wp r Q := by
  rw [Gd_def] at g
  cases r with
  | ok a h => exact g
  | ex e h => exact g.elim
  | bad => exact g.elim
theorem Gd_ok {a : α} {Q : α → MH → Prop} : Gd (.ok a h) Q E = Q a h := by rw [Gd_def]; rfl
theorem Gd_ex {Q : α → MH → Prop} : Gd (.ex x h) Q E = E x h := by rw [Gd_def]; rfl
theorem Gd_bad {Q : α → MH → Prop} : Gd .bad Q E = False := by rw [Gd_def]; rfl
theorem Gd_ite {c : Prop} [Decidable c] {r : Res α} {Q : α → MH → Prop} : Gd (if c then r else .bad) Q E = (c ∧ Gd r Q E) := by
  split
  · rename_i hc; simp [hc]
  · rename_i hc; simp [hc, Gd_bad]
theorem Gd_fun {r : Res α} {Q Q' : α → MH → Prop} (hq : ∀ a h, Q a h = Q' a h) : Gd r Q E = Gd r Q' E := by
  have : Q = Q' := by funext a h; exact hq a h
  rw [this]
theorem Gd_bind {r : Res α} {f : α → MH → Res β} {Q : β → MH → Prop} : Gd (r.bind f) Q E = Gd r (fun a h => Gd (f a h) Q E) E := by
  simp only [Gd_def]; exact propext Good.bind
@[irreducible] def Sd (r : SRes) (D : SW4) : Prop := SGood r D
theorem Sd_def {r : SRes} : Sd r D = SGood r D := by unfold Sd; rfl
theorem Sd_st {r : Res α} {f : α → MH → SRes} : Sd (r.st ρ f) D = Gd r (fun a h => Sd (f a h) D) (fun e h => D.e e ρ h) := by simp only [Gd_def, Sd_def]; exact propext SGood.st
theorem Sd_nx : Sd (.nx ρ h) D = D.n ρ h := by rw [Sd_def]; rfl
theorem Sd_rt : Sd (.rt v h) D = D.r v h := by rw [Sd_def]; rfl
theorem Sd_bk : Sd (.bk ρ h) D = D.b ρ h := by rw [Sd_def]; rfl
theorem Sd_ct : Sd (.ct ρ h) D = D.c ρ h := by rw [Sd_def]; rfl
theorem Sd_ex : Sd (.ex v ρ h) D = D.e v ρ h := by rw [Sd_def]; rfl
theorem Sd_bad : Sd .bad D = False := by rw [Sd_def]; rfl
theorem Sd.mono {r : SRes} {D D' : SW4} (g : Sd r D) (l : D.Le D') : Sd r D' := by rw [Sd_def] at *; exact g.mono l
def kE (ρ : MS) (D : SW4) : EK := fun e h => D.e e ρ h
def kNext (b : MSt) (D : SW4) : SW4 := { D with n := fun ρ h => Sd (b ρ h) D }
theorem kNext_n {b : MSt} : (kNext b D).n ρ h = Sd (b ρ h) D := (Eq.refl _).trans rfl
theorem kNext_r {b : MSt} : (kNext b D).r = D.r := (Eq.refl _).trans rfl
theorem kNext_b {b : MSt} : (kNext b D).b = D.b := (Eq.refl _).trans rfl
theorem kNext_c {b : MSt} : (kNext b D).c = D.c := (Eq.refl _).trans rfl
theorem kNext_e {b : MSt} : (kNext b D).e = D.e := (Eq.refl _).trans rfl
theorem kE_next {b : MSt} : kE ρ (kNext b D) = kE ρ D := (Eq.refl _).trans rfl
theorem kE_ap : kE ρ D v h = D.e v ρ h := (Eq.refl _).trans rfl
@[irreducible] def kIte (p a b : Prop) : Prop := (p → a) ∧ (¬ p → b)
theorem kIte_i {p a b : Prop} (h1 : p → a) (h2 : ¬ p → b) : kIte p a b := by unfold kIte; exact ⟨h1, h2⟩
theorem S_seq {a b : MSt} : Sd (sSeq a b ρ h) D = Sd (a ρ h) (kNext b D) := by
  unfold sSeq
  cases e : a ρ h <;> simp only [Sd_nx, Sd_rt, Sd_bk, Sd_ct, Sd_ex, Sd_bad] <;> rfl
/-- a def -/
def kFun (h : MH) (Q : MV → MH → Prop) : SW4 := ⟨fun _ h' => Q .non (gc h .non h'), fun v h' => Q v (gc h v h'), fun _ _ => False, fun _ _ => False, fun _ _ _ => False⟩
theorem kFun_n {h' : MH} : (kFun h Q).n ρ h' = Q .non (gc h .non h') := (Eq.refl _).trans rfl
theorem kFun_r {h' : MH} : (kFun h Q).r v h' = Q v (gc h v h') := (Eq.refl _).trans rfl
theorem g_fun {np n : Nat} {body : MSt} {args : List MV} {Q : MV → MH → Prop} (hl : args.length = np) (g : Sd (body (args.map some ++ List.replicate (n - np) none) h) (kFun h Q)) : Gd (mfun np n body args h) Q E := by
  unfold mfun
  rw [if_pos hl]
  cases e : body (args.map some ++ List.replicate (n - np) none) h <;> rw [e] at g <;> simp only [Sd_nx, Sd_rt, Sd_bk, Sd_ct, Sd_ex, Sd_bad] at g
  · dsimp only; rw [Gd_ok]; exact g
  · dsimp only; rw [Gd_ok]; exact g
  · exact False.elim g
  · exact False.elim g
  · exact False.elim g
theorem m_fun {np n : Nat} {body : MSt} {args : List MV} {Q : MV → MH → Prop} (hl : args.length = np) (g : Sd (body (args.map some ++ List.replicate (n - np) none) h) (kFun h Q)) : Wp (mfun np n body args h) Q := (g_fun hl g).wp
/-- an exact end -/
def Eq2 (v : α) (h' : MH) : α → MH → Prop := fun u h => u = v ∧ h = h'
theorem Eq2_ap {a b : α} {h' : MH} : Eq2 b h' a h = (a = b ∧ h = h') := rfl
theorem Gd.eq {r : Res α} {a : α} {h' : MH} (g : Gd r (Eq2 a h') fun _ _ => False) : r = .ok a h' := by
  rw [Gd_def] at g
  cases r with
  | ok a h => obtain ⟨rfl, rfl⟩ := g; rfl
  | ex e h => exact g.elim
  | bad => exact g.elim
theorem e_fun {np n : Nat} {body : MSt} {args : List MV} {h' : MH} (hl : args.length = np) (g : Sd (body (args.map some ++ List.replicate (n - np) none) h) (kFun h (Eq2 v h'))) : mfun np n body args h = .ok v h' := (g_fun hl g).eq
/-- a walk -/
def kI (I : List MV → MS → MH → Prop) (xs : List MV) (D : SW4) : SW4 := ⟨I xs, D.r, D.n, I xs, D.e⟩
theorem kI_n {I : List MV → MS → MH → Prop} : (kI I xs D).n ρ h = I xs ρ h := (Eq.refl _).trans rfl
theorem kI_r {I : List MV → MS → MH → Prop} : (kI I xs D).r = D.r := (Eq.refl _).trans rfl
theorem kI_b {I : List MV → MS → MH → Prop} : (kI I xs D).b ρ h = D.n ρ h := (Eq.refl _).trans rfl
theorem kI_c {I : List MV → MS → MH → Prop} : (kI I xs D).c ρ h = I xs ρ h := (Eq.refl _).trans rfl
theorem kI_e {I : List MV → MS → MH → Prop} : (kI I xs D).e = D.e := (Eq.refl _).trans rfl
theorem s_for {gs : Gs} {t : Tg} {body : MSt} (I : List MV → MS → MH → Prop) (hg : ∀ xs ρ h, I xs ρ h → gOk gs h)
    (hs : ∀ x xs ρ h, I (x :: xs) ρ h → ∃ ρ1, t.set x ρ = some ρ1 ∧ Sd (body ρ1 h) (kI I xs D)) (he : ∀ ρ h, I [] ρ h → D.n ρ h) : ∀ xs ρ h, I xs ρ h → Sd (forGo gs t body xs ρ h) D
  | [], ρ, h, i => by
    rw [forGo, if_pos (hg _ _ _ i), Sd_nx]
    exact he _ _ i
  | x :: xs, ρ, h, i => by
    obtain ⟨ρ1, e1, g⟩ := hs x xs ρ h i
    rw [forGo, if_pos (hg _ _ _ i), e1]
    dsimp only
    cases e : body ρ1 h <;> rw [e] at g <;> simp only [Sd_nx, Sd_rt, Sd_bk, Sd_ct, Sd_ex, Sd_bad, kI_n, kI_c, kI_b] at g <;> dsimp only
    · exact s_for I hg hs he xs _ _ g
    · rw [Sd_rt]; exact g
    · rw [Sd_nx]; exact g
    · exact s_for I hg hs he xs _ _ g
    · rw [Sd_ex]; exact g
/-- a while: I falls with n -/
def kW (I : Nat → MS → MH → Prop) (n : Nat) (D : SW4) : SW4 := ⟨fun ρ h => ∃ m, m < n ∧ I m ρ h, D.r, D.n, fun ρ h => ∃ m, m < n ∧ I m ρ h, D.e⟩
theorem kW_n {I : Nat → MS → MH → Prop} {n : Nat} : (kW I n D).n ρ h = ∃ m, m < n ∧ I m ρ h := (Eq.refl _).trans rfl
theorem kW_r {I : Nat → MS → MH → Prop} {n : Nat} : (kW I n D).r = D.r := (Eq.refl _).trans rfl
theorem kW_b {I : Nat → MS → MH → Prop} {n : Nat} : (kW I n D).b ρ h = D.n ρ h := (Eq.refl _).trans rfl
theorem kW_c {I : Nat → MS → MH → Prop} {n : Nat} : (kW I n D).c ρ h = ∃ m, m < n ∧ I m ρ h := (Eq.refl _).trans rfl
theorem kW_e {I : Nat → MS → MH → Prop} {n : Nat} : (kW I n D).e = D.e := (Eq.refl _).trans rfl
def kT2 (body : MSt) (D : SW4) (I : Nat → MS → MH → Prop) (n : Nat) (ρ : MS) : Bool → MH → Prop := fun c h => if c = true then Sd (body ρ h) (kW I n D) else D.n ρ h
theorem kT2_t {body : MSt} {I : Nat → MS → MH → Prop} {n : Nat} : kT2 body D I n ρ true h = Sd (body ρ h) (kW I n D) := (Eq.refl _).trans rfl
theorem kT2_f {body : MSt} {I : Nat → MS → MH → Prop} {n : Nat} : kT2 body D I n ρ false h = D.n ρ h := (Eq.refl _).trans rfl
theorem s_whileGo {mt : MS → MH → Res Bool} {body : MSt} (I : Nat → MS → MH → Prop) (hs : ∀ n ρ h, I n ρ h → Gd (mt ρ h) (kT2 body D I n ρ) (kE ρ D)) : ∀ k n ρ h, n < k → I n ρ h → Sd (whileGo mt body k ρ h) D
  | 0, n, ρ, h, l, i => absurd l (Nat.not_lt_zero _)
  | k + 1, n, ρ, h, l, i => by
    rw [whileGo, Sd_st]
    refine (hs n ρ h i).mono (fun c h1 q => ?_) fun e h z => z
    cases c with
    | true =>
      rw [kT2_t] at q
      rw [if_pos rfl]
      cases e : body ρ h1 <;> rw [e] at q <;> simp only [Sd_nx, Sd_rt, Sd_bk, Sd_ct, Sd_ex, Sd_bad, kW_n, kW_c, kW_b] at q <;> dsimp only
      · obtain ⟨m, lm, im⟩ := q; exact s_whileGo I hs k m _ _ (by omega) im
      · rw [Sd_rt]; exact q
      · rw [Sd_nx]; exact q
      · obtain ⟨m, lm, im⟩ := q; exact s_whileGo I hs k m _ _ (by omega) im
      · rw [Sd_ex]; exact q
    | false =>
      rw [kT2_f] at q
      rw [if_neg (by decide), Sd_nx]; exact q
theorem s_while {mt : MS → MH → Res Bool} {body : MSt} (I : Nat → MS → MH → Prop) (n : Nat) (hn : n < 1000000000) (i : I n ρ h) (hs : ∀ n ρ h, I n ρ h → Gd (mt ρ h) (kT2 body D I n ρ) (kE ρ D)) : Sd (sWhile mt body ρ h) D := s_whileGo I hs manyTurns n ρ h hn i
/-- a comprehension -/
def kC1 (I : List MV → List MV → MH → Prop) (ys xs : List MV) (me : ME) (ρ : MS) (E : EK) : Bool → MH → Prop := fun c h1 => if c = true then Gd (me ρ h1) (fun y h2 => I (ys ++ [y]) xs h2) E else I ys xs h1
def kC2 (I : List MV → List MV → MH → Prop) (ys xs : List MV) : MV → MH → Prop := fun y h => I (ys ++ [y]) xs h
theorem kC1_t {I : List MV → List MV → MH → Prop} {me : ME} : kC1 I ys xs me ρ E true h = Gd (me ρ h) (kC2 I ys xs) E := (Eq.refl _).trans rfl
theorem kC1_f {I : List MV → List MV → MH → Prop} {me : ME} : kC1 I ys xs me ρ E false h = I ys xs h := (Eq.refl _).trans rfl
theorem kC2_ap {I : List MV → List MV → MH → Prop} : kC2 I ys xs v h = I (ys ++ [v]) xs h := (Eq.refl _).trans rfl
theorem Gd_nx {r : Res α} {Q : α → MH → Prop} (g : Gd r Q fun _ _ => False) : Gd r.nx Q E := by
  rw [Gd_def] at *
  cases r with
  | ok a h => exact g
  | ex e h => exact g.elim
  | bad => exact g.elim
theorem s_compGo {gs : Gs} {t : Tg} {mt : MS → MH → Res Bool} {me : ME} {Q : List MV → MH → Prop} (I : List MV → List MV → MH → Prop) (hg : ∀ ys xs h, I ys xs h → gOk gs h)
    (hs : ∀ ys x xs h, I ys (x :: xs) h → ∃ ρ1, t.set x ρ = some ρ1 ∧ Gd (mt ρ1 h) (kC1 I ys xs me ρ1 fun _ _ => False) fun _ _ => False) :
    ∀ xs ys h, I ys xs h → (∀ zs h, I zs [] h → Q zs h) → Gd (compGo gs t mt me ρ xs h) (fun zs h' => Q (ys ++ zs) h') E
  | [], ys, h, i, he => by
    rw [compGo, if_pos (hg _ _ _ i), Gd_ok]
    simpa using he _ _ i
  | x :: xs, ys, h, i, he => by
    obtain ⟨ρ1, e1, g⟩ := hs ys x xs h i
    rw [compGo, if_pos (hg _ _ _ i), e1]
    dsimp only
    rw [Gd_bind]
    refine Gd_nx (g.mono (fun c h1 q => ?_) fun _ _ z => z)
    cases c with
    | true =>
      rw [kC1_t] at q
      rw [if_pos rfl, Gd_bind]
      refine Gd_nx (q.mono (fun y h2 q2 => ?_) fun _ _ z => z)
      rw [Gd_bind]
      refine (s_compGo I hg hs xs (ys ++ [y]) h2 q2 he).mono (fun zs h3 q3 => ?_) fun _ _ z => z
      rw [Gd_ok]
      simpa using q3
    | false =>
      rw [kC1_f] at q
      rw [if_neg (by decide)]
      exact s_compGo I hg hs xs ys h1 q he
theorem s_comp {gs : Gs} {t : Tg} {mt : MS → MH → Res Bool} {me : ME} {Q : List MV → MH → Prop} (I : List MV → List MV → MH → Prop) (hg : ∀ ys xs h, I ys xs h → gOk gs h) (i : I [] xs h)
    (hs : ∀ ys x xs h, I ys (x :: xs) h → ∃ ρ1, t.set x ρ = some ρ1 ∧ Gd (mt ρ1 h) (kC1 I ys xs me ρ1 fun _ _ => False) fun _ _ => False) (he : ∀ zs h, I zs [] h → Q zs h) : Gd (compGo gs t mt me ρ xs h) Q E := by
  have := s_compGo (E := E) (Q := Q) I hg hs xs [] h i he
  simpa using this
/-- a comprehension whose parts change nothing -/
theorem s_compE {gs : Gs} {t : Tg} {me : ME} {vf : β → MV} {ef : β → MV} {Q : List MV → MH → Prop} {us : List β} (hg : gOk gs h) (hs : ∀ u, u ∈ us → ∃ ρ1, t.set (vf u) ρ = some ρ1 ∧ me ρ1 h = .ok (ef u) h) (he : Q (us.map ef) h) : Gd (compGo gs t tYesM me ρ (us.map vf) h) Q E := by
  have : ∀ us : List β, (∀ u, u ∈ us → ∃ ρ1, t.set (vf u) ρ = some ρ1 ∧ me ρ1 h = .ok (ef u) h) → compGo gs t tYesM me ρ (us.map vf) h = .ok (us.map ef) h := by
    intro us
    induction us with
    | nil => intro _; rw [List.map_nil, compGo, if_pos hg]; rfl
    | cons u us ih =>
      intro hs
      obtain ⟨ρ1, e1, e2⟩ := hs u (by simp)
      rw [List.map_cons, compGo, if_pos hg, e1]
      simp only [tYesM, Res.nx, Res.bind_ok, if_true, e2]
      rw [ih fun z hz => hs z (by simp [hz])]
      rfl
  rw [this us hs, Gd_ok]; exact he

theorem S_nil  : Sd (sNil ρ h) D = D.n ρ h := by unfold sNil; rw [Sd_nx]
theorem S_ret {m : ME} : Sd (sRet m ρ h) D = Gd (m ρ h) D.r (kE ρ D) := by unfold sRet; rw [Sd_st]; simp only [Sd_rt]; rfl
theorem S_retN  : Sd (sRetN ρ h) D = D.r .non h := by unfold sRetN; rw [Sd_rt]
theorem S_break  : Sd (sBreak ρ h) D = D.b ρ h := by unfold sBreak; rw [Sd_bk]
theorem S_cont  : Sd (sCont ρ h) D = D.c ρ h := by unfold sCont; rw [Sd_ct]
def kExp (ρ : MS) (D : SW4) : MV → MH → Prop := fun a h => D.n ρ h
theorem kExp_ap  : kExp ρ D v h = D.n ρ h := (Eq.refl _).trans rfl
theorem S_expr {m : ME} : Sd (sExpr m ρ h) D = Gd (m ρ h) (kExp ρ D) (kE ρ D) := by unfold sExpr; rw [Sd_st]; simp only [Sd_nx]; rfl
def kIf (a b : MSt) (ρ : MS) (D : SW4) : Bool → MH → Prop := fun c h => if c = true then Sd (a ρ h) D else Sd (b ρ h) D
theorem kIf_t {a b : MSt} : kIf a b ρ D true h = Sd (a ρ h) D := (Eq.refl _).trans rfl
theorem kIf_f {a b : MSt} : kIf a b ρ D false h = Sd (b ρ h) D := (Eq.refl _).trans rfl
theorem kIf_d {a b : MSt} {p : Prop} [Decidable p] : kIf a b ρ D (decide p) h = kIte p (Sd (a ρ h) D) (Sd (b ρ h) D) := by
  unfold kIte; by_cases hp : p <;> simp [hp, kIf]
theorem S_if {mc : MS → MH → Res Bool} {a b : MSt} : Sd (sIf mc a b ρ h) D = Gd (mc ρ h) (kIf a b ρ D) (kE ρ D) := by
  unfold sIf; rw [Sd_st]
  have : (fun (c : Bool) (h1 : MH) => Sd (if c = true then a ρ h1 else b ρ h1) D) = kIf a b ρ D := by funext c h1; cases c <;> rfl
  rw [this]; rfl
def kSet (i : Nat) (ρ : MS) (D : SW4) : MV → MH → Prop := fun a h => D.n (ρ.set i (some a)) h
theorem kSet_ap {i : Nat} : kSet i ρ D v h = D.n (ρ.set i (some v)) h := (Eq.refl _).trans rfl
theorem S_set {i : Nat} {m : ME} : Sd (sSet i m ρ h) D = Gd (m ρ h) (kSet i ρ D) (kE ρ D) := by unfold sSet; rw [Sd_st]; simp only [Sd_nx]; rfl
def kH (o : Option MH) (ρ : MS) (D : SW4) : Prop := match o with | some h => D.n ρ h | none => False
theorem kH_s  : kH (some h) ρ D = D.n ρ h := (Eq.refl _).trans rfl
theorem kH_eq {o : Option MH} {f : MH → SRes} (hf : ∀ h, f h = .nx ρ h) : Sd (match o with | some h3 => f h3 | none => .bad) D = kH o ρ D := by cases o <;> simp only [hf, Sd_nx, Sd_bad] <;> rfl
def kSF2 (cs : List Str) (f : Str) (y : MV) (ρ : MS) (D : SW4) : MV → MH → Prop := fun a h => kH (mSetF cs f a y h) ρ D
theorem kSF2_ap {cs : List Str} {f : Str} : kSF2 cs f y ρ D x h = kH (mSetF cs f x y h) ρ D := (Eq.refl _).trans rfl
def kSF1 (cs : List Str) (f : Str) (mo : ME) (ρ : MS) (D : SW4) : MV → MH → Prop := fun a h => Gd (mo ρ h) (kSF2 cs f a ρ D) (kE ρ D)
theorem kSF1_ap {cs : List Str} {f : Str} {mo : ME} : kSF1 cs f mo ρ D y h = Gd (mo ρ h) (kSF2 cs f y ρ D) (kE ρ D) := (Eq.refl _).trans rfl
theorem S_setF {cs : List Str} {f : Str} {mo m : ME} : Sd (sSetF cs f mo m ρ h) D = Gd (m ρ h) (kSF1 cs f mo ρ D) (kE ρ D) := by
  unfold sSetF; rw [Sd_st]; refine Gd_fun fun y h1 => ?_; rw [Sd_st]; refine Gd_fun fun x h2 => ?_; exact kH_eq fun _ => rfl
def kSI3 (y x : MV) (ρ : MS) (D : SW4) : MV → MH → Prop := fun a h => kH (mSetI x a y h) ρ D
theorem kSI3_ap  : kSI3 y x ρ D v h = kH (mSetI x v y h) ρ D := (Eq.refl _).trans rfl
def kSI2 (mi : ME) (y : MV) (ρ : MS) (D : SW4) : MV → MH → Prop := fun a h => Gd (mi ρ h) (kSI3 y a ρ D) (kE ρ D)
theorem kSI2_ap {mi : ME} : kSI2 mi y ρ D x h = Gd (mi ρ h) (kSI3 y x ρ D) (kE ρ D) := (Eq.refl _).trans rfl
def kSI1 (mo mi : ME) (ρ : MS) (D : SW4) : MV → MH → Prop := fun a h => Gd (mo ρ h) (kSI2 mi a ρ D) (kE ρ D)
theorem kSI1_ap {mo mi : ME} : kSI1 mo mi ρ D y h = Gd (mo ρ h) (kSI2 mi y ρ D) (kE ρ D) := (Eq.refl _).trans rfl
theorem S_setI {mo mi m : ME} : Sd (sSetI mo mi m ρ h) D = Gd (m ρ h) (kSI1 mo mi ρ D) (kE ρ D) := by
  unfold sSetI; rw [Sd_st]; refine Gd_fun fun y h1 => ?_; rw [Sd_st]; refine Gd_fun fun x h2 => ?_; rw [Sd_st]; refine Gd_fun fun i h3 => ?_; exact kH_eq fun _ => rfl
def kAu1 (x : MV) (mo : MV → MV → MH → Res MV) (i : Nat) (ρ : MS) (D : SW4) : MV → MH → Prop := fun a h => Gd (mo x a h) (kSet i ρ D) (kE ρ D)
theorem kAu1_ap {mo : MV → MV → MH → Res MV} {i : Nat} : kAu1 x mo i ρ D y h = Gd (mo x y h) (kSet i ρ D) (kE ρ D) := (Eq.refl _).trans rfl
def kAu (o : Option (Option MV)) (i : Nat) (mo : MV → MV → MH → Res MV) (m : ME) (ρ : MS) (h : MH) (D : SW4) : Prop := match o with | some (some x) => Gd (m ρ h) (kAu1 x mo i ρ D) (kE ρ D) | _ => False
theorem kAu_s {mo : MV → MV → MH → Res MV} {m : ME} {i : Nat} : kAu (some (some x)) i mo m ρ h D = Gd (m ρ h) (kAu1 x mo i ρ D) (kE ρ D) := (Eq.refl _).trans rfl
theorem S_aug {i : Nat} {mo : MV → MV → MH → Res MV} {m : ME} : Sd (sAug i mo m ρ h) D = kAu ρ[i]? i mo m ρ h D := by
  unfold sAug kAu
  generalize ρ[i]? = o
  rcases o with _ | _ | x
  · exact Sd_bad
  · exact Sd_bad
  · dsimp only; rw [Sd_st]; refine Gd_fun fun y h1 => ?_; rw [Sd_st]; exact Gd_fun fun z h2 => Sd_nx
def kAF (cs : List Str) (f : Str) (op : MV → MV → MH → Res MV) (m : ME) (ρ : MS) (D : SW4) : MV → MH → Prop := fun a h => Sd (mAugF cs f op m ρ a h) D
theorem kAF_ap {cs : List Str} {f : Str} {op : MV → MV → MH → Res MV} {m : ME} : kAF cs f op m ρ D x h = Sd (mAugF cs f op m ρ x h) D := (Eq.refl _).trans rfl
theorem S_augF {cs : List Str} {f : Str} {op : MV → MV → MH → Res MV} {mo m : ME} : Sd (sAugF cs f op mo m ρ h) D = Gd (mo ρ h) (kAF cs f op m ρ D) (kE ρ D) := by unfold sAugF; rw [Sd_st]; rfl
def kT (o : Option MS) (h : MH) (D : SW4) : Prop := match o with | some ρ => D.n ρ h | none => False
theorem kT_s  : kT (some ρ) h D = D.n ρ h := (Eq.refl _).trans rfl
def kST (t : Tg) (ρ : MS) (D : SW4) : MV → MH → Prop := fun a h => kT (t.set a ρ) h D
theorem kST_ap {t : Tg} : kST t ρ D v h = kT (t.set v ρ) h D := (Eq.refl _).trans rfl
theorem S_setT {t : Tg} {m : ME} : Sd (sSetT t m ρ h) D = Gd (m ρ h) (kST t ρ D) (kE ρ D) := by
  unfold sSetT; rw [Sd_st]; refine Gd_fun fun x h1 => ?_; unfold kST kT; cases t.set x ρ
  · exact Sd_bad
  · exact Sd_nx
def kFo (t : Tg) (body : MSt) (ρ : MS) (D : SW4) : List MV × Gs → MH → Prop := fun a h => Sd (forGo a.2 t body a.1 ρ h) D
theorem kFo_ap {t : Tg} {body : MSt} {gs : Gs} : kFo t body ρ D (xs, gs) h = Sd (forGo gs t body xs ρ h) D := (Eq.refl _).trans rfl
theorem S_for {mi : MI} {t : Tg} {body : MSt} : Sd (sFor mi t body ρ h) D = Gd (mi ρ h) (kFo t body ρ D) (kE ρ D) := by unfold sFor; rw [Sd_st]; rfl
def kAs (g : MG) (ρ : MS) (D : SW4) : MV → MH → Prop := fun a h => Sd (onlyN (g a ρ h)) D
theorem kAs_ap {g : MG} : kAs g ρ D x h = Sd (onlyN (g x ρ h)) D := (Eq.refl _).trans rfl
theorem S_asg {g : MG} {m : ME} : Sd (sAsg g m ρ h) D = Gd (m ρ h) (kAs g ρ D) (kE ρ D) := by unfold sAsg; rw [Sd_st]; rfl
theorem E_c  : Gd (eC v ρ h) Q E = Q v h := by unfold eC; rw [Gd_ok]
def kV (o : Option (Option MV)) (h : MH) (Q : MV → MH → Prop) : Prop := match o with | some (some v) => Q v h | _ => False
theorem kV_s  : kV (some (some v)) h Q = Q v h := (Eq.refl _).trans rfl
theorem E_var {i : Nat} : Gd (eVar i ρ h) Q E = kV ρ[i]? h Q := by
  unfold eVar kV
  generalize ρ[i]? = o
  rcases o with _ | _ | v
  · exact Gd_bad
  · exact Gd_bad
  · exact Gd_ok
def kB2 (mo : MV → MV → MH → Res MV) (x : MV) (Q : MV → MH → Prop) (E : EK) : MV → MH → Prop := fun a h => Gd (mo x a h) Q E
theorem kB2_ap {mo : MV → MV → MH → Res MV} : kB2 mo x Q E y h = Gd (mo x y h) Q E := (Eq.refl _).trans rfl
def kB1 (mo : MV → MV → MH → Res MV) (mb : ME) (ρ : MS) (Q : MV → MH → Prop) (E : EK) : MV → MH → Prop := fun a h => Gd (mb ρ h) (kB2 mo a Q E) E
theorem kB1_ap {mo : MV → MV → MH → Res MV} {mb : ME} : kB1 mo mb ρ Q E x h = Gd (mb ρ h) (kB2 mo x Q E) E := (Eq.refl _).trans rfl
theorem E_bin {mo : MV → MV → MH → Res MV} {ma mb : ME} : Gd (eBin mo ma mb ρ h) Q E = Gd (ma ρ h) (kB1 mo mb ρ Q E) E := by unfold eBin; simp only [Gd_bind]; rfl
def kU (mo : MV → MH → Res MV) (Q : MV → MH → Prop) (E : EK) : MV → MH → Prop := fun a h => Gd (mo a h) Q E
theorem kU_ap {mo : MV → MH → Res MV} : kU mo Q E x h = Gd (mo x h) Q E := (Eq.refl _).trans rfl
theorem E_un {mo : MV → MH → Res MV} {ma : ME} : Gd (eUn mo ma ρ h) Q E = Gd (ma ρ h) (kU mo Q E) E := by unfold eUn; rw [Gd_bind]; rfl
def kAsB (Q : Bool → MH → Prop) (E : EK) : MV → MH → Prop := fun a h => Gd (asB a h) Q E
theorem kAsB_ap {b : Bool} : kAsB QB E (.bl b) h = QB b h := by unfold kAsB asB; rw [Gd_ok]
theorem E_tof {m : ME} : Gd (tOfE m ρ h) QB E = Gd (m ρ h) (kAsB QB E) E := by unfold tOfE; rw [Gd_bind]; rfl
def kTA (m : MS → MH → Res Bool) (ρ : MS) (Q : Bool → MH → Prop) (E : EK) : Bool → MH → Prop := fun c h => if c = true then Gd (m ρ h) Q E else Q false h
theorem kTA_t {m : MS → MH → Res Bool} : kTA m ρ QB E true h = Gd (m ρ h) QB E := (Eq.refl _).trans rfl
theorem kTA_f {m : MS → MH → Res Bool} : kTA m ρ QB E false h = QB false h := (Eq.refl _).trans rfl
theorem E_tand {m1 m2 : MS → MH → Res Bool} : Gd (tAndM m1 m2 ρ h) QB E = Gd (m1 ρ h) (kTA m2 ρ QB E) E := by
  unfold tAndM; rw [Gd_bind]
  congr; funext c h1; cases c
  · exact Gd_ok
  · rfl
def kTO (m : MS → MH → Res Bool) (ρ : MS) (Q : Bool → MH → Prop) (E : EK) : Bool → MH → Prop := fun c h => if c = true then Q true h else Gd (m ρ h) Q E
theorem kTO_t {m : MS → MH → Res Bool} : kTO m ρ QB E true h = QB true h := (Eq.refl _).trans rfl
theorem kTO_f {m : MS → MH → Res Bool} : kTO m ρ QB E false h = Gd (m ρ h) QB E := (Eq.refl _).trans rfl
theorem E_tor {m1 m2 : MS → MH → Res Bool} : Gd (tOrM m1 m2 ρ h) QB E = Gd (m1 ρ h) (kTO m2 ρ QB E) E := by
  unfold tOrM; rw [Gd_bind]
  congr; funext c h1; cases c
  · rfl
  · exact Gd_ok
def kTN (Q : Bool → MH → Prop) : Bool → MH → Prop := fun c h => Q (!c) h
theorem kTN_ap {b : Bool} : kTN QB b h = QB (!b) h := (Eq.refl _).trans rfl
theorem E_tnot {m1 : MS → MH → Res Bool} : Gd (tNotM m1 ρ h) QB E = Gd (m1 ρ h) (kTN QB) E := by
  unfold tNotM; rw [Gd_bind]; simp only [Gd_ok]; rfl
theorem E_tyes  : Gd (tYesM ρ h) QB E = QB true h := by unfold tYesM; rw [Gd_ok]
def kAnd (m : ME) (ρ : MS) (Q : MV → MH → Prop) (E : EK) : MV → MH → Prop := fun a h => match a with | .bl true => Gd (m ρ h) Q E | .bl false => Q (.bl false) h | _ => False
theorem kAnd_t {m : ME} : kAnd m ρ Q E (.bl true) h = Gd (m ρ h) Q E := (Eq.refl _).trans rfl
theorem kAnd_f {m : ME} : kAnd m ρ Q E (.bl false) h = Q (.bl false) h := (Eq.refl _).trans rfl
theorem E_and {ma mb : ME} : Gd (eAnd ma mb ρ h) Q E = Gd (ma ρ h) (kAnd mb ρ Q E) E := by
  unfold eAnd; rw [Gd_bind]
  congr; funext x h1; unfold kAnd; split <;> simp only [Gd_ok, Gd_bad]
def kOr (m : ME) (ρ : MS) (Q : MV → MH → Prop) (E : EK) : MV → MH → Prop := fun a h => match a with | .bl true => Q (.bl true) h | .bl false => Gd (m ρ h) Q E | _ => False
theorem kOr_t {m : ME} : kOr m ρ Q E (.bl true) h = Q (.bl true) h := (Eq.refl _).trans rfl
theorem kOr_f {m : ME} : kOr m ρ Q E (.bl false) h = Gd (m ρ h) Q E := (Eq.refl _).trans rfl
theorem E_or {ma mb : ME} : Gd (eOr ma mb ρ h) Q E = Gd (ma ρ h) (kOr mb ρ Q E) E := by
  unfold eOr; rw [Gd_bind]
  congr; funext x h1; unfold kOr; split <;> simp only [Gd_ok, Gd_bad]
def kNot (Q : MV → MH → Prop) : MV → MH → Prop := fun a h => match a with | .bl b => Q (.bl (!b)) h | _ => False
theorem kNot_ap {b : Bool} : kNot Q (.bl b) h = Q (.bl (!b)) h := (Eq.refl _).trans rfl
theorem E_not {ma : ME} : Gd (eNot ma ρ h) Q E = Gd (ma ρ h) (kNot Q) E := by
  unfold eNot; rw [Gd_bind]
  congr; funext x h1; unfold kNot; split <;> simp only [Gd_ok, Gd_bad]
def kEI (ma mb : ME) (ρ : MS) (Q : MV → MH → Prop) (E : EK) : Bool → MH → Prop := fun c h => if c = true then Gd (ma ρ h) Q E else Gd (mb ρ h) Q E
theorem kEI_t {ma mb : ME} : kEI ma mb ρ Q E true h = Gd (ma ρ h) Q E := (Eq.refl _).trans rfl
theorem kEI_f {ma mb : ME} : kEI ma mb ρ Q E false h = Gd (mb ρ h) Q E := (Eq.refl _).trans rfl
theorem E_if {mc : MS → MH → Res Bool} {ma mb : ME} : Gd (eIf mc ma mb ρ h) Q E = Gd (mc ρ h) (kEI ma mb ρ Q E) E := by
  unfold eIf; rw [Gd_bind]
  congr; funext c h1; cases c <;> rfl
theorem A_nil  : Gd (aNil ρ h) QA E = QA [] h := by unfold aNil; rw [Gd_ok]
def kA2 (x : MV) (Q : List MV → MH → Prop) : List MV → MH → Prop := fun a h => Q (x :: a) h
theorem kA2_ap  : kA2 x QA xs h = QA (x :: xs) h := (Eq.refl _).trans rfl
def kA1 (ms : MA) (ρ : MS) (Q : List MV → MH → Prop) (E : EK) : MV → MH → Prop := fun a h => Gd (ms ρ h) (kA2 a Q) E
theorem kA1_ap {ms : MA} : kA1 ms ρ QA E x h = Gd (ms ρ h) (kA2 x QA) E := (Eq.refl _).trans rfl
theorem A_cons {m : ME} {ms : MA} : Gd (aCons m ms ρ h) QA E = Gd (m ρ h) (kA1 ms ρ QA E) E := by unfold aCons; simp only [Gd_bind, Gd_ok]; rfl
def kTup (Q : MV → MH → Prop) : List MV → MH → Prop := fun a h => a.length ≤ 1000000 ∧ Q (.tup a) h
theorem kTup_ap  : kTup Q xs h = (xs.length ≤ 1000000 ∧ Q (.tup xs) h) := (Eq.refl _).trans rfl
theorem E_tup {ms : MA} : Gd (eTup ms ρ h) Q E = Gd (ms ρ h) (kTup Q) E := by unfold eTup; simp only [Gd_bind, Gd_ite, Gd_ok]; rfl
def kDis (Q : List MV → MH → Prop) : List MV → MH → Prop := fun a h => a.length ≤ 1000000 ∧ Q a h
theorem kDis_ap  : kDis QA xs h = (xs.length ≤ 1000000 ∧ QA xs h) := (Eq.refl _).trans rfl
theorem L_disp {ms : MA} : Gd (lDisp ms ρ h) QA E = Gd (ms ρ h) (kDis QA) E := by unfold lDisp; simp only [Gd_bind, Gd_ite, Gd_ok]; rfl
def kNew (Q : MV → MH → Prop) : List MV → MH → Prop := fun a h => Q (.ref h.length) (h ++ [.lst a])
theorem kNew_ap  : kNew Q xs h = Q (.ref h.length) (h ++ [.lst xs]) := (Eq.refl _).trans rfl
theorem E_new {ms : MA} : Gd (eNew ms ρ h) Q E = Gd (ms ρ h) (kNew Q) E := by unfold eNew; simp only [Gd_bind, Gd_ok]; rfl
theorem E_dict0  : Gd (eDict0 ρ h) Q E = Q (.ref h.length) (h ++ [.dct []]) := by unfold eDict0; rw [Gd_ok]
def kCB (mo : List MV → MH → Res MV) (Q : MV → MH → Prop) (E : EK) : List MV → MH → Prop := fun a h => Gd (mo a h) Q E
theorem kCB_ap {mo : List MV → MH → Res MV} : kCB mo Q E xs h = Gd (mo xs h) Q E := (Eq.refl _).trans rfl
theorem E_callB {mo : List MV → MH → Res MV} {ms : MA} : Gd (eCallB mo ms ρ h) Q E = Gd (ms ρ h) (kCB mo Q E) E := by unfold eCallB; rw [Gd_bind]; rfl
def kCD (mo : List MV → MH → Res MV) (dm : List MV) (Q : MV → MH → Prop) (E : EK) : List MV → MH → Prop := fun a h => Gd (mo (a ++ dm) h) Q E
theorem kCD_ap {mo : List MV → MH → Res MV} {dm : List MV} : kCD mo dm Q E xs h = Gd (mo (xs ++ dm) h) Q E := (Eq.refl _).trans rfl
theorem E_callD {mo : List MV → MH → Res MV} {dm : List MV} {ms : MA} : Gd (eCallD mo dm ms ρ h) Q E = Gd (ms ρ h) (kCD mo dm Q E) E := by unfold eCallD; rw [Gd_bind]; rfl
def kM2 (mt : MV → List MV → MH → Res MV) (x : MV) (Q : MV → MH → Prop) (E : EK) : List MV → MH → Prop := fun a h => Gd (mt x a h) Q E
theorem kM2_ap {mt : MV → List MV → MH → Res MV} : kM2 mt x Q E xs h = Gd (mt x xs h) Q E := (Eq.refl _).trans rfl
def kM1 (T : String) (mt : MV → List MV → MH → Res MV) (ms : MA) (ρ : MS) (Q : MV → MH → Prop) (E : EK) : MV → MH → Prop := fun a h => tyOk T a h = true ∧ Gd (ms ρ h) (kM2 mt a Q E) E
theorem kM1_ap {T : String} {mt : MV → List MV → MH → Res MV} {ms : MA} : kM1 T mt ms ρ Q E x h = (tyOk T x h = true ∧ Gd (ms ρ h) (kM2 mt x Q E) E) := (Eq.refl _).trans rfl
theorem E_bm {T : String} {mt : MV → List MV → MH → Res MV} {mo : ME} {ms : MA} : Gd (eBM T mt mo ms ρ h) Q E = Gd (mo ρ h) (kM1 T mt ms ρ Q E) E := by unfold eBM; simp only [Gd_bind, Gd_ite]; rfl
def kMe3 (mf : List MV → MH → Res MV) (dm : List MV) (x : MV) (Q : MV → MH → Prop) (E : EK) : List MV → MH → Prop := fun a h => Gd (mf (x :: (a ++ dm)) h) Q E
theorem kMe3_ap {mf : List MV → MH → Res MV} {dm : List MV} : kMe3 mf dm x Q E xs h = Gd (mf (x :: (xs ++ dm)) h) Q E := (Eq.refl _).trans rfl
def kMe2 (o : Option MO) (c m : Str) (mf : List MV → MH → Res MV) (dm : List MV) (x : MV) (ms : MA) (ρ : MS) (h : MH) (Q : MV → MH → Prop) (E : EK) : Prop := match o with | some (.ins c' fs) => (c' = c ∧ fs.lookup m = none) ∧ Gd (ms ρ h) (kMe3 mf dm x Q E) E | _ => False
theorem kMe2_s {c m c' : Str} {fs : List (Str × MV)} {mf : List MV → MH → Res MV} {dm : List MV} {ms : MA} : kMe2 (some (.ins c' fs)) c m mf dm x ms ρ h Q E = ((c' = c ∧ fs.lookup m = none) ∧ Gd (ms ρ h) (kMe3 mf dm x Q E) E) := (Eq.refl _).trans rfl
def kMe1 (c m : Str) (mf : List MV → MH → Res MV) (dm : List MV) (ms : MA) (ρ : MS) (Q : MV → MH → Prop) (E : EK) : MV → MH → Prop := fun a h => match a with | .ref n => kMe2 h[n]? c m mf dm (.ref n) ms ρ h Q E | _ => False
theorem kMe1_ap {c m : Str} {n : Nat} {mf : List MV → MH → Res MV} {dm : List MV} {ms : MA} : kMe1 c m mf dm ms ρ Q E (.ref n) h = kMe2 h[n]? c m mf dm (.ref n) ms ρ h Q E := (Eq.refl _).trans rfl
theorem E_meth {c m : Str} {mf : List MV → MH → Res MV} {dm : List MV} {mo : ME} {ms : MA} : Gd (eMeth c m mf dm mo ms ρ h) Q E = Gd (mo ρ h) (kMe1 c m mf dm ms ρ Q E) E := by
  unfold eMeth; rw [Gd_bind]
  refine Gd_fun fun x h1 => ?_
  unfold kMe1 kMe2
  cases x with
  | ref n =>
    dsimp only
    generalize h1[n]? = o
    rcases o with _ | ⟨_ | _ | _⟩ <;> dsimp only <;> first | exact Gd_bad | (rw [Gd_ite, Gd_bind]; rfl)
  | _ => exact Gd_bad
def kIL2 (xs : List MV) (Q : MV → MH → Prop) (E : EK) : MV → MH → Prop := fun a h => Gd (ixL xs a h) Q E
theorem kIL2_ap  : kIL2 xs Q E y h = Gd (ixL xs y h) Q E := (Eq.refl _).trans rfl
def kIL1 (mb : ME) (ρ : MS) (Q : MV → MH → Prop) (E : EK) : List MV → MH → Prop := fun a h => Gd (mb ρ h) (kIL2 a Q E) E
theorem kIL1_ap {mb : ME} : kIL1 mb ρ Q E xs h = Gd (mb ρ h) (kIL2 xs Q E) E := (Eq.refl _).trans rfl
theorem E_ixL {la : MA} {mb : ME} : Gd (eIxL la mb ρ h) Q E = Gd (la ρ h) (kIL1 mb ρ Q E) E := by unfold eIxL; simp only [Gd_bind]; rfl
def kO (o : Option β) (h : MH) (Q : β → MH → Prop) : Prop := match o with | some a => Q a h | none => False
theorem kO_s {b : β} {Q : β → MH → Prop} : kO (some b) h Q = Q b h := (Eq.refl _).trans rfl
theorem kO_eq {o : Option β} {f : β → MH → Res α} {Q : β → MH → Prop} {Q' : α → MH → Prop} (hf : ∀ b, Gd (f b h) Q' E = Q b h) : Gd (match o with | some b => f b h | none => .bad) Q' E = kO o h Q := by cases o <;> simp only [hf, Gd_bad] <;> rfl
def kLO (Q : List MV → MH → Prop) : MV → MH → Prop := fun a h => kO (itemsOf a h) h Q
theorem kLO_ap  : kLO QA x h = kO (itemsOf x h) h QA := (Eq.refl _).trans rfl
theorem L_of {m : ME} : Gd (lOf m ρ h) QA E = Gd (m ρ h) (kLO QA) E := by
  unfold lOf; rw [Gd_bind]
  congr; funext x h1; unfold kLO kO; cases itemsOf x h1 <;> simp only [Gd_ok, Gd_bad]
def kCa2 (xs : List MV) (Q : List MV → MH → Prop) : List MV → MH → Prop := fun a h => xs.length + a.length ≤ 1000000 ∧ Q (xs ++ a) h
theorem kCa2_ap  : kCa2 xs QA ys h = (xs.length + ys.length ≤ 1000000 ∧ QA (xs ++ ys) h) := (Eq.refl _).trans rfl
def kCa1 (lb : MA) (ρ : MS) (Q : List MV → MH → Prop) (E : EK) : List MV → MH → Prop := fun a h => Gd (lb ρ h) (kCa2 a Q) E
theorem kCa1_ap {lb : MA} : kCa1 lb ρ QA E xs h = Gd (lb ρ h) (kCa2 xs QA) E := (Eq.refl _).trans rfl
theorem L_cat {la lb : MA} : Gd (lCat la lb ρ h) QA E = Gd (la ρ h) (kCa1 lb ρ QA E) E := by unfold lCat; simp only [Gd_bind, Gd_ite, Gd_ok]; rfl
def kCE3 (o : Option (List MV)) (ys : List MV) (h : MH) (Q : List MV → MH → Prop) : Prop := match o with | some xs => xs.length + ys.length ≤ 1000000 ∧ Q (xs ++ ys) h | none => False
theorem kCE3_s  : kCE3 (some xs) ys h QA = (xs.length + ys.length ≤ 1000000 ∧ QA (xs ++ ys) h) := (Eq.refl _).trans rfl
def kCE2 (x : MV) (Q : List MV → MH → Prop) : List MV → MH → Prop := fun a h => kCE3 (lstAt x h) a h Q
theorem kCE2_ap  : kCE2 x QA ys h = kCE3 (lstAt x h) ys h QA := (Eq.refl _).trans rfl
def kCE1 (lb : MA) (ρ : MS) (Q : List MV → MH → Prop) (E : EK) : MV → MH → Prop := fun a h => Gd (lb ρ h) (kCE2 a Q) E
theorem kCE1_ap {lb : MA} : kCE1 lb ρ QA E x h = Gd (lb ρ h) (kCE2 x QA) E := (Eq.refl _).trans rfl
theorem L_catE {ma : ME} {lb : MA} : Gd (lCatE ma lb ρ h) QA E = Gd (ma ρ h) (kCE1 lb ρ QA E) E := by
  unfold lCatE; simp only [Gd_bind]
  congr; funext x h1; unfold kCE1; congr; funext ys h2; unfold kCE2 kCE3; cases lstAt x h2 <;> simp only [Gd_ok, Gd_bad, Gd_ite]; rfl
def kCL3 (o : Option (List MV)) (xs : List MV) (h : MH) (Q : List MV → MH → Prop) : Prop := match o with | some ys => xs.length + ys.length ≤ 1000000 ∧ Q (xs ++ ys) h | none => False
theorem kCL3_s  : kCL3 (some ys) xs h QA = (xs.length + ys.length ≤ 1000000 ∧ QA (xs ++ ys) h) := (Eq.refl _).trans rfl
def kCL2 (xs : List MV) (Q : List MV → MH → Prop) : MV → MH → Prop := fun a h => kCL3 (lstAt a h) xs h Q
theorem kCL2_ap  : kCL2 xs QA y h = kCL3 (lstAt y h) xs h QA := (Eq.refl _).trans rfl
def kCL1 (mb : ME) (ρ : MS) (Q : List MV → MH → Prop) (E : EK) : List MV → MH → Prop := fun a h => Gd (mb ρ h) (kCL2 a Q) E
theorem kCL1_ap {mb : ME} : kCL1 mb ρ QA E xs h = Gd (mb ρ h) (kCL2 xs QA) E := (Eq.refl _).trans rfl
theorem L_catL {la : MA} {mb : ME} : Gd (lCatL la mb ρ h) QA E = Gd (la ρ h) (kCL1 mb ρ QA E) E := by
  unfold lCatL; simp only [Gd_bind]
  congr; funext x h1; unfold kCL1; congr; funext ys h2; unfold kCL2 kCL3; cases lstAt ys h2 <;> simp only [Gd_ok, Gd_bad, Gd_ite]; rfl
def kCo (t : Tg) (vs : List Nat) (mt : MS → MH → Res Bool) (me : ME) (ρ : MS) (Q : List MV → MH → Prop) (E : EK) : List MV × Gs → MH → Prop := fun a h => a.1.length ≤ 1000000 ∧ Gd (compGo a.2 t mt me (wipeM ρ vs) a.1 h) Q E
theorem kCo_ap {t : Tg} {vs : List Nat} {mt : MS → MH → Res Bool} {me : ME} {gs : Gs} : kCo t vs mt me ρ QA E (xs, gs) h = (xs.length ≤ 1000000 ∧ Gd (compGo gs t mt me (wipeM ρ vs) xs h) QA E) := (Eq.refl _).trans rfl
theorem L_comp {mi : MI} {t : Tg} {vs : List Nat} {mt : MS → MH → Res Bool} {me : ME} : Gd (lComp mi t vs mt me ρ h) QA E = Gd (mi ρ h) (kCo t vs mt me ρ QA E) E := by unfold lComp; simp only [Gd_bind, Gd_ite]; rfl
theorem P_none {Q : Option Int → MH → Prop} : Gd (pNone ρ h) Q E = Q none h := by unfold pNone; rw [Gd_ok]
def kPS (Q : Option Int → MH → Prop) : MV → MH → Prop := fun a h => match a with | .int i => Q (some i) h | _ => False
theorem kPS_ap {Q : Option Int → MH → Prop} {i : Int} : kPS Q (.int i) h = Q (some i) h := (Eq.refl _).trans rfl
theorem P_some {m : ME} {Q : Option Int → MH → Prop} : Gd (pSome m ρ h) Q E = Gd (m ρ h) (kPS Q) E := by
  unfold pSome; rw [Gd_bind]
  congr; funext x h1; unfold kPS; split <;> simp only [Gd_ok, Gd_bad]
def kSl3 (x : MV) (l : Option Int) (Q : MV → MH → Prop) (E : EK) : Option Int → MH → Prop := fun a h => Gd (mSl x l a h) Q E
theorem kSl3_ap {l u : Option Int} : kSl3 x l Q E u h = Gd (mSl x l u h) Q E := (Eq.refl _).trans rfl
def kSl2 (mh : MP) (x : MV) (ρ : MS) (Q : MV → MH → Prop) (E : EK) : Option Int → MH → Prop := fun a h => Gd (mh ρ h) (kSl3 x a Q E) E
theorem kSl2_ap {mh : MP} {l : Option Int} : kSl2 mh x ρ Q E l h = Gd (mh ρ h) (kSl3 x l Q E) E := (Eq.refl _).trans rfl
def kSl1 (ml mh : MP) (ρ : MS) (Q : MV → MH → Prop) (E : EK) : MV → MH → Prop := fun a h => Gd (ml ρ h) (kSl2 mh a ρ Q E) E
theorem kSl1_ap {ml mh : MP} : kSl1 ml mh ρ Q E x h = Gd (ml ρ h) (kSl2 mh x ρ Q E) E := (Eq.refl _).trans rfl
theorem E_sl {m : ME} {ml mh : MP} : Gd (eSl m ml mh ρ h) Q E = Gd (m ρ h) (kSl1 ml mh ρ Q E) E := by unfold eSl; simp only [Gd_bind]; rfl
def kCh3 (mo' : MV → MV → MH → Res MV) (mc : ME) (y : MV) (ρ : MS) (Q : MV → MH → Prop) (E : EK) : MV → MH → Prop := fun a h => match a with | .bl true => Gd (mc ρ h) (kB2 mo' y Q E) E | .bl false => Q (.bl false) h | _ => False
theorem kCh3_t {mo' : MV → MV → MH → Res MV} {mc : ME} : kCh3 mo' mc y ρ Q E (.bl true) h = Gd (mc ρ h) (kB2 mo' y Q E) E := (Eq.refl _).trans rfl
theorem kCh3_f {mo' : MV → MV → MH → Res MV} {mc : ME} : kCh3 mo' mc y ρ Q E (.bl false) h = Q (.bl false) h := (Eq.refl _).trans rfl
def kCh2 (mo mo' : MV → MV → MH → Res MV) (mc : ME) (x : MV) (ρ : MS) (Q : MV → MH → Prop) (E : EK) : MV → MH → Prop := fun a h => Gd (mo x a h) (kCh3 mo' mc a ρ Q E) E
theorem kCh2_ap {mo mo' : MV → MV → MH → Res MV} {mc : ME} : kCh2 mo mo' mc x ρ Q E y h = Gd (mo x y h) (kCh3 mo' mc y ρ Q E) E := (Eq.refl _).trans rfl
def kCh1 (mo mo' : MV → MV → MH → Res MV) (mb mc : ME) (ρ : MS) (Q : MV → MH → Prop) (E : EK) : MV → MH → Prop := fun a h => Gd (mb ρ h) (kCh2 mo mo' mc a ρ Q E) E
theorem kCh1_ap {mo mo' : MV → MV → MH → Res MV} {mb mc : ME} : kCh1 mo mo' mb mc ρ Q E x h = Gd (mb ρ h) (kCh2 mo mo' mc x ρ Q E) E := (Eq.refl _).trans rfl
theorem E_chain {mo mo' : MV → MV → MH → Res MV} {ma mb mc : ME} : Gd (eChain mo mo' ma mb mc ρ h) Q E = Gd (ma ρ h) (kCh1 mo mo' mb mc ρ Q E) E := by
  unfold eChain; simp only [Gd_bind]
  congr; funext x h1; unfold kCh1; congr; funext y h2; unfold kCh2; congr; funext z h3; unfold kCh3; split <;> simp only [Gd_ok, Gd_bad, Gd_bind]; rfl
def kIO (Q : List MV × Gs → MH → Prop) : MV → MH → Prop := fun a h => kO (walkOf a h) h Q
theorem kIO_ap {QI : List MV × Gs → MH → Prop} : kIO QI x h = kO (walkOf x h) h QI := (Eq.refl _).trans rfl
theorem I_of {m : ME} {QI : List MV × Gs → MH → Prop} : Gd (iOf m ρ h) QI E = Gd (m ρ h) (kIO QI) E := by
  unfold iOf; rw [Gd_bind]
  congr; funext x h1; unfold kIO kO; cases walkOf x h1 <;> simp only [Gd_ok, Gd_bad]
def kIL (Q : List MV × Gs → MH → Prop) : List MV → MH → Prop := fun a h => Q (a, []) h
theorem kIL_ap {QI : List MV × Gs → MH → Prop} : kIL QI xs h = QI (xs, []) h := (Eq.refl _).trans rfl
theorem I_lst {la : MA} {QI : List MV × Gs → MH → Prop} : Gd (iLst la ρ h) QI E = Gd (la ρ h) (kIL QI) E := by unfold iLst; rw [Gd_bind]; simp only [Gd_ok]; rfl
def kR1 (Q : List MV × Gs → MH → Prop) : List MV → MH → Prop := fun a h => match a with | [.int j] => (-(2 ^ 62) ≤ j ∧ j < 2 ^ 62) ∧ Q (intR 0 j.toNat, []) h | _ => False
theorem kR1_ap {j : Int} {QI : List MV × Gs → MH → Prop} : kR1 QI [.int j] h = ((-(2 ^ 62) ≤ j ∧ j < 2 ^ 62) ∧ QI (intR 0 j.toNat, []) h) := (Eq.refl _).trans rfl
theorem I_range1 {ms : MA} {QI : List MV × Gs → MH → Prop} : Gd (iRange1 ms ρ h) QI E = Gd (ms ρ h) (kR1 QI) E := by
  unfold iRange1; rw [Gd_bind]
  congr; funext x h1; unfold kR1; split <;> simp only [Gd_ok, Gd_bad, Gd_ite]
def kR2 (Q : List MV × Gs → MH → Prop) : List MV → MH → Prop := fun a h => match a with | [.int i, .int j] => ((-(2 ^ 62) ≤ i ∧ i < 2 ^ 62) ∧ -(2 ^ 62) ≤ j ∧ j < 2 ^ 62) ∧ Q (intR i (j - i).toNat, []) h | _ => False
theorem kR2_ap {i j : Int} {QI : List MV × Gs → MH → Prop} : kR2 QI [.int i, .int j] h = (((-(2 ^ 62) ≤ i ∧ i < 2 ^ 62) ∧ -(2 ^ 62) ≤ j ∧ j < 2 ^ 62) ∧ QI (intR i (j - i).toNat, []) h) := (Eq.refl _).trans rfl
theorem I_range2 {ms : MA} {QI : List MV × Gs → MH → Prop} : Gd (iRange2 ms ρ h) QI E = Gd (ms ρ h) (kR2 QI) E := by
  unfold iRange2; rw [Gd_bind]
  congr; funext x h1; unfold kR2; split <;> simp only [Gd_ok, Gd_bad, Gd_ite]
def kEn2 (o : Option MO) (n : Nat) (h : MH) (Q : List MV × Gs → MH → Prop) : Prop := match o with | some (.lst xs) => Q (enumM xs, [(n, xs)]) h | _ => False
theorem kEn2_s {n : Nat} {QI : List MV × Gs → MH → Prop} : kEn2 (some (.lst xs)) n h QI = QI (enumM xs, [(n, xs)]) h := (Eq.refl _).trans rfl
def kEn (Q : List MV × Gs → MH → Prop) : MV → MH → Prop := fun a h => match a with | .ref n => kEn2 h[n]? n h Q | _ => False
theorem kEn_ap {n : Nat} {QI : List MV × Gs → MH → Prop} : kEn QI (.ref n) h = kEn2 h[n]? n h QI := (Eq.refl _).trans rfl
theorem I_enumE {m : ME} {QI : List MV × Gs → MH → Prop} : Gd (iEnumE m ρ h) QI E = Gd (m ρ h) (kEn QI) E := by
  unfold iEnumE; rw [Gd_bind]
  refine Gd_fun fun x h1 => ?_
  unfold kEn kEn2
  cases x with
  | ref n =>
    dsimp only
    generalize h1[n]? = o
    rcases o with _ | ⟨_ | _ | _⟩ <;> dsimp only <;> first | exact Gd_bad | exact Gd_ok
  | _ => exact Gd_bad
def kEA (Q : List MV × Gs → MH → Prop) : MV → MH → Prop := fun a h => match a with | .ref n => kEn2 h[n]? n h Q | .str z => Q (enumM (signs z), []) h | _ => False
theorem kEA_r {n : Nat} {QI : List MV × Gs → MH → Prop} : kEA QI (.ref n) h = kEn2 h[n]? n h QI := (Eq.refl _).trans rfl
theorem kEA_s {z : Str} {QI : List MV × Gs → MH → Prop} : kEA QI (.str z) h = QI (enumM (signs z), []) h := (Eq.refl _).trans rfl
theorem I_enumA {m : ME} {QI : List MV × Gs → MH → Prop} : Gd (iEnumA m ρ h) QI E = Gd (m ρ h) (kEA QI) E := by
  unfold iEnumA; rw [Gd_bind]
  refine Gd_fun fun x h1 => ?_
  unfold kEA kEn2
  cases x with
  | ref n =>
    dsimp only
    unfold enR
    generalize h1[n]? = o
    rcases o with _ | ⟨_ | _ | _⟩ <;> dsimp only <;> first | exact Gd_bad | exact Gd_ok
  | str z => exact Gd_ok
  | _ => exact Gd_bad
def kEnL (Q : List MV × Gs → MH → Prop) : List MV → MH → Prop := fun a h => Q (enumM a, []) h
theorem kEnL_ap {QI : List MV × Gs → MH → Prop} : kEnL QI xs h = QI (enumM xs, []) h := (Eq.refl _).trans rfl
theorem I_enumL {la : MA} {QI : List MV × Gs → MH → Prop} : Gd (iEnumL la ρ h) QI E = Gd (la ρ h) (kEnL QI) E := by unfold iEnumL; rw [Gd_bind]; simp only [Gd_ok]; rfl
def kZi (Q : List MV × Gs → MH → Prop) : List MV → MH → Prop := fun a h => match a with | [.tup xs, .tup ys] => Q (zipM xs ys, []) h | _ => False
theorem kZi_ap {QI : List MV × Gs → MH → Prop} : kZi QI [.tup xs, .tup ys] h = QI (zipM xs ys, []) h := (Eq.refl _).trans rfl
theorem I_zip2 {ms : MA} {QI : List MV × Gs → MH → Prop} : Gd (iZip2 ms ρ h) QI E = Gd (ms ρ h) (kZi QI) E := by
  unfold iZip2; rw [Gd_bind]
  congr; funext x h1; unfold kZi; split <;> simp only [Gd_ok, Gd_bad]
theorem P_pnil {QP : List (MV × MV) → MH → Prop} : Gd (pairsM [] ρ h) QP E = QP [] h := by rw [pairsM_nil, Gd_ok]
def kP3 (x y : MV) (Q : List (MV × MV) → MH → Prop) : List (MV × MV) → MH → Prop := fun a h => Q ((x, y) :: a) h
theorem kP3_ap {ps : List (MV × MV)} {QP : List (MV × MV) → MH → Prop} : kP3 x y QP ps h = QP ((x, y) :: ps) h := (Eq.refl _).trans rfl
def kP2 (r : List (ME × ME)) (ρ : MS) (x : MV) (Q : List (MV × MV) → MH → Prop) (E : EK) : MV → MH → Prop := fun a h => Gd (pairsM r ρ h) (kP3 x a Q) E
theorem kP2_ap {r : List (ME × ME)} {QP : List (MV × MV) → MH → Prop} : kP2 r ρ x QP E y h = Gd (pairsM r ρ h) (kP3 x y QP) E := (Eq.refl _).trans rfl
def kP1 (mv : ME) (r : List (ME × ME)) (ρ : MS) (Q : List (MV × MV) → MH → Prop) (E : EK) : MV → MH → Prop := fun a h => Gd (mv ρ h) (kP2 r ρ a Q E) E
theorem kP1_ap {mv : ME} {r : List (ME × ME)} {QP : List (MV × MV) → MH → Prop} : kP1 mv r ρ QP E x h = Gd (mv ρ h) (kP2 r ρ x QP E) E := (Eq.refl _).trans rfl
theorem P_pcons {mk mv : ME} {r : List (ME × ME)} {QP : List (MV × MV) → MH → Prop} : Gd (pairsM ((mk, mv) :: r) ρ h) QP E = Gd (mk ρ h) (kP1 mv r ρ QP E) E := by rw [pairsM_cons]; simp only [Gd_bind, Gd_ok]; rfl
def kDi2 (o : Option (List (Key × MV))) (h : MH) (Q : MV → MH → Prop) : Prop := match o with | some kvs => kvs.length ≤ 15 ∧ Q (.ref h.length) (h ++ [.dct (mergeM [] kvs)]) | none => False
theorem kDi2_s {kvs : List (Key × MV)} : kDi2 (some kvs) h Q = (kvs.length ≤ 15 ∧ Q (.ref h.length) (h ++ [.dct (mergeM [] kvs)])) := (Eq.refl _).trans rfl
def kDi (Q : MV → MH → Prop) : List (MV × MV) → MH → Prop := fun a h => kDi2 (keyed a) h Q
theorem kDi_ap {ps : List (MV × MV)} : kDi Q ps h = kDi2 (keyed ps) h Q := (Eq.refl _).trans rfl
theorem E_disp {prs : List (ME × ME)} : Gd (eDisp prs ρ h) Q E = Gd (pairsM prs ρ h) (kDi Q) E := by
  unfold eDisp; rw [Gd_bind]
  refine Gd_fun fun x h1 => ?_; unfold kDi kDi2; generalize keyed x = o; cases o
  · exact Gd_bad
  · dsimp only; rw [Gd_ite, Gd_ok]
theorem mAdd_ii {i j : Int} : mAdd (.int i) (.int j) h = .ok (.int (i + j)) h := (Eq.refl _).trans rfl
theorem mSub_ii {i j : Int} : mSub (.int i) (.int j) h = .ok (.int (i - j)) h := (Eq.refl _).trans rfl
theorem mIadd_ii {i j : Int} : mIadd (.int i) (.int j) h = .ok (.int (i + j)) h := (Eq.refl _).trans rfl
theorem mAdd_ss_0 {a b : Str} : mAdd (.str a) (.str b) h = if szOk (a.length + b.length) then .ok (.str (a ++ b)) h else .bad := rfl
theorem mAdd_ss {a b : Str} : Gd (mAdd (.str a) (.str b) h) Q E = (a.length + b.length ≤ 1000000 ∧ Q (.str (a ++ b)) h) := by
  rw [mAdd_ss_0, Gd_ite, Gd_ok]
  try rfl
theorem mIadd_ss_0 {a b : Str} : mIadd (.str a) (.str b) h = if szOk (a.length + b.length) then .ok (.str (a ++ b)) h else .bad := rfl
theorem mIadd_ss {a b : Str} : Gd (mIadd (.str a) (.str b) h) Q E = (a.length + b.length ≤ 1000000 ∧ Q (.str (a ++ b)) h) := by
  rw [mIadd_ss_0, Gd_ite, Gd_ok]
  try rfl
theorem mAdd_tt_0  : mAdd (.tup xs) (.tup ys) h = if szOk (xs.length + ys.length) then .ok (.tup (xs ++ ys)) h else .bad := rfl
theorem mAdd_tt  : Gd (mAdd (.tup xs) (.tup ys) h) Q E = (xs.length + ys.length ≤ 1000000 ∧ Q (.tup (xs ++ ys)) h) := by
  rw [mAdd_tt_0, Gd_ite, Gd_ok]
  try rfl
theorem mMod_ii_0 {i j : Int} : mMod (.int i) (.int j) h = if 0 < j then .ok (.int (i % j)) h else .bad := rfl
theorem mMod_ii {i j : Int} : Gd (mMod (.int i) (.int j) h) Q E = (0 < j ∧ Q (.int (i % j)) h) := by
  rw [mMod_ii_0, Gd_ite, Gd_ok]
  try rfl
theorem mDiv_ii_0 {i j : Int} : mDiv (.int i) (.int j) h = if 0 < j ∧ j < 1073741824 then .ok (.int (i / j)) h else .bad := rfl
theorem mDiv_ii {i j : Int} : Gd (mDiv (.int i) (.int j) h) Q E = ((0 < j ∧ j < 1073741824) ∧ Q (.int (i / j)) h) := by
  rw [mDiv_ii_0, Gd_ite, Gd_ok]
  try rfl
theorem mLt_ii {i j : Int} : mLt (.int i) (.int j) h = .ok (.bl (decide (i < j))) h := (Eq.refl _).trans rfl
theorem mLe_ii {i j : Int} : mLe (.int i) (.int j) h = .ok (.bl (decide (i ≤ j))) h := (Eq.refl _).trans rfl
theorem mGt_ii {i j : Int} : mGt (.int i) (.int j) h = .ok (.bl (decide (j < i))) h := (Eq.refl _).trans rfl
theorem mGe_ii {i j : Int} : mGe (.int i) (.int j) h = .ok (.bl (decide (j ≤ i))) h := (Eq.refl _).trans rfl
theorem mEq_ii {i j : Int} : mEq (.int i) (.int j) h = .ok (.bl (decide (i = j))) h := by simp [mEq, mEqB, scalM]
theorem mEq_ss {a b : Str} : mEq (.str a) (.str b) h = .ok (.bl (decide (a = b))) h := by simp [mEq, mEqB, scalM]
theorem mEq_bb {a b : Bool} : mEq (.bl a) (.bl b) h = .ok (.bl (decide (a = b))) h := by simp [mEq, mEqB, scalM]
theorem mNe_ii {i j : Int} : mNe (.int i) (.int j) h = .ok (.bl (!decide (i = j))) h := by simp [mNe, mEqB, scalM]
theorem mNe_ss {a b : Str} : mNe (.str a) (.str b) h = .ok (.bl (!decide (a = b))) h := by simp [mNe, mEqB, scalM]
theorem mNe_bb {a b : Bool} : mNe (.bl a) (.bl b) h = .ok (.bl (!decide (a = b))) h := by simp [mNe, mEqB, scalM]
theorem mIs_n  : mIs x .non h = .ok (.bl (noneM x)) h := (Eq.refl _).trans rfl
theorem mIsNot_n  : mIsNot x .non h = .ok (.bl (!noneM x)) h := (Eq.refl _).trans rfl
theorem noneM_n  : noneM .non = true := (Eq.refl _).trans rfl
theorem noneM_i {i : Int} : noneM (.int i) = false := (Eq.refl _).trans rfl
theorem noneM_s {a : Str} : noneM (.str a) = false := (Eq.refl _).trans rfl
theorem noneM_t  : noneM (.tup xs) = false := (Eq.refl _).trans rfl
theorem noneM_b {b : Bool} : noneM (.bl b) = false := (Eq.refl _).trans rfl
theorem noneM_r {n : Nat} : noneM (.ref n) = false := (Eq.refl _).trans rfl
def mIxR (o : Option MO) (y : MV) (h : MH) : Res MV := match o with | some (.lst xs) => ixL xs y h | some (.dct kvs) => ixD kvs y h | _ => .bad
theorem mIxR_l  : mIxR (some (.lst xs)) y h = ixL xs y h := (Eq.refl _).trans rfl
theorem mIxR_d {kvs : List (Key × MV)} : mIxR (some (.dct kvs)) y h = ixD kvs y h := (Eq.refl _).trans rfl
theorem mIx_r {n : Nat} : mIx (.ref n) y h = mIxR h[n]? y h := (Eq.refl _).trans rfl
theorem mIx_t  : mIx (.tup xs) y h = ixL xs y h := (Eq.refl _).trans rfl
theorem mIx_scr  : mIx (.scr xs) y h = ixL xs y h := (Eq.refl _).trans rfl
theorem mIx_s {z : Str} : mIx (.str z) y h = ixS z y h := (Eq.refl _).trans rfl
theorem ixL_i {i : Int} : ixL xs (.int i) h = optR (atI xs i) h := (Eq.refl _).trans rfl
theorem optR_s  : optR (some v) h = .ok v h := (Eq.refl _).trans rfl
def mLenR (o : Option MO) (h : MH) : Res MV := match o with | some (.lst xs) => .ok (.int xs.length) h | some (.dct kvs) => .ok (.int kvs.length) h | _ => .bad
def lstR (o : Option MO) : Option (List MV) := match o with | some (.lst xs) => some xs | _ => none
theorem lstR_l  : lstR (some (.lst xs)) = some xs := (Eq.refl _).trans rfl
theorem lstAt_r {n : Nat} : lstAt (.ref n) h = lstR h[n]? := by unfold lstAt lstR; rfl
def mAddR (o u : Option MO) (h : MH) : Res MV := match o, u with | some (.lst xs), some (.lst ys) => if szOk (xs.length + ys.length) then .ok (.ref h.length) (h ++ [.lst (xs ++ ys)]) else .bad | _, _ => .bad
theorem mAdd_rr {n k : Nat} : mAdd (.ref n) (.ref k) h = mAddR h[n]? h[k]? h := by unfold mAdd mAddR; rfl
theorem mAddR_l_0  : mAddR (some (.lst xs)) (some (.lst ys)) h = if szOk (xs.length + ys.length) then .ok (.ref h.length) (h ++ [.lst (xs ++ ys)]) else .bad := rfl
theorem mAddR_l  : Gd (mAddR (some (.lst xs)) (some (.lst ys)) h) Q E = (xs.length + ys.length ≤ 1000000 ∧ Q (.ref h.length) (h ++ [.lst (xs ++ ys)])) := by
  rw [mAddR_l_0, Gd_ite, Gd_ok]
  try rfl
def walkR (o : Option MO) (n : Nat) : Option (List MV × Gs) := match o with | some (.lst xs) => some (xs, [(n, xs)]) | _ => none
theorem walk_t  : walkOf (.tup xs) h = some (xs, []) := (Eq.refl _).trans rfl
theorem walk_scr  : walkOf (.scr xs) h = some (xs, []) := (Eq.refl _).trans rfl
theorem walk_s {z : Str} : walkOf (.str z) h = some (signs z, []) := (Eq.refl _).trans rfl
theorem walk_r {n : Nat} : walkOf (.ref n) h = walkR h[n]? n := by unfold walkOf walkR; rfl
theorem walkR_l {n : Nat} : walkR (some (.lst xs)) n = some (xs, [(n, xs)]) := (Eq.refl _).trans rfl
def mInR (o : Option MO) (x : MV) (h : MH) : Res MV := match o with | some (.lst ys) => (if (flatM x && ys.all flatM) = true then .ok (.bl (ys.any fun y => eqM y x)) h else .bad) | some (.dct kvs) => (match keyOf x with | some k => .ok (.bl (valM kvs k).isSome) h | none => .bad) | _ => .bad
theorem mIn_r {n : Nat} : mIn x (.ref n) h = mInR h[n]? x h := by
  unfold mIn mInB mInR
  dsimp only
  generalize h[n]? = o
  rcases o with _ | ⟨_ | _ | _⟩ <;> dsimp only
  · generalize (flatM x && List.all _ flatM) = q; cases q <;> rfl
  · generalize keyOf x = q; cases q <;> rfl
theorem mInR_l_0  : mInR (some (.lst ys)) x h = if (flatM x && ys.all flatM) = true then .ok (.bl (ys.any fun y => eqM y x)) h else .bad := rfl
theorem mInR_l  : Gd (mInR (some (.lst ys)) x h) Q E = ((flatM x && ys.all flatM) = true ∧ Q (.bl (ys.any fun y => eqM y x)) h) := by
  rw [mInR_l_0, Gd_ite, Gd_ok]
  try rfl
theorem mIn_t_0  : mIn x (.tup ys) h = if (flatM x && ys.all flatM) = true then .ok (.bl (ys.any fun y => eqM y x)) h else .bad := by
  unfold mIn mInB
  dsimp only
  generalize (flatM x && List.all _ flatM) = q; cases q <;> rfl
theorem mIn_t  : Gd (mIn x (.tup ys) h) Q E = ((flatM x && ys.all flatM) = true ∧ Q (.bl (ys.any fun y => eqM y x)) h) := by
  rw [mIn_t_0, Gd_ite, Gd_ok]
  try rfl
theorem mNotIn_t_0  : mNotIn x (.tup ys) h = if (flatM x && ys.all flatM) = true then .ok (.bl (!ys.any fun y => eqM y x)) h else .bad := by
  unfold mNotIn mInB
  dsimp only
  generalize (flatM x && List.all _ flatM) = q; cases q <;> rfl
theorem mNotIn_t  : Gd (mNotIn x (.tup ys) h) Q E = ((flatM x && ys.all flatM) = true ∧ Q (.bl (!ys.any fun y => eqM y x)) h) := by
  rw [mNotIn_t_0, Gd_ite, Gd_ok]
  try rfl
def mNotInR (o : Option MO) (x : MV) (h : MH) : Res MV := match o with | some (.lst ys) => (if (flatM x && ys.all flatM) = true then .ok (.bl (!ys.any fun y => eqM y x)) h else .bad) | some (.dct kvs) => (match keyOf x with | some k => .ok (.bl (!(valM kvs k).isSome)) h | none => .bad) | _ => .bad
theorem mNotIn_r {n : Nat} : mNotIn x (.ref n) h = mNotInR h[n]? x h := by
  unfold mNotIn mInB mNotInR
  dsimp only
  generalize h[n]? = o
  rcases o with _ | ⟨_ | _ | _⟩ <;> dsimp only
  · generalize (flatM x && List.all _ flatM) = q; cases q <;> rfl
  · generalize keyOf x = q; cases q <;> rfl
theorem mNotInR_l_0  : mNotInR (some (.lst ys)) x h = if (flatM x && ys.all flatM) = true then .ok (.bl (!ys.any fun y => eqM y x)) h else .bad := rfl
theorem mNotInR_l  : Gd (mNotInR (some (.lst ys)) x h) Q E = ((flatM x && ys.all flatM) = true ∧ Q (.bl (!ys.any fun y => eqM y x)) h) := by
  rw [mNotInR_l_0, Gd_ite, Gd_ok]
  try rfl
theorem flatM_s {s : Str} : flatM (.str s) = true := (Eq.refl _).trans rfl
theorem flatM_i {i : Int} : flatM (.int i) = true := (Eq.refl _).trans rfl
theorem flatM_b {b : Bool} : flatM (.bl b) = true := (Eq.refl _).trans rfl
theorem flatM_n  : flatM (.non) = true := (Eq.refl _).trans rfl
theorem eqM_ss {a b : Str} : eqM (.str a) (.str b) = decide (a = b) := by simp only [eqM]; exact Bool.beq_eq_decide_eq a b
theorem eqM_ii {a b : Int} : eqM (.int a) (.int b) = decide (a = b) := by simp only [eqM]; exact Bool.beq_eq_decide_eq a b
theorem mStr_s {a : Str} : mStr [.str a] h = .ok (.str a) h := (Eq.refl _).trans rfl
theorem mInt_b {b : Bool} : mInt [.bl b] h = .ok (.int (if b then 1 else 0)) h := (Eq.refl _).trans rfl
theorem mInt_i {i : Int} : mInt [.int i] h = .ok (.int i) h := (Eq.refl _).trans rfl
def mLenQ (o : Option MO) (h : MH) : Res MV := match o with | some (.lst xs) => .ok (.int xs.length) h | some (.dct kvs) => .ok (.int kvs.length) h | _ => .bad
theorem mLen_t  : mLen [.tup xs] h = .ok (.int xs.length) h := by simp [mLen]
theorem mLen_s_0 {z : Str} : mLen [.str z] h = if szOk z.length then .ok (.int z.length) h else .bad := by simp [mLen]
theorem mLen_s {z : Str} : Gd (mLen [.str z] h) Q E = (z.length ≤ 1000000 ∧ Q (.int z.length) h) := by
  rw [mLen_s_0, Gd_ite, Gd_ok]
  try rfl
theorem mLen_r {n : Nat} : mLen [.ref n] h = mLenQ h[n]? h := by
  unfold mLen mLenQ; rfl
theorem mLenQ_l  : mLenQ (some (.lst xs)) h = .ok (.int xs.length) h := (Eq.refl _).trans rfl
theorem tyOk_s {z : Str} : tyOk "str" (.str z) h = true := by simp [tyOk]
theorem sm_cons {i : Nat} {is : List Nat} : setMany ρ (i :: is) (x :: xs) = setMany (ρ.set i (some x)) is xs := (Eq.refl _).trans rfl
theorem sm_nil  : setMany ρ [] xs = ρ := by cases xs <;> rfl
theorem tg_m {is : List Nat} : Tg.set (.many is) (.tup xs) ρ = if xs.length = is.length then some (setMany ρ is xs) else none := (Eq.refl _).trans rfl
theorem tg1 {i : Nat} : Tg.set (.one i) x ρ = some (ρ.set i (some x)) := (Eq.refl _).trans rfl
theorem lTuple_e  : lTuple xs h = .ok (.tup xs) h := (Eq.refl _).trans rfl
theorem lLen_e  : lLen xs h = .ok (.int xs.length) h := (Eq.refl _).trans rfl
theorem SX1 : type_of% (And.intro @S_nil (And.intro @S_seq (And.intro @S_ret (And.intro @S_retN (And.intro @S_break (And.intro @S_cont (And.intro @S_expr (And.intro @S_if (And.intro @S_set (And.intro @S_setF (And.intro @S_setI (And.intro @S_aug (And.intro @S_augF (And.intro @S_setT (And.intro @S_for (And.intro @S_asg (And.intro @E_c (And.intro @E_var (And.intro @E_bin (And.intro @E_un (And.intro @E_tof (And.intro @E_tand (And.intro @E_tor (And.intro @E_tnot (And.intro @E_tyes (And.intro @E_and (And.intro @E_or (And.intro @E_not (And.intro @E_if (And.intro @A_nil (And.intro @A_cons (And.intro @E_tup (And.intro @L_disp (And.intro @E_new (And.intro @E_dict0 (And.intro @E_callB (And.intro @E_callD (And.intro @E_bm (And.intro @E_meth (And.intro @E_ixL (And.intro @L_of (And.intro @L_cat (And.intro @L_catE (And.intro @L_catL (And.intro @L_comp (And.intro @P_none (And.intro @P_some (And.intro @E_sl (And.intro @E_chain (And.intro @I_of (And.intro @I_lst (And.intro @I_range1 (And.intro @I_range2 (And.intro @I_enumE (And.intro @I_enumA (And.intro @I_enumL (And.intro @I_zip2 (And.intro @P_pnil (And.intro @P_pcons (@E_disp)))))))))))))))))))))))))))))))))))))))))))))))))))))))))))) := And.intro @S_nil (And.intro @S_seq (And.intro @S_ret (And.intro @S_retN (And.intro @S_break (And.intro @S_cont (And.intro @S_expr (And.intro @S_if (And.intro @S_set (And.intro @S_setF (And.intro @S_setI (And.intro @S_aug (And.intro @S_augF (And.intro @S_setT (And.intro @S_for (And.intro @S_asg (And.intro @E_c (And.intro @E_var (And.intro @E_bin (And.intro @E_un (And.intro @E_tof (And.intro @E_tand (And.intro @E_tor (And.intro @E_tnot (And.intro @E_tyes (And.intro @E_and (And.intro @E_or (And.intro @E_not (And.intro @E_if (And.intro @A_nil (And.intro @A_cons (And.intro @E_tup (And.intro @L_disp (And.intro @E_new (And.intro @E_dict0 (And.intro @E_callB (And.intro @E_callD (And.intro @E_bm (And.intro @E_meth (And.intro @E_ixL (And.intro @L_of (And.intro @L_cat (And.intro @L_catE (And.intro @L_catL (And.intro @L_comp (And.intro @P_none (And.intro @P_some (And.intro @E_sl (And.intro @E_chain (And.intro @I_of (And.intro @I_lst (And.intro @I_range1 (And.intro @I_range2 (And.intro @I_enumE (And.intro @I_enumA (And.intro @I_enumL (And.intro @I_zip2 (And.intro @P_pnil (And.intro @P_pcons (@E_disp)))))))))))))))))))))))))))))))))))))))))))))))))))))))))))
theorem SX2 : type_of% (And.intro @kExp_ap (And.intro @kIf_t (And.intro @kIf_f (And.intro @kSet_ap (And.intro @kH_s (And.intro @kSF2_ap (And.intro @kSF1_ap (And.intro @kSI3_ap (And.intro @kSI2_ap (And.intro @kSI1_ap (And.intro @kAu1_ap (And.intro @kAu_s (And.intro @kAF_ap (And.intro @kT_s (And.intro @kST_ap (And.intro @kFo_ap (And.intro @kAs_ap (And.intro @kV_s (And.intro @kB2_ap (And.intro @kB1_ap (And.intro @kU_ap (And.intro @kAsB_ap (And.intro @kTA_t (And.intro @kTA_f (And.intro @kTO_t (And.intro @kTO_f (And.intro @kTN_ap (And.intro @kAnd_t (And.intro @kAnd_f (And.intro @kOr_t (And.intro @kOr_f (And.intro @kNot_ap (And.intro @kEI_t (And.intro @kEI_f (And.intro @kA2_ap (And.intro @kA1_ap (And.intro @kTup_ap (And.intro @kDis_ap (And.intro @kNew_ap (And.intro @kCB_ap (And.intro @kCD_ap (And.intro @kM2_ap (And.intro @kM1_ap (And.intro @kMe3_ap (And.intro @kMe2_s (And.intro @kMe1_ap (And.intro @kIL2_ap (And.intro @kIL1_ap (And.intro @kO_s (And.intro @kLO_ap (And.intro @kCa2_ap (And.intro @kCa1_ap (And.intro @kCE3_s (And.intro @kCE2_ap (And.intro @kCE1_ap (And.intro @kCL3_s (And.intro @kCL2_ap (And.intro @kCL1_ap (And.intro @kCo_ap (And.intro @kPS_ap (And.intro @kSl3_ap (And.intro @kSl2_ap (And.intro @kSl1_ap (And.intro @kCh3_t (And.intro @kCh3_f (And.intro @kCh2_ap (And.intro @kCh1_ap (And.intro @kIO_ap (And.intro @kIL_ap (And.intro @kR1_ap (And.intro @kR2_ap (And.intro @kEn2_s (And.intro @kEn_ap (And.intro @kEA_r (And.intro @kEA_s (And.intro @kEnL_ap (And.intro @kZi_ap (And.intro @kP3_ap (And.intro @kP2_ap (And.intro @kP1_ap (And.intro @kDi2_s (And.intro @kDi_ap (And.intro @mAdd_ii (And.intro @mSub_ii (And.intro @mIadd_ii (And.intro @mAdd_ss (And.intro @mIadd_ss (And.intro @mAdd_tt (And.intro @mMod_ii (And.intro @mDiv_ii (And.intro @mLt_ii (And.intro @mLe_ii (And.intro @mGt_ii (And.intro @mGe_ii (And.intro @mEq_ii (And.intro @mEq_ss (And.intro @mEq_bb (And.intro @mNe_ii (And.intro @mNe_ss (And.intro @mNe_bb (And.intro @mIs_n (And.intro @mIsNot_n (And.intro @noneM_n (And.intro @noneM_i (And.intro @noneM_s (And.intro @noneM_t (And.intro @noneM_b (And.intro @noneM_r (And.intro @mIxR_l (And.intro @mIxR_d (And.intro @mIx_r (And.intro @mIx_t (And.intro @mIx_scr (And.intro @mIx_s (And.intro @ixL_i (And.intro @optR_s (And.intro @lstR_l (And.intro @lstAt_r (And.intro @mAdd_rr (And.intro @mAddR_l (And.intro @walk_t (And.intro @walk_scr (And.intro @walk_s (And.intro @walk_r (And.intro @walkR_l (And.intro @mIn_r (And.intro @mInR_l (And.intro @mIn_t (And.intro @mNotIn_t (And.intro @mNotIn_r (And.intro @mNotInR_l (And.intro @flatM_s (And.intro @flatM_i (And.intro @flatM_b (And.intro @flatM_n (And.intro @eqM_ss (And.intro @eqM_ii (And.intro @mStr_s (And.intro @mInt_b (And.intro @mInt_i (And.intro @mLen_t (And.intro @mLen_s (And.intro @mLen_r (And.intro @mLenQ_l (And.intro @tyOk_s (And.intro @sm_cons (And.intro @sm_nil (And.intro @tg_m (And.intro @tg1 (And.intro @lTuple_e (And.intro @lLen_e (And.intro @kNext_n (And.intro @kNext_r (And.intro @kNext_b (And.intro @kNext_c (And.intro @kNext_e (And.intro @kE_next (And.intro @kE_ap (And.intro @kI_n (And.intro @kI_r (And.intro @kI_b (And.intro @kI_c (And.intro @kI_e (And.intro @kW_n (And.intro @kW_r (And.intro @kW_b (And.intro @kW_c (And.intro @kW_e (And.intro @kT2_t (And.intro @kT2_f (And.intro @kC1_t (And.intro @kC1_f (And.intro @kC2_ap (And.intro @kFun_n (And.intro @kFun_r (And.intro @Gd_ok (And.intro @Gd_ex (And.intro @Gd_ite (And.intro @Sd_nx (@Sd_rt)))))))))))))))))))))))))))))))))))))))))))))))))))))))))))))))))))))))))))))))))))))))))))))))))))))))))))))))))))))))))))))))))))))))))))))))))))))))))))))))))))))))))))))))))))) := And.intro @kExp_ap (And.intro @kIf_t (And.intro @kIf_f (And.intro @kSet_ap (And.intro @kH_s (And.intro @kSF2_ap (And.intro @kSF1_ap (And.intro @kSI3_ap (And.intro @kSI2_ap (And.intro @kSI1_ap (And.intro @kAu1_ap (And.intro @kAu_s (And.intro @kAF_ap (And.intro @kT_s (And.intro @kST_ap (And.intro @kFo_ap (And.intro @kAs_ap (And.intro @kV_s (And.intro @kB2_ap (And.intro @kB1_ap (And.intro @kU_ap (And.intro @kAsB_ap (And.intro @kTA_t (And.intro @kTA_f (And.intro @kTO_t (And.intro @kTO_f (And.intro @kTN_ap (And.intro @kAnd_t (And.intro @kAnd_f (And.intro @kOr_t (And.intro @kOr_f (And.intro @kNot_ap (And.intro @kEI_t (And.intro @kEI_f (And.intro @kA2_ap (And.intro @kA1_ap (And.intro @kTup_ap (And.intro @kDis_ap (And.intro @kNew_ap (And.intro @kCB_ap (And.intro @kCD_ap (And.intro @kM2_ap (And.intro @kM1_ap (And.intro @kMe3_ap (And.intro @kMe2_s (And.intro @kMe1_ap (And.intro @kIL2_ap (And.intro @kIL1_ap (And.intro @kO_s (And.intro @kLO_ap (And.intro @kCa2_ap (And.intro @kCa1_ap (And.intro @kCE3_s (And.intro @kCE2_ap (And.intro @kCE1_ap (And.intro @kCL3_s (And.intro @kCL2_ap (And.intro @kCL1_ap (And.intro @kCo_ap (And.intro @kPS_ap (And.intro @kSl3_ap (And.intro @kSl2_ap (And.intro @kSl1_ap (And.intro @kCh3_t (And.intro @kCh3_f (And.intro @kCh2_ap (And.intro @kCh1_ap (And.intro @kIO_ap (And.intro @kIL_ap (And.intro @kR1_ap (And.intro @kR2_ap (And.intro @kEn2_s (And.intro @kEn_ap (And.intro @kEA_r (And.intro @kEA_s (And.intro @kEnL_ap (And.intro @kZi_ap (And.intro @kP3_ap (And.intro @kP2_ap (And.intro @kP1_ap (And.intro @kDi2_s (And.intro @kDi_ap (And.intro @mAdd_ii (And.intro @mSub_ii (And.intro @mIadd_ii (And.intro @mAdd_ss (And.intro @mIadd_ss (And.intro @mAdd_tt (And.intro @mMod_ii (And.intro @mDiv_ii (And.intro @mLt_ii (And.intro @mLe_ii (And.intro @mGt_ii (And.intro @mGe_ii (And.intro @mEq_ii (And.intro @mEq_ss (And.intro @mEq_bb (And.intro @mNe_ii (And.intro @mNe_ss (And.intro @mNe_bb (And.intro @mIs_n (And.intro @mIsNot_n (And.intro @noneM_n (And.intro @noneM_i (And.intro @noneM_s (And.intro @noneM_t (And.intro @noneM_b (And.intro @noneM_r (And.intro @mIxR_l (And.intro @mIxR_d (And.intro @mIx_r (And.intro @mIx_t (And.intro @mIx_scr (And.intro @mIx_s (And.intro @ixL_i (And.intro @optR_s (And.intro @lstR_l (And.intro @lstAt_r (And.intro @mAdd_rr (And.intro @mAddR_l (And.intro @walk_t (And.intro @walk_scr (And.intro @walk_s (And.intro @walk_r (And.intro @walkR_l (And.intro @mIn_r (And.intro @mInR_l (And.intro @mIn_t (And.intro @mNotIn_t (And.intro @mNotIn_r (And.intro @mNotInR_l (And.intro @flatM_s (And.intro @flatM_i (And.intro @flatM_b (And.intro @flatM_n (And.intro @eqM_ss (And.intro @eqM_ii (And.intro @mStr_s (And.intro @mInt_b (And.intro @mInt_i (And.intro @mLen_t (And.intro @mLen_s (And.intro @mLen_r (And.intro @mLenQ_l (And.intro @tyOk_s (And.intro @sm_cons (And.intro @sm_nil (And.intro @tg_m (And.intro @tg1 (And.intro @lTuple_e (And.intro @lLen_e (And.intro @kNext_n (And.intro @kNext_r (And.intro @kNext_b (And.intro @kNext_c (And.intro @kNext_e (And.intro @kE_next (And.intro @kE_ap (And.intro @kI_n (And.intro @kI_r (And.intro @kI_b (And.intro @kI_c (And.intro @kI_e (And.intro @kW_n (And.intro @kW_r (And.intro @kW_b (And.intro @kW_c (And.intro @kW_e (And.intro @kT2_t (And.intro @kT2_f (And.intro @kC1_t (And.intro @kC1_f (And.intro @kC2_ap (And.intro @kFun_n (And.intro @kFun_r (And.intro @Gd_ok (And.intro @Gd_ex (And.intro @Gd_ite (And.intro @Sd_nx (@Sd_rt)))))))))))))))))))))))))))))))))))))))))))))))))))))))))))))))))))))))))))))))))))))))))))))))))))))))))))))))))))))))))))))))))))))))))))))))))))))))))))))))))))))))))))))))))))
end Sm

set_option Elab.async false
set_option linter.all false
set_option maxRecDepth 100000
set_option maxHeartbeats 4000000
namespace My
open PySem L2 Sm
/-! ### signs -/
abbrev sg (c : Nat) : Str := ⟨#[c]⟩
theorem in_one (c : Nat) (s : Str) (h : MH) : mIn (.str (sg c)) (.str s) h = .ok (.bl (decide (c ∈ s.cps.toList))) h := by
  unfold mIn mInB
  dsimp only
  rw [StrLaws.found_one]
def allIn (t s : Str) : Bool := t.cps.toList.all fun c => decide (c ∈ s.cps.toList)
def pMade (t s : Str) (lo hi : Nat) : Bool := (decide (lo ≤ t.length) && decide (t.length ≤ hi)) && allIn t s
theorem bools_map (l : List Bool) : bools (l.map MV.bl) = some l := by
  induction l with
  | nil => rfl
  | cons b l ih => simp [bools, ih]
theorem lAll_map (l : List Bool) (h : MH) : lAll (l.map MV.bl) h = .ok (.bl (l.all id)) h := by
  unfold lAll
  rw [bools_map]
theorem made_ok (t s : Str) (lo hi : Nat) (hl : t.length ≤ 1000000) (h : MH) : m_is_made_of [.str t, .str s, .int lo, .int hi] h = .ok (.bl (pMade t s lo hi)) h := by
  unfold m_is_made_of
  refine e_fun rfl ?_
  unfold b_is_made_of
  have g0 : ∀ b : Bool, Eq2 (MV.bl (pMade t s lo hi)) h (.bl b) (gc h (.bl b) h) = (b = pMade t s lo hi) := fun b => by
    rw [gc_len rfl, Eq2_ap]; simp
  simp only [↓SX1, SX2, List.getElem?_cons_zero, List.getElem?_cons_succ, List.set_cons_zero, List.set_cons_succ, List.map_cons, List.map_nil, List.cons_append, List.nil_append, List.append_nil, List.replicate_succ, List.replicate_zero, List.length_cons, List.length_nil, if_true, if_false, true_and, and_true, and_self, Nat.zero_add, Int.natCast_zero, i0, i1, i2, i3, i4, decide_true, decide_false, Bool.not_true, Bool.not_false, ofString_inj, gt_iff_lt, List.all_cons, List.all_nil, List.any_cons, List.any_nil, Bool.and_true, Bool.true_and, Bool.and_self, Bool.or_false, Bool.false_or, Bool.or_true, Bool.true_or, szOk, mNeg, wipeM, ↓reduceIte, Nat.reduceAdd, Nat.reduceSub, Nat.reduceLeDiff, Int.reduceLT, Int.reduceLE, Int.reduceNeg, Int.reduceAdd, Int.reduceSub, Int.reducePow, Int.reduceEq, Int.reduceLT, Int.reduceMod, Int.reduceDiv, Int.reduceMul, Int.reduceToNat, String.reduceEq, reduceCtorEq]
  refine ⟨hl, ?_⟩
  by_cases h1 : (lo : Int) ≤ (t.length : Int)
  · simp only [↓SX1, SX2, List.getElem?_cons_zero, List.getElem?_cons_succ, List.set_cons_zero, List.set_cons_succ, List.map_cons, List.map_nil, List.cons_append, List.nil_append, List.append_nil, List.replicate_succ, List.replicate_zero, List.length_cons, List.length_nil, if_true, if_false, true_and, and_true, and_self, Nat.zero_add, Int.natCast_zero, i0, i1, i2, i3, i4, decide_true, decide_false, Bool.not_true, Bool.not_false, ofString_inj, gt_iff_lt, List.all_cons, List.all_nil, List.any_cons, List.any_nil, Bool.and_true, Bool.true_and, Bool.and_self, Bool.or_false, Bool.false_or, Bool.or_true, Bool.true_or, szOk, mNeg, wipeM, ↓reduceIte, Nat.reduceAdd, Nat.reduceSub, Nat.reduceLeDiff, Int.reduceLT, Int.reduceLE, Int.reduceNeg, Int.reduceAdd, Int.reduceSub, Int.reducePow, Int.reduceEq, Int.reduceLT, Int.reduceMod, Int.reduceDiv, Int.reduceMul, Int.reduceToNat, String.reduceEq, reduceCtorEq, h1]
    by_cases h2 : (t.length : Int) ≤ (hi : Int)
    · simp only [↓SX1, SX2, List.getElem?_cons_zero, List.getElem?_cons_succ, List.set_cons_zero, List.set_cons_succ, List.map_cons, List.map_nil, List.cons_append, List.nil_append, List.append_nil, List.replicate_succ, List.replicate_zero, List.length_cons, List.length_nil, if_true, if_false, true_and, and_true, and_self, Nat.zero_add, Int.natCast_zero, i0, i1, i2, i3, i4, decide_true, decide_false, Bool.not_true, Bool.not_false, ofString_inj, gt_iff_lt, List.all_cons, List.all_nil, List.any_cons, List.any_nil, Bool.and_true, Bool.true_and, Bool.and_self, Bool.or_false, Bool.false_or, Bool.or_true, Bool.true_or, szOk, mNeg, wipeM, ↓reduceIte, Nat.reduceAdd, Nat.reduceSub, Nat.reduceLeDiff, Int.reduceLT, Int.reduceLE, Int.reduceNeg, Int.reduceAdd, Int.reduceSub, Int.reducePow, Int.reduceEq, Int.reduceLT, Int.reduceMod, Int.reduceDiv, Int.reduceMul, Int.reduceToNat, String.reduceEq, reduceCtorEq, h2]
      unfold signs
      refine ⟨by simpa [Str.length] using hl, ?_⟩
      refine s_compE (vf := fun c => MV.str (sg c)) (ef := fun c => .bl (decide (c ∈ s.cps.toList))) (fun _ z => by cases z) (fun c hc => ⟨_, rfl, ?_⟩) ?_
      · simp [in_one]
      · simp only [↓SX1, SX2, List.getElem?_cons_zero, List.getElem?_cons_succ, List.set_cons_zero, List.set_cons_succ, List.map_cons, List.map_nil, List.cons_append, List.nil_append, List.append_nil, List.replicate_succ, List.replicate_zero, List.length_cons, List.length_nil, if_true, if_false, true_and, and_true, and_self, Nat.zero_add, Int.natCast_zero, i0, i1, i2, i3, i4, decide_true, decide_false, Bool.not_true, Bool.not_false, ofString_inj, gt_iff_lt, List.all_cons, List.all_nil, List.any_cons, List.any_nil, Bool.and_true, Bool.true_and, Bool.and_self, Bool.or_false, Bool.false_or, Bool.or_true, Bool.true_or, szOk, mNeg, wipeM, ↓reduceIte, Nat.reduceAdd, Nat.reduceSub, Nat.reduceLeDiff, Int.reduceLT, Int.reduceLE, Int.reduceNeg, Int.reduceAdd, Int.reduceSub, Int.reducePow, Int.reduceEq, Int.reduceLT, Int.reduceMod, Int.reduceDiv, Int.reduceMul, Int.reduceToNat, String.reduceEq, reduceCtorEq]
        rw [show t.cps.toList.map (fun c => MV.bl (decide (c ∈ s.cps.toList))) = (t.cps.toList.map fun c => decide (c ∈ s.cps.toList)).map MV.bl by simp, lAll_map]
        simp only [↓SX1, SX2, List.getElem?_cons_zero, List.getElem?_cons_succ, List.set_cons_zero, List.set_cons_succ, List.map_cons, List.map_nil, List.cons_append, List.nil_append, List.append_nil, List.replicate_succ, List.replicate_zero, List.length_cons, List.length_nil, if_true, if_false, true_and, and_true, and_self, Nat.zero_add, Int.natCast_zero, i0, i1, i2, i3, i4, decide_true, decide_false, Bool.not_true, Bool.not_false, ofString_inj, gt_iff_lt, List.all_cons, List.all_nil, List.any_cons, List.any_nil, Bool.and_true, Bool.true_and, Bool.and_self, Bool.or_false, Bool.false_or, Bool.or_true, Bool.true_or, szOk, mNeg, wipeM, ↓reduceIte, Nat.reduceAdd, Nat.reduceSub, Nat.reduceLeDiff, Int.reduceLT, Int.reduceLE, Int.reduceNeg, Int.reduceAdd, Int.reduceSub, Int.reducePow, Int.reduceEq, Int.reduceLT, Int.reduceMod, Int.reduceDiv, Int.reduceMul, Int.reduceToNat, String.reduceEq, reduceCtorEq, g0]
        have h1 : lo ≤ t.length := by omega
        have h2 : t.length ≤ hi := by omega
        simp [pMade, allIn, h1, h2, List.all_map]
    · simp only [↓SX1, SX2, List.getElem?_cons_zero, List.getElem?_cons_succ, List.set_cons_zero, List.set_cons_succ, List.map_cons, List.map_nil, List.cons_append, List.nil_append, List.append_nil, List.replicate_succ, List.replicate_zero, List.length_cons, List.length_nil, if_true, if_false, true_and, and_true, and_self, Nat.zero_add, Int.natCast_zero, i0, i1, i2, i3, i4, decide_true, decide_false, Bool.not_true, Bool.not_false, ofString_inj, gt_iff_lt, List.all_cons, List.all_nil, List.any_cons, List.any_nil, Bool.and_true, Bool.true_and, Bool.and_self, Bool.or_false, Bool.false_or, Bool.or_true, Bool.true_or, szOk, mNeg, wipeM, ↓reduceIte, Nat.reduceAdd, Nat.reduceSub, Nat.reduceLeDiff, Int.reduceLT, Int.reduceLE, Int.reduceNeg, Int.reduceAdd, Int.reduceSub, Int.reducePow, Int.reduceEq, Int.reduceLT, Int.reduceMod, Int.reduceDiv, Int.reduceMul, Int.reduceToNat, String.reduceEq, reduceCtorEq, h2, g0]
      have h2 : ¬ t.length ≤ hi := by omega
      simp [pMade, h2]
  · simp only [↓SX1, SX2, List.getElem?_cons_zero, List.getElem?_cons_succ, List.set_cons_zero, List.set_cons_succ, List.map_cons, List.map_nil, List.cons_append, List.nil_append, List.append_nil, List.replicate_succ, List.replicate_zero, List.length_cons, List.length_nil, if_true, if_false, true_and, and_true, and_self, Nat.zero_add, Int.natCast_zero, i0, i1, i2, i3, i4, decide_true, decide_false, Bool.not_true, Bool.not_false, ofString_inj, gt_iff_lt, List.all_cons, List.all_nil, List.any_cons, List.any_nil, Bool.and_true, Bool.true_and, Bool.and_self, Bool.or_false, Bool.false_or, Bool.or_true, Bool.true_or, szOk, mNeg, wipeM, ↓reduceIte, Nat.reduceAdd, Nat.reduceSub, Nat.reduceLeDiff, Int.reduceLT, Int.reduceLE, Int.reduceNeg, Int.reduceAdd, Int.reduceSub, Int.reducePow, Int.reduceEq, Int.reduceLT, Int.reduceMod, Int.reduceDiv, Int.reduceMul, Int.reduceToNat, String.reduceEq, reduceCtorEq, h1, g0]
    have h1 : ¬ lo ≤ t.length := by omega
    simp [pMade, h1]
def pIn (a b : Str) : Bool := !(Builtin.Str.occurrences b a 0 b.length 1).isEmpty
theorem in_s (a b : Str) (h : MH) : mIn (.str a) (.str b) h = .ok (.bl (pIn a b)) h := rfl
abbrev cSMALL : Str := "abcdefghijklmnopqrstuvwxyz"
abbrev cGREAT : Str := "ABCDEFGHIJKLMNOPQRSTUVWXYZ"
abbrev cFIG : Str := "0123456789"
abbrev cBR : Str := "(){}[]|"
def kept : List Str := ["do", "else", "end", "false", "field", "if", "kind", "method", "more", "new", "none", "raise", "return", "say", "self", "taken", "then", "true", "try", "under", "up", "while"]
def opers : List Str := ["+", "-", "*", "/", "<", "="]
def hd1 (w : Str) : Str := cutS w none (some 1)
def tl1 (w : Str) : Str := cutS w (some 1) none
def pSmall (w : Str) : Bool := pIn (hd1 w) cSMALL && pMade w (cSMALL ++ cFIG) 1 12
def pFree (w : Str) : Bool := pSmall w && !decide (w ∈ kept)
def pKind (w : Str) : Bool := pIn (hd1 w) cGREAT && pMade w (cSMALL ++ cGREAT ++ cFIG) 1 12
def pText (w : Str) : Bool := pMade w (cSMALL ++ cGREAT ++ cFIG ++ "_") 0 40
example : pFree "longnameofal" = true := by decide +kernel
example : pFree "end" = false := by decide +kernel
example : pKind "Cell9" = true := by decide +kernel
theorem sl_h {w : Str} (hl : w.length ≤ 1000) (h : MH) : mSl (.str w) none (some 1) h = .ok (.str (hd1 w)) h := by
  unfold mSl
  dsimp only
  rw [if_pos (show szOk w.length from by unfold szOk; omega)]
  rfl
theorem sl_t {w : Str} (hl : w.length ≤ 1000) (h : MH) : mSl (.str w) (some 1) none h = .ok (.str (tl1 w)) h := by
  unfold mSl
  dsimp only
  rw [if_pos (show szOk w.length from by unfold szOk; omega)]
  rfl
theorem gB {h : MH} {b c : Bool} : Eq2 (MV.bl c) h (.bl b) (gc h (.bl b) h) = (b = c) := by
  rw [gc_len rfl, Eq2_ap]; simp
theorem small_ok {w : Str} (hl : w.length ≤ 1000) (h : MH) : m_is_small [.str w] h = .ok (.bl (pSmall w)) h := by
  unfold m_is_small
  refine e_fun rfl ?_
  unfold b_is_small
  have m1 := made_ok w (cSMALL ++ cFIG) 1 12 (by omega) h
  simp only [↓SX1, SX2, List.getElem?_cons_zero, List.getElem?_cons_succ, List.set_cons_zero, List.set_cons_succ, List.map_cons, List.map_nil, List.cons_append, List.nil_append, List.append_nil, List.replicate_succ, List.replicate_zero, List.length_cons, List.length_nil, if_true, if_false, true_and, and_true, and_self, Nat.zero_add, Int.natCast_zero, i0, i1, i2, i3, i4, decide_true, decide_false, Bool.not_true, Bool.not_false, ofString_inj, gt_iff_lt, List.all_cons, List.all_nil, List.any_cons, List.any_nil, Bool.and_true, Bool.true_and, Bool.and_self, Bool.or_false, Bool.false_or, Bool.or_true, Bool.true_or, szOk, mNeg, wipeM, ↓reduceIte, Nat.reduceAdd, Nat.reduceSub, Nat.reduceLeDiff, Int.reduceLT, Int.reduceLE, Int.reduceNeg, Int.reduceAdd, Int.reduceSub, Int.reducePow, Int.reduceEq, Int.reduceLT, Int.reduceMod, Int.reduceDiv, Int.reduceMul, Int.reduceToNat, String.reduceEq, reduceCtorEq, sl_h hl, c_SMALL, c_FIGURES, in_s]
  cases hb : pIn (hd1 w) cSMALL
  · simp only [↓SX1, SX2, List.getElem?_cons_zero, List.getElem?_cons_succ, List.set_cons_zero, List.set_cons_succ, List.map_cons, List.map_nil, List.cons_append, List.nil_append, List.append_nil, List.replicate_succ, List.replicate_zero, List.length_cons, List.length_nil, if_true, if_false, true_and, and_true, and_self, Nat.zero_add, Int.natCast_zero, i0, i1, i2, i3, i4, decide_true, decide_false, Bool.not_true, Bool.not_false, ofString_inj, gt_iff_lt, List.all_cons, List.all_nil, List.any_cons, List.any_nil, Bool.and_true, Bool.true_and, Bool.and_self, Bool.or_false, Bool.false_or, Bool.or_true, Bool.true_or, szOk, mNeg, wipeM, ↓reduceIte, Nat.reduceAdd, Nat.reduceSub, Nat.reduceLeDiff, Int.reduceLT, Int.reduceLE, Int.reduceNeg, Int.reduceAdd, Int.reduceSub, Int.reducePow, Int.reduceEq, Int.reduceLT, Int.reduceMod, Int.reduceDiv, Int.reduceMul, Int.reduceToNat, String.reduceEq, reduceCtorEq, gB]
    simp [pSmall, hb]
  · simp only [↓SX1, SX2, List.getElem?_cons_zero, List.getElem?_cons_succ, List.set_cons_zero, List.set_cons_succ, List.map_cons, List.map_nil, List.cons_append, List.nil_append, List.append_nil, List.replicate_succ, List.replicate_zero, List.length_cons, List.length_nil, if_true, if_false, true_and, and_true, and_self, Nat.zero_add, Int.natCast_zero, i0, i1, i2, i3, i4, decide_true, decide_false, Bool.not_true, Bool.not_false, ofString_inj, gt_iff_lt, List.all_cons, List.all_nil, List.any_cons, List.any_nil, Bool.and_true, Bool.true_and, Bool.and_self, Bool.or_false, Bool.false_or, Bool.or_true, Bool.true_or, szOk, mNeg, wipeM, ↓reduceIte, Nat.reduceAdd, Nat.reduceSub, Nat.reduceLeDiff, Int.reduceLT, Int.reduceLE, Int.reduceNeg, Int.reduceAdd, Int.reduceSub, Int.reducePow, Int.reduceEq, Int.reduceLT, Int.reduceMod, Int.reduceDiv, Int.reduceMul, Int.reduceToNat, String.reduceEq, reduceCtorEq]
    refine ⟨by decide +kernel, ?_⟩
    have m2 : m_is_made_of [.str w, .str (cSMALL ++ cFIG), .int 1, .int 12] h = .ok (.bl (pMade w (cSMALL ++ cFIG) 1 12)) h := m1
    rw [m2]
    simp only [↓SX1, SX2, List.getElem?_cons_zero, List.getElem?_cons_succ, List.set_cons_zero, List.set_cons_succ, List.map_cons, List.map_nil, List.cons_append, List.nil_append, List.append_nil, List.replicate_succ, List.replicate_zero, List.length_cons, List.length_nil, if_true, if_false, true_and, and_true, and_self, Nat.zero_add, Int.natCast_zero, i0, i1, i2, i3, i4, decide_true, decide_false, Bool.not_true, Bool.not_false, ofString_inj, gt_iff_lt, List.all_cons, List.all_nil, List.any_cons, List.any_nil, Bool.and_true, Bool.true_and, Bool.and_self, Bool.or_false, Bool.false_or, Bool.or_true, Bool.true_or, szOk, mNeg, wipeM, ↓reduceIte, Nat.reduceAdd, Nat.reduceSub, Nat.reduceLeDiff, Int.reduceLT, Int.reduceLE, Int.reduceNeg, Int.reduceAdd, Int.reduceSub, Int.reducePow, Int.reduceEq, Int.reduceLT, Int.reduceMod, Int.reduceDiv, Int.reduceMul, Int.reduceToNat, String.reduceEq, reduceCtorEq, gB]
    simp [pSmall, hb]
theorem kind_ok {w : Str} (hl : w.length ≤ 1000) (h : MH) : m_is_kind_name [.str w] h = .ok (.bl (pKind w)) h := by
  unfold m_is_kind_name
  refine e_fun rfl ?_
  unfold b_is_kind_name
  have m1 : m_is_made_of [.str w, .str (cSMALL ++ cGREAT ++ cFIG), .int 1, .int 12] h = .ok (.bl (pMade w (cSMALL ++ cGREAT ++ cFIG) 1 12)) h := made_ok w (cSMALL ++ cGREAT ++ cFIG) 1 12 (by omega) h
  simp only [↓SX1, SX2, List.getElem?_cons_zero, List.getElem?_cons_succ, List.set_cons_zero, List.set_cons_succ, List.map_cons, List.map_nil, List.cons_append, List.nil_append, List.append_nil, List.replicate_succ, List.replicate_zero, List.length_cons, List.length_nil, if_true, if_false, true_and, and_true, and_self, Nat.zero_add, Int.natCast_zero, i0, i1, i2, i3, i4, decide_true, decide_false, Bool.not_true, Bool.not_false, ofString_inj, gt_iff_lt, List.all_cons, List.all_nil, List.any_cons, List.any_nil, Bool.and_true, Bool.true_and, Bool.and_self, Bool.or_false, Bool.false_or, Bool.or_true, Bool.true_or, szOk, mNeg, wipeM, ↓reduceIte, Nat.reduceAdd, Nat.reduceSub, Nat.reduceLeDiff, Int.reduceLT, Int.reduceLE, Int.reduceNeg, Int.reduceAdd, Int.reduceSub, Int.reducePow, Int.reduceEq, Int.reduceLT, Int.reduceMod, Int.reduceDiv, Int.reduceMul, Int.reduceToNat, String.reduceEq, reduceCtorEq, sl_h hl, c_SMALL, c_GREAT, c_FIGURES, in_s]
  cases hb : pIn (hd1 w) cGREAT
  · simp only [↓SX1, SX2, List.getElem?_cons_zero, List.getElem?_cons_succ, List.set_cons_zero, List.set_cons_succ, List.map_cons, List.map_nil, List.cons_append, List.nil_append, List.append_nil, List.replicate_succ, List.replicate_zero, List.length_cons, List.length_nil, if_true, if_false, true_and, and_true, and_self, Nat.zero_add, Int.natCast_zero, i0, i1, i2, i3, i4, decide_true, decide_false, Bool.not_true, Bool.not_false, ofString_inj, gt_iff_lt, List.all_cons, List.all_nil, List.any_cons, List.any_nil, Bool.and_true, Bool.true_and, Bool.and_self, Bool.or_false, Bool.false_or, Bool.or_true, Bool.true_or, szOk, mNeg, wipeM, ↓reduceIte, Nat.reduceAdd, Nat.reduceSub, Nat.reduceLeDiff, Int.reduceLT, Int.reduceLE, Int.reduceNeg, Int.reduceAdd, Int.reduceSub, Int.reducePow, Int.reduceEq, Int.reduceLT, Int.reduceMod, Int.reduceDiv, Int.reduceMul, Int.reduceToNat, String.reduceEq, reduceCtorEq, gB]
    simp [pKind, hb]
  · simp only [↓SX1, SX2, List.getElem?_cons_zero, List.getElem?_cons_succ, List.set_cons_zero, List.set_cons_succ, List.map_cons, List.map_nil, List.cons_append, List.nil_append, List.append_nil, List.replicate_succ, List.replicate_zero, List.length_cons, List.length_nil, if_true, if_false, true_and, and_true, and_self, Nat.zero_add, Int.natCast_zero, i0, i1, i2, i3, i4, decide_true, decide_false, Bool.not_true, Bool.not_false, ofString_inj, gt_iff_lt, List.all_cons, List.all_nil, List.any_cons, List.any_nil, Bool.and_true, Bool.true_and, Bool.and_self, Bool.or_false, Bool.false_or, Bool.or_true, Bool.true_or, szOk, mNeg, wipeM, ↓reduceIte, Nat.reduceAdd, Nat.reduceSub, Nat.reduceLeDiff, Int.reduceLT, Int.reduceLE, Int.reduceNeg, Int.reduceAdd, Int.reduceSub, Int.reducePow, Int.reduceEq, Int.reduceLT, Int.reduceMod, Int.reduceDiv, Int.reduceMul, Int.reduceToNat, String.reduceEq, reduceCtorEq]
    refine ⟨by decide +kernel, by decide +kernel, ?_⟩
    rw [m1]
    simp only [↓SX1, SX2, List.getElem?_cons_zero, List.getElem?_cons_succ, List.set_cons_zero, List.set_cons_succ, List.map_cons, List.map_nil, List.cons_append, List.nil_append, List.append_nil, List.replicate_succ, List.replicate_zero, List.length_cons, List.length_nil, if_true, if_false, true_and, and_true, and_self, Nat.zero_add, Int.natCast_zero, i0, i1, i2, i3, i4, decide_true, decide_false, Bool.not_true, Bool.not_false, ofString_inj, gt_iff_lt, List.all_cons, List.all_nil, List.any_cons, List.any_nil, Bool.and_true, Bool.true_and, Bool.and_self, Bool.or_false, Bool.false_or, Bool.or_true, Bool.true_or, szOk, mNeg, wipeM, ↓reduceIte, Nat.reduceAdd, Nat.reduceSub, Nat.reduceLeDiff, Int.reduceLT, Int.reduceLE, Int.reduceNeg, Int.reduceAdd, Int.reduceSub, Int.reducePow, Int.reduceEq, Int.reduceLT, Int.reduceMod, Int.reduceDiv, Int.reduceMul, Int.reduceToNat, String.reduceEq, reduceCtorEq, gB]
    simp [pKind, hb]
theorem text_ok {w : Str} (hl : w.length ≤ 1000) (h : MH) : m_is_text [.str w] h = .ok (.bl (pText w)) h := by
  unfold m_is_text
  refine e_fun rfl ?_
  unfold b_is_text
  have m1 : m_is_made_of [.str w, .str (cSMALL ++ cGREAT ++ cFIG ++ "_"), .int 0, .int 40] h = .ok (.bl (pText w)) h := made_ok w (cSMALL ++ cGREAT ++ cFIG ++ "_") 0 40 (by omega) h
  simp only [↓SX1, SX2, List.getElem?_cons_zero, List.getElem?_cons_succ, List.set_cons_zero, List.set_cons_succ, List.map_cons, List.map_nil, List.cons_append, List.nil_append, List.append_nil, List.replicate_succ, List.replicate_zero, List.length_cons, List.length_nil, if_true, if_false, true_and, and_true, and_self, Nat.zero_add, Int.natCast_zero, i0, i1, i2, i3, i4, decide_true, decide_false, Bool.not_true, Bool.not_false, ofString_inj, gt_iff_lt, List.all_cons, List.all_nil, List.any_cons, List.any_nil, Bool.and_true, Bool.true_and, Bool.and_self, Bool.or_false, Bool.false_or, Bool.or_true, Bool.true_or, szOk, mNeg, wipeM, ↓reduceIte, Nat.reduceAdd, Nat.reduceSub, Nat.reduceLeDiff, Int.reduceLT, Int.reduceLE, Int.reduceNeg, Int.reduceAdd, Int.reduceSub, Int.reducePow, Int.reduceEq, Int.reduceLT, Int.reduceMod, Int.reduceDiv, Int.reduceMul, Int.reduceToNat, String.reduceEq, reduceCtorEq, c_SMALL, c_GREAT, c_FIGURES]
  refine ⟨by decide +kernel, by decide +kernel, by decide +kernel, ?_⟩
  rw [m1]
  simp only [↓SX1, SX2, List.getElem?_cons_zero, List.getElem?_cons_succ, List.set_cons_zero, List.set_cons_succ, List.map_cons, List.map_nil, List.cons_append, List.nil_append, List.append_nil, List.replicate_succ, List.replicate_zero, List.length_cons, List.length_nil, if_true, if_false, true_and, and_true, and_self, Nat.zero_add, Int.natCast_zero, i0, i1, i2, i3, i4, decide_true, decide_false, Bool.not_true, Bool.not_false, ofString_inj, gt_iff_lt, List.all_cons, List.all_nil, List.any_cons, List.any_nil, Bool.and_true, Bool.true_and, Bool.and_self, Bool.or_false, Bool.false_or, Bool.or_true, Bool.true_or, szOk, mNeg, wipeM, ↓reduceIte, Nat.reduceAdd, Nat.reduceSub, Nat.reduceLeDiff, Int.reduceLT, Int.reduceLE, Int.reduceNeg, Int.reduceAdd, Int.reduceSub, Int.reducePow, Int.reduceEq, Int.reduceLT, Int.reduceMod, Int.reduceDiv, Int.reduceMul, Int.reduceToNat, String.reduceEq, reduceCtorEq, gB]
theorem any_str (l : List Str) (w : Str) : ((l.map MV.str).any fun y => eqM y (.str w)) = decide (w ∈ l) := by
  induction l with
  | nil => simp
  | cons x l ih =>
    rw [List.map_cons, List.any_cons, ih, eqM_ss, Bool.eq_iff_iff]
    simp only [Bool.or_eq_true, decide_eq_true_eq, List.mem_cons]
    constructor
    · rintro (h | h)
      · exact .inl h.symm
      · exact .inr h
    · rintro (h | h)
      · exact .inl h.symm
      · exact .inr h
theorem flat_str (l : List Str) : (l.map MV.str).all flatM = true := by
  induction l with
  | nil => rfl
  | cons x l ih => rw [List.map_cons, List.all_cons, ih]; rfl
theorem in_tup (w : Str) (l : List Str) (h : MH) : mIn (.str w) (.tup (l.map MV.str)) h = .ok (.bl (decide (w ∈ l))) h := by
  rw [mIn_t_0, flat_str, any_str]; rfl
theorem notIn_tup (w : Str) (l : List Str) (h : MH) : mNotIn (.str w) (.tup (l.map MV.str)) h = .ok (.bl (!decide (w ∈ l))) h := by
  rw [mNotIn_t_0, flat_str, any_str]; rfl
def at0 (w : Str) : Str := ⟨(w.cps.toList.take 1).toArray⟩
theorem ix0 {w : Str} (hl : w.length ≤ 1000) (h1 : 1 ≤ w.length) (h : MH) : mIx (.str w) (.int 0) h = .ok (.str (at0 w)) h := by
  have h1 : 0 < w.cps.toList.length := by have z : 0 < w.length := h1; simpa [Str.length] using z
  obtain ⟨c, r, e⟩ : ∃ c r, w.cps.toList = c :: r := by
    cases e : w.cps.toList with
    | nil => rw [e] at h1; simp at h1
    | cons c r => exact ⟨c, r, rfl⟩
  unfold mIx ixS
  dsimp only
  rw [if_pos (show szOk w.length from by unfold szOk; omega), e, i0]
  unfold at0
  rw [e]
  rfl
def pFig (w : Str) : Bool :=
  let f := if hd1 w = "-" then tl1 w else w
  pMade f cFIG 1 12 && (decide (w = "0") || !decide (at0 f = "0"))
theorem tl_len {w : Str} : (tl1 w).length ≤ w.length := by
  unfold tl1 cutS
  have : ∀ (l : List Nat), (⟨l.toArray⟩ : Str).length = l.length := fun l => by simp [Str.length]
  rw [this, List.length_take, List.length_drop]
  have e : w.cps.toList.length = w.length := by simp [Str.length]
  omega
theorem fig_ok {w : Str} (hl : w.length ≤ 1000) (h : MH) : m_is_figures [.str w] h = .ok (.bl (pFig w)) h := by
  unfold m_is_figures
  refine e_fun rfl ?_
  unfold b_is_figures
  obtain ⟨f, hf⟩ : ∃ f, f = if hd1 w = "-" then tl1 w else w := ⟨_, rfl⟩
  have lf : f.length ≤ 1000 := by rw [hf]; have := tl_len (w := w); split <;> omega
  have m1 : m_is_made_of [.str f, .str cFIG, .int 1, .int 12] h = .ok (.bl (pMade f cFIG 1 12)) h := made_ok f cFIG 1 12 (by omega) h
  have go : Sd ((sSeq (sIf (tNotM (tOfE (eCallD m_is_made_of [] (aCons (eVar 1) (aCons (eC c_FIGURES) (aCons (eC (.int 1)) (aCons (eC (.int 12)) aNil))))))) (sRet (eC (.bl false))) sNil)
      (sRet (eOr (eBin mEq (eVar 0) (eC (.str "0"))) (eBin mNe (eBin mIx (eVar 1) (eC (.int 0))) (eC (.str "0")))))) [some (.str w), some (.str f)] h) (kFun h (Eq2 (.bl (pFig w)) h)) := by
    simp only [↓SX1, SX2, List.getElem?_cons_zero, List.getElem?_cons_succ, List.set_cons_zero, List.set_cons_succ, List.map_cons, List.map_nil, List.cons_append, List.nil_append, List.append_nil, List.replicate_succ, List.replicate_zero, List.length_cons, List.length_nil, if_true, if_false, true_and, and_true, and_self, Nat.zero_add, Int.natCast_zero, i0, i1, i2, i3, i4, decide_true, decide_false, Bool.not_true, Bool.not_false, ofString_inj, gt_iff_lt, List.all_cons, List.all_nil, List.any_cons, List.any_nil, Bool.and_true, Bool.true_and, Bool.and_self, Bool.or_false, Bool.false_or, Bool.or_true, Bool.true_or, szOk, mNeg, wipeM, ↓reduceIte, Nat.reduceAdd, Nat.reduceSub, Nat.reduceLeDiff, Int.reduceLT, Int.reduceLE, Int.reduceNeg, Int.reduceAdd, Int.reduceSub, Int.reducePow, Int.reduceEq, Int.reduceLT, Int.reduceMod, Int.reduceDiv, Int.reduceMul, Int.reduceToNat, String.reduceEq, reduceCtorEq, c_FIGURES]
    rw [m1]
    have pf : pFig w = (pMade f cFIG 1 12 && (decide (w = "0") || !decide (at0 f = "0"))) := by unfold pFig; rw [← hf]
    cases hb : pMade f cFIG 1 12
    · simp only [↓SX1, SX2, List.getElem?_cons_zero, List.getElem?_cons_succ, List.set_cons_zero, List.set_cons_succ, List.map_cons, List.map_nil, List.cons_append, List.nil_append, List.append_nil, List.replicate_succ, List.replicate_zero, List.length_cons, List.length_nil, if_true, if_false, true_and, and_true, and_self, Nat.zero_add, Int.natCast_zero, i0, i1, i2, i3, i4, decide_true, decide_false, Bool.not_true, Bool.not_false, ofString_inj, gt_iff_lt, List.all_cons, List.all_nil, List.any_cons, List.any_nil, Bool.and_true, Bool.true_and, Bool.and_self, Bool.or_false, Bool.false_or, Bool.or_true, Bool.true_or, szOk, mNeg, wipeM, ↓reduceIte, Nat.reduceAdd, Nat.reduceSub, Nat.reduceLeDiff, Int.reduceLT, Int.reduceLE, Int.reduceNeg, Int.reduceAdd, Int.reduceSub, Int.reducePow, Int.reduceEq, Int.reduceLT, Int.reduceMod, Int.reduceDiv, Int.reduceMul, Int.reduceToNat, String.reduceEq, reduceCtorEq, gB]
      rw [pf, hb]; rfl
    · have l1 : 1 ≤ f.length := by
        unfold pMade at hb
        simp only [Bool.and_eq_true, decide_eq_true_eq] at hb
        exact hb.1.1
      simp only [↓SX1, SX2, List.getElem?_cons_zero, List.getElem?_cons_succ, List.set_cons_zero, List.set_cons_succ, List.map_cons, List.map_nil, List.cons_append, List.nil_append, List.append_nil, List.replicate_succ, List.replicate_zero, List.length_cons, List.length_nil, if_true, if_false, true_and, and_true, and_self, Nat.zero_add, Int.natCast_zero, i0, i1, i2, i3, i4, decide_true, decide_false, Bool.not_true, Bool.not_false, ofString_inj, gt_iff_lt, List.all_cons, List.all_nil, List.any_cons, List.any_nil, Bool.and_true, Bool.true_and, Bool.and_self, Bool.or_false, Bool.false_or, Bool.or_true, Bool.true_or, szOk, mNeg, wipeM, ↓reduceIte, Nat.reduceAdd, Nat.reduceSub, Nat.reduceLeDiff, Int.reduceLT, Int.reduceLE, Int.reduceNeg, Int.reduceAdd, Int.reduceSub, Int.reducePow, Int.reduceEq, Int.reduceLT, Int.reduceMod, Int.reduceDiv, Int.reduceMul, Int.reduceToNat, String.reduceEq, reduceCtorEq]
      by_cases hz : w = "0"
      · simp only [↓SX1, SX2, List.getElem?_cons_zero, List.getElem?_cons_succ, List.set_cons_zero, List.set_cons_succ, List.map_cons, List.map_nil, List.cons_append, List.nil_append, List.append_nil, List.replicate_succ, List.replicate_zero, List.length_cons, List.length_nil, if_true, if_false, true_and, and_true, and_self, Nat.zero_add, Int.natCast_zero, i0, i1, i2, i3, i4, decide_true, decide_false, Bool.not_true, Bool.not_false, ofString_inj, gt_iff_lt, List.all_cons, List.all_nil, List.any_cons, List.any_nil, Bool.and_true, Bool.true_and, Bool.and_self, Bool.or_false, Bool.false_or, Bool.or_true, Bool.true_or, szOk, mNeg, wipeM, ↓reduceIte, Nat.reduceAdd, Nat.reduceSub, Nat.reduceLeDiff, Int.reduceLT, Int.reduceLE, Int.reduceNeg, Int.reduceAdd, Int.reduceSub, Int.reducePow, Int.reduceEq, Int.reduceLT, Int.reduceMod, Int.reduceDiv, Int.reduceMul, Int.reduceToNat, String.reduceEq, reduceCtorEq, hz, gB]
        rw [← hz, pf, hb]
        simp [hz]
      · simp only [↓SX1, SX2, List.getElem?_cons_zero, List.getElem?_cons_succ, List.set_cons_zero, List.set_cons_succ, List.map_cons, List.map_nil, List.cons_append, List.nil_append, List.append_nil, List.replicate_succ, List.replicate_zero, List.length_cons, List.length_nil, if_true, if_false, true_and, and_true, and_self, Nat.zero_add, Int.natCast_zero, i0, i1, i2, i3, i4, decide_true, decide_false, Bool.not_true, Bool.not_false, ofString_inj, gt_iff_lt, List.all_cons, List.all_nil, List.any_cons, List.any_nil, Bool.and_true, Bool.true_and, Bool.and_self, Bool.or_false, Bool.false_or, Bool.or_true, Bool.true_or, szOk, mNeg, wipeM, ↓reduceIte, Nat.reduceAdd, Nat.reduceSub, Nat.reduceLeDiff, Int.reduceLT, Int.reduceLE, Int.reduceNeg, Int.reduceAdd, Int.reduceSub, Int.reducePow, Int.reduceEq, Int.reduceLT, Int.reduceMod, Int.reduceDiv, Int.reduceMul, Int.reduceToNat, String.reduceEq, reduceCtorEq, hz, ix0 lf l1, gB]
        rw [pf, hb]
        simp [hz]
  by_cases hm : hd1 w = "-"
  · rw [if_pos hm] at hf
    simp only [↓SX1, SX2, List.getElem?_cons_zero, List.getElem?_cons_succ, List.set_cons_zero, List.set_cons_succ, List.map_cons, List.map_nil, List.cons_append, List.nil_append, List.append_nil, List.replicate_succ, List.replicate_zero, List.length_cons, List.length_nil, if_true, if_false, true_and, and_true, and_self, Nat.zero_add, Int.natCast_zero, i0, i1, i2, i3, i4, decide_true, decide_false, Bool.not_true, Bool.not_false, ofString_inj, gt_iff_lt, List.all_cons, List.all_nil, List.any_cons, List.any_nil, Bool.and_true, Bool.true_and, Bool.and_self, Bool.or_false, Bool.false_or, Bool.or_true, Bool.true_or, szOk, mNeg, wipeM, ↓reduceIte, Nat.reduceAdd, Nat.reduceSub, Nat.reduceLeDiff, Int.reduceLT, Int.reduceLE, Int.reduceNeg, Int.reduceAdd, Int.reduceSub, Int.reducePow, Int.reduceEq, Int.reduceLT, Int.reduceMod, Int.reduceDiv, Int.reduceMul, Int.reduceToNat, String.reduceEq, reduceCtorEq, sl_h hl, sl_t hl, hm]
    rw [← hf]
    simp only [↓SX1, SX2, List.getElem?_cons_zero, List.getElem?_cons_succ, List.set_cons_zero, List.set_cons_succ, List.map_cons, List.map_nil, List.cons_append, List.nil_append, List.append_nil, List.replicate_succ, List.replicate_zero, List.length_cons, List.length_nil, if_true, if_false, true_and, and_true, and_self, Nat.zero_add, Int.natCast_zero, i0, i1, i2, i3, i4, decide_true, decide_false, Bool.not_true, Bool.not_false, ofString_inj, gt_iff_lt, List.all_cons, List.all_nil, List.any_cons, List.any_nil, Bool.and_true, Bool.true_and, Bool.and_self, Bool.or_false, Bool.false_or, Bool.or_true, Bool.true_or, szOk, mNeg, wipeM, ↓reduceIte, Nat.reduceAdd, Nat.reduceSub, Nat.reduceLeDiff, Int.reduceLT, Int.reduceLE, Int.reduceNeg, Int.reduceAdd, Int.reduceSub, Int.reducePow, Int.reduceEq, Int.reduceLT, Int.reduceMod, Int.reduceDiv, Int.reduceMul, Int.reduceToNat, String.reduceEq, reduceCtorEq] at go
    exact go
  · rw [if_neg hm] at hf
    simp only [↓SX1, SX2, List.getElem?_cons_zero, List.getElem?_cons_succ, List.set_cons_zero, List.set_cons_succ, List.map_cons, List.map_nil, List.cons_append, List.nil_append, List.append_nil, List.replicate_succ, List.replicate_zero, List.length_cons, List.length_nil, if_true, if_false, true_and, and_true, and_self, Nat.zero_add, Int.natCast_zero, i0, i1, i2, i3, i4, decide_true, decide_false, Bool.not_true, Bool.not_false, ofString_inj, gt_iff_lt, List.all_cons, List.all_nil, List.any_cons, List.any_nil, Bool.and_true, Bool.true_and, Bool.and_self, Bool.or_false, Bool.false_or, Bool.or_true, Bool.true_or, szOk, mNeg, wipeM, ↓reduceIte, Nat.reduceAdd, Nat.reduceSub, Nat.reduceLeDiff, Int.reduceLT, Int.reduceLE, Int.reduceNeg, Int.reduceAdd, Int.reduceSub, Int.reducePow, Int.reduceEq, Int.reduceLT, Int.reduceMod, Int.reduceDiv, Int.reduceMul, Int.reduceToNat, String.reduceEq, reduceCtorEq, sl_h hl, hm]
    rw [hf] at go
    simp only [↓SX1, SX2, List.getElem?_cons_zero, List.getElem?_cons_succ, List.set_cons_zero, List.set_cons_succ, List.map_cons, List.map_nil, List.cons_append, List.nil_append, List.append_nil, List.replicate_succ, List.replicate_zero, List.length_cons, List.length_nil, if_true, if_false, true_and, and_true, and_self, Nat.zero_add, Int.natCast_zero, i0, i1, i2, i3, i4, decide_true, decide_false, Bool.not_true, Bool.not_false, ofString_inj, gt_iff_lt, List.all_cons, List.all_nil, List.any_cons, List.any_nil, Bool.and_true, Bool.true_and, Bool.and_self, Bool.or_false, Bool.false_or, Bool.or_true, Bool.true_or, szOk, mNeg, wipeM, ↓reduceIte, Nat.reduceAdd, Nat.reduceSub, Nat.reduceLeDiff, Int.reduceLT, Int.reduceLE, Int.reduceNeg, Int.reduceAdd, Int.reduceSub, Int.reducePow, Int.reduceEq, Int.reduceLT, Int.reduceMod, Int.reduceDiv, Int.reduceMul, Int.reduceToNat, String.reduceEq, reduceCtorEq] at go
    exact go
def pWord (w : Str) : Bool :=
  pIn w cBR || decide (w ∈ opers) || decide (w ∈ ([":=", ":"] : List Str)) ||
  (if at0 w = "@" then decide (1 < w.length) && pSmall (tl1 w) else if at0 w = "'" then pText (tl1 w) else pSmall w || pKind w || pFig w)
theorem word_fits {w : Str} (h1 : 1 ≤ w.length) (hl : w.length ≤ 1000) (hw : pWord w = true) (h : MH) : m_is_word [.str w] h = .ok (.bl true) h := by
  unfold m_is_word
  refine e_fun rfl ?_
  unfold b_is_word
  have g1 : Eq2 (MV.bl true) h (.bl true) (gc h (.bl true) h) := by rw [gB]
  have n1 : mIn (.str w) c_OPERATORS h = .ok (.bl (decide (w ∈ opers))) h := in_tup w opers h
  have n2 : mIn (.str w) (.tup [.str ":=", .str ":"]) h = .ok (.bl (decide (w ∈ ([":=", ":"] : List Str)))) h := in_tup w [":=", ":"] h
  have lt : (tl1 w).length ≤ 1000 := by have := tl_len (w := w); omega
  unfold pWord at hw
  simp only [↓SX1, SX2, List.getElem?_cons_zero, List.getElem?_cons_succ, List.set_cons_zero, List.set_cons_succ, List.map_cons, List.map_nil, List.cons_append, List.nil_append, List.append_nil, List.replicate_succ, List.replicate_zero, List.length_cons, List.length_nil, if_true, if_false, true_and, and_true, and_self, Nat.zero_add, Int.natCast_zero, i0, i1, i2, i3, i4, decide_true, decide_false, Bool.not_true, Bool.not_false, ofString_inj, gt_iff_lt, List.all_cons, List.all_nil, List.any_cons, List.any_nil, Bool.and_true, Bool.true_and, Bool.and_self, Bool.or_false, Bool.false_or, Bool.or_true, Bool.true_or, szOk, mNeg, wipeM, ↓reduceIte, Nat.reduceAdd, Nat.reduceSub, Nat.reduceLeDiff, Int.reduceLT, Int.reduceLE, Int.reduceNeg, Int.reduceAdd, Int.reduceSub, Int.reducePow, Int.reduceEq, Int.reduceLT, Int.reduceMod, Int.reduceDiv, Int.reduceMul, Int.reduceToNat, String.reduceEq, reduceCtorEq, c_BRACKETS, in_s]
  cases hb : pIn w cBR
  · rw [hb, Bool.false_or] at hw
    simp only [↓SX1, SX2, List.getElem?_cons_zero, List.getElem?_cons_succ, List.set_cons_zero, List.set_cons_succ, List.map_cons, List.map_nil, List.cons_append, List.nil_append, List.append_nil, List.replicate_succ, List.replicate_zero, List.length_cons, List.length_nil, if_true, if_false, true_and, and_true, and_self, Nat.zero_add, Int.natCast_zero, i0, i1, i2, i3, i4, decide_true, decide_false, Bool.not_true, Bool.not_false, ofString_inj, gt_iff_lt, List.all_cons, List.all_nil, List.any_cons, List.any_nil, Bool.and_true, Bool.true_and, Bool.and_self, Bool.or_false, Bool.false_or, Bool.or_true, Bool.true_or, szOk, mNeg, wipeM, ↓reduceIte, Nat.reduceAdd, Nat.reduceSub, Nat.reduceLeDiff, Int.reduceLT, Int.reduceLE, Int.reduceNeg, Int.reduceAdd, Int.reduceSub, Int.reducePow, Int.reduceEq, Int.reduceLT, Int.reduceMod, Int.reduceDiv, Int.reduceMul, Int.reduceToNat, String.reduceEq, reduceCtorEq, ↓n1]
    by_cases ho : w ∈ opers
    · simp only [↓SX1, SX2, List.getElem?_cons_zero, List.getElem?_cons_succ, List.set_cons_zero, List.set_cons_succ, List.map_cons, List.map_nil, List.cons_append, List.nil_append, List.append_nil, List.replicate_succ, List.replicate_zero, List.length_cons, List.length_nil, if_true, if_false, true_and, and_true, and_self, Nat.zero_add, Int.natCast_zero, i0, i1, i2, i3, i4, decide_true, decide_false, Bool.not_true, Bool.not_false, ofString_inj, gt_iff_lt, List.all_cons, List.all_nil, List.any_cons, List.any_nil, Bool.and_true, Bool.true_and, Bool.and_self, Bool.or_false, Bool.false_or, Bool.or_true, Bool.true_or, szOk, mNeg, wipeM, ↓reduceIte, Nat.reduceAdd, Nat.reduceSub, Nat.reduceLeDiff, Int.reduceLT, Int.reduceLE, Int.reduceNeg, Int.reduceAdd, Int.reduceSub, Int.reducePow, Int.reduceEq, Int.reduceLT, Int.reduceMod, Int.reduceDiv, Int.reduceMul, Int.reduceToNat, String.reduceEq, reduceCtorEq, ho, g1]
    · rw [decide_eq_false ho, Bool.false_or] at hw
      simp only [↓SX1, SX2, List.getElem?_cons_zero, List.getElem?_cons_succ, List.set_cons_zero, List.set_cons_succ, List.map_cons, List.map_nil, List.cons_append, List.nil_append, List.append_nil, List.replicate_succ, List.replicate_zero, List.length_cons, List.length_nil, if_true, if_false, true_and, and_true, and_self, Nat.zero_add, Int.natCast_zero, i0, i1, i2, i3, i4, decide_true, decide_false, Bool.not_true, Bool.not_false, ofString_inj, gt_iff_lt, List.all_cons, List.all_nil, List.any_cons, List.any_nil, Bool.and_true, Bool.true_and, Bool.and_self, Bool.or_false, Bool.false_or, Bool.or_true, Bool.true_or, szOk, mNeg, wipeM, ↓reduceIte, Nat.reduceAdd, Nat.reduceSub, Nat.reduceLeDiff, Int.reduceLT, Int.reduceLE, Int.reduceNeg, Int.reduceAdd, Int.reduceSub, Int.reducePow, Int.reduceEq, Int.reduceLT, Int.reduceMod, Int.reduceDiv, Int.reduceMul, Int.reduceToNat, String.reduceEq, reduceCtorEq, ho, ↓n2]
      by_cases hc : w ∈ ([":=", ":"] : List Str)
      · simp only [↓SX1, SX2, List.getElem?_cons_zero, List.getElem?_cons_succ, List.set_cons_zero, List.set_cons_succ, List.map_cons, List.map_nil, List.cons_append, List.nil_append, List.append_nil, List.replicate_succ, List.replicate_zero, List.length_cons, List.length_nil, if_true, if_false, true_and, and_true, and_self, Nat.zero_add, Int.natCast_zero, i0, i1, i2, i3, i4, decide_true, decide_false, Bool.not_true, Bool.not_false, ofString_inj, gt_iff_lt, List.all_cons, List.all_nil, List.any_cons, List.any_nil, Bool.and_true, Bool.true_and, Bool.and_self, Bool.or_false, Bool.false_or, Bool.or_true, Bool.true_or, szOk, mNeg, wipeM, ↓reduceIte, Nat.reduceAdd, Nat.reduceSub, Nat.reduceLeDiff, Int.reduceLT, Int.reduceLE, Int.reduceNeg, Int.reduceAdd, Int.reduceSub, Int.reducePow, Int.reduceEq, Int.reduceLT, Int.reduceMod, Int.reduceDiv, Int.reduceMul, Int.reduceToNat, String.reduceEq, reduceCtorEq, hc, g1]
      · rw [decide_eq_false hc, Bool.false_or] at hw
        simp only [↓SX1, SX2, List.getElem?_cons_zero, List.getElem?_cons_succ, List.set_cons_zero, List.set_cons_succ, List.map_cons, List.map_nil, List.cons_append, List.nil_append, List.append_nil, List.replicate_succ, List.replicate_zero, List.length_cons, List.length_nil, if_true, if_false, true_and, and_true, and_self, Nat.zero_add, Int.natCast_zero, i0, i1, i2, i3, i4, decide_true, decide_false, Bool.not_true, Bool.not_false, ofString_inj, gt_iff_lt, List.all_cons, List.all_nil, List.any_cons, List.any_nil, Bool.and_true, Bool.true_and, Bool.and_self, Bool.or_false, Bool.false_or, Bool.or_true, Bool.true_or, szOk, mNeg, wipeM, ↓reduceIte, Nat.reduceAdd, Nat.reduceSub, Nat.reduceLeDiff, Int.reduceLT, Int.reduceLE, Int.reduceNeg, Int.reduceAdd, Int.reduceSub, Int.reducePow, Int.reduceEq, Int.reduceLT, Int.reduceMod, Int.reduceDiv, Int.reduceMul, Int.reduceToNat, String.reduceEq, reduceCtorEq, hc, ix0 hl h1]
        by_cases ha : at0 w = "@"
        · rw [if_pos ha, Bool.and_eq_true, decide_eq_true_eq] at hw
          have l2 : (1 : Int) < (w.length : Int) := by omega
          simp only [↓SX1, SX2, List.getElem?_cons_zero, List.getElem?_cons_succ, List.set_cons_zero, List.set_cons_succ, List.map_cons, List.map_nil, List.cons_append, List.nil_append, List.append_nil, List.replicate_succ, List.replicate_zero, List.length_cons, List.length_nil, if_true, if_false, true_and, and_true, and_self, Nat.zero_add, Int.natCast_zero, i0, i1, i2, i3, i4, decide_true, decide_false, Bool.not_true, Bool.not_false, ofString_inj, gt_iff_lt, List.all_cons, List.all_nil, List.any_cons, List.any_nil, Bool.and_true, Bool.true_and, Bool.and_self, Bool.or_false, Bool.false_or, Bool.or_true, Bool.true_or, szOk, mNeg, wipeM, ↓reduceIte, Nat.reduceAdd, Nat.reduceSub, Nat.reduceLeDiff, Int.reduceLT, Int.reduceLE, Int.reduceNeg, Int.reduceAdd, Int.reduceSub, Int.reducePow, Int.reduceEq, Int.reduceLT, Int.reduceMod, Int.reduceDiv, Int.reduceMul, Int.reduceToNat, String.reduceEq, reduceCtorEq, ha, l2, sl_t hl, small_ok lt h, hw.2]
          exact ⟨by omega, g1⟩
        · rw [if_neg ha] at hw
          simp only [↓SX1, SX2, List.getElem?_cons_zero, List.getElem?_cons_succ, List.set_cons_zero, List.set_cons_succ, List.map_cons, List.map_nil, List.cons_append, List.nil_append, List.append_nil, List.replicate_succ, List.replicate_zero, List.length_cons, List.length_nil, if_true, if_false, true_and, and_true, and_self, Nat.zero_add, Int.natCast_zero, i0, i1, i2, i3, i4, decide_true, decide_false, Bool.not_true, Bool.not_false, ofString_inj, gt_iff_lt, List.all_cons, List.all_nil, List.any_cons, List.any_nil, Bool.and_true, Bool.true_and, Bool.and_self, Bool.or_false, Bool.false_or, Bool.or_true, Bool.true_or, szOk, mNeg, wipeM, ↓reduceIte, Nat.reduceAdd, Nat.reduceSub, Nat.reduceLeDiff, Int.reduceLT, Int.reduceLE, Int.reduceNeg, Int.reduceAdd, Int.reduceSub, Int.reducePow, Int.reduceEq, Int.reduceLT, Int.reduceMod, Int.reduceDiv, Int.reduceMul, Int.reduceToNat, String.reduceEq, reduceCtorEq, ha, ix0 hl h1]
          by_cases hq : at0 w = "'"
          · rw [if_pos hq] at hw
            simp only [↓SX1, SX2, List.getElem?_cons_zero, List.getElem?_cons_succ, List.set_cons_zero, List.set_cons_succ, List.map_cons, List.map_nil, List.cons_append, List.nil_append, List.append_nil, List.replicate_succ, List.replicate_zero, List.length_cons, List.length_nil, if_true, if_false, true_and, and_true, and_self, Nat.zero_add, Int.natCast_zero, i0, i1, i2, i3, i4, decide_true, decide_false, Bool.not_true, Bool.not_false, ofString_inj, gt_iff_lt, List.all_cons, List.all_nil, List.any_cons, List.any_nil, Bool.and_true, Bool.true_and, Bool.and_self, Bool.or_false, Bool.false_or, Bool.or_true, Bool.true_or, szOk, mNeg, wipeM, ↓reduceIte, Nat.reduceAdd, Nat.reduceSub, Nat.reduceLeDiff, Int.reduceLT, Int.reduceLE, Int.reduceNeg, Int.reduceAdd, Int.reduceSub, Int.reducePow, Int.reduceEq, Int.reduceLT, Int.reduceMod, Int.reduceDiv, Int.reduceMul, Int.reduceToNat, String.reduceEq, reduceCtorEq, hq, sl_t hl, text_ok lt h, hw, g1]
          · rw [if_neg hq] at hw
            simp only [↓SX1, SX2, List.getElem?_cons_zero, List.getElem?_cons_succ, List.set_cons_zero, List.set_cons_succ, List.map_cons, List.map_nil, List.cons_append, List.nil_append, List.append_nil, List.replicate_succ, List.replicate_zero, List.length_cons, List.length_nil, if_true, if_false, true_and, and_true, and_self, Nat.zero_add, Int.natCast_zero, i0, i1, i2, i3, i4, decide_true, decide_false, Bool.not_true, Bool.not_false, ofString_inj, gt_iff_lt, List.all_cons, List.all_nil, List.any_cons, List.any_nil, Bool.and_true, Bool.true_and, Bool.and_self, Bool.or_false, Bool.false_or, Bool.or_true, Bool.true_or, szOk, mNeg, wipeM, ↓reduceIte, Nat.reduceAdd, Nat.reduceSub, Nat.reduceLeDiff, Int.reduceLT, Int.reduceLE, Int.reduceNeg, Int.reduceAdd, Int.reduceSub, Int.reducePow, Int.reduceEq, Int.reduceLT, Int.reduceMod, Int.reduceDiv, Int.reduceMul, Int.reduceToNat, String.reduceEq, reduceCtorEq, hq, small_ok hl h]
            cases h1 : pSmall w
            · rw [h1, Bool.false_or] at hw
              simp only [↓SX1, SX2, List.getElem?_cons_zero, List.getElem?_cons_succ, List.set_cons_zero, List.set_cons_succ, List.map_cons, List.map_nil, List.cons_append, List.nil_append, List.append_nil, List.replicate_succ, List.replicate_zero, List.length_cons, List.length_nil, if_true, if_false, true_and, and_true, and_self, Nat.zero_add, Int.natCast_zero, i0, i1, i2, i3, i4, decide_true, decide_false, Bool.not_true, Bool.not_false, ofString_inj, gt_iff_lt, List.all_cons, List.all_nil, List.any_cons, List.any_nil, Bool.and_true, Bool.true_and, Bool.and_self, Bool.or_false, Bool.false_or, Bool.or_true, Bool.true_or, szOk, mNeg, wipeM, ↓reduceIte, Nat.reduceAdd, Nat.reduceSub, Nat.reduceLeDiff, Int.reduceLT, Int.reduceLE, Int.reduceNeg, Int.reduceAdd, Int.reduceSub, Int.reducePow, Int.reduceEq, Int.reduceLT, Int.reduceMod, Int.reduceDiv, Int.reduceMul, Int.reduceToNat, String.reduceEq, reduceCtorEq, kind_ok hl h]
              cases h2 : pKind w
              · rw [h2, Bool.false_or] at hw
                simp only [↓SX1, SX2, List.getElem?_cons_zero, List.getElem?_cons_succ, List.set_cons_zero, List.set_cons_succ, List.map_cons, List.map_nil, List.cons_append, List.nil_append, List.append_nil, List.replicate_succ, List.replicate_zero, List.length_cons, List.length_nil, if_true, if_false, true_and, and_true, and_self, Nat.zero_add, Int.natCast_zero, i0, i1, i2, i3, i4, decide_true, decide_false, Bool.not_true, Bool.not_false, ofString_inj, gt_iff_lt, List.all_cons, List.all_nil, List.any_cons, List.any_nil, Bool.and_true, Bool.true_and, Bool.and_self, Bool.or_false, Bool.false_or, Bool.or_true, Bool.true_or, szOk, mNeg, wipeM, ↓reduceIte, Nat.reduceAdd, Nat.reduceSub, Nat.reduceLeDiff, Int.reduceLT, Int.reduceLE, Int.reduceNeg, Int.reduceAdd, Int.reduceSub, Int.reducePow, Int.reduceEq, Int.reduceLT, Int.reduceMod, Int.reduceDiv, Int.reduceMul, Int.reduceToNat, String.reduceEq, reduceCtorEq, fig_ok hl h, hw, g1]
              · simp only [↓SX1, SX2, List.getElem?_cons_zero, List.getElem?_cons_succ, List.set_cons_zero, List.set_cons_succ, List.map_cons, List.map_nil, List.cons_append, List.nil_append, List.append_nil, List.replicate_succ, List.replicate_zero, List.length_cons, List.length_nil, if_true, if_false, true_and, and_true, and_self, Nat.zero_add, Int.natCast_zero, i0, i1, i2, i3, i4, decide_true, decide_false, Bool.not_true, Bool.not_false, ofString_inj, gt_iff_lt, List.all_cons, List.all_nil, List.any_cons, List.any_nil, Bool.and_true, Bool.true_and, Bool.and_self, Bool.or_false, Bool.false_or, Bool.or_true, Bool.true_or, szOk, mNeg, wipeM, ↓reduceIte, Nat.reduceAdd, Nat.reduceSub, Nat.reduceLeDiff, Int.reduceLT, Int.reduceLE, Int.reduceNeg, Int.reduceAdd, Int.reduceSub, Int.reducePow, Int.reduceEq, Int.reduceLT, Int.reduceMod, Int.reduceDiv, Int.reduceMul, Int.reduceToNat, String.reduceEq, reduceCtorEq, g1]
            · simp only [↓SX1, SX2, List.getElem?_cons_zero, List.getElem?_cons_succ, List.set_cons_zero, List.set_cons_succ, List.map_cons, List.map_nil, List.cons_append, List.nil_append, List.append_nil, List.replicate_succ, List.replicate_zero, List.length_cons, List.length_nil, if_true, if_false, true_and, and_true, and_self, Nat.zero_add, Int.natCast_zero, i0, i1, i2, i3, i4, decide_true, decide_false, Bool.not_true, Bool.not_false, ofString_inj, gt_iff_lt, List.all_cons, List.all_nil, List.any_cons, List.any_nil, Bool.and_true, Bool.true_and, Bool.and_self, Bool.or_false, Bool.false_or, Bool.or_true, Bool.true_or, szOk, mNeg, wipeM, ↓reduceIte, Nat.reduceAdd, Nat.reduceSub, Nat.reduceLeDiff, Int.reduceLT, Int.reduceLE, Int.reduceNeg, Int.reduceAdd, Int.reduceSub, Int.reducePow, Int.reduceEq, Int.reduceLT, Int.reduceMod, Int.reduceDiv, Int.reduceMul, Int.reduceToNat, String.reduceEq, reduceCtorEq, g1]
  · simp only [↓SX1, SX2, List.getElem?_cons_zero, List.getElem?_cons_succ, List.set_cons_zero, List.set_cons_succ, List.map_cons, List.map_nil, List.cons_append, List.nil_append, List.append_nil, List.replicate_succ, List.replicate_zero, List.length_cons, List.length_nil, if_true, if_false, true_and, and_true, and_self, Nat.zero_add, Int.natCast_zero, i0, i1, i2, i3, i4, decide_true, decide_false, Bool.not_true, Bool.not_false, ofString_inj, gt_iff_lt, List.all_cons, List.all_nil, List.any_cons, List.any_nil, Bool.and_true, Bool.true_and, Bool.and_self, Bool.or_false, Bool.false_or, Bool.or_true, Bool.true_or, szOk, mNeg, wipeM, ↓reduceIte, Nat.reduceAdd, Nat.reduceSub, Nat.reduceLeDiff, Int.reduceLT, Int.reduceLE, Int.reduceNeg, Int.reduceAdd, Int.reduceSub, Int.reducePow, Int.reduceEq, Int.reduceLT, Int.reduceMod, Int.reduceDiv, Int.reduceMul, Int.reduceToNat, String.reduceEq, reduceCtorEq, g1]
end My

set_option Elab.async false
set_option linter.all false
set_option maxRecDepth 100000
set_option maxHeartbeats 4000000
namespace My
open PySem L2 Sm
/-! ### a row's words -/
def ofL (l : List Nat) : Str := ⟨l.toArray⟩
theorem ofL_cps (l : List Nat) : (ofL l).cps.toList = l := by simp [ofL]
theorem ofL_len (l : List Nat) : (ofL l).length = l.length := by simp [ofL, Str.length]
theorem ofL_toL (s : Str) : ofL s.cps.toList = s := by cases s; simp [ofL]
theorem ofL_app (a b : List Nat) : ofL (a ++ b) = ofL a ++ ofL b := by
  have : ∀ a b : Str, (a ++ b).cps = a.cps ++ b.cps := fun a b => rfl
  have h : (ofL a ++ ofL b).cps = (ofL (a ++ b)).cps := by rw [this]; simp [ofL]
  generalize ofL a ++ ofL b = x at *
  cases x
  simp only [ofL] at *
  rw [h]
theorem ofL_nil : ofL [] = "" := rfl
def isBr (c : Nat) : Bool := decide (c ∈ cBR.cps.toList)
/-- the words with their columns: cur what has come of a word, at how many signs have come -/
def rw1 : List Nat → List Nat → Nat → List (Str × Nat)
  | [], _, _ => []
  | c :: cs, cur, at_ =>
    if c = 32 ∨ isBr c = true then
      (if cur = [] then [] else [(ofL cur, at_ + 1 - cur.length)]) ++ (if c = 32 then [] else [(sg c, at_ + 1)]) ++ rw1 cs [] (at_ + 1)
    else rw1 cs (cur ++ [c]) (at_ + 1)
def rowW (s : Str) : List (Str × Nat) := rw1 (s.cps.toList ++ [32]) [] 0
def wc (p : Str × Nat) : MV := .tup [.str p.1, .int p.2]
def Ext (h h' : MH) : Prop := ∃ g, h' = h ++ g
theorem Ext.refl {h : MH} : Ext h h := ⟨[], by simp⟩
theorem Ext.trans {a b c : MH} (x : Ext a b) (y : Ext b c) : Ext a c := by
  obtain ⟨g, rfl⟩ := x
  obtain ⟨g', rfl⟩ := y
  exact ⟨g ++ g', by simp⟩
theorem Ext.app {h g : MH} : Ext h (h ++ g) := ⟨g, rfl⟩
theorem Ext.get {h h' : MH} {n : Nat} {o : MO} (x : Ext h h') (e : h[n]? = some o) : h'[n]? = some o := by
  obtain ⟨g, rfl⟩ := x
  exact gap e
theorem Ext.len {h h' : MH} (x : Ext h h') : h.length ≤ h'.length := by
  obtain ⟨g, rfl⟩ := x
  simp
theorem Ext.set {h h' : MH} {n : Nat} {o : MO} (x : Ext h h') (hn : h.length ≤ n) : Ext h (h'.set n o) := by
  obtain ⟨g, rfl⟩ := x
  exact ⟨g.set (n - h.length) o, by rw [List.set_append_right _ _ hn]⟩
def PL (l : List MV) (h : MH) (v : MV) (h' : MH) : Prop := ∃ n, v = .ref n ∧ h.length ≤ n ∧ Ext h h' ∧ h'[n]? = some (.lst l)
theorem PL.ret {h h' : MH} {l : List MV} {n : Nat} (x : Ext h h') (hn : h.length ≤ n) (e : h'[n]? = some (.lst l)) : PL l h (.ref n) (gc h (.ref n) h') := by
  rw [gc_ref hn]
  exact ⟨_, rfl, hn, x, e⟩
theorem app_ok {h : MH} {n : Nat} {xs : List MV} {x : MV} (e : h[n]? = some (.lst xs)) (l : xs.length < 1000000) : mAppend (.ref n) [x] h = .ok .non (h.set n (.lst (xs ++ [x]))) := by
  simp [mAppend, e, l]
theorem tyl {n : Nat} {xs : List MV} {h : MH} (e : h[n]? = some (.lst xs)) : tyOk "list" (.ref n) h = true := by simp [tyOk, e]
theorem sg_eq {c d : Nat} : (sg c = sg d) = (c = d) := by simp [sg]
theorem enum_cons (x : MV) (xs : List MV) (k : Nat) : ((x :: xs).zipIdx k).map (fun p => MV.tup [.int (p.2 : Nat), p.1]) = .tup [.int k, x] :: (xs.zipIdx (k + 1)).map (fun p => MV.tup [.int (p.2 : Nat), p.1]) := by simp
def enumF (xs : List MV) (k : Nat) : List MV := (xs.zipIdx k).map fun p => MV.tup [.int (p.2 : Nat), p.1]
theorem enumF_nil (k : Nat) : enumF [] k = [] := rfl
theorem enumF_cons (x : MV) (xs : List MV) (k : Nat) : enumF (x :: xs) k = .tup [.int k, x] :: enumF xs (k + 1) := enum_cons x xs k
theorem enumM_F (xs : List MV) : enumM xs = enumF xs 0 := rfl
theorem rw1_len : ∀ (l cur : List Nat) (k : Nat), (rw1 l cur k).length ≤ 2 * l.length
  | [], _, _ => by simp [rw1]
  | c :: cs, cur, k => by
    unfold rw1
    split
    · have := rw1_len cs [] (k + 1)
      simp only [List.length_append, List.length_cons]
      split <;> split <;> simp <;> omega
    · have := rw1_len cs (cur ++ [c]) (k + 1)
      simp only [List.length_cons]; omega
theorem row_words_ok {s : Str} (hl : s.length ≤ 1000) (h : MH) : Wp (m_row_words [.str s] h) (PL ((rowW s).map wc) h) := by
  unfold m_row_words
  refine m_fun rfl ?_
  unfold b_row_words
  have z1 : Str.length " " = 1 := rfl
  simp only [↓SX1, SX2, List.getElem?_cons_zero, List.getElem?_cons_succ, List.set_cons_zero, List.set_cons_succ, List.map_cons, List.map_nil, List.cons_append, List.nil_append, List.append_nil, List.replicate_succ, List.replicate_zero, List.length_cons, List.length_nil, if_true, if_false, true_and, and_true, and_self, Nat.zero_add, Int.natCast_zero, i0, i1, i2, i3, i4, decide_true, decide_false, Bool.not_true, Bool.not_false, ofString_inj, gt_iff_lt, List.all_cons, List.all_nil, List.any_cons, List.any_nil, Bool.and_true, Bool.true_and, Bool.and_self, Bool.or_false, Bool.false_or, Bool.or_true, Bool.true_or, szOk, mNeg, wipeM, ↓reduceIte, Nat.reduceAdd, Nat.reduceSub, Nat.reduceLeDiff, Int.reduceLT, Int.reduceLE, Int.reduceNeg, Int.reduceAdd, Int.reduceSub, Int.reducePow, Int.reduceEq, Int.reduceLT, Int.reduceMod, Int.reduceDiv, Int.reduceMul, Int.reduceToNat, String.reduceEq, reduceCtorEq]
  refine ⟨by rw [z1]; omega, ?_⟩
  have et : s ++ " " = ofL (s.cps.toList ++ [32]) := by rw [ofL_app, ofL_toL]; rfl
  have es : enumM (signs (s ++ " ")) = enumF ((s.cps.toList ++ [32]).map fun c => MV.str (sg c)) 0 := by
    rw [et]; unfold signs; rw [ofL_cps]; rfl
  rw [es]
  obtain ⟨R, hR⟩ : ∃ R, R = h.length := ⟨_, rfl⟩
  rw [← hR]
  refine s_for (fun xs ρ h' => ∃ cs cur k acc y3 y4, xs = enumF (cs.map fun c => MV.str (sg c)) k ∧ acc ++ rw1 cs cur k = rowW s ∧ cur.length ≤ k ∧ k + cs.length = s.length + 1 ∧ Ext h h' ∧ h'[R]? = some (.lst (acc.map wc)) ∧ ρ = [some (.str s), some (.ref R), some (.str (ofL cur)), y3, y4]) (fun _ _ _ _ _ z => by cases z) ?_ ?_ _ _ _ ⟨s.cps.toList ++ [32], [], 0, [], none, none, rfl, rfl, Nat.le_refl _, by simp [Str.length], .app, by rw [hR]; exact gnew, rfl⟩
  · rintro x xs ρ h' ⟨cs, cur, k, acc, y3, y4, e1, e2, lc, lk, ex, eR, rfl⟩
    cases cs with
    | nil => simp [enumF] at e1
    | cons c cs =>
      rw [List.map_cons, enumF_cons] at e1
      simp only [List.cons.injEq] at e1
      obtain ⟨rfl, e1⟩ := e1
      refine ⟨[some (.str s), some (.ref R), some (.str (ofL cur)), some (.int k), some (.str (sg c))], rfl, ?_⟩
      rw [List.length_cons] at lk
      have la : acc.length ≤ 5000 := by
        have h1 : (rowW s).length ≤ 2 * (s.length + 1) := by
          have := rw1_len (s.cps.toList ++ [32]) [] 0
          simp only [List.length_append, List.length_cons, List.length_nil] at this
          have e : s.cps.toList.length = s.length := by simp [Str.length]
          unfold rowW
          omega
        have h2 := congrArg List.length e2
        rw [List.length_append] at h2
        omega
      have lacc : (acc.map wc).length < 1000000 := by rw [List.length_map]; omega
      have ty := tyl eR
      have hsp : (sg c = " ") = (c = 32) := by
        show (sg c = sg 32) = _
        exact sg_eq
      have hin : mIn (.str (sg c)) c_BRACKETS h' = .ok (.bl (isBr c)) h' := in_one c cBR h'
      have hce : (ofL cur = "") = (cur = []) := by
        apply propext
        constructor
        · intro z
          have := congrArg Str.length z
          rw [ofL_len] at this
          exact List.length_eq_zero_iff.mp this
        · rintro rfl; rfl
      have lcs : (ofL cur).length = cur.length := ofL_len cur
      have rlt : R < h'.length := lt_of_get eR
      have Rle : h.length ≤ R := by omega
      -- the word that ends here, if any
      have fin : ∀ (h2 : MH) (acc2 : List (Str × Nat)), Ext h h2 → h2[R]? = some (.lst (acc2.map wc)) → acc2 = acc ++ (if cur = [] then [] else [(ofL cur, k + 1 - cur.length)]) →
          (c = 32 ∨ isBr c = true) → Sd ((sSeq (sSet 2 (eC (.str ""))) (sIf (tOfE (eBin mNe (eVar 4) (eC (.str " ")))) (sExpr (eBM "list" mAppend (eVar 1) (aCons (eTup (aCons (eVar 4) (aCons (eBin mAdd (eVar 3) (eC (.int 1))) aNil))) aNil))) sNil))
            [some (.str s), some (.ref R), some (.str (ofL cur)), some (.int k), some (.str (sg c))] h2) (kI (fun xs ρ h' => ∃ cs cur k acc y3 y4, xs = enumF (cs.map fun c => MV.str (sg c)) k ∧ acc ++ rw1 cs cur k = rowW s ∧ cur.length ≤ k ∧ k + cs.length = s.length + 1 ∧ Ext h h' ∧ h'[R]? = some (.lst (acc.map wc)) ∧ ρ = [some (.str s), some (.ref R), some (.str (ofL cur)), y3, y4]) xs
            (kNext (sRet (eVar 1)) (kFun h (PL ((rowW s).map wc) h)))) := by
        intro h2 acc2 ex2 eR2 ea hc
        have ek : (k : Int) + 1 = ((k + 1 : Nat) : Int) := by push_cast; rfl
        have e2' : acc2 ++ ((if c = 32 then [] else [(sg c, k + 1)]) ++ rw1 cs [] (k + 1)) = rowW s := by
          rw [← e2, ea]
          conv => rhs; rw [rw1, if_pos hc]
          simp only [List.append_assoc]
        have la2 : (acc2.map wc).length < 1000000 := by
          rw [List.length_map, ea, List.length_append]
          split <;> simp <;> omega
        by_cases h32 : c = 32
        · rw [if_pos h32, List.nil_append] at e2'
          have q1 : (sg c = " ") = True := by rw [hsp]; exact eq_true h32
          simp only [↓SX1, SX2, List.getElem?_cons_zero, List.getElem?_cons_succ, List.set_cons_zero, List.set_cons_succ, List.map_cons, List.map_nil, List.cons_append, List.nil_append, List.append_nil, List.replicate_succ, List.replicate_zero, List.length_cons, List.length_nil, if_true, if_false, true_and, and_true, and_self, Nat.zero_add, Int.natCast_zero, i0, i1, i2, i3, i4, decide_true, decide_false, Bool.not_true, Bool.not_false, ofString_inj, gt_iff_lt, List.all_cons, List.all_nil, List.any_cons, List.any_nil, Bool.and_true, Bool.true_and, Bool.and_self, Bool.or_false, Bool.false_or, Bool.or_true, Bool.true_or, szOk, mNeg, wipeM, ↓reduceIte, Nat.reduceAdd, Nat.reduceSub, Nat.reduceLeDiff, Int.reduceLT, Int.reduceLE, Int.reduceNeg, Int.reduceAdd, Int.reduceSub, Int.reducePow, Int.reduceEq, Int.reduceLT, Int.reduceMod, Int.reduceDiv, Int.reduceMul, Int.reduceToNat, String.reduceEq, reduceCtorEq, q1]
          exact ⟨cs, [], k + 1, acc2, _, _, e1, e2', Nat.zero_le _, by omega, ex2, eR2, rfl⟩
        · rw [if_neg h32] at e2'
          have ap := app_ok (x := wc (sg c, k + 1)) eR2 la2
          unfold wc at ap
          dsimp only at ap
          have q1 : (sg c = " ") = False := by rw [hsp]; exact eq_false h32
          simp only [↓SX1, SX2, List.getElem?_cons_zero, List.getElem?_cons_succ, List.set_cons_zero, List.set_cons_succ, List.map_cons, List.map_nil, List.cons_append, List.nil_append, List.append_nil, List.replicate_succ, List.replicate_zero, List.length_cons, List.length_nil, if_true, if_false, true_and, and_true, and_self, Nat.zero_add, Int.natCast_zero, i0, i1, i2, i3, i4, decide_true, decide_false, Bool.not_true, Bool.not_false, ofString_inj, gt_iff_lt, List.all_cons, List.all_nil, List.any_cons, List.any_nil, Bool.and_true, Bool.true_and, Bool.and_self, Bool.or_false, Bool.false_or, Bool.or_true, Bool.true_or, szOk, mNeg, wipeM, ↓reduceIte, Nat.reduceAdd, Nat.reduceSub, Nat.reduceLeDiff, Int.reduceLT, Int.reduceLE, Int.reduceNeg, Int.reduceAdd, Int.reduceSub, Int.reducePow, Int.reduceEq, Int.reduceLT, Int.reduceMod, Int.reduceDiv, Int.reduceMul, Int.reduceToNat, String.reduceEq, reduceCtorEq, q1, tyl eR2, ek, ap]
          refine ⟨cs, [], k + 1, acc2 ++ [(sg c, k + 1)], _, _, e1, by simpa using e2', Nat.zero_le _, by omega, ex2.set Rle, by rw [gss eR2]; simp [wc], rfl⟩
      by_cases hc : c = 32 ∨ isBr c = true
      · have body := fun h2 acc2 a b c_ => fin h2 acc2 a b c_ hc
        have test : Sd ((sSeq (sIf (tOfE (eBin mNe (eVar 2) (eC (.str "")))) (sExpr (eBM "list" mAppend (eVar 1) (aCons (eTup (aCons (eVar 2) (aCons (eBin mSub (eBin mAdd (eVar 3) (eC (.int 1))) (eCallB mLen (aCons (eVar 2) aNil))) aNil))) aNil))) sNil)
            (sSeq (sSet 2 (eC (.str ""))) (sIf (tOfE (eBin mNe (eVar 4) (eC (.str " ")))) (sExpr (eBM "list" mAppend (eVar 1) (aCons (eTup (aCons (eVar 4) (aCons (eBin mAdd (eVar 3) (eC (.int 1))) aNil))) aNil))) sNil)))
            [some (.str s), some (.ref R), some (.str (ofL cur)), some (.int k), some (.str (sg c))] h') (kI (fun xs ρ h' => ∃ cs cur k acc y3 y4, xs = enumF (cs.map fun c => MV.str (sg c)) k ∧ acc ++ rw1 cs cur k = rowW s ∧ cur.length ≤ k ∧ k + cs.length = s.length + 1 ∧ Ext h h' ∧ h'[R]? = some (.lst (acc.map wc)) ∧ ρ = [some (.str s), some (.ref R), some (.str (ofL cur)), y3, y4]) xs
            (kNext (sRet (eVar 1)) (kFun h (PL ((rowW s).map wc) h)))) := by
          by_cases hn : cur = []
          · have b := body h' acc ex eR (by rw [if_pos hn, List.append_nil])
            have q2 : (ofL cur = "") = True := by rw [hce]; exact eq_true hn
            simp only [↓SX1, SX2, List.getElem?_cons_zero, List.getElem?_cons_succ, List.set_cons_zero, List.set_cons_succ, List.map_cons, List.map_nil, List.cons_append, List.nil_append, List.append_nil, List.replicate_succ, List.replicate_zero, List.length_cons, List.length_nil, if_true, if_false, true_and, and_true, and_self, Nat.zero_add, Int.natCast_zero, i0, i1, i2, i3, i4, decide_true, decide_false, Bool.not_true, Bool.not_false, ofString_inj, gt_iff_lt, List.all_cons, List.all_nil, List.any_cons, List.any_nil, Bool.and_true, Bool.true_and, Bool.and_self, Bool.or_false, Bool.false_or, Bool.or_true, Bool.true_or, szOk, mNeg, wipeM, ↓reduceIte, Nat.reduceAdd, Nat.reduceSub, Nat.reduceLeDiff, Int.reduceLT, Int.reduceLE, Int.reduceNeg, Int.reduceAdd, Int.reduceSub, Int.reducePow, Int.reduceEq, Int.reduceLT, Int.reduceMod, Int.reduceDiv, Int.reduceMul, Int.reduceToNat, String.reduceEq, reduceCtorEq, q2]
            simp only [↓SX1, SX2, List.getElem?_cons_zero, List.getElem?_cons_succ, List.set_cons_zero, List.set_cons_succ, List.map_cons, List.map_nil, List.cons_append, List.nil_append, List.append_nil, List.replicate_succ, List.replicate_zero, List.length_cons, List.length_nil, if_true, if_false, true_and, and_true, and_self, Nat.zero_add, Int.natCast_zero, i0, i1, i2, i3, i4, decide_true, decide_false, Bool.not_true, Bool.not_false, ofString_inj, gt_iff_lt, List.all_cons, List.all_nil, List.any_cons, List.any_nil, Bool.and_true, Bool.true_and, Bool.and_self, Bool.or_false, Bool.false_or, Bool.or_true, Bool.true_or, szOk, mNeg, wipeM, ↓reduceIte, Nat.reduceAdd, Nat.reduceSub, Nat.reduceLeDiff, Int.reduceLT, Int.reduceLE, Int.reduceNeg, Int.reduceAdd, Int.reduceSub, Int.reducePow, Int.reduceEq, Int.reduceLT, Int.reduceMod, Int.reduceDiv, Int.reduceMul, Int.reduceToNat, String.reduceEq, reduceCtorEq] at b
            exact b
          · have ek : (k : Int) + 1 - (cur.length : Int) = ((k + 1 - cur.length : Nat) : Int) := by omega
            have ap := app_ok (x := wc (ofL cur, k + 1 - cur.length)) eR lacc
            unfold wc at ap
            dsimp only at ap
            have b := body (h'.set R (.lst (acc.map wc ++ [.tup [.str (ofL cur), .int ((k + 1 - cur.length : Nat) : Int)]]))) (acc ++ [(ofL cur, k + 1 - cur.length)]) (ex.set Rle) (by rw [gss eR]; simp [wc]) (by rw [if_neg hn])
            have q2 : (ofL cur = "") = False := by rw [hce]; exact eq_false hn
            simp only [↓SX1, SX2, List.getElem?_cons_zero, List.getElem?_cons_succ, List.set_cons_zero, List.set_cons_succ, List.map_cons, List.map_nil, List.cons_append, List.nil_append, List.append_nil, List.replicate_succ, List.replicate_zero, List.length_cons, List.length_nil, if_true, if_false, true_and, and_true, and_self, Nat.zero_add, Int.natCast_zero, i0, i1, i2, i3, i4, decide_true, decide_false, Bool.not_true, Bool.not_false, ofString_inj, gt_iff_lt, List.all_cons, List.all_nil, List.any_cons, List.any_nil, Bool.and_true, Bool.true_and, Bool.and_self, Bool.or_false, Bool.false_or, Bool.or_true, Bool.true_or, szOk, mNeg, wipeM, ↓reduceIte, Nat.reduceAdd, Nat.reduceSub, Nat.reduceLeDiff, Int.reduceLT, Int.reduceLE, Int.reduceNeg, Int.reduceAdd, Int.reduceSub, Int.reducePow, Int.reduceEq, Int.reduceLT, Int.reduceMod, Int.reduceDiv, Int.reduceMul, Int.reduceToNat, String.reduceEq, reduceCtorEq, q2, ty]
            refine ⟨by rw [lcs]; omega, ?_⟩
            rw [lcs, ek]
            simp only [↓SX1, SX2, List.getElem?_cons_zero, List.getElem?_cons_succ, List.set_cons_zero, List.set_cons_succ, List.map_cons, List.map_nil, List.cons_append, List.nil_append, List.append_nil, List.replicate_succ, List.replicate_zero, List.length_cons, List.length_nil, if_true, if_false, true_and, and_true, and_self, Nat.zero_add, Int.natCast_zero, i0, i1, i2, i3, i4, decide_true, decide_false, Bool.not_true, Bool.not_false, ofString_inj, gt_iff_lt, List.all_cons, List.all_nil, List.any_cons, List.any_nil, Bool.and_true, Bool.true_and, Bool.and_self, Bool.or_false, Bool.false_or, Bool.or_true, Bool.true_or, szOk, mNeg, wipeM, ↓reduceIte, Nat.reduceAdd, Nat.reduceSub, Nat.reduceLeDiff, Int.reduceLT, Int.reduceLE, Int.reduceNeg, Int.reduceAdd, Int.reduceSub, Int.reducePow, Int.reduceEq, Int.reduceLT, Int.reduceMod, Int.reduceDiv, Int.reduceMul, Int.reduceToNat, String.reduceEq, reduceCtorEq, ap]
            simp only [↓SX1, SX2, List.getElem?_cons_zero, List.getElem?_cons_succ, List.set_cons_zero, List.set_cons_succ, List.map_cons, List.map_nil, List.cons_append, List.nil_append, List.append_nil, List.replicate_succ, List.replicate_zero, List.length_cons, List.length_nil, if_true, if_false, true_and, and_true, and_self, Nat.zero_add, Int.natCast_zero, i0, i1, i2, i3, i4, decide_true, decide_false, Bool.not_true, Bool.not_false, ofString_inj, gt_iff_lt, List.all_cons, List.all_nil, List.any_cons, List.any_nil, Bool.and_true, Bool.true_and, Bool.and_self, Bool.or_false, Bool.false_or, Bool.or_true, Bool.true_or, szOk, mNeg, wipeM, ↓reduceIte, Nat.reduceAdd, Nat.reduceSub, Nat.reduceLeDiff, Int.reduceLT, Int.reduceLE, Int.reduceNeg, Int.reduceAdd, Int.reduceSub, Int.reducePow, Int.reduceEq, Int.reduceLT, Int.reduceMod, Int.reduceDiv, Int.reduceMul, Int.reduceToNat, String.reduceEq, reduceCtorEq] at b
            exact b
        by_cases h32 : c = 32
        · have q1 : (sg c = " ") = True := by rw [hsp]; exact eq_true h32
          simp only [↓SX1, SX2, List.getElem?_cons_zero, List.getElem?_cons_succ, List.set_cons_zero, List.set_cons_succ, List.map_cons, List.map_nil, List.cons_append, List.nil_append, List.append_nil, List.replicate_succ, List.replicate_zero, List.length_cons, List.length_nil, if_true, if_false, true_and, and_true, and_self, Nat.zero_add, Int.natCast_zero, i0, i1, i2, i3, i4, decide_true, decide_false, Bool.not_true, Bool.not_false, ofString_inj, gt_iff_lt, List.all_cons, List.all_nil, List.any_cons, List.any_nil, Bool.and_true, Bool.true_and, Bool.and_self, Bool.or_false, Bool.false_or, Bool.or_true, Bool.true_or, szOk, mNeg, wipeM, ↓reduceIte, Nat.reduceAdd, Nat.reduceSub, Nat.reduceLeDiff, Int.reduceLT, Int.reduceLE, Int.reduceNeg, Int.reduceAdd, Int.reduceSub, Int.reducePow, Int.reduceEq, Int.reduceLT, Int.reduceMod, Int.reduceDiv, Int.reduceMul, Int.reduceToNat, String.reduceEq, reduceCtorEq, q1]
          simp only [↓SX1, SX2, List.getElem?_cons_zero, List.getElem?_cons_succ, List.set_cons_zero, List.set_cons_succ, List.map_cons, List.map_nil, List.cons_append, List.nil_append, List.append_nil, List.replicate_succ, List.replicate_zero, List.length_cons, List.length_nil, if_true, if_false, true_and, and_true, and_self, Nat.zero_add, Int.natCast_zero, i0, i1, i2, i3, i4, decide_true, decide_false, Bool.not_true, Bool.not_false, ofString_inj, gt_iff_lt, List.all_cons, List.all_nil, List.any_cons, List.any_nil, Bool.and_true, Bool.true_and, Bool.and_self, Bool.or_false, Bool.false_or, Bool.or_true, Bool.true_or, szOk, mNeg, wipeM, ↓reduceIte, Nat.reduceAdd, Nat.reduceSub, Nat.reduceLeDiff, Int.reduceLT, Int.reduceLE, Int.reduceNeg, Int.reduceAdd, Int.reduceSub, Int.reducePow, Int.reduceEq, Int.reduceLT, Int.reduceMod, Int.reduceDiv, Int.reduceMul, Int.reduceToNat, String.reduceEq, reduceCtorEq, q1] at test
          exact test
        · have hb : isBr c = true := hc.resolve_left h32
          have q1 : (sg c = " ") = False := by rw [hsp]; exact eq_false h32
          simp only [↓SX1, SX2, List.getElem?_cons_zero, List.getElem?_cons_succ, List.set_cons_zero, List.set_cons_succ, List.map_cons, List.map_nil, List.cons_append, List.nil_append, List.append_nil, List.replicate_succ, List.replicate_zero, List.length_cons, List.length_nil, if_true, if_false, true_and, and_true, and_self, Nat.zero_add, Int.natCast_zero, i0, i1, i2, i3, i4, decide_true, decide_false, Bool.not_true, Bool.not_false, ofString_inj, gt_iff_lt, List.all_cons, List.all_nil, List.any_cons, List.any_nil, Bool.and_true, Bool.true_and, Bool.and_self, Bool.or_false, Bool.false_or, Bool.or_true, Bool.true_or, szOk, mNeg, wipeM, ↓reduceIte, Nat.reduceAdd, Nat.reduceSub, Nat.reduceLeDiff, Int.reduceLT, Int.reduceLE, Int.reduceNeg, Int.reduceAdd, Int.reduceSub, Int.reducePow, Int.reduceEq, Int.reduceLT, Int.reduceMod, Int.reduceDiv, Int.reduceMul, Int.reduceToNat, String.reduceEq, reduceCtorEq, q1, ↓hin, hb]
          simp only [↓SX1, SX2, List.getElem?_cons_zero, List.getElem?_cons_succ, List.set_cons_zero, List.set_cons_succ, List.map_cons, List.map_nil, List.cons_append, List.nil_append, List.append_nil, List.replicate_succ, List.replicate_zero, List.length_cons, List.length_nil, if_true, if_false, true_and, and_true, and_self, Nat.zero_add, Int.natCast_zero, i0, i1, i2, i3, i4, decide_true, decide_false, Bool.not_true, Bool.not_false, ofString_inj, gt_iff_lt, List.all_cons, List.all_nil, List.any_cons, List.any_nil, Bool.and_true, Bool.true_and, Bool.and_self, Bool.or_false, Bool.false_or, Bool.or_true, Bool.true_or, szOk, mNeg, wipeM, ↓reduceIte, Nat.reduceAdd, Nat.reduceSub, Nat.reduceLeDiff, Int.reduceLT, Int.reduceLE, Int.reduceNeg, Int.reduceAdd, Int.reduceSub, Int.reducePow, Int.reduceEq, Int.reduceLT, Int.reduceMod, Int.reduceDiv, Int.reduceMul, Int.reduceToNat, String.reduceEq, reduceCtorEq, q1] at test
          exact test
      · have h32 : ¬ c = 32 := fun z => hc (.inl z)
        have hb : isBr c = false := by cases e : isBr c with | false => rfl | true => exact absurd (.inr e) hc
        rw [rw1, if_neg hc] at e2
        have q1 : (sg c = " ") = False := by rw [hsp]; exact eq_false h32
        simp only [↓SX1, SX2, List.getElem?_cons_zero, List.getElem?_cons_succ, List.set_cons_zero, List.set_cons_succ, List.map_cons, List.map_nil, List.cons_append, List.nil_append, List.append_nil, List.replicate_succ, List.replicate_zero, List.length_cons, List.length_nil, if_true, if_false, true_and, and_true, and_self, Nat.zero_add, Int.natCast_zero, i0, i1, i2, i3, i4, decide_true, decide_false, Bool.not_true, Bool.not_false, ofString_inj, gt_iff_lt, List.all_cons, List.all_nil, List.any_cons, List.any_nil, Bool.and_true, Bool.true_and, Bool.and_self, Bool.or_false, Bool.false_or, Bool.or_true, Bool.true_or, szOk, mNeg, wipeM, ↓reduceIte, Nat.reduceAdd, Nat.reduceSub, Nat.reduceLeDiff, Int.reduceLT, Int.reduceLE, Int.reduceNeg, Int.reduceAdd, Int.reduceSub, Int.reducePow, Int.reduceEq, Int.reduceLT, Int.reduceMod, Int.reduceDiv, Int.reduceMul, Int.reduceToNat, String.reduceEq, reduceCtorEq, q1, ↓hin, hb]
        refine ⟨by rw [lcs]; show _ + 1 ≤ _; omega, ?_⟩
        refine ⟨cs, cur ++ [c], k + 1, acc, some (.int k), some (.str (sg c)), e1, e2, by simp; omega, by omega, ex, eR, ?_⟩
        rw [ofL_app]
        rfl
  · rintro ρ h' ⟨cs, cur, k, acc, y3, y4, e1, e2, lc, lk, ex, eR, rfl⟩
    cases cs with
    | cons c cs => rw [List.map_cons, enumF_cons] at e1; cases e1
    | nil =>
      rw [rw1, List.append_nil] at e2
      subst e2
      simp only [↓SX1, SX2, List.getElem?_cons_zero, List.getElem?_cons_succ, List.set_cons_zero, List.set_cons_succ, List.map_cons, List.map_nil, List.cons_append, List.nil_append, List.append_nil, List.replicate_succ, List.replicate_zero, List.length_cons, List.length_nil, if_true, if_false, true_and, and_true, and_self, Nat.zero_add, Int.natCast_zero, i0, i1, i2, i3, i4, decide_true, decide_false, Bool.not_true, Bool.not_false, ofString_inj, gt_iff_lt, List.all_cons, List.all_nil, List.any_cons, List.any_nil, Bool.and_true, Bool.true_and, Bool.and_self, Bool.or_false, Bool.false_or, Bool.or_true, Bool.true_or, szOk, mNeg, wipeM, ↓reduceIte, Nat.reduceAdd, Nat.reduceSub, Nat.reduceLeDiff, Int.reduceLT, Int.reduceLE, Int.reduceNeg, Int.reduceAdd, Int.reduceSub, Int.reducePow, Int.reduceEq, Int.reduceLT, Int.reduceMod, Int.reduceDiv, Int.reduceMul, Int.reduceToNat, String.reduceEq, reduceCtorEq]
      exact PL.ret ex (by omega) eR
end My

set_option Elab.async false
set_option linter.all false
set_option maxRecDepth 100000
set_option maxHeartbeats 4000000
namespace My
open PySem L2 Sm
def w3 (p : Str × Nat × Nat) : MV := .tup [.str p.1, .int p.2.1, .int p.2.2]
/-- the words of all rows, the first one's number is k + 1 -/
def allW : List Str → Nat → List (Str × Nat × Nat)
  | [], _ => []
  | r :: rs, k => (rowW r).map (fun p => (p.1, k + 1, p.2)) ++ allW rs (k + 1)
def rowOk (r : Str) : Prop := r.length ≤ 120 ∧ ∀ p, p ∈ rowW r → p.2 ≤ 120 ∧ 1 ≤ p.1.length ∧ p.1.length ≤ 1000 ∧ True
theorem rowW_len (s : Str) : (rowW s).length ≤ 2 * (s.length + 1) := by
  have := rw1_len (s.cps.toList ++ [32]) [] 0
  simp only [List.length_append, List.length_cons, List.length_nil] at this
  have e : s.cps.toList.length = s.length := by simp [Str.length]
  unfold rowW
  omega
/-- whether a word fits, either way -/
theorem word_all {w : Str} (h1 : 1 ≤ w.length) (hl : w.length ≤ 1000) (h : MH) : m_is_word [.str w] h = .ok (.bl (pWord w)) h := by
  cases hw : pWord w with
  | true => exact word_fits h1 hl hw h
  | false =>
    unfold m_is_word
    refine e_fun rfl ?_
    unfold b_is_word
    have g1 : Eq2 (MV.bl false) h (.bl false) (gc h (.bl false) h) := by rw [gB]
    have n1 : mIn (.str w) c_OPERATORS h = .ok (.bl (decide (w ∈ opers))) h := in_tup w opers h
    have n2 : mIn (.str w) (.tup [.str ":=", .str ":"]) h = .ok (.bl (decide (w ∈ ([":=", ":"] : List Str)))) h := in_tup w [":=", ":"] h
    have lt : (tl1 w).length ≤ 1000 := by have := tl_len (w := w); omega
    unfold pWord at hw
    simp only [Bool.or_eq_false_iff] at hw
    obtain ⟨⟨⟨hb, ho⟩, hc⟩, hw⟩ := hw
    have ho := of_decide_eq_false ho
    have hc := of_decide_eq_false hc
    simp only [↓SX1, SX2, List.getElem?_cons_zero, List.getElem?_cons_succ, List.set_cons_zero, List.set_cons_succ, List.map_cons, List.map_nil, List.cons_append, List.nil_append, List.append_nil, List.replicate_succ, List.replicate_zero, List.length_cons, List.length_nil, if_true, if_false, true_and, and_true, and_self, Nat.zero_add, Int.natCast_zero, i0, i1, i2, i3, i4, decide_true, decide_false, Bool.not_true, Bool.not_false, ofString_inj, gt_iff_lt, List.all_cons, List.all_nil, List.any_cons, List.any_nil, Bool.and_true, Bool.true_and, Bool.and_self, Bool.or_false, Bool.false_or, Bool.or_true, Bool.true_or, szOk, mNeg, wipeM, ↓reduceIte, Nat.reduceAdd, Nat.reduceSub, Nat.reduceLeDiff, Int.reduceLT, Int.reduceLE, Int.reduceNeg, Int.reduceAdd, Int.reduceSub, Int.reducePow, Int.reduceEq, Int.reduceLT, Int.reduceMod, Int.reduceDiv, Int.reduceMul, Int.reduceToNat, String.reduceEq, reduceCtorEq, c_BRACKETS, in_s, hb, ↓n1, ho, ↓n2, hc, ix0 hl h1]
    by_cases ha : at0 w = "@"
    · rw [if_pos ha] at hw
      simp only [↓SX1, SX2, List.getElem?_cons_zero, List.getElem?_cons_succ, List.set_cons_zero, List.set_cons_succ, List.map_cons, List.map_nil, List.cons_append, List.nil_append, List.append_nil, List.replicate_succ, List.replicate_zero, List.length_cons, List.length_nil, if_true, if_false, true_and, and_true, and_self, Nat.zero_add, Int.natCast_zero, i0, i1, i2, i3, i4, decide_true, decide_false, Bool.not_true, Bool.not_false, ofString_inj, gt_iff_lt, List.all_cons, List.all_nil, List.any_cons, List.any_nil, Bool.and_true, Bool.true_and, Bool.and_self, Bool.or_false, Bool.false_or, Bool.or_true, Bool.true_or, szOk, mNeg, wipeM, ↓reduceIte, Nat.reduceAdd, Nat.reduceSub, Nat.reduceLeDiff, Int.reduceLT, Int.reduceLE, Int.reduceNeg, Int.reduceAdd, Int.reduceSub, Int.reducePow, Int.reduceEq, Int.reduceLT, Int.reduceMod, Int.reduceDiv, Int.reduceMul, Int.reduceToNat, String.reduceEq, reduceCtorEq, ha]
      refine ⟨by omega, ?_⟩
      by_cases l2 : (1 : Int) < (w.length : Int)
      · have l3 : 1 < w.length := by omega
        rw [decide_eq_true l3, Bool.true_and] at hw
        simp only [↓SX1, SX2, List.getElem?_cons_zero, List.getElem?_cons_succ, List.set_cons_zero, List.set_cons_succ, List.map_cons, List.map_nil, List.cons_append, List.nil_append, List.append_nil, List.replicate_succ, List.replicate_zero, List.length_cons, List.length_nil, if_true, if_false, true_and, and_true, and_self, Nat.zero_add, Int.natCast_zero, i0, i1, i2, i3, i4, decide_true, decide_false, Bool.not_true, Bool.not_false, ofString_inj, gt_iff_lt, List.all_cons, List.all_nil, List.any_cons, List.any_nil, Bool.and_true, Bool.true_and, Bool.and_self, Bool.or_false, Bool.false_or, Bool.or_true, Bool.true_or, szOk, mNeg, wipeM, ↓reduceIte, Nat.reduceAdd, Nat.reduceSub, Nat.reduceLeDiff, Int.reduceLT, Int.reduceLE, Int.reduceNeg, Int.reduceAdd, Int.reduceSub, Int.reducePow, Int.reduceEq, Int.reduceLT, Int.reduceMod, Int.reduceDiv, Int.reduceMul, Int.reduceToNat, String.reduceEq, reduceCtorEq, l2, sl_t hl, small_ok lt h, hw, g1]
      · simp only [↓SX1, SX2, List.getElem?_cons_zero, List.getElem?_cons_succ, List.set_cons_zero, List.set_cons_succ, List.map_cons, List.map_nil, List.cons_append, List.nil_append, List.append_nil, List.replicate_succ, List.replicate_zero, List.length_cons, List.length_nil, if_true, if_false, true_and, and_true, and_self, Nat.zero_add, Int.natCast_zero, i0, i1, i2, i3, i4, decide_true, decide_false, Bool.not_true, Bool.not_false, ofString_inj, gt_iff_lt, List.all_cons, List.all_nil, List.any_cons, List.any_nil, Bool.and_true, Bool.true_and, Bool.and_self, Bool.or_false, Bool.false_or, Bool.or_true, Bool.true_or, szOk, mNeg, wipeM, ↓reduceIte, Nat.reduceAdd, Nat.reduceSub, Nat.reduceLeDiff, Int.reduceLT, Int.reduceLE, Int.reduceNeg, Int.reduceAdd, Int.reduceSub, Int.reducePow, Int.reduceEq, Int.reduceLT, Int.reduceMod, Int.reduceDiv, Int.reduceMul, Int.reduceToNat, String.reduceEq, reduceCtorEq, l2, g1]
    · rw [if_neg ha] at hw
      simp only [↓SX1, SX2, List.getElem?_cons_zero, List.getElem?_cons_succ, List.set_cons_zero, List.set_cons_succ, List.map_cons, List.map_nil, List.cons_append, List.nil_append, List.append_nil, List.replicate_succ, List.replicate_zero, List.length_cons, List.length_nil, if_true, if_false, true_and, and_true, and_self, Nat.zero_add, Int.natCast_zero, i0, i1, i2, i3, i4, decide_true, decide_false, Bool.not_true, Bool.not_false, ofString_inj, gt_iff_lt, List.all_cons, List.all_nil, List.any_cons, List.any_nil, Bool.and_true, Bool.true_and, Bool.and_self, Bool.or_false, Bool.false_or, Bool.or_true, Bool.true_or, szOk, mNeg, wipeM, ↓reduceIte, Nat.reduceAdd, Nat.reduceSub, Nat.reduceLeDiff, Int.reduceLT, Int.reduceLE, Int.reduceNeg, Int.reduceAdd, Int.reduceSub, Int.reducePow, Int.reduceEq, Int.reduceLT, Int.reduceMod, Int.reduceDiv, Int.reduceMul, Int.reduceToNat, String.reduceEq, reduceCtorEq, ha, ix0 hl h1]
      by_cases hq : at0 w = "'"
      · rw [if_pos hq] at hw
        simp only [↓SX1, SX2, List.getElem?_cons_zero, List.getElem?_cons_succ, List.set_cons_zero, List.set_cons_succ, List.map_cons, List.map_nil, List.cons_append, List.nil_append, List.append_nil, List.replicate_succ, List.replicate_zero, List.length_cons, List.length_nil, if_true, if_false, true_and, and_true, and_self, Nat.zero_add, Int.natCast_zero, i0, i1, i2, i3, i4, decide_true, decide_false, Bool.not_true, Bool.not_false, ofString_inj, gt_iff_lt, List.all_cons, List.all_nil, List.any_cons, List.any_nil, Bool.and_true, Bool.true_and, Bool.and_self, Bool.or_false, Bool.false_or, Bool.or_true, Bool.true_or, szOk, mNeg, wipeM, ↓reduceIte, Nat.reduceAdd, Nat.reduceSub, Nat.reduceLeDiff, Int.reduceLT, Int.reduceLE, Int.reduceNeg, Int.reduceAdd, Int.reduceSub, Int.reducePow, Int.reduceEq, Int.reduceLT, Int.reduceMod, Int.reduceDiv, Int.reduceMul, Int.reduceToNat, String.reduceEq, reduceCtorEq, hq, sl_t hl, text_ok lt h, hw, g1]
      · rw [if_neg hq] at hw
        simp only [Bool.or_eq_false_iff] at hw
        simp only [↓SX1, SX2, List.getElem?_cons_zero, List.getElem?_cons_succ, List.set_cons_zero, List.set_cons_succ, List.map_cons, List.map_nil, List.cons_append, List.nil_append, List.append_nil, List.replicate_succ, List.replicate_zero, List.length_cons, List.length_nil, if_true, if_false, true_and, and_true, and_self, Nat.zero_add, Int.natCast_zero, i0, i1, i2, i3, i4, decide_true, decide_false, Bool.not_true, Bool.not_false, ofString_inj, gt_iff_lt, List.all_cons, List.all_nil, List.any_cons, List.any_nil, Bool.and_true, Bool.true_and, Bool.and_self, Bool.or_false, Bool.false_or, Bool.or_true, Bool.true_or, szOk, mNeg, wipeM, ↓reduceIte, Nat.reduceAdd, Nat.reduceSub, Nat.reduceLeDiff, Int.reduceLT, Int.reduceLE, Int.reduceNeg, Int.reduceAdd, Int.reduceSub, Int.reducePow, Int.reduceEq, Int.reduceLT, Int.reduceMod, Int.reduceDiv, Int.reduceMul, Int.reduceToNat, String.reduceEq, reduceCtorEq, hq, small_ok hl h, hw.1.1, kind_ok hl h, hw.1.2, fig_ok hl h, hw.2, g1]
/-- all words fit -/
def SG (W : List (Str × Nat × Nat)) (h : MH) (v : MV) (h' : MH) : Prop := ∃ n, v = .tup [.ref n, .non] ∧ h.length ≤ n ∧ Ext h h' ∧ h'[n]? = some (.lst (W.map w3)) ∧ ∀ p, p ∈ W → pWord p.1 = true
/-- the first that doesn't -/
def SB (W : List (Str × Nat × Nat)) (h : MH) (v : MV) (h' : MH) : Prop := ∃ (n : Nat) (as : List (Str × Nat × Nat)) (w : Str) (r c : Nat) (bs : List (Str × Nat × Nat)), v = .tup [.ref n, .tup [.int r, .int c]] ∧ Ext h h' ∧ W = as ++ (w, r, c) :: bs ∧ (∀ p, p ∈ as → pWord p.1 = true) ∧ pWord w = false ∧ r ≤ 300 ∧ c ≤ 120
def SP (W : List (Str × Nat × Nat)) (h : MH) (v : MV) (h' : MH) : Prop := SG W h v h' ∨ SB W h v h'
theorem scanned_ok {text : Str} {rows : List Str} (hs : Txt.split text "\n" = rows) (hl : text.length ≤ 900000) (hn : rows.length ≤ 300) (hr : ∀ r, r ∈ rows → rowOk r) (h : MH) : Wp (m_scanned [.str text] h) (SP (allW rows 0) h) := by
  unfold m_scanned
  refine m_fun rfl ?_
  unfold b_scanned
  obtain ⟨R, hR⟩ : ∃ R, R = h.length := ⟨_, rfl⟩
  have esp : mSplit (.str text) [.str "\n"] (h ++ [.lst []]) = .ok (.ref (R + 1)) (h ++ [.lst []] ++ [.lst (rows.map MV.str)]) := by
    unfold mSplit
    dsimp only
    rw [if_pos ⟨by decide, by omega⟩, hs, hR]
    simp
  have eg : (h ++ [.lst []] ++ [MO.lst (rows.map MV.str)])[R + 1]? = some (.lst (rows.map MV.str)) := by
    have : R + 1 = (h ++ [MO.lst []]).length := by rw [hR]; simp
    rw [this]; exact gnew
  simp only [↓SX1, SX2, List.getElem?_cons_zero, List.getElem?_cons_succ, List.set_cons_zero, List.set_cons_succ, List.map_cons, List.map_nil, List.cons_append, List.nil_append, List.append_nil, List.replicate_succ, List.replicate_zero, List.length_cons, List.length_nil, if_true, if_false, true_and, and_true, and_self, Nat.zero_add, Int.natCast_zero, i0, i1, i2, i3, i4, decide_true, decide_false, Bool.not_true, Bool.not_false, ofString_inj, gt_iff_lt, List.all_cons, List.all_nil, List.any_cons, List.any_nil, Bool.and_true, Bool.true_and, Bool.and_self, Bool.or_false, Bool.false_or, Bool.or_true, Bool.true_or, szOk, mNeg, wipeM, ↓reduceIte, Nat.reduceAdd, Nat.reduceSub, Nat.reduceLeDiff, Int.reduceLT, Int.reduceLE, Int.reduceNeg, Int.reduceAdd, Int.reduceSub, Int.reducePow, Int.reduceEq, Int.reduceLT, Int.reduceMod, Int.reduceDiv, Int.reduceMul, Int.reduceToNat, String.reduceEq, reduceCtorEq, esp, eg]
  rw [enumM_F]
  rw [← hR]
  refine s_for (fun xs ρ h' => ∃ as rs k acc y2 y3 y4 y5, rows = as ++ rs ∧ xs = enumF (rs.map MV.str) k ∧ k = as.length ∧ acc ++ allW rs k = allW rows 0 ∧ acc.length ≤ 300 * k ∧ (∀ p, p ∈ acc → pWord p.1 = true) ∧ Ext h h' ∧ h'[R]? = some (.lst (acc.map w3)) ∧ h'[R + 1]? = some (.lst (rows.map MV.str)) ∧ ρ = [some (.str text), some (.ref R), y2, y3, y4, y5]) (fun _ _ h' ⟨_, _, _, _, _, _, _, _, _, _, _, _, _, _, _, _, e, _⟩ g z => by simp only [List.mem_singleton] at z; subst z; exact e) ?_ ?_ _ _ _ ⟨[], rows, 0, [], none, none, none, none, rfl, rfl, rfl, rfl, by simp, (fun p hp => by cases hp), Ext.app.trans .app, by rw [hR]; exact gap gnew, eg, rfl⟩
  · rintro x xs ρ h' ⟨as, rs, k, acc, y2, y3, y4, y5, e0, e1, ek, e2, la, fit, ex, eR, eS, rfl⟩
    cases rs with
    | nil => simp [enumF] at e1
    | cons r rs =>
      rw [List.map_cons, enumF_cons] at e1
      simp only [List.cons.injEq] at e1
      obtain ⟨rfl, e1⟩ := e1
      refine ⟨[some (.str text), some (.ref R), some (.int k), some (.str r), y4, y5], rfl, ?_⟩
      have kl : k < 300 := by
        have := congrArg List.length e0
        simp only [List.length_append, List.length_cons] at this
        omega
      have rk := hr r (by simp [e0])
      have k4 : ((k : Int) = 300) = False := by simp; omega
      simp only [↓SX1, SX2, List.getElem?_cons_zero, List.getElem?_cons_succ, List.set_cons_zero, List.set_cons_succ, List.map_cons, List.map_nil, List.cons_append, List.nil_append, List.append_nil, List.replicate_succ, List.replicate_zero, List.length_cons, List.length_nil, if_true, if_false, true_and, and_true, and_self, Nat.zero_add, Int.natCast_zero, i0, i1, i2, i3, i4, decide_true, decide_false, Bool.not_true, Bool.not_false, ofString_inj, gt_iff_lt, List.all_cons, List.all_nil, List.any_cons, List.any_nil, Bool.and_true, Bool.true_and, Bool.and_self, Bool.or_false, Bool.false_or, Bool.or_true, Bool.true_or, szOk, mNeg, wipeM, ↓reduceIte, Nat.reduceAdd, Nat.reduceSub, Nat.reduceLeDiff, Int.reduceLT, Int.reduceLE, Int.reduceNeg, Int.reduceAdd, Int.reduceSub, Int.reducePow, Int.reduceEq, Int.reduceLT, Int.reduceMod, Int.reduceDiv, Int.reduceMul, Int.reduceToNat, String.reduceEq, reduceCtorEq, c_ROWS, k4]
      refine (row_words_ok (s := r) (by have := rk.1; omega) h').gd fun y h2 => ?_
      rintro ⟨m, rfl, lm, x2, em⟩
      have Rl := lt_of_get eR
      have Sl := lt_of_get eS
      have eR2 := x2.get eR
      have eS2 := x2.get eS
      simp only [↓SX1, SX2, List.getElem?_cons_zero, List.getElem?_cons_succ, List.set_cons_zero, List.set_cons_succ, List.map_cons, List.map_nil, List.cons_append, List.nil_append, List.append_nil, List.replicate_succ, List.replicate_zero, List.length_cons, List.length_nil, if_true, if_false, true_and, and_true, and_self, Nat.zero_add, Int.natCast_zero, i0, i1, i2, i3, i4, decide_true, decide_false, Bool.not_true, Bool.not_false, ofString_inj, gt_iff_lt, List.all_cons, List.all_nil, List.any_cons, List.any_nil, Bool.and_true, Bool.true_and, Bool.and_self, Bool.or_false, Bool.false_or, Bool.or_true, Bool.true_or, szOk, mNeg, wipeM, ↓reduceIte, Nat.reduceAdd, Nat.reduceSub, Nat.reduceLeDiff, Int.reduceLT, Int.reduceLE, Int.reduceNeg, Int.reduceAdd, Int.reduceSub, Int.reducePow, Int.reduceEq, Int.reduceLT, Int.reduceMod, Int.reduceDiv, Int.reduceMul, Int.reduceToNat, String.reduceEq, reduceCtorEq, em]
      have ek1 : (k : Int) + 1 = ((k + 1 : Nat) : Int) := by push_cast; rfl
      have lr := rowW_len r
      refine s_for (fun xs ρ h3 => ∃ ps qs acc' y4 y5, rowW r = ps ++ qs ∧ xs = qs.map wc ∧ acc' = acc ++ ps.map (fun p => (p.1, k + 1, p.2)) ∧ (∀ p, p ∈ acc' → pWord p.1 = true) ∧ Ext h h3 ∧ h3[R]? = some (.lst (acc'.map w3)) ∧ h3[R + 1]? = some (.lst (rows.map MV.str)) ∧ h3[m]? = some (.lst ((rowW r).map wc)) ∧ ρ = [some (.str text), some (.ref R), some (.int k), some (.str r), y4, y5]) (fun _ _ h' ⟨_, _, _, _, _, _, _, _, _, _, _, _, e, _⟩ g z => by simp only [List.mem_singleton] at z; subst z; exact e) ?_ ?_ _ _ _ ⟨[], rowW r, acc, y4, y5, rfl, rfl, by simp, fit, ex.trans x2, eR2, eS2, em, rfl⟩
      · rintro x xs ρ h3 ⟨ps, qs, acc', y4, y5, f1, f2, f3, f4, fx, fR, fS, fm, rfl⟩
        cases qs with
        | nil => simp at f2
        | cons q qs =>
          simp only [List.map_cons, List.cons.injEq] at f2
          obtain ⟨rfl, f2⟩ := f2
          obtain ⟨w, c⟩ := q
          refine ⟨[some (.str text), some (.ref R), some (.int k), some (.str r), some (.str w), some (.int c)], rfl, ?_⟩
          obtain ⟨q1, q2, q3, _⟩ := rk.2 (w, c) (by simp [f1])
          have q1 : c ≤ 120 := q1
          have wf : m_is_word [.str w] h3 = .ok (.bl (pWord w)) h3 := word_all q2 q3 h3
          have c1 : ¬ (120 : Int) < (c : Int) := by omega
          have lps : ps.length ≤ (rowW r).length := by rw [f1]; simp
          have la' : (acc'.map w3).length < 1000000 := by rw [List.length_map, f3, List.length_append, List.length_map]; have := rk.1; omega
          have ap := app_ok (x := w3 (w, k + 1, c)) fR la'
          unfold w3 at ap
          dsimp only at ap
          cases pw : pWord w with
          | true =>
            rw [pw] at wf
            simp only [↓SX1, SX2, List.getElem?_cons_zero, List.getElem?_cons_succ, List.set_cons_zero, List.set_cons_succ, List.map_cons, List.map_nil, List.cons_append, List.nil_append, List.append_nil, List.replicate_succ, List.replicate_zero, List.length_cons, List.length_nil, if_true, if_false, true_and, and_true, and_self, Nat.zero_add, Int.natCast_zero, i0, i1, i2, i3, i4, decide_true, decide_false, Bool.not_true, Bool.not_false, ofString_inj, gt_iff_lt, List.all_cons, List.all_nil, List.any_cons, List.any_nil, Bool.and_true, Bool.true_and, Bool.and_self, Bool.or_false, Bool.false_or, Bool.or_true, Bool.true_or, szOk, mNeg, wipeM, ↓reduceIte, Nat.reduceAdd, Nat.reduceSub, Nat.reduceLeDiff, Int.reduceLT, Int.reduceLE, Int.reduceNeg, Int.reduceAdd, Int.reduceSub, Int.reducePow, Int.reduceEq, Int.reduceLT, Int.reduceMod, Int.reduceDiv, Int.reduceMul, Int.reduceToNat, String.reduceEq, reduceCtorEq, c_COLUMNS, c1, wf, tyl fR, ek1, ap]
            refine ⟨ps ++ [(w, c)], qs, acc' ++ [(w, k + 1, c)], _, _, by simp [f1], f2, by simp [f3], ?_, fx.set (by omega), by rw [gss fR]; simp [w3], by rw [gsn (by omega)]; exact fS, by rw [gsn (by omega)]; exact fm, rfl⟩
            intro p hp
            rcases List.mem_append.mp hp with hp | hp
            · exact f4 p hp
            · rw [List.mem_singleton] at hp; subst hp; exact pw
          | false =>
            rw [pw] at wf
            have mn : mMin [.int c, .int 121] h3 = .ok (.int c) h3 := by
              unfold mMin
              have : ¬ (121 : Int) < (c : Int) := by omega
              simp [this]
            simp only [↓SX1, SX2, List.getElem?_cons_zero, List.getElem?_cons_succ, List.set_cons_zero, List.set_cons_succ, List.map_cons, List.map_nil, List.cons_append, List.nil_append, List.append_nil, List.replicate_succ, List.replicate_zero, List.length_cons, List.length_nil, if_true, if_false, true_and, and_true, and_self, Nat.zero_add, Int.natCast_zero, i0, i1, i2, i3, i4, decide_true, decide_false, Bool.not_true, Bool.not_false, ofString_inj, gt_iff_lt, List.all_cons, List.all_nil, List.any_cons, List.any_nil, Bool.and_true, Bool.true_and, Bool.and_self, Bool.or_false, Bool.false_or, Bool.or_true, Bool.true_or, szOk, mNeg, wipeM, ↓reduceIte, Nat.reduceAdd, Nat.reduceSub, Nat.reduceLeDiff, Int.reduceLT, Int.reduceLE, Int.reduceNeg, Int.reduceAdd, Int.reduceSub, Int.reducePow, Int.reduceEq, Int.reduceLT, Int.reduceMod, Int.reduceDiv, Int.reduceMul, Int.reduceToNat, String.reduceEq, reduceCtorEq, c_COLUMNS, c1, wf, ek1, mn]
            rw [gc_new' (by simp [bel, bels]; omega)]
            refine .inr ⟨R, acc', w, k + 1, c, qs.map (fun p => (p.1, k + 1, p.2)) ++ allW rs (k + 1), rfl, fx, ?_, f4, pw, by omega, q1⟩
            rw [← e2, f3, allW, f1]; simp
      · rintro ρ h3 ⟨ps, qs, acc', y4, y5, f1, f2, f3, f4, fx, fR, fS, fm, rfl⟩
        cases qs with
        | cons q qs => simp at f2
        | nil =>
          rw [List.append_nil] at f1
          have c2 : ¬ (120 : Int) < (r.length : Int) := by have := rk.1; omega
          simp only [↓SX1, SX2, List.getElem?_cons_zero, List.getElem?_cons_succ, List.set_cons_zero, List.set_cons_succ, List.map_cons, List.map_nil, List.cons_append, List.nil_append, List.append_nil, List.replicate_succ, List.replicate_zero, List.length_cons, List.length_nil, if_true, if_false, true_and, and_true, and_self, Nat.zero_add, Int.natCast_zero, i0, i1, i2, i3, i4, decide_true, decide_false, Bool.not_true, Bool.not_false, ofString_inj, gt_iff_lt, List.all_cons, List.all_nil, List.any_cons, List.any_nil, Bool.and_true, Bool.true_and, Bool.and_self, Bool.or_false, Bool.false_or, Bool.or_true, Bool.true_or, szOk, mNeg, wipeM, ↓reduceIte, Nat.reduceAdd, Nat.reduceSub, Nat.reduceLeDiff, Int.reduceLT, Int.reduceLE, Int.reduceNeg, Int.reduceAdd, Int.reduceSub, Int.reducePow, Int.reduceEq, Int.reduceLT, Int.reduceMod, Int.reduceDiv, Int.reduceMul, Int.reduceToNat, String.reduceEq, reduceCtorEq, c_COLUMNS]
          refine ⟨by have := rk.1; omega, ?_⟩
          simp only [↓SX1, SX2, List.getElem?_cons_zero, List.getElem?_cons_succ, List.set_cons_zero, List.set_cons_succ, List.map_cons, List.map_nil, List.cons_append, List.nil_append, List.append_nil, List.replicate_succ, List.replicate_zero, List.length_cons, List.length_nil, if_true, if_false, true_and, and_true, and_self, Nat.zero_add, Int.natCast_zero, i0, i1, i2, i3, i4, decide_true, decide_false, Bool.not_true, Bool.not_false, ofString_inj, gt_iff_lt, List.all_cons, List.all_nil, List.any_cons, List.any_nil, Bool.and_true, Bool.true_and, Bool.and_self, Bool.or_false, Bool.false_or, Bool.or_true, Bool.true_or, szOk, mNeg, wipeM, ↓reduceIte, Nat.reduceAdd, Nat.reduceSub, Nat.reduceLeDiff, Int.reduceLT, Int.reduceLE, Int.reduceNeg, Int.reduceAdd, Int.reduceSub, Int.reducePow, Int.reduceEq, Int.reduceLT, Int.reduceMod, Int.reduceDiv, Int.reduceMul, Int.reduceToNat, String.reduceEq, reduceCtorEq, c2]
          refine ⟨as ++ [r], rs, k + 1, acc', _, _, _, _, by simp [e0], e1, by simp [ek], ?_, ?_, f4, fx, fR, fS, rfl⟩
          · rw [← e2, f3, allW, f1]; simp
          · rw [f3, List.length_append, List.length_map, ← f1]; have := rk.1; omega
  · rintro ρ h' ⟨as, rs, k, acc, y2, y3, y4, y5, e0, e1, ek, e2, la, fit, ex, eR, eS, rfl⟩
    cases rs with
    | cons r rs => rw [List.map_cons, enumF_cons] at e1; cases e1
    | nil =>
      rw [allW, List.append_nil] at e2
      subst e2
      simp only [↓SX1, SX2, List.getElem?_cons_zero, List.getElem?_cons_succ, List.set_cons_zero, List.set_cons_succ, List.map_cons, List.map_nil, List.cons_append, List.nil_append, List.append_nil, List.replicate_succ, List.replicate_zero, List.length_cons, List.length_nil, if_true, if_false, true_and, and_true, and_self, Nat.zero_add, Int.natCast_zero, i0, i1, i2, i3, i4, decide_true, decide_false, Bool.not_true, Bool.not_false, ofString_inj, gt_iff_lt, List.all_cons, List.all_nil, List.any_cons, List.any_nil, Bool.and_true, Bool.true_and, Bool.and_self, Bool.or_false, Bool.false_or, Bool.or_true, Bool.true_or, szOk, mNeg, wipeM, ↓reduceIte, Nat.reduceAdd, Nat.reduceSub, Nat.reduceLeDiff, Int.reduceLT, Int.reduceLE, Int.reduceNeg, Int.reduceAdd, Int.reduceSub, Int.reducePow, Int.reduceEq, Int.reduceLT, Int.reduceMod, Int.reduceDiv, Int.reduceMul, Int.reduceToNat, String.reduceEq, reduceCtorEq]
      rw [gc_new' (by simp [bel, bels]; omega)]
      exact .inl ⟨R, rfl, by omega, ex, eR, fit⟩
end My

set_option Elab.async false
set_option linter.all false
namespace My
open PySem L2 Sm
theorem len_app (a b : Str) : (a ++ b).length = a.length + b.length := Str.length_append a b
end My

set_option Elab.async false
set_option linter.all false
set_option maxRecDepth 100000
set_option maxHeartbeats 4000000
namespace My
open PySem L2 Sm
/-! ### the deck -/
def Row (r : List Int) : Prop := ∀ n, n ∈ r → 0 ≤ n ∧ n < 2147483648
def rowO (r : List Int) : MO := .lst (r.map MV.int)
def Dk (r : List Int) (c : Nat) (b : Int) (g : MH) : MH := rowO r :: .lst [.int c, .ref 0, .int b] :: g
theorem pow18 (h : MH) : mPow (.int 10) (.int 18) h = .ok (.int 1000000000000000000) h := by
  unfold mPow
  simp only []
  rw [if_pos ⟨by decide, by decide, by unfold lowI; decide⟩]
  rfl
theorem Row.snoc {r : List Int} {n : Int} (h : Row r) (h0 : 0 ≤ n) (h1 : n < 2147483648) : Row (r ++ [n]) := by
  intro m hm
  simp only [List.mem_append, List.mem_singleton] at hm
  rcases hm with hm | rfl
  · exact h m hm
  · exact ⟨h0, h1⟩
theorem app_row {r : List Int} {n : Int} {g : MH} (hl : r.length < 1000000) : mAppend (.ref 0) [.int n] (rowO r :: g) = .ok .non (rowO (r ++ [n]) :: g) := by
  simp [rowO, hl]
theorem low {i : Int} (h0 : -18446744073709551616 < i) (h1 : i < 18446744073709551616) : lowI i := by unfold lowI; omega
theorem deck_ok (ns : List Int) : ∃ r, Row r ∧ m_law_deck [.scr (ns.map MV.int)] [] = .ok (.ref 1) (Dk r 0 70 []) := by
  suffices H : Wp (m_law_deck [.scr (ns.map MV.int)] []) fun v h => ∃ r, Row r ∧ v = .ref 1 ∧ h = Dk r 0 70 [] by
    obtain ⟨v, h, e, r, h1, rfl, rfl⟩ := H.ex
    exact ⟨r, h1, e⟩
  unfold m_law_deck
  refine wp_fun rfl ?_
  unfold b_law_deck
  refine ws_seq ?_
  simp only [sSet, eNew, lDisp, aNil, Res.bind_ok, List.length_nil, szOk, Nat.zero_le, if_true, Res.st_ok, Ws_nx, List.nil_append, List.map_cons, List.map_nil, List.cons_append]
  refine ws_seq ?_
  have low48 : lowI 48271 := low (by omega) (by omega)
  have low79 : lowI 7919 := low (by omega) (by omega)
  have few : (if (63 : Int) < (ns.length : Int) then (63 : Int) else (ns.length : Int)).toNat ≤ 63 := by split <;> omega
  have few2 : (if (63 : Int) < (ns.length : Int) then (63 : Int) else (ns.length : Int)).toNat ≤ ns.length := by split <;> omega
  have src : iRange1 (aCons (eCallB mMin (aCons (eCallB mLen (aCons (eVar 0) aNil)) (aCons (eC (.int 63)) aNil))) aNil) [some (.scr (ns.map MV.int)), some (.ref 0), none, none, none, none] [.lst []] = .ok (intR 0 (if (63 : Int) < (ns.length : Int) then (63 : Int) else (ns.length : Int)).toNat, []) [.lst []] := by
    simp [mLen]
    split <;> simp <;> omega
  show Ws (Res.st _ _ _) _
  show Ws (Res.st (iRange1 (aCons (eCallB mMin (aCons (eCallB mLen (aCons (eVar 0) aNil)) (aCons (eC (.int 63)) aNil))) aNil) [some (.scr (ns.map MV.int)), some (.ref 0), none, none, none, none] [.lst []]) _ _) _
  rw [src, Res.st_ok]
  refine ws_for (fun xs ρ h => ∃ r y2 y3 y4 y5, Row r ∧ h = [rowO r] ∧ ρ = [some (.scr (ns.map MV.int)), some (.ref 0), y2, y3, y4, y5] ∧ r.length + 60 * xs.length ≤ 3780 ∧ ∀ x, x ∈ xs → ∃ k : Nat, x = .int k ∧ k < ns.length ∧ k < 63) (fun _ _ h _ => by simp) (fun x xs ρ h i => ?_) (fun ρ h i => ?_) _ _ _ ?_
  · obtain ⟨r, y2, y3, y4, y5, hr, rfl, rfl, hl, hx⟩ := i
    obtain ⟨k, rfl, hk, hk63⟩ := hx x (by simp)
    have hx' : ∀ y, y ∈ xs → ∃ k : Nat, y = .int k ∧ k < ns.length ∧ k < 63 := fun y hy => hx y (by simp [hy])
    rw [List.length_cons] at hl
    refine ⟨_, rfl, ?_⟩
    simp only [List.set_cons_succ, List.set_cons_zero]
    have at1 : atI (ns.map MV.int) (k : Int) = some (.int ns[k]) := ixNat (by simp [hk])
    refine ws_seq ?_
    simp only [sSet, eBin, eVar, List.getElem?_cons_zero, List.getElem?_cons_succ, Res.bind_ok, mIx, ixL, at1, optR, Res.st_ok, Ws_nx, List.set_cons_succ, List.set_cons_zero]
    have c2 : tOfE (eBin mGe (eVar 3) (eBin mPow (eC (.int 10)) (eC (.int 18)))) [some (.scr (ns.map MV.int)), some (.ref 0), some (.int k), some (.int ns[k]), y4, y5] [rowO r] = .ok (decide (1000000000000000000 ≤ ns[k])) [rowO r] := by
      simp [pow18, mGe]
    show Ws (Res.st _ _ _) _
    rw [c2, Res.st_ok]
    by_cases big : 1000000000000000000 ≤ ns[k]
    · rw [decide_eq_true big, if_pos rfl]
      have src2 : iRange1 (aCons (eC (.int 60)) aNil) [some (.scr (ns.map MV.int)), some (.ref 0), some (.int k), some (.int ns[k]), y4, y5] [rowO r] = .ok (intR 0 60, []) [rowO r] := by simp
      show Ws (Res.st _ _ _) _
      rw [src2, Res.st_ok]
      refine ws_for (fun us ρ h => ∃ (r : List Int) (c : Int) (y4 : Option MV), Row r ∧ h = [rowO r] ∧ ρ = [some (.scr (ns.map MV.int)), some (.ref 0), some (.int k), some (.int c), y4, y5] ∧ r.length + us.length + 60 * xs.length ≤ 3780) (fun _ _ h _ => by simp) (fun u us ρ h i => ?_) (fun ρ h i => ?_) _ _ _ ⟨r, ns[k], y4, hr, rfl, rfl, by simp [intR]; omega⟩
      · obtain ⟨r, c, y4, hr, rfl, rfl, hl⟩ := i
        rw [List.length_cons] at hl
        refine ⟨_, rfl, ?_⟩
        simp only [List.set_cons_succ, List.set_cons_zero]
        have c3 : tOfE (eBin mGt (eVar 3) (eC (.int 0))) [some (.scr (ns.map MV.int)), some (.ref 0), some (.int k), some (.int c), some u, y5] [rowO r] = .ok (decide (0 < c)) [rowO r] := by simp [mGt]
        show Ws (Res.st _ _ _) _
        rw [c3, Res.st_ok]
        by_cases pos : 0 < c
        · rw [decide_eq_true pos, if_pos rfl]
          refine ws_seq ?_
          have ap := app_row (r := r) (n := c % 1000000) (g := []) (by omega)
          have ty : tyOk "list" (.ref 0) [rowO r] = true := by simp [tyOk, rowO]
          have m0 : 0 ≤ c % 1000000 := Int.emod_nonneg _ (by decide)
          have m1 : c % 1000000 < 1000000 := Int.emod_lt_of_pos _ (by decide)
          simp only [sExpr, eBM, eVar, List.getElem?_cons_zero, List.getElem?_cons_succ, Res.bind_ok, ty, if_true, aCons, aNil, eBin, eC, mMod, show (0 : Int) < 1000000 from by decide, ap, Res.st_ok, Ws_nx]
          simp only [sSet, eVar, List.getElem?_cons_zero, List.getElem?_cons_succ, Res.bind_ok, eBin, eC, mDiv, show (0 : Int) < 1000000 ∧ (1000000 : Int) < 1073741824 from by decide, if_true, Res.st_ok, Ws_nx, and_self, List.set_cons_succ, List.set_cons_zero]
          exact ⟨_, _, _, hr.snoc m0 (by omega), rfl, rfl, by simp; omega⟩
        · rw [decide_eq_false pos, if_neg (by decide)]
          exact ⟨r, c, _, hr, rfl, rfl, by omega⟩
      · obtain ⟨r, c, y4, hr, rfl, rfl, hl⟩ := i
        exact ⟨r, _, _, _, _, hr, rfl, rfl, by simp at hl; omega, hx'⟩
    · rw [decide_eq_false big, if_neg (by decide)]
      have lowk : lowI ((k : Int) + 1) := low (by omega) (by omega)
      refine ws_seq ?_
      simp only [sSet, eVar, List.getElem?_cons_zero, List.getElem?_cons_succ, Res.bind_ok, eBin, eC, mMul, low48, low79, lowk, or_true, true_or, if_true, mAdd, Res.st_ok, Ws_nx, List.set_cons_succ, List.set_cons_zero]
      refine ws_seq ?_
      generalize hv : ns[k] * 48271 + ((k : Int) + 1) * ((k : Int) + 1) * 7919 + 11 = v
      have m0 : 0 ≤ v % 2147483647 := Int.emod_nonneg _ (by decide)
      have m1 : v % 2147483647 < 2147483647 := Int.emod_lt_of_pos _ (by decide)
      have lowv : lowI (v % 2147483647) := low (by omega) (by omega)
      simp only [sSet, eVar, List.getElem?_cons_zero, List.getElem?_cons_succ, Res.bind_ok, eBin, eC, mMod, show (0 : Int) < 2147483647 from by decide, if_true, Res.st_ok, Ws_nx, List.set_cons_succ, List.set_cons_zero]
      generalize v % 2147483647 = u at *
      have ap := app_row (r := r) (n := u * u % 2147483629) (g := []) (by omega)
      have n0 : 0 ≤ u * u % 2147483629 := Int.emod_nonneg _ (by decide)
      have n1 : u * u % 2147483629 < 2147483629 := Int.emod_lt_of_pos _ (by decide)
      have ty : tyOk "list" (.ref 0) [rowO r] = true := by simp [tyOk, rowO]
      simp only [sExpr, eBM, eVar, List.getElem?_cons_zero, List.getElem?_cons_succ, Res.bind_ok, ty, if_true, aCons, aNil, eBin, eC, mMul, lowv, true_or, mMod, show (0 : Int) < 2147483629 from by decide, ap, Res.st_ok, Ws_nx]
      exact ⟨_, _, _, _, _, hr.snoc n0 (by omega), rfl, rfl, by simp; omega, hx'⟩
  · obtain ⟨r, y2, y3, y4, y5, hr, rfl, rfl, hl, hx⟩ := i
    have e : sRet (eNew (lDisp (aCons (eC (.int 0)) (aCons (eVar 1) (aCons (eC (.int 70)) aNil))))) [some (.scr (ns.map MV.int)), some (.ref 0), y2, y3, y4, y5] [rowO r] = .rt (.ref 1) (Dk r 0 70 []) := by simp [Dk]
    dsimp only
    rw [e]
    exact ⟨r, hr, rfl, gc_ref (by simp)⟩
  · refine ⟨[], none, none, none, none, (fun n hn => by cases hn), rfl, rfl, (by simp [intR]; omega), fun x hx => ?_⟩
    unfold intR at hx
    simp only [List.mem_map, List.mem_range] at hx
    obtain ⟨k, hk, rfl⟩ := hx
    exact ⟨k, by simp, by omega, by omega⟩
theorem dk_row (r : List Int) (c : Nat) (b : Int) (g : MH) : (Dk r c b g)[0]? = some (.lst (r.map MV.int)) := rfl
theorem dk_deck (r : List Int) (c : Nat) (b : Int) (g : MH) : (Dk r c b g)[1]? = some (.lst [.int c, .ref 0, .int b]) := rfl
theorem next_ok {r : List Int} {c : Nat} {b : Int} {g : MH} (hr : Row r) (hc : c < 100000) : ∃ v : Int, 0 ≤ v ∧ v < 2147483648 ∧ m_law_next [.ref 1] (Dk r c b g) = .ok (.int v) (Dk r (c + 1) b g) := by
  suffices H : Wp (m_law_next [.ref 1] (Dk r c b g)) fun x h => ∃ v : Int, 0 ≤ v ∧ v < 2147483648 ∧ x = .int v ∧ h = Dk r (c + 1) b g by
    obtain ⟨x, h, e, v, h0, h1, rfl, rfl⟩ := H.ex
    exact ⟨v, h0, h1, e⟩
  unfold m_law_next
  refine wp_fun rfl ?_
  unfold b_law_next
  have g1 : ∀ v, gc (Dk r c b g) (.int v) (Dk r (c + 1) b g) = Dk r (c + 1) b g := fun v => gc_len (by simp [Dk])
  have s1 : sSet 1 (eBin mIx (eVar 0) (eC (.int 0))) [some (.ref 1), none, none, none] (Dk r c b g) = .nx [some (.ref 1), some (.int c), none, none] (Dk r c b g) := by simp [mIx, dk_deck, ixL, i0]
  have s2 : sSetI (eVar 0) (eC (.int 0)) (eBin mAdd (eVar 1) (eC (.int 1))) [some (.ref 1), some (.int c), none, none] (Dk r c b g) = .nx [some (.ref 1), some (.int c), none, none] (Dk r (c + 1) b g) := by simp [mAdd, mSetI, dk_deck, ixN, Dk]
  obtain ⟨H, hH⟩ : ∃ H, H = Dk r (c + 1) b g := ⟨_, rfl⟩
  have a0 : H[1]? = some (.lst [.int ((c + 1 : Nat) : Int), .ref 0, .int b]) := by rw [hH]; rfl
  have a1 : H[0]? = some (.lst (r.map MV.int)) := by rw [hH]; rfl
  have s3 : sSet 2 (eBin mIx (eVar 0) (eC (.int 1))) [some (.ref 1), some (.int c), none, none] H = .nx [some (.ref 1), some (.int c), some (.ref 0), none] H := by simp [mIx, a0, ixL, i1]
  refine ws_seq ?_
  show Ws (sSet 1 _ [some (.ref 1), none, none, none] _) _
  rw [s1]
  refine ws_seq ?_
  rw [s2, ← hH]
  refine ws_seq ?_
  rw [s3]
  refine ws_seq ?_
  have len : eCallB mLen (aCons (eVar 2) aNil) [some (.ref 1), some (.int c), some (.ref 0), none] H = .ok (.int (r.length : Int)) H := by simp [mLen, a1]
  have c4 : tOfE (eBin mLt (eVar 1) (eCallB mLen (aCons (eVar 2) aNil))) [some (.ref 1), some (.int c), some (.ref 0), none] H = .ok (decide (c < r.length)) H := by simp [mLen, a1, mLt]
  show Ws (Res.st _ _ _) _
  rw [c4, Res.st_ok]
  by_cases lt : c < r.length
  · rw [decide_eq_true lt, if_pos rfl]
    have at1 : atI (r.map MV.int) (c : Int) = some (.int r[c]) := ixNat (by simp [lt])
    have e : sRet (eBin mIx (eVar 2) (eVar 1)) [some (.ref 1), some (.int c), some (.ref 0), none] H = .rt (.int r[c]) H := by simp [mIx, a1, ixL, at1]
    rw [e]
    obtain ⟨p0, p1⟩ := hr r[c] (by simp)
    exact ⟨r[c], p0, p1, rfl, by rw [hH]; exact g1 _⟩
  · rw [decide_eq_false lt, if_neg (by decide)]
    show Ws (sSeq _ _ _ _) _
    refine ws_seq ?_
    have c5 : tOfE (eBin mEq (eCallB mLen (aCons (eVar 2) aNil)) (eC (.int 0))) [some (.ref 1), some (.int c), some (.ref 0), none] H = .ok (decide (r.length = 0)) H := by simp [mLen, a1, mEq, mEqB, scalM]
    show Ws (Res.st _ _ _) _
    rw [c5, Res.st_ok]
    have l48 : lowI 48271 := low (by omega) (by omega)
    have l40 : lowI 40503 := low (by omega) (by omega)
    have l7 : lowI 7 := low (by omega) (by omega)
    have l5 : lowI 5 := low (by omega) (by omega)
    have lc : lowI (c : Int) := low (by omega) (by omega)
    have lc1 : lowI ((c : Int) + 1) := low (by omega) (by omega)
    have lc3 : lowI ((c : Int) + 3) := low (by omega) (by omega)
    have md : (0 : Int) < 2147483629 := by decide
    have fin : ∀ v : Int, 0 ≤ v % 2147483629 ∧ v % 2147483629 < 2147483648 := fun v => ⟨Int.emod_nonneg _ (by decide), by have := Int.emod_lt_of_pos v md; omega⟩
    by_cases z : r.length = 0
    · rw [decide_eq_true z, if_pos rfl]
      have e : sRet (eBin mMod (eBin mMul (eBin mMul (eBin mMul (eBin mAdd (eVar 1) (eC (.int 1))) (eBin mAdd (eVar 1) (eC (.int 1)))) (eBin mAdd (eVar 1) (eC (.int 3)))) (eC (.int 48271))) (eC (.int 2147483629))) [some (.ref 1), some (.int c), some (.ref 0), none] H =
          .rt (.int (((c : Int) + 1) * ((c : Int) + 1) * ((c : Int) + 3) * 48271 % 2147483629)) H := by simp [mAdd, mMul, lc1, lc3, l48, mMod]
      rw [e]
      exact ⟨_, (fin _).1, (fin _).2, rfl, by rw [hH]; exact g1 _⟩
    · rw [decide_eq_false z, if_neg (by decide)]
      have pos : 0 < r.length := by omega
      have posI : (0 : Int) < (r.length : Int) := by omega
      obtain ⟨j, hj⟩ : ∃ j, j = c % r.length := ⟨_, rfl⟩
      obtain ⟨i, hi⟩ : ∃ i, i = c * 5 % r.length := ⟨_, rfl⟩
      have jl : j < r.length := by rw [hj]; exact Nat.mod_lt _ pos
      have il : i < r.length := by rw [hi]; exact Nat.mod_lt _ pos
      have ej : ((c : Int) % (r.length : Int)) = (j : Int) := by rw [hj]; exact (Int.natCast_emod _ _).symm
      have ei : ((c : Int) * 5 % (r.length : Int)) = (i : Int) := by rw [hi]; push_cast; rfl
      have aj : atI (r.map MV.int) (j : Int) = some (.int r[j]) := ixNat (by simp [jl])
      have ai : atI (r.map MV.int) (i : Int) = some (.int r[i]) := ixNat (by simp [il])
      obtain ⟨p0, p1⟩ := hr r[j] (by simp)
      obtain ⟨q0, q1⟩ := hr r[i] (by simp)
      show Ws (sSeq _ _ _ _) _
      refine ws_seq ?_
      have s6 : sSet 3 (eBin mAdd (eBin mIx (eVar 2) (eBin mMod (eVar 1) (eCallB mLen (aCons (eVar 2) aNil)))) (eBin mMul (eC (.int 7)) (eBin mIx (eVar 2) (eBin mMod (eBin mMul (eVar 1) (eC (.int 5))) (eCallB mLen (aCons (eVar 2) aNil)))))) [some (.ref 1), some (.int c), some (.ref 0), none] H =
          .nx [some (.ref 1), some (.int c), some (.ref 0), some (.int (r[j] + 7 * r[i]))] H := by
        have x1 : eBin mMod (eVar 1) (eCallB mLen (aCons (eVar 2) aNil)) [some (.ref 1), some (.int c), some (.ref 0), none] H = .ok (.int j) H := by
          show Res.bind _ _ = _
          simp only [eVar, List.getElem?_cons_zero, List.getElem?_cons_succ, Res.bind_ok]
          rw [len, Res.bind_ok]
          simp only [mMod, posI, if_true, ej]
        have x2 : eBin mMod (eBin mMul (eVar 1) (eC (.int 5))) (eCallB mLen (aCons (eVar 2) aNil)) [some (.ref 1), some (.int c), some (.ref 0), none] H = .ok (.int i) H := by
          have x0 : eBin mMul (eVar 1) (eC (.int 5)) [some (.ref 1), some (.int c), some (.ref 0), none] H = .ok (.int ((c : Int) * 5)) H := by simp [mMul, l5]
          show Res.bind _ _ = _
          rw [x0, Res.bind_ok, len, Res.bind_ok]
          simp only [mMod, posI, if_true, ei]
        have x3 : eBin mIx (eVar 2) (eBin mMod (eVar 1) (eCallB mLen (aCons (eVar 2) aNil))) [some (.ref 1), some (.int c), some (.ref 0), none] H = .ok (.int r[j]) H := by
          show Res.bind (Res.ok (MV.ref 0) H) _ = _
          rw [Res.bind_ok, x1, Res.bind_ok]
          simp only [mIx, a1, ixL, aj, optR]
        have x4 : eBin mIx (eVar 2) (eBin mMod (eBin mMul (eVar 1) (eC (.int 5))) (eCallB mLen (aCons (eVar 2) aNil))) [some (.ref 1), some (.int c), some (.ref 0), none] H = .ok (.int r[i]) H := by
          show Res.bind (Res.ok (MV.ref 0) H) _ = _
          rw [Res.bind_ok, x2, Res.bind_ok]
          simp only [mIx, a1, ixL, ai, optR]
        show Res.st (Res.bind _ _) _ _ = _
        rw [x3, Res.bind_ok]
        show Res.st (Res.bind (Res.bind (Res.ok (MV.int 7) H) _) _) _ _ = _
        rw [Res.bind_ok, x4, Res.bind_ok]
        simp only [mMul, l7, true_or, if_true, Res.bind_ok, mAdd, Res.st_ok]
        rfl
      rw [s6]
      refine ws_seq ?_
      have sq : 0 ≤ (c : Int) * (c : Int) ∧ (c : Int) * (c : Int) ≤ 100000 * 100000 := by
        constructor
        · exact Int.mul_nonneg (by omega) (by omega)
        · exact Int.mul_le_mul (by omega) (by omega) (by omega) (by omega)
      obtain ⟨q, hq⟩ : ∃ q : Int, q = r[j] + 7 * r[i] + (c : Int) * (c : Int) * 40503 + 1 := ⟨_, rfl⟩
      have s7 : sSet 3 (eBin mAdd (eBin mAdd (eVar 3) (eBin mMul (eBin mMul (eVar 1) (eVar 1)) (eC (.int 40503)))) (eC (.int 1))) [some (.ref 1), some (.int c), some (.ref 0), some (.int (r[j] + 7 * r[i]))] H = .nx [some (.ref 1), some (.int c), some (.ref 0), some (.int q)] H := by
        simp [mAdd, mMul, lc, l40, hq]
      rw [s7]
      have lq : lowI q := low (by omega) (by omega)
      have e : sRet (eBin mMod (eBin mMul (eVar 3) (eVar 3)) (eC (.int 2147483629))) [some (.ref 1), some (.int c), some (.ref 0), some (.int q)] H = .rt (.int (q * q % 2147483629)) H := by simp [mMul, lq, mMod]
      show Ws (sRet _ _ _) _
      rw [e]
      exact ⟨_, (fin _).1, (fin _).2, rfl, by rw [hH]; exact g1 _⟩
end My

set_option Elab.async false
set_option linter.all false
set_option maxRecDepth 100000
set_option maxHeartbeats 4000000
namespace My
open PySem L2 Sm
/-! ### words by their shape -/
structure TextOk (text : Str) (rows : List Str) : Prop where
  split : Txt.split text "\n" = rows
  len : text.length ≤ 900000
  many : rows.length ≤ 300
  all : ∀ r, r ∈ rows → rowOk r
  ne : rows ≠ []
abbrev cl (w : Str) : List Nat := w.cps.toList
theorem cl_app (a b : Str) : cl (a ++ b) = cl a ++ cl b := by
  have : (a ++ b).cps = a.cps ++ b.cps := rfl
  simp [cl, this]
theorem cl_len (a : Str) : (cl a).length = a.length := by simp [Str.length]
theorem cl_inj {a b : Str} (h : cl a = cl b) : a = b := by rw [← ofL_toL a, ← ofL_toL b]; exact congrArg ofL h
def plainC (c : Nat) : Bool := !(decide (c = 32)) && (!(decide (c = 10)) && !isBr c)
def shapeW (w : Str) : Bool := (cl w).all plainC || (decide ((cl w).length = 1) && (cl w).all fun c => isBr c && (!(decide (c = 32)) && !(decide (c = 10))))
def gW (w : Str) : Bool := decide (1 ≤ w.length) && (decide (w.length ≤ 60) && (shapeW w && (PyData.str w).canLay0))
theorem gW_len {w : Str} (h : gW w = true) : 1 ≤ w.length ∧ w.length ≤ 60 ∧ True ∧ shapeW w = true := by
  simp only [gW, Bool.and_eq_true, decide_eq_true_eq] at h
  exact ⟨h.1, h.2.1, trivial, h.2.2.1⟩
theorem gW_lay {w : Str} (h : gW w = true) : (PyData.str w).canLay0 = true := by
  simp only [gW, Bool.and_eq_true, decide_eq_true_eq] at h
  exact h.2.2.2
abbrev allG (l : List Str) : Prop := ∀ w, w ∈ l → gW w = true
end My

set_option Elab.async false
set_option linter.all false
set_option maxRecDepth 100000
set_option maxHeartbeats 4000000
namespace My
open PySem L2 Sm
/-! ### rows of words with gaps of any width -/
abbrev Pc := Nat × Str
def pcs : List Pc → List Nat
  | [] => []
  | (g, w) :: l => List.replicate g 32 ++ (cl w ++ pcs l)
def cols : List Pc → Nat → List (Str × Nat)
  | [], _ => []
  | (g, w) :: l, k => (w, k + g + 1) :: cols l (k + g + (cl w).length)
def isB (w : Str) : Bool := decide ((cl w).length = 1) && (cl w).all isBr
def sepd : List Pc → Prop
  | [] => True
  | (_, w) :: l => (match l with | [] => True | (g', w') :: _ => 0 < g' ∨ isB w = true ∨ isB w' = true) ∧ sepd l
theorem pcs_app (a b : List Pc) : pcs (a ++ b) = pcs a ++ pcs b := by
  induction a with
  | nil => rfl
  | cons p a ih => obtain ⟨g, w⟩ := p; simp [pcs, ih]
theorem cols_app : ∀ (a b : List Pc) (k : Nat), cols (a ++ b) k = cols a k ++ cols b (k + (pcs a).length)
  | [], b, k => rfl
  | (g, w) :: a, b, k => by
    have e : k + g + (cl w).length + (pcs a).length = k + (pcs ((g, w) :: a)).length := by simp [pcs]; omega
    rw [List.cons_append, cols, cols, cols_app a b, e]; rfl
theorem cols_fst : ∀ (a : List Pc) (k : Nat), (cols a k).map (·.1) = a.map (·.2)
  | [], _ => rfl
  | (g, w) :: a, k => by rw [cols, List.map_cons, cols_fst a]; rfl
theorem cols_le : ∀ (a : List Pc) (k : Nat), (∀ p, p ∈ a → 1 ≤ (cl p.2).length) → ∀ q, q ∈ cols a k → q.2 ≤ k + (pcs a).length
  | [], _, _, q, hq => by cases hq
  | (g, w) :: a, k, h, q, hq => by
    have h1 : 1 ≤ (cl w).length := h (g, w) (by simp)
    have e : (pcs ((g, w) :: a)).length = g + (cl w).length + (pcs a).length := by simp [pcs]; omega
    rw [cols] at hq
    rcases List.mem_cons.mp hq with rfl | hq
    · show k + g + 1 ≤ _
      omega
    · have := cols_le a _ (fun p hp => h p (by simp [hp])) q hq
      omega
theorem rw1_blanks : ∀ (g k : Nat) (rest : List Nat), rw1 (List.replicate g 32 ++ rest) [] k = rw1 rest [] (k + g)
  | 0, k, rest => rfl
  | g + 1, k, rest => by
    rw [List.replicate_succ, List.cons_append, rw1, if_pos (.inl rfl), if_pos rfl, if_pos rfl, rw1_blanks g]
    rw [List.nil_append, List.nil_append, show k + 1 + g = k + (g + 1) by omega]
abbrev stopC (c : Nat) : Prop := c = 32 ∨ isBr c = true
theorem rw1_plain : ∀ (l cur : List Nat) (k c : Nat) (rest : List Nat), l.all plainC = true → cur ++ l ≠ [] → stopC c → rw1 (l ++ c :: rest) cur k = (ofL (cur ++ l), k + l.length + 1 - (cur ++ l).length) :: rw1 (c :: rest) [] (k + l.length)
  | [], cur, k, c, rest, _, hn, hc => by
    rw [List.append_nil] at hn
    rw [List.nil_append, rw1, if_pos (show c = 32 ∨ isBr c = true from hc), if_neg hn, rw1, if_pos (show c = 32 ∨ isBr c = true from hc), if_pos rfl]
    simp
  | x :: l, cur, k, c, rest, hp, hn, hc => by
    simp only [List.all_cons, Bool.and_eq_true] at hp
    have hx : ¬ (x = 32 ∨ isBr x = true) := by
      have := hp.1
      simp only [plainC, Bool.and_eq_true, Bool.not_eq_true', decide_eq_false_iff_not] at this
      rintro (z | z)
      · exact this.1 z
      · rw [this.2.2] at z; cases z
    have := rw1_plain l (cur ++ [x]) (k + 1) c rest hp.2 (by simp) hc
    rw [List.cons_append, rw1, if_neg hx, this]
    simp only [List.append_assoc, List.cons_append, List.nil_append, List.length_cons]
    rw [show k + 1 + l.length = k + (l.length + 1) by omega]
theorem isB_sg {w : Str} (h : isB w = true) : ∃ c, cl w = [c] ∧ isBr c = true ∧ w = sg c := by
  simp only [isB, Bool.and_eq_true, decide_eq_true_eq] at h
  obtain ⟨c, hc⟩ := List.length_eq_one_iff.mp h.1
  refine ⟨c, hc, by simpa [hc] using h.2, cl_inj hc⟩
theorem gW_two {w : Str} (h : gW w = true) : ((cl w).all plainC = true ∧ isB w = false) ∨ (isB w = true ∧ (cl w).all (fun c => decide (c ≠ 32)) = true) := by
  obtain ⟨h1, _, _, h3⟩ := gW_len h
  have hl := cl_len w
  simp only [shapeW, Bool.or_eq_true, Bool.and_eq_true, decide_eq_true_eq] at h3
  rcases h3 with h3 | ⟨h4, h5⟩
  · refine .inl ⟨h3, ?_⟩
    cases e : isB w with
    | false => rfl
    | true =>
      obtain ⟨c, hc, hb, _⟩ := isB_sg e
      rw [hc] at h3
      simp [plainC, hb] at h3
  · refine .inr ⟨?_, ?_⟩
    · simp only [isB, Bool.and_eq_true, decide_eq_true_eq]
      exact ⟨h4, List.all_eq_true.mpr fun c hc => by have := List.all_eq_true.mp h5 c hc; simp only [Bool.and_eq_true] at this; exact this.1⟩
    · exact List.all_eq_true.mpr fun c hc => by have := List.all_eq_true.mp h5 c hc; simp at this; simpa using this.2.1
theorem rw1_pcs : ∀ (l : List Pc) (k : Nat), (∀ p, p ∈ l → gW p.2 = true) → sepd l → rw1 (pcs l ++ [32]) [] k = cols l k
  | [], k, _, _ => by simp [pcs, rw1, cols]
  | (g, w) :: l, k, hg, hs => by
    have gw : gW w = true := hg (g, w) (by simp)
    have ih := fun j => rw1_pcs l j (fun p hp => hg p (by simp [hp])) hs.2
    have hl := cl_len w
    have h1 := (gW_len gw).1
    rw [pcs, List.append_assoc, rw1_blanks, List.append_assoc, cols]
    rcases gW_two gw with ⟨hp, nb⟩ | ⟨hb, n32⟩
    · obtain ⟨c, rest, e, hc⟩ : ∃ c rest, pcs l ++ [32] = c :: rest ∧ stopC c := by
        cases l with
        | nil => exact ⟨32, [], rfl, .inl rfl⟩
        | cons p l =>
          obtain ⟨g', w'⟩ := p
          rcases hs.1 with z | z | z
          · obtain ⟨n, rfl⟩ : ∃ n, g' = n + 1 := ⟨g' - 1, by omega⟩
            exact ⟨32, _, rfl, .inl rfl⟩
          · rw [nb] at z; cases z
          · obtain ⟨c, hc, hb, _⟩ := isB_sg z
            cases g' with
            | succ n => exact ⟨32, _, rfl, .inl rfl⟩
            | zero => exact ⟨c, pcs l ++ [32], by simp [pcs, hc], .inr hb⟩
      have := rw1_plain (cl w) [] (k + g) c rest hp (by intro z; rw [List.nil_append] at z; rw [z] at hl; simp at hl; omega) hc
      rw [e, this, ← e, ih, List.nil_append, ofL_toL]
      rw [show k + g + (cl w).length + 1 - (cl w).length = k + g + 1 by omega]
    · obtain ⟨c, hc, hb', ew⟩ := isB_sg hb
      have c32 : c ≠ 32 := by rw [hc] at n32; simpa using n32
      rw [hc, List.cons_append, List.nil_append, rw1, if_pos (.inr hb'), if_pos rfl, if_neg c32, ih, ew]
      rfl
theorem row_pcs {l : List Pc} (hg : ∀ p, p ∈ l → gW p.2 = true) (hs : sepd l) : rowW (ofL (pcs l)) = cols l 0 := by
  unfold rowW
  rw [ofL_cps, rw1_pcs l 0 hg hs]
theorem sepd_snoc : ∀ {l : List Pc} {g : Nat} {w : Str}, sepd l → (∀ g' w', l.getLast? = some (g', w') → 0 < g ∨ isB w' = true ∨ isB w = true) → sepd (l ++ [(g, w)])
  | [], _, _, _, _ => ⟨trivial, trivial⟩
  | [(g', w')], g, w, _, h => ⟨h g' w' rfl, trivial, trivial⟩
  | (g1, w1) :: (g2, w2) :: l, g, w, hs, h => ⟨hs.1, sepd_snoc (l := (g2, w2) :: l) hs.2 fun g' w' e => h g' w' (by rw [List.getLast?_cons_cons]; exact e)⟩
theorem gW_10 {w : Str} (h : gW w = true) : 10 ∉ cl w := by
  obtain ⟨_, _, _, h3⟩ := gW_len h
  intro z
  simp only [shapeW, Bool.or_eq_true, Bool.and_eq_true, decide_eq_true_eq, List.all_eq_true] at h3
  rcases h3 with h3 | ⟨_, h3⟩
  · have := h3 10 z; simp [plainC] at this
  · have := h3 10 z; simp at this
theorem pcs_10 : ∀ {l : List Pc}, (∀ p, p ∈ l → gW p.2 = true) → 10 ∉ pcs l
  | [], _ => by simp [pcs]
  | (g, w) :: l, h => by
    rw [pcs]
    intro z
    rcases List.mem_append.mp z with z | z
    · have := List.eq_of_mem_replicate z; omega
    · rcases List.mem_append.mp z with z | z
      · exact gW_10 (h (g, w) (by simp)) z
      · exact pcs_10 (fun p hp => h p (by simp [hp])) z
/-- a word that stands in the brackets' text is a bracket -/
theorem br_word {w : Str} (h : gW w = true) (hp : pIn w cBR = true) : isB w = true := by
  rcases gW_two h with ⟨a, _⟩ | ⟨a, _⟩
  · obtain ⟨i, hi, hs⟩ := (StrLaws.found_iff cBR w).mp hp
    rw [StrLaws.subAt_eq, beq_iff_eq] at hs
    have hs : ((cl cBR).drop i).take w.length = cl w := hs
    have hl := cl_len w
    have h1 := (gW_len h).1
    cases e : cl w with
    | nil => rw [e] at hl; simp at hl; omega
    | cons c r =>
      have hc : c ∈ cl cBR := by
        have : c ∈ ((cl cBR).drop i).take w.length := by rw [hs, e]; simp
        exact List.mem_of_mem_drop (List.mem_of_mem_take this)
      have hb : isBr c = true := by simp only [isBr, decide_eq_true_eq]; exact hc
      rw [e] at a
      simp [plainC, hb] at a
  · exact a
end My

set_option Elab.async false
set_option linter.all false
set_option maxRecDepth 100000
set_option maxHeartbeats 4000000
namespace My
open PySem L2 Sm
/-! ### a text of rows, by signs -/
abbrev JL := TL.joinL [10]
theorem jl_snoc : ∀ (R : List (List Nat)) (a : List Nat), JL (R ++ [a]) = R.flatMap (fun r => r ++ [10]) ++ a
  | [], a => by simp [JL, TL.joinL]
  | [r], a => by simp [JL, TL.joinL]
  | r :: q :: R, a => by
    have := jl_snoc (q :: R) a
    simp only [JL, List.cons_append, List.flatMap_cons] at this ⊢
    rw [TL.joinL, this]
    simp
theorem jl_tail (R : List (List Nat)) (a : List Nat) : ∀ T : List (List Nat), JL (R ++ [a] ++ T) = JL (R ++ [a]) ++ T.flatMap (fun t => 10 :: t) := fun T => by
  suffices H : ∀ (n : Nat) (T : List (List Nat)), T.length = n → JL (R ++ [a] ++ T) = JL (R ++ [a]) ++ T.flatMap (fun t => 10 :: t) from H _ T rfl
  intro n
  induction n with
  | zero =>
    intro T hT
    rw [List.length_eq_zero_iff.mp hT]; simp
  | succ n ih =>
    intro T hT
    have hne : T ≠ [] := by intro z; rw [z] at hT; cases hT
    obtain ⟨U, t, rfl⟩ : ∃ U t, T = U ++ [t] := ⟨T.dropLast, T.getLast hne, (List.dropLast_concat_getLast hne).symm⟩
    have lU : U.length = n := by simpa using hT
    have := ih U lU
    rw [← List.append_assoc, jl_snoc]
    obtain ⟨V, v, ev⟩ : ∃ V v, R ++ [a] ++ U = V ++ [v] := by
      have hn : R ++ [a] ++ U ≠ [] := by simp
      exact ⟨_, _, (List.dropLast_concat_getLast hn).symm⟩
    have e2 : JL (R ++ [a] ++ U) ++ [10] = (R ++ [a] ++ U).flatMap (fun r => r ++ [10]) := by
      rw [ev, jl_snoc, List.flatMap_append]; simp
    rw [← e2, this, List.flatMap_append]
    simp
theorem tx_join (R : List (List Nat)) : Txt.join "\n" (R.map ofL) = ofL (JL R) := by
  apply cl_inj
  have e : cl (Txt.join "\n" (R.map ofL)) = JL ((R.map ofL).map TL.tl) := by
    show TL.tl _ = _
    rw [TL.join_eq, TL.tl_join]; rfl
  rw [e, List.map_map]
  have : (R.map (TL.tl ∘ ofL)) = R := by
    rw [show (TL.tl ∘ ofL) = id from funext fun x => ofL_cps x, List.map_id]
  rw [this]
  exact (ofL_cps _).symm
theorem tx_split {R : List (List Nat)} (hn : R ≠ []) (h : ∀ r, r ∈ R → 10 ∉ r) : Txt.split (ofL (JL R)) "\n" = R.map ofL := by
  rw [← tx_join]
  exact TL.split_join (s := 10) (S := []) rfl (by decide +kernel) (by simpa using hn) fun p hp => by
    obtain ⟨r, hr, rfl⟩ := List.mem_map.mp hp
    show 10 ∉ cl (ofL r)
    rw [show cl (ofL r) = r from ofL_cps r]
    exact h r hr
def placed : List (List Pc) → Nat → List (Str × Nat × Nat)
  | [], _ => []
  | r :: rs, k => (cols r 0).map (fun p => (p.1, k + 1, p.2)) ++ placed rs (k + 1)
theorem placed_snoc : ∀ (rs : List (List Pc)) (r : List Pc) (k : Nat), placed (rs ++ [r]) k = placed rs k ++ (cols r 0).map (fun p => (p.1, k + rs.length + 1, p.2))
  | [], r, k => by simp [placed]
  | x :: rs, r, k => by
    rw [List.cons_append, placed, placed_snoc rs r (k + 1), placed, List.length_cons, show k + 1 + rs.length + 1 = k + (rs.length + 1) + 1 by omega, List.append_assoc]
/-- a row of words -/
structure GRow (r : List Pc) : Prop where
  good : ∀ p, p ∈ r → gW p.2 = true
  sep : sepd r
  len : (pcs r).length ≤ 120
def isBl (t : List Nat) : Prop := t = [] ∨ t = [32] ∨ t = [32, 32]
theorem bl_ok {t : List Nat} (h : isBl t) : rowW (ofL t) = [] ∧ rowOk (ofL t) ∧ 10 ∉ t := by
  have go : ∀ {s : Str}, s.length ≤ 120 → rowW s = [] → rowOk s := fun {s} a b => ⟨a, fun p hp => by rw [b] at hp; cases hp⟩
  rcases h with rfl | rfl | rfl
  · have : rowW (ofL []) = [] := by decide +kernel
    exact ⟨this, go (by decide) this, by simp⟩
  · have : rowW (ofL [32]) = [] := by decide +kernel
    exact ⟨this, go (by decide) this, by simp⟩
  · have : rowW (ofL [32, 32]) = [] := by decide +kernel
    exact ⟨this, go (by decide) this, by simp⟩
theorem GRow.ok {r : List Pc} (h : GRow r) : rowW (ofL (pcs r)) = cols r 0 ∧ rowOk (ofL (pcs r)) ∧ 10 ∉ pcs r := by
  have e := row_pcs h.good h.sep
  refine ⟨e, ⟨by rw [ofL_len]; exact h.len, fun p hp => ?_⟩, pcs_10 h.good⟩
  rw [e] at hp
  have c1 := cols_le r 0 (fun q hq => by have := (gW_len (h.good q hq)).1; rw [cl_len]; exact this) p hp
  have hm : p.1 ∈ r.map (·.2) := by rw [← cols_fst r 0]; exact List.mem_map_of_mem hp
  obtain ⟨q, hq, eq⟩ := List.mem_map.mp hm
  obtain ⟨g1, g2, g3, _⟩ := gW_len (h.good q hq)
  rw [← eq]
  exact ⟨by have := h.len; omega, g1, by omega, g3⟩
theorem allW_app : ∀ (a b : List Str) (k : Nat), allW (a ++ b) k = allW a k ++ allW b (k + a.length)
  | [], b, k => rfl
  | x :: a, b, k => by rw [List.cons_append, allW, allW_app a b, allW, List.length_cons, show k + 1 + a.length = k + (a.length + 1) by omega, List.append_assoc]
theorem allW_bl : ∀ (T : List (List Nat)) (k : Nat), (∀ t, t ∈ T → isBl t) → allW (T.map ofL) k = []
  | [], _, _ => rfl
  | t :: T, k, h => by rw [List.map_cons, allW, (bl_ok (h t (by simp))).1, allW_bl T _ fun x hx => h x (by simp [hx])]; rfl
theorem allW_pl : ∀ (R : List (List Pc)) (k : Nat), (∀ r, r ∈ R → GRow r) → allW ((R.map pcs).map ofL) k = placed R k
  | [], _, _ => rfl
  | r :: R, k, h => by rw [List.map_cons, List.map_cons, allW, ((h r (by simp)).ok).1, allW_pl R _ fun x hx => h x (by simp [hx])]; rfl
theorem text_lay {R : List (List Pc)} {T : List (List Nat)} (hR : ∀ r, r ∈ R → GRow r) (hn : R ≠ []) (hT : ∀ t, t ∈ T → isBl t) (hl : R.length + T.length ≤ 300) : TextOk (ofL (JL (R.map pcs ++ T))) ((R.map pcs ++ T).map ofL) ∧ allW ((R.map pcs ++ T).map ofL) 0 = placed R 0 := by
  have no : ∀ r, r ∈ R.map pcs ++ T → 10 ∉ r ∧ rowOk (ofL r) := fun r hr => by
    rcases List.mem_append.mp hr with hr | hr
    · obtain ⟨x, hx, rfl⟩ := List.mem_map.mp hr
      exact ⟨((hR x hx).ok).2.2, ((hR x hx).ok).2.1⟩
    · exact ⟨(bl_ok (hT r hr)).2.2, (bl_ok (hT r hr)).2.1⟩
  have ne : R.map pcs ++ T ≠ [] := by simp [hn]
  refine ⟨⟨tx_split ne fun r hr => (no r hr).1, ?_, by simpa using hl, fun r hr => ?_, by simp [hn]⟩, ?_⟩
  · rw [ofL_len]
    have : ∀ l : List (List Nat), (∀ r, r ∈ l → r.length ≤ 120) → (JL l).length ≤ 121 * l.length := by
      intro l
      induction l with
      | nil => intro _; simp [JL, TL.joinL]
      | cons x l ih =>
        intro hx
        have h1 := hx x (by simp)
        have h2 := ih fun r hr => hx r (by simp [hr])
        cases l with
        | nil => simp [JL, TL.joinL]; omega
        | cons y l =>
          simp only [JL, TL.joinL, List.length_append, List.length_cons, List.length_nil] at h2 ⊢
          omega
    have q := this _ fun r hr => by have := (no r hr).2.1; rw [ofL_len] at this; exact this
    have : (R.map pcs ++ T).length ≤ 300 := by simpa using hl
    omega
  · obtain ⟨x, hx, rfl⟩ := List.mem_map.mp hr
    exact (no x hx).2
  · rw [List.map_append, allW_app, allW_pl R 0 hR, allW_bl T _ hT, List.append_nil]
end My

set_option Elab.async false
set_option linter.all false
set_option maxRecDepth 100000
set_option maxHeartbeats 4000000
namespace Dr
open PySem L2 Sm My
/-! ### how many signs the words have, each with a gap of three -/
def wsum (ws : List Str) : Nat := (ws.map fun w => w.length + 3).sum
theorem wsum_app (a b : List Str) : wsum (a ++ b) = wsum a + wsum b := by simp [wsum]
theorem wsum_cons (w : Str) (ws : List Str) : wsum (w :: ws) = w.length + 3 + wsum ws := by simp [wsum]
theorem wsum_nil : wsum [] = 0 := rfl
end Dr

set_option Elab.async false
set_option linter.all false
set_option maxRecDepth 100000
set_option maxHeartbeats 4000000
namespace My
open PySem L2 Sm
/-! ### words laid out -/
theorem intR_succ (lo : Int) (n : Nat) : intR lo (n + 1) = .int lo :: intR (lo + 1) n := by
  unfold intR
  rw [List.range_succ_eq_map, List.map_cons, List.map_map]
  congr 1
  · simp
  · apply List.map_congr_left
    intro k _
    simp only [Function.comp, Nat.succ_eq_add_one]
    congr 1
    push_cast
    omega
theorem intR_zero (lo : Int) : intR lo 0 = [] := rfl
theorem s_set1 {i : Nat} {m : ME} {v : MV} {rest : MSt} {ρ : MS} {h h' : MH} {D : SW4} (e : m ρ h = .ok v h') (q : Sd (rest (ρ.set i (some v)) h') D) : Sd (sSeq (sSet i m) rest ρ h) D := by
  rw [S_seq, S_set, e, Gd_ok]; exact q
theorem s_if1 {mc : MS → MH → Res Bool} {a b rest : MSt} {c : Bool} {ρ : MS} {h h' : MH} {D : SW4} (e : mc ρ h = .ok c h') (q : Sd (sSeq (if c = true then a else b) rest ρ h') D) : Sd (sSeq (sIf mc a b) rest ρ h) D := by
  rw [S_seq, S_if, e, Gd_ok]
  rw [S_seq] at q
  cases c <;> exact q
theorem mul_sp : ∀ n : Nat, n ≤ 4 → ∀ h, mMul (.str " ") (.int n) h = .ok (.str (ofL (List.replicate n 32))) h
  | 0, _, h => by unfold mMul; dsimp only; rw [if_pos (by unfold MulOk; decide)]; rfl
  | 1, _, h => by unfold mMul; dsimp only; rw [if_pos (by unfold MulOk; decide)]; rfl
  | 2, _, h => by unfold mMul; dsimp only; rw [if_pos (by unfold MulOk; decide)]; rfl
  | 3, _, h => by unfold mMul; dsimp only; rw [if_pos (by unfold MulOk; decide)]; rfl
  | 4, _, h => by unfold mMul; dsimp only; rw [if_pos (by unfold MulOk; decide)]; rfl
  | n + 5, h, _ => by omega
theorem mul_nl : ∀ n : Nat, n ≤ 2 → ∀ h, mMul (.str "\n") (.int n) h = .ok (.str (ofL (List.replicate n 10))) h
  | 0, _, h => by unfold mMul; dsimp only; rw [if_pos (by unfold MulOk; decide)]; rfl
  | 1, _, h => by unfold mMul; dsimp only; rw [if_pos (by unfold MulOk; decide)]; rfl
  | 2, _, h => by unfold mMul; dsimp only; rw [if_pos (by unfold MulOk; decide)]; rfl
  | n + 3, h, _ => by omega
/-- the laid state: whole rows, the row that grows -/
abbrev txt (rs : List (List Pc)) (cur : List Pc) : Str := ofL (JL ((rs ++ [cur]).map pcs))
theorem tx_add (rs : List (List Pc)) (cur : List Pc) (g : Nat) (w : Str) : txt rs cur ++ ofL (List.replicate g 32) ++ w = txt rs (cur ++ [(g, w)]) := by
  rw [← ofL_app]
  conv => lhs; rw [← ofL_toL w]
  rw [← ofL_app]
  unfold txt
  rw [List.map_append, List.map_append, List.map_cons, List.map_cons, List.map_nil, jl_snoc, jl_snoc, pcs_app]
  simp [pcs]
theorem rep_flat (n : Nat) : (List.replicate n ([] : List Nat)).flatMap (fun t => 10 :: t) = List.replicate n 10 := by
  induction n with
  | zero => rfl
  | succ n ih => rw [List.replicate_succ, List.flatMap_cons, ih, List.replicate_succ]; rfl
theorem tx_nl (rs : List (List Pc)) (cur : List Pc) (m : Nat) : txt rs cur ++ ofL (List.replicate (m + 1) 10) = txt (rs ++ [cur] ++ List.replicate m []) [] := by
  rw [← ofL_app]
  unfold txt
  congr 1
  have : (List.map pcs (rs ++ [cur] ++ List.replicate m [] ++ [[]])) = rs.map pcs ++ [pcs cur] ++ List.replicate (m + 1) [] := by
    rw [List.replicate_succ']
    simp [pcs]
  rw [this, jl_tail, List.map_append, List.map_cons, List.map_nil, rep_flat]
theorem placed_nil (rs : List (List Pc)) (m k : Nat) : placed (rs ++ List.replicate m []) k = placed rs k := by
  induction m with
  | zero => simp
  | succ m ih =>
    rw [List.replicate_succ', ← List.append_assoc, placed_snoc, ih]
    simp [cols]
theorem placed_add (rs : List (List Pc)) (cur : List Pc) (g : Nat) (w : Str) : placed (rs ++ [cur ++ [(g, w)]]) 0 = placed (rs ++ [cur]) 0 ++ [(w, rs.length + 1, (pcs cur).length + g + 1)] := by
  rw [placed_snoc, placed_snoc, cols_app]
  simp [cols]
theorem GRow.nil : GRow [] := ⟨(fun p hp => by cases hp), trivial, by simp [pcs]⟩
theorem GRow.snoc {cur : List Pc} {g : Nat} {w : Str} (G : GRow cur) (gw : gW w = true) (hs : ∀ g' w', cur.getLast? = some (g', w') → 0 < g ∨ isB w' = true ∨ isB w = true) (hl : (pcs cur).length + g + w.length ≤ 120) : GRow (cur ++ [(g, w)]) := by
  refine ⟨fun p hp => ?_, sepd_snoc G.sep hs, ?_⟩
  · rcases List.mem_append.mp hp with hp | hp
    · exact G.good p hp
    · rw [List.mem_singleton] at hp; subst hp; exact gw
  · have := cl_len w
    rw [pcs_app]
    simp only [pcs, List.length_append, List.length_replicate, List.length_nil]
    omega
theorem jl_len : ∀ l : List (List Nat), (∀ r, r ∈ l → r.length ≤ 120) → (JL l).length ≤ 121 * l.length := by
  intro l
  induction l with
  | nil => intro _; simp [JL, TL.joinL]
  | cons x l ih =>
    intro hx
    have h1 := hx x (by simp)
    have h2 := ih fun r hr => hx r (by simp [hr])
    cases l with
    | nil => simp [JL, TL.joinL]; omega
    | cons y l =>
      simp only [JL, TL.joinL, List.length_append, List.length_cons, List.length_nil] at h2 ⊢
      omega
theorem txt_len {rs : List (List Pc)} {cur : List Pc} (h : ∀ r, r ∈ rs ++ [cur] → GRow r) : (txt rs cur).length ≤ 121 * (rs.length + 1) := by
  rw [ofL_len]
  have := jl_len ((rs ++ [cur]).map pcs) fun r hr => by obtain ⟨x, hx, rfl⟩ := List.mem_map.mp hr; exact (h x hx).len
  simpa using this
/-- all but the deck and what is new is as it was -/
def FrD (h h' : MH) : Prop := h.length ≤ h'.length ∧ ∀ i, 2 ≤ i → i < h.length → h'[i]? = h[i]?
theorem FrD.refl {h : MH} : FrD h h := ⟨Nat.le_refl _, fun _ _ _ => rfl⟩
theorem FrD.trans {a b c : MH} (x : FrD a b) (y : FrD b c) : FrD a c := ⟨Nat.le_trans x.1 y.1, fun i h1 h2 => by rw [y.2 i h1 (Nat.lt_of_lt_of_le h2 x.1), x.2 i h1 h2]⟩
theorem FrD.app {h g : MH} : FrD h (h ++ g) := ⟨by simp, fun i _ hi => List.getElem?_append_left hi⟩
theorem FrD.set {h h' : MH} {n : Nat} {o : MO} (x : FrD h h') (hn : h.length ≤ n) : FrD h (h'.set n o) := ⟨by simp [x.1], fun i h1 hi => by rw [gsn (by omega)]; exact x.2 i h1 hi⟩
theorem FrD.get {h h' : MH} {n : Nat} {o : MO} (x : FrD h h') (h2 : 2 ≤ n) (e : h[n]? = some o) : h'[n]? = some o := by rw [x.2 n h2 (lt_of_get e)]; exact e
theorem FrD.dk {r : List Int} {c c' : Nat} {b b' : Int} {g : MH} : FrD (Dk r c b g) (Dk r c' b' g) := ⟨by simp [Dk], fun i h1 _ => by
  obtain ⟨j, rfl⟩ : ∃ j, i = j + 2 := ⟨i - 2, by omega⟩
  rfl⟩
theorem FrD.of {r : List Int} {c : Nat} {b : Int} {g h : MH} (e0 : h[0]? = some (rowO r)) (e1 : h[1]? = some (.lst [.int c, .ref 0, .int b])) : ∃ g, h = Dk r c b g := by
  match h with
  | [] => simp at e0
  | [x] => simp at e1
  | x :: y :: g =>
    simp only [List.getElem?_cons_zero, Option.some.injEq, List.getElem?_cons_succ] at e0 e1
    exact ⟨g, by rw [e0, e1]; rfl⟩
def sp2 (p : Str × Nat × Nat) : MV := .tup [.int p.2.1, .int p.2.2]
structure LS (ws : List Str) (r : List Int) (c : Nat) (h : MH) (S : Nat) (k : Nat) (rs : List (List Pc)) (cur : List Pc) (h' : MH) : Prop where
  rows : ∀ x, x ∈ rs ++ [cur] → GRow x
  words : (placed (rs ++ [cur]) 0).map (·.1) = ws.take k
  phi : 58 * (rs.length + 1) + (pcs cur).length + 1 ≤ 5980 + Dr.wsum (ws.take k)
  deck : ∃ b g, h' = Dk r (c + k) b g
  fr : FrD h h'
  sps : h'[S]? = some (.lst ((placed (rs ++ [cur]) 0).map sp2))
def IL3 (ws : List Str) (r : List Int) (c : Nat) (h : MH) (wl : Nat) : List MV → MS → MH → Prop := fun xs ρ h' => ∃ (k m : Nat) (rs : List (List Pc)) (cur : List Pc) (y6 y7 y8 y9 y10 y11 : Option MV), xs = intR (k : Int) m ∧ k + m = ws.length ∧ LS ws r c h h.length k rs cur h' ∧
  ρ = [some (.ref wl), some (.ref 1), some (.str (txt rs cur)), some (.int ((rs.length + 1 : Nat) : Int)), some (.int (((pcs cur).length + 1 : Nat) : Int)), some (.ref h.length), y6, y7, y8, y9, y10, y11]
theorem rows_few {n s : Nat} {ws : List Str} {k p : Nat} (h : 58 * (n + 1) + p + 1 ≤ 5980 + Dr.wsum (ws.take k)) (hb : Dr.wsum ws ≤ 9140) : n + 1 ≤ 270 := by
  have : Dr.wsum (ws.take k) ≤ Dr.wsum ws := by
    conv => rhs; rw [← List.take_append_drop k ws]
    show _ ≤ Dr.wsum _
    rw [Dr.wsum_app]
    exact Nat.le_add_right _ _
  omega
theorem last_word {rs : List (List Pc)} {cur : List Pc} {ws : List Str} {k g' : Nat} {w' : Str} (e : (placed (rs ++ [cur]) 0).map (·.1) = ws.take (k + 1)) (hk : k < ws.length) (hl : cur.getLast? = some (g', w')) : ws[k] = w' := by
  obtain ⟨c0, rfl⟩ := List.getLast?_eq_some_iff.mp hl
  rw [placed_add, List.map_append, List.map_cons, List.map_nil, List.take_succ, List.getElem?_eq_getElem hk] at e
  have := (List.append_inj' e rfl).2
  simpa using this.symm
end My

set_option Elab.async false
set_option linter.all false
set_option maxRecDepth 100000
set_option maxHeartbeats 4000000
namespace My
open PySem L2 Sm
section
variable {ws : List Str} {H : MH} {wl k : Nat} {v : Int} {a1 a2 a3 a4 a5 a6 a7 a8 a9 a10 a11 : Option MV}
abbrev E9 : ME := (eAnd (eBin mGt (eVar 6) (eC (.int 0))) (eOr (eBin mIn (eVar 8) (eC (.str "(){}[]|"))) (eBin mIn (eBin mIx (eVar 0) (eBin mSub (eVar 6) (eC (.int 1)))) (eC (.str "(){}[]|")))))
theorem ev9 (el : H[wl]? = some (.lst (ws.map MV.str))) (hk : k < ws.length) (gw : allG ws) : ∃ gl : Bool, E9 [some (.ref wl), a1, a2, a3, a4, a5, some (.int k), a7, some (.str ws[k]), a9, a10, a11] H = .ok (.bl gl) H ∧ (gl = true → ∃ j, k = j + 1 ∧ (isB ws[k] = true ∨ (∀ h : j < ws.length, isB ws[j] = true))) := by
  cases k with
  | zero =>
    refine ⟨false, Gd.eq ?_, fun z => by cases z⟩
    have h0 : ¬ (0 : Int) < ((0 : Nat) : Int) := by decide
    simp only [↓SX1, SX2, List.getElem?_cons_zero, List.getElem?_cons_succ, List.set_cons_zero, List.set_cons_succ, List.map_cons, List.map_nil, List.cons_append, List.nil_append, List.append_nil, List.replicate_succ, List.replicate_zero, List.length_cons, List.length_nil, if_true, if_false, true_and, and_true, and_self, Nat.zero_add, Int.natCast_zero, i0, i1, i2, i3, i4, decide_true, decide_false, Bool.not_true, Bool.not_false, ofString_inj, gt_iff_lt, List.all_cons, List.all_nil, List.any_cons, List.any_nil, Bool.and_true, Bool.true_and, Bool.and_self, Bool.or_false, Bool.false_or, Bool.or_true, Bool.true_or, szOk, mNeg, wipeM, ↓reduceIte, Nat.reduceAdd, Nat.reduceSub, Nat.reduceLeDiff, Int.reduceLT, Int.reduceLE, Int.reduceNeg, Int.reduceAdd, Int.reduceSub, Int.reducePow, Int.reduceEq, Int.reduceLT, Int.reduceMod, Int.reduceDiv, Int.reduceMul, Int.reduceToNat, String.reduceEq, reduceCtorEq, h0]
    exact ⟨rfl, rfl⟩
  | succ j =>
    have h0 : (0 : Int) < ((j + 1 : Nat) : Int) := by omega
    have ej : ((j + 1 : Nat) : Int) - 1 = ((j : Nat) : Int) := by omega
    have hj : j < ws.length := by omega
    have aj : atI (ws.map MV.str) (j : Int) = some (.str ws[j]) := ixNat (by simp [hj])
    refine ⟨pIn ws[j + 1] cBR || pIn ws[j] cBR, Gd.eq ?_, fun z => ⟨j, rfl, ?_⟩⟩
    · simp only [↓SX1, SX2, List.getElem?_cons_zero, List.getElem?_cons_succ, List.set_cons_zero, List.set_cons_succ, List.map_cons, List.map_nil, List.cons_append, List.nil_append, List.append_nil, List.replicate_succ, List.replicate_zero, List.length_cons, List.length_nil, if_true, if_false, true_and, and_true, and_self, Nat.zero_add, Int.natCast_zero, i0, i1, i2, i3, i4, decide_true, decide_false, Bool.not_true, Bool.not_false, ofString_inj, gt_iff_lt, List.all_cons, List.all_nil, List.any_cons, List.any_nil, Bool.and_true, Bool.true_and, Bool.and_self, Bool.or_false, Bool.false_or, Bool.or_true, Bool.true_or, szOk, mNeg, wipeM, ↓reduceIte, Nat.reduceAdd, Nat.reduceSub, Nat.reduceLeDiff, Int.reduceLT, Int.reduceLE, Int.reduceNeg, Int.reduceAdd, Int.reduceSub, Int.reducePow, Int.reduceEq, Int.reduceLT, Int.reduceMod, Int.reduceDiv, Int.reduceMul, Int.reduceToNat, String.reduceEq, reduceCtorEq, h0, in_s]
      cases q : pIn ws[j + 1] cBR
      · simp only [↓SX1, SX2, List.getElem?_cons_zero, List.getElem?_cons_succ, List.set_cons_zero, List.set_cons_succ, List.map_cons, List.map_nil, List.cons_append, List.nil_append, List.append_nil, List.replicate_succ, List.replicate_zero, List.length_cons, List.length_nil, if_true, if_false, true_and, and_true, and_self, Nat.zero_add, Int.natCast_zero, i0, i1, i2, i3, i4, decide_true, decide_false, Bool.not_true, Bool.not_false, ofString_inj, gt_iff_lt, List.all_cons, List.all_nil, List.any_cons, List.any_nil, Bool.and_true, Bool.true_and, Bool.and_self, Bool.or_false, Bool.false_or, Bool.or_true, Bool.true_or, szOk, mNeg, wipeM, ↓reduceIte, Nat.reduceAdd, Nat.reduceSub, Nat.reduceLeDiff, Int.reduceLT, Int.reduceLE, Int.reduceNeg, Int.reduceAdd, Int.reduceSub, Int.reducePow, Int.reduceEq, Int.reduceLT, Int.reduceMod, Int.reduceDiv, Int.reduceMul, Int.reduceToNat, String.reduceEq, reduceCtorEq, ej, el, aj, in_s]
        rw [Eq2_ap]; exact ⟨rfl, rfl⟩
      · simp only [↓SX1, SX2, List.getElem?_cons_zero, List.getElem?_cons_succ, List.set_cons_zero, List.set_cons_succ, List.map_cons, List.map_nil, List.cons_append, List.nil_append, List.append_nil, List.replicate_succ, List.replicate_zero, List.length_cons, List.length_nil, if_true, if_false, true_and, and_true, and_self, Nat.zero_add, Int.natCast_zero, i0, i1, i2, i3, i4, decide_true, decide_false, Bool.not_true, Bool.not_false, ofString_inj, gt_iff_lt, List.all_cons, List.all_nil, List.any_cons, List.any_nil, Bool.and_true, Bool.true_and, Bool.and_self, Bool.or_false, Bool.false_or, Bool.or_true, Bool.true_or, szOk, mNeg, wipeM, ↓reduceIte, Nat.reduceAdd, Nat.reduceSub, Nat.reduceLeDiff, Int.reduceLT, Int.reduceLE, Int.reduceNeg, Int.reduceAdd, Int.reduceSub, Int.reducePow, Int.reduceEq, Int.reduceLT, Int.reduceMod, Int.reduceDiv, Int.reduceMul, Int.reduceToNat, String.reduceEq, reduceCtorEq]
        rw [Eq2_ap]; exact ⟨rfl, rfl⟩
    · rw [Bool.or_eq_true] at z
      rcases z with z | z
      · exact .inl (br_word (gw _ (by simp)) z)
      · exact .inr fun h => br_word (gw _ (by simp)) z
abbrev C10 : MS → MH → Res Bool := (tOrM (tAndM (tOfE (eVar 9)) (tOfE (eBin mEq (eBin mMod (eVar 7) (eC (.int 2))) (eC (.int 0))))) (tAndM (tOfE (eBin mEq (eVar 6) (eC (.int 0)))) (tOfE (eBin mGt (eBin mMod (eVar 7) (eC (.int 4))) (eC (.int 0))))))
theorem ev10 {gl : Bool} : ∃ c, C10 [a1, a2, a3, a4, a5, a6, some (.int k), some (.int v), a8, some (.bl gl), a10, a11] H = .ok c H ∧ (c = true → gl = true ∨ k = 0) := by
  by_cases h1 : gl = true ∧ v % 2 = 0
  · refine ⟨true, Gd.eq ?_, fun _ => .inl h1.1⟩
    obtain ⟨rfl, h2⟩ := h1
    simp only [↓SX1, SX2, List.getElem?_cons_zero, List.getElem?_cons_succ, List.set_cons_zero, List.set_cons_succ, List.map_cons, List.map_nil, List.cons_append, List.nil_append, List.append_nil, List.replicate_succ, List.replicate_zero, List.length_cons, List.length_nil, if_true, if_false, true_and, and_true, and_self, Nat.zero_add, Int.natCast_zero, i0, i1, i2, i3, i4, decide_true, decide_false, Bool.not_true, Bool.not_false, ofString_inj, gt_iff_lt, List.all_cons, List.all_nil, List.any_cons, List.any_nil, Bool.and_true, Bool.true_and, Bool.and_self, Bool.or_false, Bool.false_or, Bool.or_true, Bool.true_or, szOk, mNeg, wipeM, ↓reduceIte, Nat.reduceAdd, Nat.reduceSub, Nat.reduceLeDiff, Int.reduceLT, Int.reduceLE, Int.reduceNeg, Int.reduceAdd, Int.reduceSub, Int.reducePow, Int.reduceEq, Int.reduceLT, Int.reduceMod, Int.reduceDiv, Int.reduceMul, Int.reduceToNat, String.reduceEq, reduceCtorEq, h2]; exact ⟨rfl, rfl⟩
  · have go : Gd ((tAndM (tOfE (eBin mEq (eVar 6) (eC (.int 0)))) (tOfE (eBin mGt (eBin mMod (eVar 7) (eC (.int 4))) (eC (.int 0))))) [a1, a2, a3, a4, a5, a6, some (.int k), some (.int v), a8, some (.bl gl), a10, a11] H) (Eq2 (decide (k = 0 ∧ 0 < v % 4)) H) fun _ _ => False := by
      by_cases hk : k = 0
      · subst hk
        have z : (((0 : Nat) : Int) = 0) = True := by simp
        by_cases h4 : 0 < v % 4
        · simp only [↓SX1, SX2, List.getElem?_cons_zero, List.getElem?_cons_succ, List.set_cons_zero, List.set_cons_succ, List.map_cons, List.map_nil, List.cons_append, List.nil_append, List.append_nil, List.replicate_succ, List.replicate_zero, List.length_cons, List.length_nil, if_true, if_false, true_and, and_true, and_self, Nat.zero_add, Int.natCast_zero, i0, i1, i2, i3, i4, decide_true, decide_false, Bool.not_true, Bool.not_false, ofString_inj, gt_iff_lt, List.all_cons, List.all_nil, List.any_cons, List.any_nil, Bool.and_true, Bool.true_and, Bool.and_self, Bool.or_false, Bool.false_or, Bool.or_true, Bool.true_or, szOk, mNeg, wipeM, ↓reduceIte, Nat.reduceAdd, Nat.reduceSub, Nat.reduceLeDiff, Int.reduceLT, Int.reduceLE, Int.reduceNeg, Int.reduceAdd, Int.reduceSub, Int.reducePow, Int.reduceEq, Int.reduceLT, Int.reduceMod, Int.reduceDiv, Int.reduceMul, Int.reduceToNat, String.reduceEq, reduceCtorEq, z, h4]; exact ⟨rfl, rfl⟩
        · simp only [↓SX1, SX2, List.getElem?_cons_zero, List.getElem?_cons_succ, List.set_cons_zero, List.set_cons_succ, List.map_cons, List.map_nil, List.cons_append, List.nil_append, List.append_nil, List.replicate_succ, List.replicate_zero, List.length_cons, List.length_nil, if_true, if_false, true_and, and_true, and_self, Nat.zero_add, Int.natCast_zero, i0, i1, i2, i3, i4, decide_true, decide_false, Bool.not_true, Bool.not_false, ofString_inj, gt_iff_lt, List.all_cons, List.all_nil, List.any_cons, List.any_nil, Bool.and_true, Bool.true_and, Bool.and_self, Bool.or_false, Bool.false_or, Bool.or_true, Bool.true_or, szOk, mNeg, wipeM, ↓reduceIte, Nat.reduceAdd, Nat.reduceSub, Nat.reduceLeDiff, Int.reduceLT, Int.reduceLE, Int.reduceNeg, Int.reduceAdd, Int.reduceSub, Int.reducePow, Int.reduceEq, Int.reduceLT, Int.reduceMod, Int.reduceDiv, Int.reduceMul, Int.reduceToNat, String.reduceEq, reduceCtorEq, z, h4]; exact ⟨rfl, rfl⟩
      · have z : ((k : Int) = 0) = False := by simp; exact hk
        simp only [↓SX1, SX2, List.getElem?_cons_zero, List.getElem?_cons_succ, List.set_cons_zero, List.set_cons_succ, List.map_cons, List.map_nil, List.cons_append, List.nil_append, List.append_nil, List.replicate_succ, List.replicate_zero, List.length_cons, List.length_nil, if_true, if_false, true_and, and_true, and_self, Nat.zero_add, Int.natCast_zero, i0, i1, i2, i3, i4, decide_true, decide_false, Bool.not_true, Bool.not_false, ofString_inj, gt_iff_lt, List.all_cons, List.all_nil, List.any_cons, List.any_nil, Bool.and_true, Bool.true_and, Bool.and_self, Bool.or_false, Bool.false_or, Bool.or_true, Bool.true_or, szOk, mNeg, wipeM, ↓reduceIte, Nat.reduceAdd, Nat.reduceSub, Nat.reduceLeDiff, Int.reduceLT, Int.reduceLE, Int.reduceNeg, Int.reduceAdd, Int.reduceSub, Int.reducePow, Int.reduceEq, Int.reduceLT, Int.reduceMod, Int.reduceDiv, Int.reduceMul, Int.reduceToNat, String.reduceEq, reduceCtorEq, z, hk, false_and]; exact ⟨rfl, rfl⟩
    refine ⟨decide (k = 0 ∧ 0 < v % 4), Gd.eq ?_, fun z => .inr (of_decide_eq_true z).1⟩
    cases gl with
    | false => simp only [↓SX1, SX2, List.getElem?_cons_zero, List.getElem?_cons_succ, List.set_cons_zero, List.set_cons_succ, List.map_cons, List.map_nil, List.cons_append, List.nil_append, List.append_nil, List.replicate_succ, List.replicate_zero, List.length_cons, List.length_nil, if_true, if_false, true_and, and_true, and_self, Nat.zero_add, Int.natCast_zero, i0, i1, i2, i3, i4, decide_true, decide_false, Bool.not_true, Bool.not_false, ofString_inj, gt_iff_lt, List.all_cons, List.all_nil, List.any_cons, List.any_nil, Bool.and_true, Bool.true_and, Bool.and_self, Bool.or_false, Bool.false_or, Bool.or_true, Bool.true_or, szOk, mNeg, wipeM, ↓reduceIte, Nat.reduceAdd, Nat.reduceSub, Nat.reduceLeDiff, Int.reduceLT, Int.reduceLE, Int.reduceNeg, Int.reduceAdd, Int.reduceSub, Int.reducePow, Int.reduceEq, Int.reduceLT, Int.reduceMod, Int.reduceDiv, Int.reduceMul, Int.reduceToNat, String.reduceEq, reduceCtorEq]; simp only [↓SX1, SX2, List.getElem?_cons_zero, List.getElem?_cons_succ, List.set_cons_zero, List.set_cons_succ, List.map_cons, List.map_nil, List.cons_append, List.nil_append, List.append_nil, List.replicate_succ, List.replicate_zero, List.length_cons, List.length_nil, if_true, if_false, true_and, and_true, and_self, Nat.zero_add, Int.natCast_zero, i0, i1, i2, i3, i4, decide_true, decide_false, Bool.not_true, Bool.not_false, ofString_inj, gt_iff_lt, List.all_cons, List.all_nil, List.any_cons, List.any_nil, Bool.and_true, Bool.true_and, Bool.and_self, Bool.or_false, Bool.false_or, Bool.or_true, Bool.true_or, szOk, mNeg, wipeM, ↓reduceIte, Nat.reduceAdd, Nat.reduceSub, Nat.reduceLeDiff, Int.reduceLT, Int.reduceLE, Int.reduceNeg, Int.reduceAdd, Int.reduceSub, Int.reducePow, Int.reduceEq, Int.reduceLT, Int.reduceMod, Int.reduceDiv, Int.reduceMul, Int.reduceToNat, String.reduceEq, reduceCtorEq] at go; exact go
    | true =>
      have h2 : ¬ v % 2 = 0 := fun z => h1 ⟨rfl, z⟩
      simp only [↓SX1, SX2, List.getElem?_cons_zero, List.getElem?_cons_succ, List.set_cons_zero, List.set_cons_succ, List.map_cons, List.map_nil, List.cons_append, List.nil_append, List.append_nil, List.replicate_succ, List.replicate_zero, List.length_cons, List.length_nil, if_true, if_false, true_and, and_true, and_self, Nat.zero_add, Int.natCast_zero, i0, i1, i2, i3, i4, decide_true, decide_false, Bool.not_true, Bool.not_false, ofString_inj, gt_iff_lt, List.all_cons, List.all_nil, List.any_cons, List.any_nil, Bool.and_true, Bool.true_and, Bool.and_self, Bool.or_false, Bool.false_or, Bool.or_true, Bool.true_or, szOk, mNeg, wipeM, ↓reduceIte, Nat.reduceAdd, Nat.reduceSub, Nat.reduceLeDiff, Int.reduceLT, Int.reduceLE, Int.reduceNeg, Int.reduceAdd, Int.reduceSub, Int.reducePow, Int.reduceEq, Int.reduceLT, Int.reduceMod, Int.reduceDiv, Int.reduceMul, Int.reduceToNat, String.reduceEq, reduceCtorEq, h2]; simp only [↓SX1, SX2, List.getElem?_cons_zero, List.getElem?_cons_succ, List.set_cons_zero, List.set_cons_succ, List.map_cons, List.map_nil, List.cons_append, List.nil_append, List.append_nil, List.replicate_succ, List.replicate_zero, List.length_cons, List.length_nil, if_true, if_false, true_and, and_true, and_self, Nat.zero_add, Int.natCast_zero, i0, i1, i2, i3, i4, decide_true, decide_false, Bool.not_true, Bool.not_false, ofString_inj, gt_iff_lt, List.all_cons, List.all_nil, List.any_cons, List.any_nil, Bool.and_true, Bool.true_and, Bool.and_self, Bool.or_false, Bool.false_or, Bool.or_true, Bool.true_or, szOk, mNeg, wipeM, ↓reduceIte, Nat.reduceAdd, Nat.reduceSub, Nat.reduceLeDiff, Int.reduceLT, Int.reduceLE, Int.reduceNeg, Int.reduceAdd, Int.reduceSub, Int.reducePow, Int.reduceEq, Int.reduceLT, Int.reduceMod, Int.reduceDiv, Int.reduceMul, Int.reduceToNat, String.reduceEq, reduceCtorEq] at go; exact go
abbrev E11 : ME := (eBin mAdd (eC (.int 1)) (eBin mMul (eCallB mInt2 (aCons (eBin mLt (eVar 3) (eC (.int 100))) aNil)) (eBin mMod (eBin mDiv (eVar 7) (eC (.int 30))) (eC (.int 2)))))
theorem ev11 {row : Nat} : ∃ mm : Nat, E11 [a1, a2, a3, some (.int row), a5, a6, a8, some (.int v), a9, a10, a11, a4] H = .ok (.int ((mm + 1 : Nat) : Int)) H ∧ mm ≤ 1 ∧ (100 ≤ row → mm = 0) := by
  have i2 : ∀ b H, mInt2 [.bl b] H = .ok (.int (if b then 1 else 0)) H := fun _ _ => rfl
  have l1 : lowI 1 := low (by decide) (by decide)
  have l0 : lowI 0 := low (by decide) (by decide)
  by_cases hr : (row : Int) < 100
  · obtain ⟨mm, e, hm⟩ : ∃ mm : Nat, v / 30 % 2 = (mm : Int) ∧ mm ≤ 1 := ⟨(v / 30 % 2).toNat, by omega, by omega⟩
    refine ⟨mm, Gd.eq ?_, hm, fun h => by omega⟩
    simp only [↓SX1, SX2, List.getElem?_cons_zero, List.getElem?_cons_succ, List.set_cons_zero, List.set_cons_succ, List.map_cons, List.map_nil, List.cons_append, List.nil_append, List.append_nil, List.replicate_succ, List.replicate_zero, List.length_cons, List.length_nil, if_true, if_false, true_and, and_true, and_self, Nat.zero_add, Int.natCast_zero, i0, i1, i2, i3, i4, decide_true, decide_false, Bool.not_true, Bool.not_false, ofString_inj, gt_iff_lt, List.all_cons, List.all_nil, List.any_cons, List.any_nil, Bool.and_true, Bool.true_and, Bool.and_self, Bool.or_false, Bool.false_or, Bool.or_true, Bool.true_or, szOk, mNeg, wipeM, ↓reduceIte, Nat.reduceAdd, Nat.reduceSub, Nat.reduceLeDiff, Int.reduceLT, Int.reduceLE, Int.reduceNeg, Int.reduceAdd, Int.reduceSub, Int.reducePow, Int.reduceEq, Int.reduceLT, Int.reduceMod, Int.reduceDiv, Int.reduceMul, Int.reduceToNat, String.reduceEq, reduceCtorEq, hr, i2, mMul, l1, true_or, e]
    rw [Eq2_ap]
    refine ⟨?_, rfl⟩
    congr 1
    push_cast
    omega
  · refine ⟨0, Gd.eq ?_, by omega, fun _ => rfl⟩
    simp only [↓SX1, SX2, List.getElem?_cons_zero, List.getElem?_cons_succ, List.set_cons_zero, List.set_cons_succ, List.map_cons, List.map_nil, List.cons_append, List.nil_append, List.append_nil, List.replicate_succ, List.replicate_zero, List.length_cons, List.length_nil, if_true, if_false, true_and, and_true, and_self, Nat.zero_add, Int.natCast_zero, i0, i1, i2, i3, i4, decide_true, decide_false, Bool.not_true, Bool.not_false, ofString_inj, gt_iff_lt, List.all_cons, List.all_nil, List.any_cons, List.any_nil, Bool.and_true, Bool.true_and, Bool.and_self, Bool.or_false, Bool.false_or, Bool.or_true, Bool.true_or, szOk, mNeg, wipeM, ↓reduceIte, Nat.reduceAdd, Nat.reduceSub, Nat.reduceLeDiff, Int.reduceLT, Int.reduceLE, Int.reduceNeg, Int.reduceAdd, Int.reduceSub, Int.reducePow, Int.reduceEq, Int.reduceLT, Int.reduceMod, Int.reduceDiv, Int.reduceMul, Int.reduceToNat, String.reduceEq, reduceCtorEq, hr, i2, mMul, l0, true_or]
    rw [Eq2_ap]
    refine ⟨?_, rfl⟩
    congr 1
    omega
abbrev C12 : MS → MH → Res Bool := (tOrM (tAndM (tOfE (eBin mEq (eBin mMod (eBin mDiv (eVar 7) (eC (.int 6))) (eC (.int 5))) (eC (.int 0)))) (tOfE (eBin mLt (eVar 3) (eC (.int 100))))) (tOfE (eBin mGt (eBin mAdd (eBin mAdd (eVar 4) (eCallB mLen (aCons (eVar 10) aNil))) (eCallB mLen (aCons (eVar 8) aNil))) (eC (.int 121)))))
theorem ev12 {row col g : Nat} {w : Str} (hg : g ≤ 1000) (hw : w.length ≤ 1000) : ∃ c, C12 [a1, a2, a3, some (.int row), some (.int col), a6, a7, some (.int v), some (.str w), a10, some (.str (ofL (List.replicate g 32))), a11] H = .ok c H ∧ (c = true → row < 100 ∨ 121 < col + g + w.length) ∧ (c = false → col + g + w.length ≤ 121) := by
  have lg : (ofL (List.replicate g 32)).length = g := by rw [ofL_len]; simp
  by_cases h1 : v / 6 % 5 = 0 ∧ (row : Int) < 100
  · refine ⟨true, Gd.eq ?_, fun _ => .inl (by omega), fun z => by cases z⟩
    simp only [↓SX1, SX2, List.getElem?_cons_zero, List.getElem?_cons_succ, List.set_cons_zero, List.set_cons_succ, List.map_cons, List.map_nil, List.cons_append, List.nil_append, List.append_nil, List.replicate_succ, List.replicate_zero, List.length_cons, List.length_nil, if_true, if_false, true_and, and_true, and_self, Nat.zero_add, Int.natCast_zero, i0, i1, i2, i3, i4, decide_true, decide_false, Bool.not_true, Bool.not_false, ofString_inj, gt_iff_lt, List.all_cons, List.all_nil, List.any_cons, List.any_nil, Bool.and_true, Bool.true_and, Bool.and_self, Bool.or_false, Bool.false_or, Bool.or_true, Bool.true_or, szOk, mNeg, wipeM, ↓reduceIte, Nat.reduceAdd, Nat.reduceSub, Nat.reduceLeDiff, Int.reduceLT, Int.reduceLE, Int.reduceNeg, Int.reduceAdd, Int.reduceSub, Int.reducePow, Int.reduceEq, Int.reduceLT, Int.reduceMod, Int.reduceDiv, Int.reduceMul, Int.reduceToNat, String.reduceEq, reduceCtorEq, h1.1, h1.2]; exact ⟨rfl, rfl⟩
  · have go : Gd ((tOfE (eBin mGt (eBin mAdd (eBin mAdd (eVar 4) (eCallB mLen (aCons (eVar 10) aNil))) (eCallB mLen (aCons (eVar 8) aNil))) (eC (.int 121)))) [a1, a2, a3, some (.int row), some (.int col), a6, a7, some (.int v), some (.str w), a10, some (.str (ofL (List.replicate g 32))), a11] H) (Eq2 (decide (121 < col + g + w.length)) H) fun _ _ => False := by
      simp only [↓SX1, SX2, List.getElem?_cons_zero, List.getElem?_cons_succ, List.set_cons_zero, List.set_cons_succ, List.map_cons, List.map_nil, List.cons_append, List.nil_append, List.append_nil, List.replicate_succ, List.replicate_zero, List.length_cons, List.length_nil, if_true, if_false, true_and, and_true, and_self, Nat.zero_add, Int.natCast_zero, i0, i1, i2, i3, i4, decide_true, decide_false, Bool.not_true, Bool.not_false, ofString_inj, gt_iff_lt, List.all_cons, List.all_nil, List.any_cons, List.any_nil, Bool.and_true, Bool.true_and, Bool.and_self, Bool.or_false, Bool.false_or, Bool.or_true, Bool.true_or, szOk, mNeg, wipeM, ↓reduceIte, Nat.reduceAdd, Nat.reduceSub, Nat.reduceLeDiff, Int.reduceLT, Int.reduceLE, Int.reduceNeg, Int.reduceAdd, Int.reduceSub, Int.reducePow, Int.reduceEq, Int.reduceLT, Int.reduceMod, Int.reduceDiv, Int.reduceMul, Int.reduceToNat, String.reduceEq, reduceCtorEq, lg]
      refine ⟨by omega, by omega, ?_⟩
      rw [Eq2_ap]
      refine ⟨?_, rfl⟩
      congr 1
      apply propext
      omega
    refine ⟨decide (121 < col + g + w.length), Gd.eq ?_, fun z => .inr (of_decide_eq_true z), fun z => by have := of_decide_eq_false z; omega⟩
    by_cases h2 : v / 6 % 5 = 0
    · have h3 : ¬ (row : Int) < 100 := fun z => h1 ⟨h2, z⟩
      simp only [↓SX1, SX2, List.getElem?_cons_zero, List.getElem?_cons_succ, List.set_cons_zero, List.set_cons_succ, List.map_cons, List.map_nil, List.cons_append, List.nil_append, List.append_nil, List.replicate_succ, List.replicate_zero, List.length_cons, List.length_nil, if_true, if_false, true_and, and_true, and_self, Nat.zero_add, Int.natCast_zero, i0, i1, i2, i3, i4, decide_true, decide_false, Bool.not_true, Bool.not_false, ofString_inj, gt_iff_lt, List.all_cons, List.all_nil, List.any_cons, List.any_nil, Bool.and_true, Bool.true_and, Bool.and_self, Bool.or_false, Bool.false_or, Bool.or_true, Bool.true_or, szOk, mNeg, wipeM, ↓reduceIte, Nat.reduceAdd, Nat.reduceSub, Nat.reduceLeDiff, Int.reduceLT, Int.reduceLE, Int.reduceNeg, Int.reduceAdd, Int.reduceSub, Int.reducePow, Int.reduceEq, Int.reduceLT, Int.reduceMod, Int.reduceDiv, Int.reduceMul, Int.reduceToNat, String.reduceEq, reduceCtorEq, h2, h3]; simp only [↓SX1, SX2, List.getElem?_cons_zero, List.getElem?_cons_succ, List.set_cons_zero, List.set_cons_succ, List.map_cons, List.map_nil, List.cons_append, List.nil_append, List.append_nil, List.replicate_succ, List.replicate_zero, List.length_cons, List.length_nil, if_true, if_false, true_and, and_true, and_self, Nat.zero_add, Int.natCast_zero, i0, i1, i2, i3, i4, decide_true, decide_false, Bool.not_true, Bool.not_false, ofString_inj, gt_iff_lt, List.all_cons, List.all_nil, List.any_cons, List.any_nil, Bool.and_true, Bool.true_and, Bool.and_self, Bool.or_false, Bool.false_or, Bool.or_true, Bool.true_or, szOk, mNeg, wipeM, ↓reduceIte, Nat.reduceAdd, Nat.reduceSub, Nat.reduceLeDiff, Int.reduceLT, Int.reduceLE, Int.reduceNeg, Int.reduceAdd, Int.reduceSub, Int.reducePow, Int.reduceEq, Int.reduceLT, Int.reduceMod, Int.reduceDiv, Int.reduceMul, Int.reduceToNat, String.reduceEq, reduceCtorEq] at go; exact go
    · simp only [↓SX1, SX2, List.getElem?_cons_zero, List.getElem?_cons_succ, List.set_cons_zero, List.set_cons_succ, List.map_cons, List.map_nil, List.cons_append, List.nil_append, List.append_nil, List.replicate_succ, List.replicate_zero, List.length_cons, List.length_nil, if_true, if_false, true_and, and_true, and_self, Nat.zero_add, Int.natCast_zero, i0, i1, i2, i3, i4, decide_true, decide_false, Bool.not_true, Bool.not_false, ofString_inj, gt_iff_lt, List.all_cons, List.all_nil, List.any_cons, List.any_nil, Bool.and_true, Bool.true_and, Bool.and_self, Bool.or_false, Bool.false_or, Bool.or_true, Bool.true_or, szOk, mNeg, wipeM, ↓reduceIte, Nat.reduceAdd, Nat.reduceSub, Nat.reduceLeDiff, Int.reduceLT, Int.reduceLE, Int.reduceNeg, Int.reduceAdd, Int.reduceSub, Int.reducePow, Int.reduceEq, Int.reduceLT, Int.reduceMod, Int.reduceDiv, Int.reduceMul, Int.reduceToNat, String.reduceEq, reduceCtorEq, h2]; simp only [↓SX1, SX2, List.getElem?_cons_zero, List.getElem?_cons_succ, List.set_cons_zero, List.set_cons_succ, List.map_cons, List.map_nil, List.cons_append, List.nil_append, List.append_nil, List.replicate_succ, List.replicate_zero, List.length_cons, List.length_nil, if_true, if_false, true_and, and_true, and_self, Nat.zero_add, Int.natCast_zero, i0, i1, i2, i3, i4, decide_true, decide_false, Bool.not_true, Bool.not_false, ofString_inj, gt_iff_lt, List.all_cons, List.all_nil, List.any_cons, List.any_nil, Bool.and_true, Bool.true_and, Bool.and_self, Bool.or_false, Bool.false_or, Bool.or_true, Bool.true_or, szOk, mNeg, wipeM, ↓reduceIte, Nat.reduceAdd, Nat.reduceSub, Nat.reduceLeDiff, Int.reduceLT, Int.reduceLE, Int.reduceNeg, Int.reduceAdd, Int.reduceSub, Int.reducePow, Int.reduceEq, Int.reduceLT, Int.reduceMod, Int.reduceDiv, Int.reduceMul, Int.reduceToNat, String.reduceEq, reduceCtorEq] at go; exact go
end
end My

set_option Elab.async false
set_option linter.all false
set_option maxRecDepth 100000
set_option maxHeartbeats 4000000
namespace My
open PySem L2 Sm
abbrev TAIL : MSt := (sSeq (sSet 2 (eBin mAdd (eBin mAdd (eVar 2) (eVar 10)) (eVar 8)))
    (sSeq (sExpr (eBM "list" mAppend (eVar 5) (aCons (eTup (aCons (eVar 3) (aCons (eBin mAdd (eVar 4) (eCallB mLen (aCons (eVar 10) aNil))) aNil))) aNil)))
    (sSet 4 (eBin mAdd (eBin mAdd (eVar 4) (eCallB mLen (aCons (eVar 10) aNil))) (eCallB mLen (aCons (eVar 8) aNil))))))
section
variable {ws : List Str} {r : List Int} {c : Nat} {h : MH} {wl : Nat} {D : SW4}
theorem wz_take {k : Nat} (hk : k < ws.length) : Dr.wsum (ws.take (k + 1)) = Dr.wsum (ws.take k) + ws[k].length + 3 := by
  rw [List.take_succ, List.getElem?_eq_getElem hk]
  show Dr.wsum _ = _
  rw [Dr.wsum_app]
  simp only [Option.toList, Dr.wsum_cons, Dr.wsum_nil]
  omega
theorem tail_ok {k m g : Nat} {rs : List (List Pc)} {cur : List Pc} {H : MH} {y6 y7 y9 y11 : Option MV} (gw : allG ws) (hb : Dr.wsum ws ≤ 9140) (hk : k < ws.length) (hm : k + 1 + m = ws.length) (h2 : 2 ≤ h.length)
    (rows : ∀ x, x ∈ rs ++ [cur] → GRow x) (words : (placed (rs ++ [cur]) 0).map (·.1) = ws.take k) (phi : 58 * (rs.length + 1) + (pcs cur).length + 1 + g ≤ 5980 + Dr.wsum (ws.take k) + 3) (deck : ∃ b g, H = Dk r (c + (k + 1)) b g)
    (fr : FrD h H) (sps : H[h.length]? = some (.lst ((placed (rs ++ [cur]) 0).map sp2))) (hg : g ≤ 3) (hs : ∀ g' w', cur.getLast? = some (g', w') → 0 < g ∨ isB w' = true ∨ isB ws[k] = true) (hl : (pcs cur).length + g + ws[k].length ≤ 120) :
    Sd (TAIL [some (.ref wl), some (.ref 1), some (.str (txt rs cur)), some (.int ((rs.length + 1 : Nat) : Int)), some (.int (((pcs cur).length + 1 : Nat) : Int)), some (.ref h.length), y6, y7, some (.str ws[k]), y9, some (.str (ofL (List.replicate g 32))), y11] H) (kI (IL3 ws r c h wl) (intR ((k : Int) + 1) m) D) := by
  have gk := gw ws[k] (List.getElem_mem hk)
  have lk := gW_len gk
  have lg : (ofL (List.replicate g 32)).length = g := by rw [ofL_len]; simp
  have wt := wz_take hk
  have lw : Dr.wsum (ws.take (k + 1)) ≤ Dr.wsum ws := by
    conv => rhs; rw [← List.take_append_drop (k + 1) ws]
    show _ ≤ Dr.wsum _
    rw [Dr.wsum_app]
    exact Nat.le_add_right _ _
  have lt := txt_len rows
  have few : rs.length + 1 ≤ 300 := by omega
  have ta := tx_add rs cur g ws[k]
  have pa := placed_add rs cur g ws[k]
  have ec : (((pcs cur).length + 1 : Nat) : Int) + (g : Int) = (((pcs cur).length + g + 1 : Nat) : Int) := by push_cast; omega
  have ec2 : (((pcs cur).length + g + 1 : Nat) : Int) + (ws[k].length : Int) = (((pcs (cur ++ [(g, ws[k])])).length + 1 : Nat) : Int) := by
    rw [pcs_app]
    simp only [pcs, List.length_append, List.length_replicate, List.length_nil]
    have := cl_len ws[k]
    push_cast; omega
  have lp : (placed (rs ++ [cur]) 0).length ≤ 100000 := by
    have := congrArg List.length words
    rw [List.length_map, List.length_take] at this
    have q : ∀ l : List Str, l.length ≤ Dr.wsum l := fun l => by
      induction l with
      | nil => simp
      | cons x l ih => rw [List.length_cons]; show _ ≤ Dr.wsum _; rw [Dr.wsum_cons]; have : l.length ≤ Dr.wsum l := ih; omega
    have := q ws
    omega
  have lp2 : ((placed (rs ++ [cur]) 0).map sp2).length < 1000000 := by rw [List.length_map]; omega
  have ap := app_ok (x := sp2 (ws[k], rs.length + 1, (pcs cur).length + g + 1)) sps lp2
  simp only [sp2] at ap
  obtain ⟨b, g', hH⟩ := deck
  simp only [↓SX1, SX2, List.getElem?_cons_zero, List.getElem?_cons_succ, List.set_cons_zero, List.set_cons_succ, List.map_cons, List.map_nil, List.cons_append, List.nil_append, List.append_nil, List.replicate_succ, List.replicate_zero, List.length_cons, List.length_nil, if_true, if_false, true_and, and_true, and_self, Nat.zero_add, Int.natCast_zero, i0, i1, i2, i3, i4, decide_true, decide_false, Bool.not_true, Bool.not_false, ofString_inj, gt_iff_lt, List.all_cons, List.all_nil, List.any_cons, List.any_nil, Bool.and_true, Bool.true_and, Bool.and_self, Bool.or_false, Bool.false_or, Bool.or_true, Bool.true_or, szOk, mNeg, wipeM, ↓reduceIte, Nat.reduceAdd, Nat.reduceSub, Nat.reduceLeDiff, Int.reduceLT, Int.reduceLE, Int.reduceNeg, Int.reduceAdd, Int.reduceSub, Int.reducePow, Int.reduceEq, Int.reduceLT, Int.reduceMod, Int.reduceDiv, Int.reduceMul, Int.reduceToNat, String.reduceEq, reduceCtorEq, lg]
  refine ⟨by omega, by rw [len_app, lg]; omega, ?_⟩
  rw [ta]
  simp only [↓SX1, SX2, List.getElem?_cons_zero, List.getElem?_cons_succ, List.set_cons_zero, List.set_cons_succ, List.map_cons, List.map_nil, List.cons_append, List.nil_append, List.append_nil, List.replicate_succ, List.replicate_zero, List.length_cons, List.length_nil, if_true, if_false, true_and, and_true, and_self, Nat.zero_add, Int.natCast_zero, i0, i1, i2, i3, i4, decide_true, decide_false, Bool.not_true, Bool.not_false, ofString_inj, gt_iff_lt, List.all_cons, List.all_nil, List.any_cons, List.any_nil, Bool.and_true, Bool.true_and, Bool.and_self, Bool.or_false, Bool.false_or, Bool.or_true, Bool.true_or, szOk, mNeg, wipeM, ↓reduceIte, Nat.reduceAdd, Nat.reduceSub, Nat.reduceLeDiff, Int.reduceLT, Int.reduceLE, Int.reduceNeg, Int.reduceAdd, Int.reduceSub, Int.reducePow, Int.reduceEq, Int.reduceLT, Int.reduceMod, Int.reduceDiv, Int.reduceMul, Int.reduceToNat, String.reduceEq, reduceCtorEq, tyl sps, lg]
  refine ⟨by omega, ?_⟩
  rw [ec]
  simp only [↓SX1, SX2, List.getElem?_cons_zero, List.getElem?_cons_succ, List.set_cons_zero, List.set_cons_succ, List.map_cons, List.map_nil, List.cons_append, List.nil_append, List.append_nil, List.replicate_succ, List.replicate_zero, List.length_cons, List.length_nil, if_true, if_false, true_and, and_true, and_self, Nat.zero_add, Int.natCast_zero, i0, i1, i2, i3, i4, decide_true, decide_false, Bool.not_true, Bool.not_false, ofString_inj, gt_iff_lt, List.all_cons, List.all_nil, List.any_cons, List.any_nil, Bool.and_true, Bool.true_and, Bool.and_self, Bool.or_false, Bool.false_or, Bool.or_true, Bool.true_or, szOk, mNeg, wipeM, ↓reduceIte, Nat.reduceAdd, Nat.reduceSub, Nat.reduceLeDiff, Int.reduceLT, Int.reduceLE, Int.reduceNeg, Int.reduceAdd, Int.reduceSub, Int.reducePow, Int.reduceEq, Int.reduceLT, Int.reduceMod, Int.reduceDiv, Int.reduceMul, Int.reduceToNat, String.reduceEq, reduceCtorEq, ap, lg]
  refine ⟨by omega, by omega, ?_⟩
  rw [ec, ec2]
  have ek : (k : Int) + 1 = ((k + 1 : Nat) : Int) := by push_cast; rfl
  rw [ek]
  refine ⟨k + 1, m, rs, cur ++ [(g, ws[k])], _, _, _, _, _, _, rfl, by omega, ⟨?_, ?_, ?_, ?_, fr.set (Nat.le_refl _), ?_⟩, rfl⟩
  · intro x hx
    rcases List.mem_append.mp hx with hx | hx
    · exact rows x (by simp [hx])
    · rw [List.mem_singleton] at hx
      subst hx
      exact (rows cur (by simp)).snoc gk hs hl
  · rw [pa, List.map_append, words, List.take_succ, List.getElem?_eq_getElem hk]; rfl
  · rw [wt, pcs_app]
    simp only [pcs, List.length_append, List.length_replicate, List.length_nil]
    have := cl_len ws[k]
    omega
  · refine FrD.of (b := b) (g := g') ?_ ?_ |>.elim fun z e => ⟨b, z, e⟩
    · rw [gsn (by omega), hH]; rfl
    · rw [gsn (by omega), hH]; rfl
  · rw [gss sps, pa]; simp [sp2]
def tails : List (List (List Nat)) := [[], [[]], [[32]], [[32, 32], [32]]]
theorem tails_ok : ∀ T, T ∈ tails → (∀ t, t ∈ T → isBl t) ∧ T.length ≤ 2 := by
  intro T hT
  simp only [tails, List.mem_cons, List.not_mem_nil, or_false] at hT
  rcases hT with rfl | rfl | rfl | rfl
  · exact ⟨fun t h => (by cases h), by decide⟩
  · exact ⟨fun t h => by simp at h; exact .inl h, by decide⟩
  · exact ⟨fun t h => by simp at h; exact .inr (.inl h), by decide⟩
  · exact ⟨fun t h => by simp at h; rcases h with h | h; exact .inr (.inr h); exact .inr (.inl h), by decide⟩
def PLd (ws : List Str) (r : List Int) (h : MH) : MV → MH → Prop := fun v h' => ∃ (R : List (List Pc)) (T : List (List Nat)) (n c' : Nat) (b' : Int) (g' : MH), v = .tup [.str (ofL (JL (R.map pcs ++ T))), .ref n] ∧ R ≠ [] ∧ (∀ x, x ∈ R → GRow x) ∧ (∀ t, t ∈ T → isBl t) ∧ R.length + T.length ≤ 299 ∧ (placed R 0).map (·.1) = ws ∧
  h' = Dk r c' b' g' ∧ c' ≤ 90000 ∧ FrD h h' ∧ h.length ≤ n ∧ h'[n]? = some (.lst ((placed R 0).map sp2))
theorem laid_ok {b : Int} {g : MH} (hr : Row r) (gw : allG ws) (hb : Dr.wsum ws ≤ 9140) (hc : c ≤ 2000) (hh : h = Dk r c b g) (hw2 : 2 ≤ wl) (el : h[wl]? = some (.lst (ws.map MV.str))) : Wp (m_law_laid [.ref wl, .ref 1] h) (PLd ws r h) := by
  have q : ∀ l : List Str, l.length ≤ Dr.wsum l := fun l => by
    induction l with
    | nil => simp
    | cons x l ih => rw [List.length_cons]; show _ ≤ Dr.wsum _; rw [Dr.wsum_cons]; have : l.length ≤ Dr.wsum l := ih; omega
  have lws := q ws
  have h2 : 2 ≤ h.length := by rw [hh]; simp [Dk]
  unfold m_law_laid
  refine m_fun rfl ?_
  unfold b_law_laid
  have elA : (h ++ [MO.lst []])[wl]? = some (.lst (ws.map MV.str)) := gap el
  simp only [↓SX1, SX2, List.getElem?_cons_zero, List.getElem?_cons_succ, List.set_cons_zero, List.set_cons_succ, List.map_cons, List.map_nil, List.cons_append, List.nil_append, List.append_nil, List.replicate_succ, List.replicate_zero, List.length_cons, List.length_nil, if_true, if_false, true_and, and_true, and_self, Nat.zero_add, Int.natCast_zero, i0, i1, i2, i3, i4, decide_true, decide_false, Bool.not_true, Bool.not_false, ofString_inj, gt_iff_lt, List.all_cons, List.all_nil, List.any_cons, List.any_nil, Bool.and_true, Bool.true_and, Bool.and_self, Bool.or_false, Bool.false_or, Bool.or_true, Bool.true_or, szOk, mNeg, wipeM, ↓reduceIte, Nat.reduceAdd, Nat.reduceSub, Nat.reduceLeDiff, Int.reduceLT, Int.reduceLE, Int.reduceNeg, Int.reduceAdd, Int.reduceSub, Int.reducePow, Int.reduceEq, Int.reduceLT, Int.reduceMod, Int.reduceDiv, Int.reduceMul, Int.reduceToNat, String.reduceEq, reduceCtorEq, elA, List.length_map]
  have r1 : -(2 ^ 62) ≤ (ws.length : Int) ∧ (ws.length : Int) < 2 ^ 62 := by
    have e : (2 : Int) ^ 62 = 4611686018427387904 := by decide
    rw [e]; omega
  refine ⟨r1, ?_⟩
  refine s_for (IL3 ws r c h wl) (fun _ _ h _ _ z => by cases z) ?_ ?_ _ _ _ ⟨0, ws.length, [], [], none, none, none, none, none, none, rfl, by omega, ⟨?_, by simp [placed, cols], by simp [pcs, Dr.wsum], ⟨b, g ++ [.lst []], by rw [hh]; rfl⟩, .app, by rw [gnew]; simp [placed, cols]⟩, rfl⟩
  · rintro x xs ρ H ⟨k, m, rs, cur, y6, y7, y8, y9, y10, y11, e1, hm, L, rfl⟩
    cases m with
    | zero => rw [intR_zero] at e1; cases e1
    | succ m =>
      rw [intR_succ] at e1
      simp only [List.cons.injEq] at e1
      obtain ⟨rfl, rfl⟩ := e1
      have hk : k < ws.length := by omega
      refine ⟨_, rfl, ?_⟩
      obtain ⟨b1, g1, hD⟩ := L.deck
      obtain ⟨v, v0, v1, ev⟩ := next_ok (g := g1) (b := b1) (c := c + k) hr (by omega)
      obtain ⟨H2, hH2⟩ : ∃ H2, H2 = Dk r (c + k + 1) b1 g1 := ⟨_, rfl⟩
      have f2 : FrD H H2 := by rw [hD, hH2]; exact FrD.dk
      have elH := (L.fr.trans f2).get hw2 el
      have aw : atI (ws.map MV.str) (k : Int) = some (.str ws[k]) := ixNat (by simp [hk])
      have nx : eCallD m_law_next [] (aCons (eVar 1) aNil) [some (.ref wl), some (.ref 1), some (.str (txt rs cur)), some (.int ((rs.length + 1 : Nat) : Int)), some (.int (((pcs cur).length + 1 : Nat) : Int)), some (.ref h.length), some (.int k), y7, y8, y9, y10, y11] H = .ok (.int v) H2 := by
        rw [hD, hH2]
        show Res.bind _ _ = _
        simp only [aCons, aNil, eVar, List.getElem?_cons_succ, List.getElem?_cons_zero, Res.bind_ok, List.append_nil]
        exact ev
      refine s_set1 nx ?_
      refine s_set1 (v := .str ws[k]) (h' := H2) (by refine Gd.eq ?_; simp only [↓SX1, SX2, List.getElem?_cons_zero, List.getElem?_cons_succ, List.set_cons_zero, List.set_cons_succ, List.map_cons, List.map_nil, List.cons_append, List.nil_append, List.append_nil, List.replicate_succ, List.replicate_zero, List.length_cons, List.length_nil, if_true, if_false, true_and, and_true, and_self, Nat.zero_add, Int.natCast_zero, i0, i1, i2, i3, i4, decide_true, decide_false, Bool.not_true, Bool.not_false, ofString_inj, gt_iff_lt, List.all_cons, List.all_nil, List.any_cons, List.any_nil, Bool.and_true, Bool.true_and, Bool.and_self, Bool.or_false, Bool.false_or, Bool.or_true, Bool.true_or, szOk, mNeg, wipeM, ↓reduceIte, Nat.reduceAdd, Nat.reduceSub, Nat.reduceLeDiff, Int.reduceLT, Int.reduceLE, Int.reduceNeg, Int.reduceAdd, Int.reduceSub, Int.reducePow, Int.reduceEq, Int.reduceLT, Int.reduceMod, Int.reduceDiv, Int.reduceMul, Int.reduceToNat, String.reduceEq, reduceCtorEq, elH, aw]; exact ⟨rfl, rfl⟩) ?_
      obtain ⟨gl, e9, p9⟩ := ev9 (a1 := some (.ref 1)) (a2 := some (.str (txt rs cur))) (a3 := some (.int ((rs.length + 1 : Nat) : Int))) (a4 := some (.int (((pcs cur).length + 1 : Nat) : Int))) (a5 := some (.ref h.length)) (a7 := some (.int v)) (a9 := y9) (a10 := y10) (a11 := y11) elH hk gw
      refine s_set1 e9 ?_
      obtain ⟨g3, eg3, hg3⟩ : ∃ g3 : Nat, 1 + v % 3 = (g3 : Int) ∧ 1 ≤ g3 ∧ g3 ≤ 3 := ⟨(1 + v % 3).toNat, by omega, by omega, by omega⟩
      refine s_set1 (v := .str (ofL (List.replicate g3 32))) (h' := H2) (by refine Gd.eq ?_; simp only [↓SX1, SX2, List.getElem?_cons_zero, List.getElem?_cons_succ, List.set_cons_zero, List.set_cons_succ, List.map_cons, List.map_nil, List.cons_append, List.nil_append, List.append_nil, List.replicate_succ, List.replicate_zero, List.length_cons, List.length_nil, if_true, if_false, true_and, and_true, and_self, Nat.zero_add, Int.natCast_zero, i0, i1, i2, i3, i4, decide_true, decide_false, Bool.not_true, Bool.not_false, ofString_inj, gt_iff_lt, List.all_cons, List.all_nil, List.any_cons, List.any_nil, Bool.and_true, Bool.true_and, Bool.and_self, Bool.or_false, Bool.false_or, Bool.or_true, Bool.true_or, szOk, mNeg, wipeM, ↓reduceIte, Nat.reduceAdd, Nat.reduceSub, Nat.reduceLeDiff, Int.reduceLT, Int.reduceLE, Int.reduceNeg, Int.reduceAdd, Int.reduceSub, Int.reducePow, Int.reduceEq, Int.reduceLT, Int.reduceMod, Int.reduceDiv, Int.reduceMul, Int.reduceToNat, String.reduceEq, reduceCtorEq, eg3, mul_sp g3 (by omega)]; exact ⟨rfl, rfl⟩) ?_
      obtain ⟨c10, e10, p10⟩ := ev10 (H := H2) (a1 := some (.ref wl)) (a2 := some (.ref 1)) (a3 := some (.str (txt rs cur))) (a4 := some (.int ((rs.length + 1 : Nat) : Int))) (a5 := some (.int (((pcs cur).length + 1 : Nat) : Int))) (a6 := some (.ref h.length)) (k := k) (v := v) (a8 := some (.str ws[k])) (a10 := some (.str (ofL (List.replicate g3 32)))) (a11 := y11) (gl := gl)
      refine s_if1 e10 ?_
      obtain ⟨g1', hg1, hp1⟩ : ∃ g1' : Nat, (if c10 = true then 0 else g3) = g1' ∧ (g1' = 0 → gl = true ∨ k = 0) := ⟨_, rfl, fun z => p10 (by cases c10 <;> simp at z ⊢; omega)⟩
      have g13 : g1' ≤ 3 := by rw [← hg1]; split <;> omega
      have mid : Sd ((sSeq (sSet 11 E11)
          (sSeq (sIf C12
          (sSeq (sSet 2 (eBin mAdd (eVar 2) (eBin mMul (eC (.str "\n")) (eVar 11))))
          (sSeq (sSet 3 (eBin mAdd (eVar 3) (eVar 11)))
          (sSeq (sSet 4 (eC (.int 1)))
          (sSet 10 (eBin mMul (eC (.str " ")) (eBin mMod (eBin mDiv (eVar 7) (eC (.int 60))) (eC (.int 4))))))))
          sNil) TAIL)) [some (.ref wl), some (.ref 1), some (.str (txt rs cur)), some (.int ((rs.length + 1 : Nat) : Int)), some (.int (((pcs cur).length + 1 : Nat) : Int)), some (.ref h.length), some (.int k), some (.int v), some (.str ws[k]), some (.bl gl), some (.str (ofL (List.replicate g1' 32))), y11] H2)
          (kI (IL3 ws r c h wl) (intR ((k : Int) + 1) m) (kNext (sRet (eTup (aCons (eBin mAdd (eVar 2) (eIxL (lDisp (aCons (eC (.str "")) (aCons (eC (.str "\n")) (aCons (eC (.str "\n ")) (aCons (eC (.str "\n  \n ")) aNil))))) (eBin mMod (eCallD m_law_next [] (aCons (eVar 1) aNil)) (eC (.int 4))))) (aCons (eVar 5) aNil)))) (kFun h (PLd ws r h)))) := by
        obtain ⟨mm, e11, hm1, hm2⟩ := ev11 (H := H2) (a1 := some (.ref wl)) (a2 := some (.ref 1)) (a3 := some (.str (txt rs cur))) (row := rs.length + 1) (a5 := some (.int (((pcs cur).length + 1 : Nat) : Int))) (a6 := some (.ref h.length)) (a8 := some (.int k)) (v := v) (a9 := some (.str ws[k])) (a10 := some (.bl gl)) (a11 := some (.str (ofL (List.replicate g1' 32)))) (a4 := y11)
        refine s_set1 e11 ?_
        have lk := gW_len (gw ws[k] (List.getElem_mem hk))
        obtain ⟨c12, e12, p12, n12⟩ := ev12 (H := H2) (a1 := some (.ref wl)) (a2 := some (.ref 1)) (a3 := some (.str (txt rs cur))) (row := rs.length + 1) (col := (pcs cur).length + 1) (a6 := some (.ref h.length)) (a7 := some (.int k)) (v := v) (w := ws[k]) (a10 := some (.bl gl)) (g := g1') (a11 := some (.int ((mm + 1 : Nat) : Int))) (by omega) (by omega)
        refine s_if1 e12 ?_
        have dk2 : ∃ b g, H2 = Dk r (c + (k + 1)) b g := ⟨b1, g1, by rw [hH2]; rfl⟩
        have fr2 := L.fr.trans f2
        have sp2' := f2.get h2 L.sps
        cases c12 with
        | false =>
          rw [if_neg (by decide)]
          have n12 := n12 rfl
          have ph := L.phi
          rw [S_seq, S_nil]
          refine tail_ok (D := kNext _ _) gw hb hk (by omega) h2 L.rows L.words (by omega) dk2 fr2 sp2' g13 (fun g' w' hl' => ?_) (by omega)
          by_cases hz : g1' = 0
          · rcases hp1 hz with z | z
            · obtain ⟨j, hj, z⟩ := p9 z
              rcases z with z | z
              · exact .inr (.inr z)
              · have hj2 : j < ws.length := by omega
                have := last_word (k := j) (by rw [← hj]; exact L.words) hj2 hl'
                exact .inr (.inl (by rw [← this]; exact z hj2))
            · exfalso
              obtain ⟨c0, rfl⟩ := List.getLast?_eq_some_iff.mp hl'
              have := congrArg List.length L.words
              rw [placed_add, z] at this
              simp at this
          · exact .inl (by omega)
        | true =>
          rw [if_pos rfl]
          obtain ⟨g4, eg4, hg4⟩ : ∃ g4 : Nat, v / 60 % 4 = (g4 : Int) ∧ g4 ≤ 3 := ⟨(v / 60 % 4).toNat, by omega, by omega⟩
          have lt := txt_len L.rows
          have ph := L.phi
          have few := rows_few (s := 0) ph hb
          obtain ⟨nS, hS⟩ : ∃ nS, nS = ofL (List.replicate (mm + 1) 10) := ⟨_, rfl⟩
          have ln : nS.length = mm + 1 := by rw [hS, ofL_len]; simp
          have nl := tx_nl rs cur mm
          have mn := mul_nl (mm + 1) (by omega)
          rw [← hS] at nl mn
          have er : ((rs.length + 1 : Nat) : Int) + ((mm + 1 : Nat) : Int) = (((rs ++ [cur] ++ List.replicate mm []).length + 1 : Nat) : Int) := by simp; omega
          have lr : (rs ++ [cur] ++ List.replicate mm ([] : List Pc)).length = rs.length + 1 + mm := by simp; omega
          have key := tail_ok (h := h) (wl := wl) (c := c) (r := r) (H := H2) (g := g4) (rs := rs ++ [cur] ++ List.replicate mm []) (cur := []) (y6 := some (.int k)) (y7 := some (.int v)) (y9 := some (.bl gl)) (y11 := some (.int ((mm + 1 : Nat) : Int)))
            (D := (kNext (sRet (eTup (aCons (eBin mAdd (eVar 2) (eIxL (lDisp (aCons (eC (.str "")) (aCons (eC (.str "\n")) (aCons (eC (.str "\n ")) (aCons (eC (.str "\n  \n ")) aNil))))) (eBin mMod (eCallD m_law_next [] (aCons (eVar 1) aNil)) (eC (.int 4))))) (aCons (eVar 5) aNil)))) (kFun h (PLd ws r h)))) gw hb hk (m := m) (by omega) h2 ?_ ?_ ?_ dk2 fr2 ?_ hg4 (fun g' w' hl' => by simp at hl') (by simp only [pcs, List.length_nil]; omega)
          · rw [S_seq]
            refine s_set1 (v := .str (txt (rs ++ [cur] ++ List.replicate mm []) [])) (h' := H2) (by refine Gd.eq ?_; simp only [↓SX1, SX2, List.getElem?_cons_zero, List.getElem?_cons_succ, List.set_cons_zero, List.set_cons_succ, List.map_cons, List.map_nil, List.cons_append, List.nil_append, List.append_nil, List.replicate_succ, List.replicate_zero, List.length_cons, List.length_nil, if_true, if_false, true_and, and_true, and_self, Nat.zero_add, Int.natCast_zero, i0, i1, i2, i3, i4, decide_true, decide_false, Bool.not_true, Bool.not_false, ofString_inj, gt_iff_lt, List.all_cons, List.all_nil, List.any_cons, List.any_nil, Bool.and_true, Bool.true_and, Bool.and_self, Bool.or_false, Bool.false_or, Bool.or_true, Bool.true_or, szOk, mNeg, wipeM, ↓reduceIte, Nat.reduceAdd, Nat.reduceSub, Nat.reduceLeDiff, Int.reduceLT, Int.reduceLE, Int.reduceNeg, Int.reduceAdd, Int.reduceSub, Int.reducePow, Int.reduceEq, Int.reduceLT, Int.reduceMod, Int.reduceDiv, Int.reduceMul, Int.reduceToNat, String.reduceEq, reduceCtorEq, mn, ln]; refine ⟨by omega, ?_⟩; rw [nl]; exact ⟨rfl, rfl⟩) ?_
            refine s_set1 (v := .int (((rs ++ [cur] ++ List.replicate mm []).length + 1 : Nat) : Int)) (h' := H2) (by refine Gd.eq ?_; simp only [↓SX1, SX2, List.getElem?_cons_zero, List.getElem?_cons_succ, List.set_cons_zero, List.set_cons_succ, List.map_cons, List.map_nil, List.cons_append, List.nil_append, List.append_nil, List.replicate_succ, List.replicate_zero, List.length_cons, List.length_nil, if_true, if_false, true_and, and_true, and_self, Nat.zero_add, Int.natCast_zero, i0, i1, i2, i3, i4, decide_true, decide_false, Bool.not_true, Bool.not_false, ofString_inj, gt_iff_lt, List.all_cons, List.all_nil, List.any_cons, List.any_nil, Bool.and_true, Bool.true_and, Bool.and_self, Bool.or_false, Bool.false_or, Bool.or_true, Bool.true_or, szOk, mNeg, wipeM, ↓reduceIte, Nat.reduceAdd, Nat.reduceSub, Nat.reduceLeDiff, Int.reduceLT, Int.reduceLE, Int.reduceNeg, Int.reduceAdd, Int.reduceSub, Int.reducePow, Int.reduceEq, Int.reduceLT, Int.reduceMod, Int.reduceDiv, Int.reduceMul, Int.reduceToNat, String.reduceEq, reduceCtorEq]; rw [er]; exact ⟨rfl, rfl⟩) ?_
            refine s_set1 (v := .int 1) (h' := H2) rfl ?_
            rw [S_set, show eBin mMul (eC (.str " ")) (eBin mMod (eBin mDiv (eVar 7) (eC (.int 60))) (eC (.int 4))) _ H2 = .ok (.str (ofL (List.replicate g4 32))) H2 from by refine Gd.eq ?_; simp only [↓SX1, SX2, List.getElem?_cons_zero, List.getElem?_cons_succ, List.set_cons_zero, List.set_cons_succ, List.map_cons, List.map_nil, List.cons_append, List.nil_append, List.append_nil, List.replicate_succ, List.replicate_zero, List.length_cons, List.length_nil, if_true, if_false, true_and, and_true, and_self, Nat.zero_add, Int.natCast_zero, i0, i1, i2, i3, i4, decide_true, decide_false, Bool.not_true, Bool.not_false, ofString_inj, gt_iff_lt, List.all_cons, List.all_nil, List.any_cons, List.any_nil, Bool.and_true, Bool.true_and, Bool.and_self, Bool.or_false, Bool.false_or, Bool.or_true, Bool.true_or, szOk, mNeg, wipeM, ↓reduceIte, Nat.reduceAdd, Nat.reduceSub, Nat.reduceLeDiff, Int.reduceLT, Int.reduceLE, Int.reduceNeg, Int.reduceAdd, Int.reduceSub, Int.reducePow, Int.reduceEq, Int.reduceLT, Int.reduceMod, Int.reduceDiv, Int.reduceMul, Int.reduceToNat, String.reduceEq, reduceCtorEq, eg4, mul_sp g4 (by omega)]; exact ⟨rfl, rfl⟩, Gd_ok]
            exact key
          · intro x hx
            simp only [List.mem_append, List.mem_singleton, List.mem_replicate] at hx
            rcases hx with ((hx | hx) | hx) | hx
            · exact L.rows x (by simp [hx])
            · exact L.rows x (by simp [hx])
            · rw [hx.2]; exact .nil
            · rw [hx]; exact .nil
          · rw [placed_snoc, placed_nil]
            simp only [cols, List.map_nil, List.append_nil]
            exact L.words
          · rw [lr]
            simp only [pcs, List.length_nil]
            by_cases hrow : rs.length + 1 < 100
            · omega
            · have := hm2 (by omega)
              have := p12 rfl
              omega
          · rw [sp2', placed_snoc (rs ++ [cur] ++ List.replicate mm []), placed_nil]
            simp [cols]
      cases c10 with
      | true =>
        rw [if_pos rfl] at hg1 ⊢
        subst hg1
        exact s_set1 (v := .str "") (h' := H2) rfl mid
      | false =>
        rw [if_neg (by decide)] at hg1 ⊢
        subst hg1
        rw [S_seq, S_nil]
        exact mid
  · rintro ρ H ⟨k, m, rs, cur, y6, y7, y8, y9, y10, y11, e1, hm, L, rfl⟩
    cases m with
    | succ m => rw [intR_succ] at e1; cases e1
    | zero =>
      obtain ⟨b1, g1, hD⟩ := L.deck
      obtain ⟨v, v0, v1, ev⟩ := next_ok (g := g1) (b := b1) (c := c + k) hr (by omega)
      have fw : FrD h (Dk r (c + k + 1) b1 g1) := by have := L.fr; rw [hD] at this; exact this.trans .dk
      have sp3 : (Dk r (c + k + 1) b1 g1)[h.length]? = some (.lst ((placed (rs ++ [cur]) 0).map sp2)) := by
        have := L.sps; rw [hD] at this
        exact (FrD.dk (c := c + k) (b := b1) (g := g1) (r := r)).get h2 this
      have ph := L.phi
      have few := rows_few (s := 0) ph hb
      have lt := txt_len L.rows
      have wk : ws.take k = ws := List.take_of_length_le (by omega)
      have Lw := L.words
      rw [wk] at Lw
      have fin : ∀ (T : List (List Nat)) (t : Str), T ∈ tails → t = ofL (T.flatMap fun t => 10 :: t) → PLd ws r h (.tup [.str (txt rs cur ++ t), .ref h.length]) (gc h (.tup [.str (txt rs cur ++ t), .ref h.length]) (Dk r (c + k + 1) b1 g1)) := by
        intro T t hT ht
        obtain ⟨t1, t2⟩ := tails_ok T hT
        rw [gc_new' (by simp [bel, bels])]
        refine ⟨rs ++ [cur], T, h.length, c + k + 1, b1, g1, ?_, by simp, L.rows, t1, by simp; omega, Lw, rfl, by omega, fw, Nat.le_refl _, sp3⟩
        rw [ht, ← ofL_app, List.map_append, List.map_cons, List.map_nil, jl_tail]
      rw [hD]
      simp only [↓SX1, SX2, List.getElem?_cons_zero, List.getElem?_cons_succ, List.set_cons_zero, List.set_cons_succ, List.map_cons, List.map_nil, List.cons_append, List.nil_append, List.append_nil, List.replicate_succ, List.replicate_zero, List.length_cons, List.length_nil, if_true, if_false, true_and, and_true, and_self, Nat.zero_add, Int.natCast_zero, i0, i1, i2, i3, i4, decide_true, decide_false, Bool.not_true, Bool.not_false, ofString_inj, gt_iff_lt, List.all_cons, List.all_nil, List.any_cons, List.any_nil, Bool.and_true, Bool.true_and, Bool.and_self, Bool.or_false, Bool.false_or, Bool.or_true, Bool.true_or, szOk, mNeg, wipeM, ↓reduceIte, Nat.reduceAdd, Nat.reduceSub, Nat.reduceLeDiff, Int.reduceLT, Int.reduceLE, Int.reduceNeg, Int.reduceAdd, Int.reduceSub, Int.reducePow, Int.reduceEq, Int.reduceLT, Int.reduceMod, Int.reduceDiv, Int.reduceMul, Int.reduceToNat, String.reduceEq, reduceCtorEq, ev]
      have lz : ∀ s : Str, s.length ≤ 10 → (txt rs cur).length + s.length ≤ 1000000 := fun s hs => by omega
      rcases (show v % 4 = 0 ∨ v % 4 = 1 ∨ v % 4 = 2 ∨ v % 4 = 3 by omega) with e | e | e | e
      · rw [e]; simp only [↓SX1, SX2, List.getElem?_cons_zero, List.getElem?_cons_succ, List.set_cons_zero, List.set_cons_succ, List.map_cons, List.map_nil, List.cons_append, List.nil_append, List.append_nil, List.replicate_succ, List.replicate_zero, List.length_cons, List.length_nil, if_true, if_false, true_and, and_true, and_self, Nat.zero_add, Int.natCast_zero, i0, i1, i2, i3, i4, decide_true, decide_false, Bool.not_true, Bool.not_false, ofString_inj, gt_iff_lt, List.all_cons, List.all_nil, List.any_cons, List.any_nil, Bool.and_true, Bool.true_and, Bool.and_self, Bool.or_false, Bool.false_or, Bool.or_true, Bool.true_or, szOk, mNeg, wipeM, ↓reduceIte, Nat.reduceAdd, Nat.reduceSub, Nat.reduceLeDiff, Int.reduceLT, Int.reduceLE, Int.reduceNeg, Int.reduceAdd, Int.reduceSub, Int.reducePow, Int.reduceEq, Int.reduceLT, Int.reduceMod, Int.reduceDiv, Int.reduceMul, Int.reduceToNat, String.reduceEq, reduceCtorEq]; exact ⟨lz _ (by decide), fin [] "" (by decide) rfl⟩
      · rw [e]; simp only [↓SX1, SX2, List.getElem?_cons_zero, List.getElem?_cons_succ, List.set_cons_zero, List.set_cons_succ, List.map_cons, List.map_nil, List.cons_append, List.nil_append, List.append_nil, List.replicate_succ, List.replicate_zero, List.length_cons, List.length_nil, if_true, if_false, true_and, and_true, and_self, Nat.zero_add, Int.natCast_zero, i0, i1, i2, i3, i4, decide_true, decide_false, Bool.not_true, Bool.not_false, ofString_inj, gt_iff_lt, List.all_cons, List.all_nil, List.any_cons, List.any_nil, Bool.and_true, Bool.true_and, Bool.and_self, Bool.or_false, Bool.false_or, Bool.or_true, Bool.true_or, szOk, mNeg, wipeM, ↓reduceIte, Nat.reduceAdd, Nat.reduceSub, Nat.reduceLeDiff, Int.reduceLT, Int.reduceLE, Int.reduceNeg, Int.reduceAdd, Int.reduceSub, Int.reducePow, Int.reduceEq, Int.reduceLT, Int.reduceMod, Int.reduceDiv, Int.reduceMul, Int.reduceToNat, String.reduceEq, reduceCtorEq]; exact ⟨lz _ (by decide), fin [[]] "\n" (by decide) rfl⟩
      · rw [e]; simp only [↓SX1, SX2, List.getElem?_cons_zero, List.getElem?_cons_succ, List.set_cons_zero, List.set_cons_succ, List.map_cons, List.map_nil, List.cons_append, List.nil_append, List.append_nil, List.replicate_succ, List.replicate_zero, List.length_cons, List.length_nil, if_true, if_false, true_and, and_true, and_self, Nat.zero_add, Int.natCast_zero, i0, i1, i2, i3, i4, decide_true, decide_false, Bool.not_true, Bool.not_false, ofString_inj, gt_iff_lt, List.all_cons, List.all_nil, List.any_cons, List.any_nil, Bool.and_true, Bool.true_and, Bool.and_self, Bool.or_false, Bool.false_or, Bool.or_true, Bool.true_or, szOk, mNeg, wipeM, ↓reduceIte, Nat.reduceAdd, Nat.reduceSub, Nat.reduceLeDiff, Int.reduceLT, Int.reduceLE, Int.reduceNeg, Int.reduceAdd, Int.reduceSub, Int.reducePow, Int.reduceEq, Int.reduceLT, Int.reduceMod, Int.reduceDiv, Int.reduceMul, Int.reduceToNat, String.reduceEq, reduceCtorEq]; exact ⟨lz _ (by decide), fin [[32]] "\n " (by decide) rfl⟩
      · rw [e]; simp only [↓SX1, SX2, List.getElem?_cons_zero, List.getElem?_cons_succ, List.set_cons_zero, List.set_cons_succ, List.map_cons, List.map_nil, List.cons_append, List.nil_append, List.append_nil, List.replicate_succ, List.replicate_zero, List.length_cons, List.length_nil, if_true, if_false, true_and, and_true, and_self, Nat.zero_add, Int.natCast_zero, i0, i1, i2, i3, i4, decide_true, decide_false, Bool.not_true, Bool.not_false, ofString_inj, gt_iff_lt, List.all_cons, List.all_nil, List.any_cons, List.any_nil, Bool.and_true, Bool.true_and, Bool.and_self, Bool.or_false, Bool.false_or, Bool.or_true, Bool.true_or, szOk, mNeg, wipeM, ↓reduceIte, Nat.reduceAdd, Nat.reduceSub, Nat.reduceLeDiff, Int.reduceLT, Int.reduceLE, Int.reduceNeg, Int.reduceAdd, Int.reduceSub, Int.reducePow, Int.reduceEq, Int.reduceLT, Int.reduceMod, Int.reduceDiv, Int.reduceMul, Int.reduceToNat, String.reduceEq, reduceCtorEq]; exact ⟨lz _ (by decide), fin [[32, 32], [32]] "\n  \n " (by decide) rfl⟩
  · intro x hx
    simp at hx
    rw [hx]; exact .nil
end
end My

set_option Elab.async false
set_option linter.all false
set_option maxRecDepth 100000
set_option maxHeartbeats 4000000
namespace My
open PySem L2 Sm
theorem atI_mem {α : Type} {xs : List α} {k : Int} (h0 : 0 ≤ k) (h1 : k < xs.length) : ∃ x, atI xs k = some x ∧ x ∈ xs := by
  obtain ⟨n, rfl⟩ := Int.eq_ofNat_of_zero_le h0
  have hn : n < xs.length := by omega
  exact ⟨xs[n], ixNat (by simp [hn]), by simp⟩
theorem atI_strs {xs : List Str} {k : Int} (h0 : 0 ≤ k) (h1 : k < xs.length) : ∃ x, atI (xs.map MV.str) k = some (.str x) ∧ x ∈ xs := by
  obtain ⟨y, e, m⟩ := atI_mem (xs := xs.map MV.str) h0 (by simpa using h1)
  obtain ⟨x, hx, rfl⟩ := List.mem_map.mp m
  exact ⟨x, e, hx⟩
/-! ### words_of -/
def kFunX (h : MH) (Q : MV → MH → Prop) (E : EK) : SW4 := ⟨fun _ h' => Q .non (gc h .non h'), fun v h' => Q v (gc h v h'), fun _ _ => False, fun _ _ => False, fun e _ h' => E e h'⟩
theorem kFunX_r {h h' : MH} {Q : MV → MH → Prop} {E : EK} {v : MV} : (kFunX h Q E).r v h' = Q v (gc h v h') := rfl
theorem kFunX_e {h h' : MH} {Q : MV → MH → Prop} {E : EK} {v : MV} {ρ : MS} : (kFunX h Q E).e v ρ h' = E v h' := rfl
theorem x_fun {np n : Nat} {body : MSt} {args : List MV} {h : MH} {Q : MV → MH → Prop} {E : EK} (hl : args.length = np) (g : Sd (body (args.map some ++ List.replicate (n - np) none) h) (kFunX h Q E)) : Gd (mfunX np n body args h) Q E := by
  unfold mfunX
  rw [if_pos hl]
  cases e : body (args.map some ++ List.replicate (n - np) none) h <;> rw [e] at g <;> simp only [Sd_nx, Sd_rt, Sd_bk, Sd_ct, Sd_ex, Sd_bad] at g
  · dsimp only; rw [Gd_ok]; exact g
  · dsimp only; rw [Gd_ok]; exact g
  · exact False.elim g
  · exact False.elim g
  · dsimp only; rw [Gd_ex]; exact g
theorem S_raise4 {k : Str} {ms : MA} {ρ : MS} {h : MH} {D : SW4} : Sd (sRaise4 k ms ρ h) D = Gd (ms ρ h) (fun xs h1 => Sd (raise4 k xs ρ h1) D) (kE ρ D) := by unfold sRaise4; rw [Sd_st]; rfl
def kX4 (k : Str) (ρ : MS) (D : SW4) : List MV → MH → Prop := fun xs h1 => Sd (raise4 k xs ρ h1) D
theorem S_raise4' {k : Str} {ms : MA} {ρ : MS} {h : MH} {D : SW4} : Sd (sRaise4 k ms ρ h) D = Gd (ms ρ h) (kX4 k ρ D) (kE ρ D) := S_raise4
theorem kX4_ap {k : Str} {ρ : MS} {h : MH} {D : SW4} {xs : List MV} : kX4 k ρ D xs h = Sd (raise4 k xs ρ h) D := (Eq.refl _).trans rfl
def flt (r c : Nat) : MV := .exn "Fault" xns [.str "sign", .int c, .int r, .str ""]
/-- what words_of does -/
def WQ (W : List (Str × Nat × Nat)) (h : MH) (v : MV) (h' : MH) : Prop := v = .tup (W.map w3) ∧ h' = h ∧ ∀ p, p ∈ W → pWord p.1 = true
def WE2 (W : List (Str × Nat × Nat)) (h : MH) (e : MV) (h' : MH) : Prop := ∃ (as : List (Str × Nat × Nat)) (w : Str) (r c : Nat) (bs : List (Str × Nat × Nat)), e = flt r c ∧ Ext h h' ∧ W = as ++ (w, r, c) :: bs ∧ (∀ p, p ∈ as → pWord p.1 = true) ∧ pWord w = false
theorem low_n {n : Nat} (h : n ≤ 1000) : ((n : Int)).natAbs.log2 < 1920 := by
  have e : (n : Int).natAbs = n := by simp
  rw [e]
  exact Nat.lt_of_le_of_lt (Nat.log2_le_self n) (by omega)
theorem Ext.get' {h h' : MH} {n : Nat} (x : Ext h h') (hn : n < h.length) : h'[n]? = h[n]? := by
  obtain ⟨g, rfl⟩ := x
  exact List.getElem?_append_left hn
theorem bels_w3 {n : Nat} : ∀ l : List (Str × Nat × Nat), bels n (l.map w3) = true
  | [] => by simp [bels]
  | p :: l => by rw [List.map_cons, bels, bels_w3 l]; simp [w3, bel, bels]
theorem words_of_ok {text : Str} {rows : List Str} (t : TextOk text rows) (h : MH) (hz : (allW rows 0).length ≤ 900000) : Gd (m_words_of [.str text] h) (WQ (allW rows 0) h) (WE2 (allW rows 0) h) := by
  unfold m_words_of
  refine x_fun rfl ?_
  unfold b_words_of
  simp only [↓SX1, SX2, List.getElem?_cons_zero, List.getElem?_cons_succ, List.set_cons_zero, List.set_cons_succ, List.map_cons, List.map_nil, List.cons_append, List.nil_append, List.append_nil, List.replicate_succ, List.replicate_zero, List.length_cons, List.length_nil, if_true, if_false, true_and, and_true, and_self, Nat.zero_add, Int.natCast_zero, i0, i1, i2, i3, i4, decide_true, decide_false, Bool.not_true, Bool.not_false, ofString_inj, gt_iff_lt, List.all_cons, List.all_nil, List.any_cons, List.any_nil, Bool.and_true, Bool.true_and, Bool.and_self, Bool.or_false, Bool.false_or, Bool.or_true, Bool.true_or, szOk, mNeg, wipeM, ↓reduceIte, Nat.reduceAdd, Nat.reduceSub, Nat.reduceLeDiff, Int.reduceLT, Int.reduceLE, Int.reduceNeg, Int.reduceAdd, Int.reduceSub, Int.reducePow, Int.reduceEq, Int.reduceLT, Int.reduceMod, Int.reduceDiv, Int.reduceMul, Int.reduceToNat, String.reduceEq, reduceCtorEq]
  refine (scanned_ok t.split t.len t.many t.all h).gd fun y h2 => ?_
  rintro (⟨n, rfl, hn, ex, en, fit⟩ | ⟨n, as, w, r, c, bs, rfl, ex, eW, fit, bad, r1, c1⟩)
  · have mt : mTuple [.ref n] h2 = .ok (.tup ((allW rows 0).map w3)) h2 := by
      unfold mTuple
      simp [itemsOf, en]
    simp only [↓SX1, SX2, List.getElem?_cons_zero, List.getElem?_cons_succ, List.set_cons_zero, List.set_cons_succ, List.map_cons, List.map_nil, List.cons_append, List.nil_append, List.append_nil, List.replicate_succ, List.replicate_zero, List.length_cons, List.length_nil, if_true, if_false, true_and, and_true, and_self, Nat.zero_add, Int.natCast_zero, i0, i1, i2, i3, i4, decide_true, decide_false, Bool.not_true, Bool.not_false, ofString_inj, gt_iff_lt, List.all_cons, List.all_nil, List.any_cons, List.any_nil, Bool.and_true, Bool.true_and, Bool.and_self, Bool.or_false, Bool.false_or, Bool.or_true, Bool.true_or, szOk, mNeg, wipeM, ↓reduceIte, Nat.reduceAdd, Nat.reduceSub, Nat.reduceLeDiff, Int.reduceLT, Int.reduceLE, Int.reduceNeg, Int.reduceAdd, Int.reduceSub, Int.reducePow, Int.reduceEq, Int.reduceLT, Int.reduceMod, Int.reduceDiv, Int.reduceMul, Int.reduceToNat, String.reduceEq, reduceCtorEq, mt]
    rw [kFunX_r, gc_ext (by simp [bel, bels_w3]) (fun i hi => ex.get' hi)]
    exact ⟨rfl, rfl, fit⟩
  · simp only [↓SX1, SX2, List.getElem?_cons_zero, List.getElem?_cons_succ, List.set_cons_zero, List.set_cons_succ, List.map_cons, List.map_nil, List.cons_append, List.nil_append, List.append_nil, List.replicate_succ, List.replicate_zero, List.length_cons, List.length_nil, if_true, if_false, true_and, and_true, and_self, Nat.zero_add, Int.natCast_zero, i0, i1, i2, i3, i4, decide_true, decide_false, Bool.not_true, Bool.not_false, ofString_inj, gt_iff_lt, List.all_cons, List.all_nil, List.any_cons, List.any_nil, Bool.and_true, Bool.true_and, Bool.and_self, Bool.or_false, Bool.false_or, Bool.or_true, Bool.true_or, szOk, mNeg, wipeM, ↓reduceIte, Nat.reduceAdd, Nat.reduceSub, Nat.reduceLeDiff, Int.reduceLT, Int.reduceLE, Int.reduceNeg, Int.reduceAdd, Int.reduceSub, Int.reducePow, Int.reduceEq, Int.reduceLT, Int.reduceMod, Int.reduceDiv, Int.reduceMul, Int.reduceToNat, String.reduceEq, reduceCtorEq]
    rw [S_raise4']
    simp only [↓SX1, SX2, List.getElem?_cons_zero, List.getElem?_cons_succ, List.set_cons_zero, List.set_cons_succ, List.map_cons, List.map_nil, List.cons_append, List.nil_append, List.append_nil, List.replicate_succ, List.replicate_zero, List.length_cons, List.length_nil, if_true, if_false, true_and, and_true, and_self, Nat.zero_add, Int.natCast_zero, i0, i1, i2, i3, i4, decide_true, decide_false, Bool.not_true, Bool.not_false, ofString_inj, gt_iff_lt, List.all_cons, List.all_nil, List.any_cons, List.any_nil, Bool.and_true, Bool.true_and, Bool.and_self, Bool.or_false, Bool.false_or, Bool.or_true, Bool.true_or, szOk, mNeg, wipeM, ↓reduceIte, Nat.reduceAdd, Nat.reduceSub, Nat.reduceLeDiff, Int.reduceLT, Int.reduceLE, Int.reduceNeg, Int.reduceAdd, Int.reduceSub, Int.reducePow, Int.reduceEq, Int.reduceLT, Int.reduceMod, Int.reduceDiv, Int.reduceMul, Int.reduceToNat, String.reduceEq, reduceCtorEq]
    rw [kX4_ap]
    unfold raise4
    dsimp only
    rw [if_pos ⟨by decide, by decide, low_n (by omega), low_n (by omega)⟩, Sd_ex]
    exact ⟨as, w, r, c, bs, rfl, ex, eW, fit, bad⟩
end My

set_option Elab.async false
set_option linter.all false
set_option maxRecDepth 100000
set_option maxHeartbeats 4000000
namespace My
open PySem L2 Sm
/-! ### the words that fit, and those that don't -/
def R1s : List Str := ["a", "z9", "aaaaaaaaaaaa", "x1y2z3", "kinds", "selfs"]
def R2s : List Str := ["A", "Thing", "Z99999999999", "AbCdE", "N0"]
def R3s : List Str := ["a", "b9", "zzzzzzzzzzzz", "if", "field"]
def R4s : List Str := ["", "a", "_", "9", "A_b", "abcdefghijabcdefghijabcdefghijabcdefghij", "ZZZZZZZZZZZZZZZZZZZZZZZZZZZZZZZZZZZZZZZ"]
def R5s : List Int := [0, 5, -5, 999999999999, -999999999999, 10, -10, 99999999999]
def R6s : List Str := ["+", "-", "*", "/", "<", "=", ":=", ":"]
def R7s : List Str := ["(", ")", "{", "}", "[", "]", "|"]
def fitW (w : Str) : Bool := gW w && (pWord w && decide (w.length ≤ 41))
theorem k_fit : ∀ w, w ∈ kept → fitW w = true := by decide +kernel
theorem r1_fit : ∀ w, w ∈ R1s → fitW w = true := by decide +kernel
theorem r2_fit : ∀ w, w ∈ R2s → fitW w = true := by decide +kernel
theorem r3_fit : ∀ w, w ∈ R3s → fitW ("@" ++ w) = true ∧ w.length ≤ 12 := by decide +kernel
theorem r4_fit : ∀ w, w ∈ R4s → fitW ("'" ++ w) = true ∧ w.length ≤ 41 := by decide +kernel
theorem r5_fit : ∀ i, i ∈ R5s → fitW (toString i : String) = true ∧ i.natAbs.log2 < 1920 := by decide +kernel
theorem r6_fit : ∀ w, w ∈ R6s → fitW w = true := by decide +kernel
theorem r7_fit : ∀ w, w ∈ R7s → fitW w = true := by decide +kernel
theorem md {v n : Int} (h : 0 < n) : 0 ≤ v % n ∧ v % n < n := ⟨Int.emod_nonneg _ (by omega), Int.emod_lt_of_pos _ h⟩
theorem ix7 (k : Nat) (hk : k < 7) (H : MH) : ∃ z, z ∈ R7s ∧ ixS "(){}[]|" (.int k) H = .ok (.str z) H := by
  rcases (show k = 0 ∨ k = 1 ∨ k = 2 ∨ k = 3 ∨ k = 4 ∨ k = 5 ∨ k = 6 by omega) with h | h | h | h | h | h | h <;> subst h
  · exact ⟨"(", by decide, rfl⟩
  · exact ⟨")", by decide, rfl⟩
  · exact ⟨"{", by decide, rfl⟩
  · exact ⟨"}", by decide, rfl⟩
  · exact ⟨"[", by decide, rfl⟩
  · exact ⟨"]", by decide, rfl⟩
  · exact ⟨"|", by decide, rfl⟩
theorem right_ok {v : Int} (v0 : 0 ≤ v) (H : MH) : ∃ w : Str, fitW w = true ∧ m_law_right [.int v] H = .ok (.str w) H := by
  suffices X : Wp (m_law_right [.int v] H) fun y h => ∃ w : Str, fitW w = true ∧ y = .str w ∧ h = H by
    obtain ⟨y, h, e, w, h1, rfl, rfl⟩ := X.ex
    exact ⟨w, h1, e⟩
  unfold m_law_right
  refine m_fun rfl ?_
  unfold b_law_right
  have fin : ∀ {w : Str}, fitW w = true → ∃ w' : Str, fitW w' = true ∧ MV.str w = .str w' ∧ gc H (.str w) H = H := fun {w} h => ⟨w, h, rfl, gc_len rfl⟩
  have e22 : mLen [c_KEPT] H = .ok (.int 22) H := rfl
  have m40 : mMul (.str "abcdefghij") (.int 4) H = .ok (.str "abcdefghijabcdefghijabcdefghijabcdefghij") H := by unfold mMul; dsimp only; rw [if_pos (by unfold MulOk; decide)]; rfl
  have m39 : mMul (.str "Z") (.int 39) H = .ok (.str "ZZZZZZZZZZZZZZZZZZZZZZZZZZZZZZZZZZZZZZZ") H := by unfold mMul; dsimp only; rw [if_pos (by unfold MulOk; decide)]; rfl
  obtain ⟨q, hq⟩ : ∃ q, q = v / 8 := ⟨_, rfl⟩
  obtain ⟨u, hu⟩ : ∃ u, u = v % 8 := ⟨_, rfl⟩
  have u0 : 0 ≤ u ∧ u < 8 := by rw [hu]; exact md (by decide)
  simp only [↓SX1, SX2, List.getElem?_cons_zero, List.getElem?_cons_succ, List.set_cons_zero, List.set_cons_succ, List.map_cons, List.map_nil, List.cons_append, List.nil_append, List.append_nil, List.replicate_succ, List.replicate_zero, List.length_cons, List.length_nil, if_true, if_false, true_and, and_true, and_self, Nat.zero_add, Int.natCast_zero, i0, i1, i2, i3, i4, decide_true, decide_false, Bool.not_true, Bool.not_false, ofString_inj, gt_iff_lt, List.all_cons, List.all_nil, List.any_cons, List.any_nil, Bool.and_true, Bool.true_and, Bool.and_self, Bool.or_false, Bool.false_or, Bool.or_true, Bool.true_or, szOk, mNeg, wipeM, ↓reduceIte, Nat.reduceAdd, Nat.reduceSub, Nat.reduceLeDiff, Int.reduceLT, Int.reduceLE, Int.reduceNeg, Int.reduceAdd, Int.reduceSub, Int.reducePow, Int.reduceEq, Int.reduceLT, Int.reduceMod, Int.reduceDiv, Int.reduceMul, Int.reduceToNat, String.reduceEq, reduceCtorEq]
  rw [← hq, ← hu]
  rcases (show u = 0 ∨ u = 1 ∨ u = 2 ∨ u = 3 ∨ u = 4 ∨ u = 5 ∨ u = 6 ∨ u = 7 by omega) with h | h | h | h | h | h | h | h <;> rw [h]
  · obtain ⟨z, e, hz⟩ := atI_strs (xs := kept) (k := q % 22) (md (by decide)).1 (md (n := 22) (by decide)).2
    have ek : mIx c_KEPT (.int (q % 22)) H = .ok (.str z) H := by
      show mIx (.tup (kept.map MV.str)) _ H = _
      simp [mIx, ixL, e]
    simp only [↓SX1, SX2, List.getElem?_cons_zero, List.getElem?_cons_succ, List.set_cons_zero, List.set_cons_succ, List.map_cons, List.map_nil, List.cons_append, List.nil_append, List.append_nil, List.replicate_succ, List.replicate_zero, List.length_cons, List.length_nil, if_true, if_false, true_and, and_true, and_self, Nat.zero_add, Int.natCast_zero, i0, i1, i2, i3, i4, decide_true, decide_false, Bool.not_true, Bool.not_false, ofString_inj, gt_iff_lt, List.all_cons, List.all_nil, List.any_cons, List.any_nil, Bool.and_true, Bool.true_and, Bool.and_self, Bool.or_false, Bool.false_or, Bool.or_true, Bool.true_or, szOk, mNeg, wipeM, ↓reduceIte, Nat.reduceAdd, Nat.reduceSub, Nat.reduceLeDiff, Int.reduceLT, Int.reduceLE, Int.reduceNeg, Int.reduceAdd, Int.reduceSub, Int.reducePow, Int.reduceEq, Int.reduceLT, Int.reduceMod, Int.reduceDiv, Int.reduceMul, Int.reduceToNat, String.reduceEq, reduceCtorEq, ↓e22, ↓ek]
    exact fin (k_fit z hz)
  · obtain ⟨z, e, hz⟩ := atI_strs (xs := R1s) (k := q % 6) (md (by decide)).1 (md (n := 6) (by decide)).2
    simp only [R1s, List.map_cons, List.map_nil] at e
    simp only [↓SX1, SX2, List.getElem?_cons_zero, List.getElem?_cons_succ, List.set_cons_zero, List.set_cons_succ, List.map_cons, List.map_nil, List.cons_append, List.nil_append, List.append_nil, List.replicate_succ, List.replicate_zero, List.length_cons, List.length_nil, if_true, if_false, true_and, and_true, and_self, Nat.zero_add, Int.natCast_zero, i0, i1, i2, i3, i4, decide_true, decide_false, Bool.not_true, Bool.not_false, ofString_inj, gt_iff_lt, List.all_cons, List.all_nil, List.any_cons, List.any_nil, Bool.and_true, Bool.true_and, Bool.and_self, Bool.or_false, Bool.false_or, Bool.or_true, Bool.true_or, szOk, mNeg, wipeM, ↓reduceIte, Nat.reduceAdd, Nat.reduceSub, Nat.reduceLeDiff, Int.reduceLT, Int.reduceLE, Int.reduceNeg, Int.reduceAdd, Int.reduceSub, Int.reducePow, Int.reduceEq, Int.reduceLT, Int.reduceMod, Int.reduceDiv, Int.reduceMul, Int.reduceToNat, String.reduceEq, reduceCtorEq, e]
    exact fin (r1_fit z hz)
  · obtain ⟨z, e, hz⟩ := atI_strs (xs := R2s) (k := q % 5) (md (by decide)).1 (md (n := 5) (by decide)).2
    simp only [R2s, List.map_cons, List.map_nil] at e
    simp only [↓SX1, SX2, List.getElem?_cons_zero, List.getElem?_cons_succ, List.set_cons_zero, List.set_cons_succ, List.map_cons, List.map_nil, List.cons_append, List.nil_append, List.append_nil, List.replicate_succ, List.replicate_zero, List.length_cons, List.length_nil, if_true, if_false, true_and, and_true, and_self, Nat.zero_add, Int.natCast_zero, i0, i1, i2, i3, i4, decide_true, decide_false, Bool.not_true, Bool.not_false, ofString_inj, gt_iff_lt, List.all_cons, List.all_nil, List.any_cons, List.any_nil, Bool.and_true, Bool.true_and, Bool.and_self, Bool.or_false, Bool.false_or, Bool.or_true, Bool.true_or, szOk, mNeg, wipeM, ↓reduceIte, Nat.reduceAdd, Nat.reduceSub, Nat.reduceLeDiff, Int.reduceLT, Int.reduceLE, Int.reduceNeg, Int.reduceAdd, Int.reduceSub, Int.reducePow, Int.reduceEq, Int.reduceLT, Int.reduceMod, Int.reduceDiv, Int.reduceMul, Int.reduceToNat, String.reduceEq, reduceCtorEq, e]
    exact fin (r2_fit z hz)
  · obtain ⟨z, e, hz⟩ := atI_strs (xs := R3s) (k := q % 5) (md (by decide)).1 (md (n := 5) (by decide)).2
    simp only [R3s, List.map_cons, List.map_nil] at e
    obtain ⟨f3, l3⟩ := r3_fit z hz
    simp only [↓SX1, SX2, List.getElem?_cons_zero, List.getElem?_cons_succ, List.set_cons_zero, List.set_cons_succ, List.map_cons, List.map_nil, List.cons_append, List.nil_append, List.append_nil, List.replicate_succ, List.replicate_zero, List.length_cons, List.length_nil, if_true, if_false, true_and, and_true, and_self, Nat.zero_add, Int.natCast_zero, i0, i1, i2, i3, i4, decide_true, decide_false, Bool.not_true, Bool.not_false, ofString_inj, gt_iff_lt, List.all_cons, List.all_nil, List.any_cons, List.any_nil, Bool.and_true, Bool.true_and, Bool.and_self, Bool.or_false, Bool.false_or, Bool.or_true, Bool.true_or, szOk, mNeg, wipeM, ↓reduceIte, Nat.reduceAdd, Nat.reduceSub, Nat.reduceLeDiff, Int.reduceLT, Int.reduceLE, Int.reduceNeg, Int.reduceAdd, Int.reduceSub, Int.reducePow, Int.reduceEq, Int.reduceLT, Int.reduceMod, Int.reduceDiv, Int.reduceMul, Int.reduceToNat, String.reduceEq, reduceCtorEq, e]
    exact ⟨by show 1 + _ ≤ _; omega, fin f3⟩
  · obtain ⟨z, e, hz⟩ := atI_strs (xs := R4s) (k := q % 7) (md (by decide)).1 (md (n := 7) (by decide)).2
    simp only [R4s, List.map_cons, List.map_nil] at e
    obtain ⟨f3, l3⟩ := r4_fit z hz
    simp only [↓SX1, SX2, List.getElem?_cons_zero, List.getElem?_cons_succ, List.set_cons_zero, List.set_cons_succ, List.map_cons, List.map_nil, List.cons_append, List.nil_append, List.append_nil, List.replicate_succ, List.replicate_zero, List.length_cons, List.length_nil, if_true, if_false, true_and, and_true, and_self, Nat.zero_add, Int.natCast_zero, i0, i1, i2, i3, i4, decide_true, decide_false, Bool.not_true, Bool.not_false, ofString_inj, gt_iff_lt, List.all_cons, List.all_nil, List.any_cons, List.any_nil, Bool.and_true, Bool.true_and, Bool.and_self, Bool.or_false, Bool.false_or, Bool.or_true, Bool.true_or, szOk, mNeg, wipeM, ↓reduceIte, Nat.reduceAdd, Nat.reduceSub, Nat.reduceLeDiff, Int.reduceLT, Int.reduceLE, Int.reduceNeg, Int.reduceAdd, Int.reduceSub, Int.reducePow, Int.reduceEq, Int.reduceLT, Int.reduceMod, Int.reduceDiv, Int.reduceMul, Int.reduceToNat, String.reduceEq, reduceCtorEq, m40, m39, e]
    exact ⟨by show 1 + _ ≤ _; omega, fin f3⟩
  · obtain ⟨z, e, hz⟩ := atI_mem (xs := R5s.map MV.int) (k := q % 8) (md (by decide)).1 (md (n := 8) (by decide)).2
    obtain ⟨i, hi, rfl⟩ := List.mem_map.mp hz
    simp only [R5s, List.map_cons, List.map_nil] at e
    obtain ⟨f5, l5⟩ := r5_fit i hi
    have es : mStr [.int i] H = .ok (.str (toString i : String)) H := by unfold mStr; dsimp only; rw [if_pos l5]
    simp only [↓SX1, SX2, List.getElem?_cons_zero, List.getElem?_cons_succ, List.set_cons_zero, List.set_cons_succ, List.map_cons, List.map_nil, List.cons_append, List.nil_append, List.append_nil, List.replicate_succ, List.replicate_zero, List.length_cons, List.length_nil, if_true, if_false, true_and, and_true, and_self, Nat.zero_add, Int.natCast_zero, i0, i1, i2, i3, i4, decide_true, decide_false, Bool.not_true, Bool.not_false, ofString_inj, gt_iff_lt, List.all_cons, List.all_nil, List.any_cons, List.any_nil, Bool.and_true, Bool.true_and, Bool.and_self, Bool.or_false, Bool.false_or, Bool.or_true, Bool.true_or, szOk, mNeg, wipeM, ↓reduceIte, Nat.reduceAdd, Nat.reduceSub, Nat.reduceLeDiff, Int.reduceLT, Int.reduceLE, Int.reduceNeg, Int.reduceAdd, Int.reduceSub, Int.reducePow, Int.reduceEq, Int.reduceLT, Int.reduceMod, Int.reduceDiv, Int.reduceMul, Int.reduceToNat, String.reduceEq, reduceCtorEq, c_BIG, e, ↓es]
    exact fin f5
  · obtain ⟨z, e, hz⟩ := atI_strs (xs := R6s) (k := q % 8) (md (by decide)).1 (md (n := 8) (by decide)).2
    simp only [R6s, List.map_cons, List.map_nil] at e
    simp only [↓SX1, SX2, List.getElem?_cons_zero, List.getElem?_cons_succ, List.set_cons_zero, List.set_cons_succ, List.map_cons, List.map_nil, List.cons_append, List.nil_append, List.append_nil, List.replicate_succ, List.replicate_zero, List.length_cons, List.length_nil, if_true, if_false, true_and, and_true, and_self, Nat.zero_add, Int.natCast_zero, i0, i1, i2, i3, i4, decide_true, decide_false, Bool.not_true, Bool.not_false, ofString_inj, gt_iff_lt, List.all_cons, List.all_nil, List.any_cons, List.any_nil, Bool.and_true, Bool.true_and, Bool.and_self, Bool.or_false, Bool.false_or, Bool.or_true, Bool.true_or, szOk, mNeg, wipeM, ↓reduceIte, Nat.reduceAdd, Nat.reduceSub, Nat.reduceLeDiff, Int.reduceLT, Int.reduceLE, Int.reduceNeg, Int.reduceAdd, Int.reduceSub, Int.reducePow, Int.reduceEq, Int.reduceLT, Int.reduceMod, Int.reduceDiv, Int.reduceMul, Int.reduceToNat, String.reduceEq, reduceCtorEq, e]
    exact fin (r6_fit z hz)
  · obtain ⟨k, hk, k7⟩ : ∃ k : Nat, q % 7 = (k : Int) ∧ k < 7 := ⟨(q % 7).toNat, by have := md (v := q) (n := 7) (by decide); omega, by have := md (v := q) (n := 7) (by decide); omega⟩
    obtain ⟨z, hz, ez⟩ := ix7 k k7 H
    rw [← hk] at ez
    simp only [↓SX1, SX2, List.getElem?_cons_zero, List.getElem?_cons_succ, List.set_cons_zero, List.set_cons_succ, List.map_cons, List.map_nil, List.cons_append, List.nil_append, List.append_nil, List.replicate_succ, List.replicate_zero, List.length_cons, List.length_nil, if_true, if_false, true_and, and_true, and_self, Nat.zero_add, Int.natCast_zero, i0, i1, i2, i3, i4, decide_true, decide_false, Bool.not_true, Bool.not_false, ofString_inj, gt_iff_lt, List.all_cons, List.all_nil, List.any_cons, List.any_nil, Bool.and_true, Bool.true_and, Bool.and_self, Bool.or_false, Bool.false_or, Bool.or_true, Bool.true_or, szOk, mNeg, wipeM, ↓reduceIte, Nat.reduceAdd, Nat.reduceSub, Nat.reduceLeDiff, Int.reduceLT, Int.reduceLE, Int.reduceNeg, Int.reduceAdd, Int.reduceSub, Int.reducePow, Int.reduceEq, Int.reduceLT, Int.reduceMod, Int.reduceDiv, Int.reduceMul, Int.reduceToNat, String.reduceEq, reduceCtorEq, ez]
    exact fin (r7_fit z hz)
def Ws : List Str := ["aA", "aaaaaaaaaaaaa", "a_", "9a", "A_", "Z999999999999", "@", "@9", "@A", "@aaaaaaaaaaaaa", "'aaaaaaaaaaaaaaaaaaaaaaaaaaaaaaaaaaaaaaaaa", "'a'", "'a.", "-0", "007", "-07", "1000000000000", "-1000000000000", "+1", "--1", "1-", "==", ":=:", "::", ".", "#", "a\tb", "~", "<=", "\"a\"", "a,", "10000000000000"]
theorem wrong_bad : ∀ w, w ∈ Ws → gW w = true ∧ pWord w = false ∧ w.length ≤ 42 := by decide +kernel
theorem wrong_ok {v : Int} (v0 : 0 ≤ v) (H : MH) : ∃ w : Str, w ∈ Ws ∧ m_law_wrong [.int v] H = .ok (.str w) H := by
  suffices X : Wp (m_law_wrong [.int v] H) fun y h => ∃ w : Str, w ∈ Ws ∧ y = .str w ∧ h = H by
    obtain ⟨y, h, e, w, h1, rfl, rfl⟩ := X.ex
    exact ⟨w, h1, e⟩
  unfold m_law_wrong
  refine m_fun rfl ?_
  unfold b_law_wrong
  have m41 : ∀ H, mMul (.str "a") (.int 41) H = .ok (.str "aaaaaaaaaaaaaaaaaaaaaaaaaaaaaaaaaaaaaaaaa") H := fun H => by unfold mMul; dsimp only; rw [if_pos (by unfold MulOk; decide)]; rfl
  have s1 : ∀ H, mStr [.int 1000000000000] H = .ok (.str "1000000000000") H := fun H => by unfold mStr; dsimp only; rw [if_pos (by decide +kernel)]; exact congrArg (fun x : String => Res.ok (MV.str (Str.ofString x)) H) (by decide +kernel)
  have s2 : ∀ H, mStr [.int (-1000000000000)] H = .ok (.str "-1000000000000") H := fun H => by unfold mStr; dsimp only; rw [if_pos (by decide +kernel)]; exact congrArg (fun x : String => Res.ok (MV.str (Str.ofString x)) H) (by decide +kernel)
  simp only [↓SX1, SX2, List.getElem?_cons_zero, List.getElem?_cons_succ, List.set_cons_zero, List.set_cons_succ, List.map_cons, List.map_nil, List.cons_append, List.nil_append, List.append_nil, List.replicate_succ, List.replicate_zero, List.length_cons, List.length_nil, if_true, if_false, true_and, and_true, and_self, Nat.zero_add, Int.natCast_zero, i0, i1, i2, i3, i4, decide_true, decide_false, Bool.not_true, Bool.not_false, ofString_inj, gt_iff_lt, List.all_cons, List.all_nil, List.any_cons, List.any_nil, Bool.and_true, Bool.true_and, Bool.and_self, Bool.or_false, Bool.false_or, Bool.or_true, Bool.true_or, szOk, mNeg, wipeM, ↓reduceIte, Nat.reduceAdd, Nat.reduceSub, Nat.reduceLeDiff, Int.reduceLT, Int.reduceLE, Int.reduceNeg, Int.reduceAdd, Int.reduceSub, Int.reducePow, Int.reduceEq, Int.reduceLT, Int.reduceMod, Int.reduceDiv, Int.reduceMul, Int.reduceToNat, String.reduceEq, reduceCtorEq, m41, c_BIG]
  refine ⟨by decide, ?_⟩
  simp only [↓SX1, SX2, List.getElem?_cons_zero, List.getElem?_cons_succ, List.set_cons_zero, List.set_cons_succ, List.map_cons, List.map_nil, List.cons_append, List.nil_append, List.append_nil, List.replicate_succ, List.replicate_zero, List.length_cons, List.length_nil, if_true, if_false, true_and, and_true, and_self, Nat.zero_add, Int.natCast_zero, i0, i1, i2, i3, i4, decide_true, decide_false, Bool.not_true, Bool.not_false, ofString_inj, gt_iff_lt, List.all_cons, List.all_nil, List.any_cons, List.any_nil, Bool.and_true, Bool.true_and, Bool.and_self, Bool.or_false, Bool.false_or, Bool.or_true, Bool.true_or, szOk, mNeg, wipeM, ↓reduceIte, Nat.reduceAdd, Nat.reduceSub, Nat.reduceLeDiff, Int.reduceLT, Int.reduceLE, Int.reduceNeg, Int.reduceAdd, Int.reduceSub, Int.reducePow, Int.reduceEq, Int.reduceLT, Int.reduceMod, Int.reduceDiv, Int.reduceMul, Int.reduceToNat, String.reduceEq, reduceCtorEq, s1, s2, gnew]
  have g2 : ∀ a b : MO, (H ++ [a] ++ [b])[H.length + 1]? = some b := fun a b => by simp
  have gl : ∀ (n : Nat) (G : MH) (o : MO), G.length = n → (G ++ [o])[n]? = some o := fun n G o e => by rw [← e]; exact gnew
  have g3 : ∀ a b c : MO, (H ++ [a] ++ [b] ++ [c])[H.length + 1 + 1]? = some c := fun a b c => gl _ _ _ (by simp)
  have g4 : ∀ a b c d : MO, (H ++ [a] ++ [b] ++ [c] ++ [d])[H.length + 1 + 1 + 1]? = some d := fun a b c d => gl _ _ _ (by simp)
  have ll : ∀ (a : MH) (o : MO), (a ++ [o]).length = a.length + 1 := fun a o => by simp
  simp only [↓SX1, SX2, List.getElem?_cons_zero, List.getElem?_cons_succ, List.set_cons_zero, List.set_cons_succ, List.map_cons, List.map_nil, List.cons_append, List.nil_append, List.append_nil, List.replicate_succ, List.replicate_zero, List.length_cons, List.length_nil, if_true, if_false, true_and, and_true, and_self, Nat.zero_add, Int.natCast_zero, i0, i1, i2, i3, i4, decide_true, decide_false, Bool.not_true, Bool.not_false, ofString_inj, gt_iff_lt, List.all_cons, List.all_nil, List.any_cons, List.any_nil, Bool.and_true, Bool.true_and, Bool.and_self, Bool.or_false, Bool.false_or, Bool.or_true, Bool.true_or, szOk, mNeg, wipeM, ↓reduceIte, Nat.reduceAdd, Nat.reduceSub, Nat.reduceLeDiff, Int.reduceLT, Int.reduceLE, Int.reduceNeg, Int.reduceAdd, Int.reduceSub, Int.reducePow, Int.reduceEq, Int.reduceLT, Int.reduceMod, Int.reduceDiv, Int.reduceMul, Int.reduceToNat, String.reduceEq, reduceCtorEq, ll, g2, g3, g4]
  refine ⟨by decide, ?_⟩
  obtain ⟨z, e, hz⟩ := atI_strs (xs := Ws) (k := v % 32) (md (by decide)).1 (md (n := 32) (by decide)).2
  have ea : (Str.ofString "'" ++ Str.ofString "aaaaaaaaaaaaaaaaaaaaaaaaaaaaaaaaaaaaaaaaa" : Str) = Str.ofString "'aaaaaaaaaaaaaaaaaaaaaaaaaaaaaaaaaaaaaaaaa" := by decide +kernel
  have e32 : ((32 : Nat) : Int) = 32 := rfl
  simp only [Ws, List.map_cons, List.map_nil] at e
  rw [ea, e32, e]
  refine Gd.of (a := .str z) rfl ?_
  rw [kFun_r, List.append_assoc, List.append_assoc, List.append_assoc, gc_ext (by simp [bel]) fun i hi => List.getElem?_append_left hi]
  exact ⟨z, hz, rfl, rfl⟩
end My

set_option Elab.async false
set_option linter.all false
set_option maxRecDepth 100000
set_option maxHeartbeats 4000000
namespace My
open PySem L2 Sm
def PdOk (h : MH) (n : Nat) (v : MV) : Prop := ∃ d, pdv h n v = some d ∧ d.canLay0 = true ∧ d.depth ≤ n
section
variable {h : MH} {n : Nat}
theorem pd_n : PdOk h (n + 1) .non := ⟨_, rfl, rfl, by simp [PyData.depth]⟩
theorem pd_b {b : Bool} : PdOk h (n + 1) (.bl b) := ⟨_, rfl, rfl, by simp [PyData.depth]⟩
theorem pd_i {i : Int} : PdOk h (n + 1) (.int i) := ⟨_, rfl, rfl, by simp [PyData.depth]⟩
theorem pd_s {x : Str} (hx : (PyData.str x).canLay0 = true) : PdOk h (n + 1) (.str x) := ⟨_, rfl, hx, by simp [PyData.depth]⟩
theorem pd_all : ∀ {xs : List MV}, (∀ x, x ∈ xs → PdOk h n x) → ∃ ds, xs.mapM (pdv h n) = some ds ∧ PyData.canLayAll0 ds = true ∧ PyData.depthAll ds ≤ n ∧ ds.length = xs.length
  | [], _ => ⟨[], rfl, by simp [PyData.canLayAll0], by simp [PyData.depthAll], rfl⟩
  | x :: xs, hx => by
    obtain ⟨d, e1, e2, e3⟩ := hx x (by simp)
    obtain ⟨ds, f1, f2, f3, f4⟩ := pd_all (xs := xs) fun y hy => hx y (by simp [hy])
    refine ⟨d :: ds, by rw [List.mapM_cons, e1, f1]; rfl, by simp [PyData.canLayAll0, e2, f2], ?_, by simp [f4]⟩
    simp only [PyData.depthAll]
    omega
theorem pd_t {xs : List MV} (hx : ∀ x, x ∈ xs → PdOk h n x) : PdOk h (n + 1) (.tup xs) := by
  obtain ⟨ds, f1, f2, f3, _⟩ := pd_all hx
  refine ⟨.tuple ds, by rw [pdv, f1]; rfl, by simpa [PyData.canLay0] using f2, ?_⟩
  simp only [PyData.depth]
  omega
theorem pd_c {x : MV} {xs : List MV} (a : PdOk h n x) (b : ∀ y, y ∈ xs → PdOk h n y) : ∀ y, y ∈ x :: xs → PdOk h n y := fun y hy => (List.mem_cons.mp hy).elim (fun e => by rw [e]; exact a) (b y)
theorem pd_0 : ∀ y, y ∈ ([] : List MV) → PdOk h n y := fun y hy => by cases hy
end
theorem scal_t {xs ys : List MV} : scalM (.tup xs) (.tup ys) = none := rfl
theorem ne_self {h : MH} {xs : List MV} (p : PdOk h 60 (.tup xs)) : mNe (.tup xs) (.tup xs) h = .ok (.bl false) h ∧ mEq (.tup xs) (.tup xs) h = .ok (.bl true) h := by
  obtain ⟨d, e1, e2, e3⟩ := p
  have sh : SeqAt.shaped d = true := by unfold SeqAt.shaped; rw [e2]; simp; omega
  have er := PySem.SeqAt.eqv_refl d e2
  unfold mNe mEq mEqB
  rw [scal_t, e1]
  simp [sh, er]
theorem eq_true {h : MH} {n m : Nat} (e1 : h[n]? = some (.lst [.bl true])) (e2 : h[m]? = some (.lst [.bl true])) : mEq (.ref n) (.ref m) h = .ok (.bl true) h := by
  have a : ∀ k, h[k]? = some (.lst [.bl true]) → pdv h 60 (.ref k) = some (.list [.bool true]) := fun k e => by
    rw [pdv, e]; rfl
  have sc : scalM (.ref n) (.ref m) = none := rfl
  unfold mEq mEqB
  rw [sc, a n e1, a m e2]
  have sh : (SeqAt.shaped (.list [.bool true]) && SeqAt.shaped (.list [.bool true])) = true := by decide +kernel
  have ev : PyData.eqv (.list [.bool true]) (.list [.bool true]) = true := by decide +kernel
  dsimp only
  rw [if_pos sh, ev]
/-! ### the try -/
def kCatch (ks : List Str) (i : Nat) (mx : List MV → MSt) (D : SW4) : SW4 := { D with e := fun e ρ h => Sd (caught4 ks i mx e ρ h) D }
theorem kCatch_n {ks : List Str} {i : Nat} {mx : List MV → MSt} {D : SW4} : (kCatch ks i mx D).n = D.n := rfl
theorem kCatch_e {ks : List Str} {i : Nat} {mx : List MV → MSt} {D : SW4} {e : MV} {ρ : MS} {h : MH} : (kCatch ks i mx D).e e ρ h = Sd (caught4 ks i mx e ρ h) D := (Eq.refl _).trans rfl
theorem S_try4 {ks : List Str} {i : Nat} {mb : MSt} {mx : List MV → MSt} {ρ : MS} {h : MH} {D : SW4} : Sd (sTry4 ks i mb mx ρ h) D = Sd (mb ρ h) (kCatch ks i mx D) := by
  unfold sTry4
  cases e : mb ρ h <;> simp only [Sd_nx, Sd_rt, Sd_bk, Sd_ct, Sd_ex, Sd_bad] <;> rfl
def kClr (i : Nat) (D : SW4) : SW4 := ⟨fun ρ h => D.n (ρ.set i none) h, D.r, fun ρ h => D.b (ρ.set i none) h, fun ρ h => D.c (ρ.set i none) h, fun _ _ _ => False⟩
theorem S_clr {i : Nat} {r : SRes} {D : SW4} : Sd (clr i r) D = Sd r (kClr i D) := by
  unfold clr
  cases r <;> simp only [Sd_nx, Sd_rt, Sd_bk, Sd_ct, Sd_ex, Sd_bad] <;> rfl
theorem kClr_n {i : Nat} {D : SW4} {ρ : MS} {h : MH} : (kClr i D).n ρ h = D.n (ρ.set i none) h := rfl
/-- the first that doesn't fit stands at the same place -/
theorem same_len : ∀ {as A bs B : List Str} {w x : Str}, as ++ w :: bs = A ++ x :: B → (∀ p, p ∈ as → pWord p = true) → (∀ p, p ∈ A → pWord p = true) → pWord w = false → pWord x = false → as.length = A.length
  | [], [], _, _, _, _, _, _, _, _, _ => rfl
  | [], a :: A, _, _, _, _, e, _, h2, h3, _ => by
    simp only [List.nil_append, List.cons_append, List.cons.injEq] at e
    have := h2 a (by simp)
    rw [← e.1, h3] at this
    cases this
  | a :: as, [], _, _, _, _, e, h1, _, _, h4 => by
    simp only [List.nil_append, List.cons_append, List.cons.injEq] at e
    have := h1 a (by simp)
    rw [e.1, h4] at this
    cases this
  | a :: as, b :: A, _, _, _, _, e, h1, h2, h3, h4 => by
    simp only [List.cons_append, List.cons.injEq] at e
    rw [List.length_cons, List.length_cons, same_len e.2 (fun p hp => h1 p (by simp [hp])) (fun p hp => h2 p (by simp [hp])) h3 h4]
end My

set_option Elab.async false
set_option linter.all false
set_option maxRecDepth 100000
set_option maxHeartbeats 4000000
namespace My
open PySem L2 Sm
theorem fit_all {w : Str} (h : fitW w = true) : gW w = true ∧ pWord w = true ∧ w.length ≤ 41 := by
  simp only [fitW, Bool.and_eq_true, decide_eq_true_eq] at h
  exact ⟨h.1, h.2.1, h.2.2⟩
theorem wsum_le : ∀ {ws : List Str}, (∀ w, w ∈ ws → w.length ≤ 42) → Dr.wsum ws ≤ 45 * ws.length
  | [], _ => by rw [Dr.wsum_nil]; omega
  | w :: ws, h => by
    have := h w (by simp)
    have := wsum_le (ws := ws) fun x hx => h x (by simp [hx])
    rw [Dr.wsum_cons, List.length_cons]; omega
noncomputable def DUE : MSt := (sSeq (sSet 6 (eCallB lTuple (lComp (iRange1 (aCons (eCallB mLen (aCons (eVar 2) aNil)) aNil)) (.one 10) [10] tYesM (eBin mAdd (eTup (aCons (eBin mIx (eVar 2) (eVar 10)) aNil)) (eBin mIx (eVar 5) (eVar 10))))))
    (sSeq (sSet 7 (eCallD m_words_of [] (aCons (eVar 4) aNil)))
    (sRet (eAnd (eUn (mIsi "tuple") (eVar 7)) (eBin mEq (eVar 7) (eVar 6))))))
noncomputable def TRY : MSt := (sSeq (sSet 8 (eNew (lDisp aNil)))
    (sSeq (sTry4 ["Fault"] 9
    (sExpr (eCallD m_words_of [] (aCons (eVar 4) aNil)))
    (mxB 8 (eBin mAdd (eBin mIx (eVar 5) (eVar 3)) (eTup (aCons (eC (.str "sign")) (aCons (eC (.str "")) aNil))))))
    (sRet (eBin mEq (eVar 8) (eNew (lDisp (aCons (eC (.bl true)) aNil)))))))
/-- what the law's end tells -/
abbrev Tru : MV → MH → Prop := fun v _ => v = .bl true
theorem due_ok {ws : List Str} {X : Str} {R : List (List Pc)} {rows : List Str} {n : Nat} {h h0 : MH} {y0 y1 y3 y6 y7 y8 y9 y10 : Option MV} (tk : TextOk X rows) (ta : allW rows 0 = placed R 0) (hw : (placed R 0).map (·.1) = ws) (few : ws.length ≤ 100) (gw : allG ws) (fit : ∀ w, w ∈ ws → pWord w = true)
    (e2 : h[2]? = some (.lst (ws.map MV.str))) (en : h[n]? = some (.lst ((placed R 0).map sp2))) : Sd (DUE [y0, y1, some (.ref 2), y3, some (.str X), some (.ref n), y6, y7, y8, y9, y10] h) (kFun h0 Tru) := by
  obtain ⟨W, hW⟩ : ∃ W, W = placed R 0 := ⟨_, rfl⟩
  rw [← hW] at ta hw en
  have lW : W.length = ws.length := by rw [← hw, List.length_map]
  unfold DUE
  simp only [↓SX1, SX2, List.getElem?_cons_zero, List.getElem?_cons_succ, List.set_cons_zero, List.set_cons_succ, List.map_cons, List.map_nil, List.cons_append, List.nil_append, List.append_nil, List.replicate_succ, List.replicate_zero, List.length_cons, List.length_nil, if_true, if_false, true_and, and_true, and_self, Nat.zero_add, Int.natCast_zero, i0, i1, i2, i3, i4, decide_true, decide_false, Bool.not_true, Bool.not_false, ofString_inj, gt_iff_lt, List.all_cons, List.all_nil, List.any_cons, List.any_nil, Bool.and_true, Bool.true_and, Bool.and_self, Bool.or_false, Bool.false_or, Bool.or_true, Bool.true_or, szOk, mNeg, wipeM, ↓reduceIte, Nat.reduceAdd, Nat.reduceSub, Nat.reduceLeDiff, Int.reduceLT, Int.reduceLE, Int.reduceNeg, Int.reduceAdd, Int.reduceSub, Int.reducePow, Int.reduceEq, Int.reduceLT, Int.reduceMod, Int.reduceDiv, Int.reduceMul, Int.reduceToNat, String.reduceEq, reduceCtorEq, e2, List.length_map]
  have r1 : -(2 ^ 62) ≤ (ws.length : Int) ∧ (ws.length : Int) < 2 ^ 62 := by
    have e : (2 : Int) ^ 62 = 4611686018427387904 := by decide
    rw [e]; omega
  refine ⟨r1, ?_⟩
  have ei : intR 0 ((ws.length : Int)).toNat = (List.range ws.length).map fun k : Nat => MV.int (k : Int) := by
    unfold intR
    simp
  rw [ei]
  refine ⟨by simp; omega, ?_⟩
  refine s_compE (vf := fun k : Nat => MV.int (k : Int)) (ef := fun k : Nat => match W[k]? with | some p => w3 p | none => .non) (fun _ z => by cases z) (fun k hk => ⟨_, rfl, ?_⟩) ?_
  · have hk : k < W.length := by rw [lW]; exact List.mem_range.mp hk
    have gk : W[k]? = some W[k] := List.getElem?_eq_getElem hk
    have a2 : atI (ws.map MV.str) (k : Int) = some (.str W[k].1) := ixNat (by rw [← hw, List.getElem?_map, List.getElem?_map, gk]; rfl)
    have an : atI (W.map sp2) (k : Int) = some (.tup [.int W[k].2.1, .int W[k].2.2]) := ixNat (by rw [List.getElem?_map, gk]; rfl)
    rw [gk]
    refine Gd.eq ?_
    simp only [↓SX1, SX2, List.getElem?_cons_zero, List.getElem?_cons_succ, List.set_cons_zero, List.set_cons_succ, List.map_cons, List.map_nil, List.cons_append, List.nil_append, List.append_nil, List.replicate_succ, List.replicate_zero, List.length_cons, List.length_nil, if_true, if_false, true_and, and_true, and_self, Nat.zero_add, Int.natCast_zero, i0, i1, i2, i3, i4, decide_true, decide_false, Bool.not_true, Bool.not_false, ofString_inj, gt_iff_lt, List.all_cons, List.all_nil, List.any_cons, List.any_nil, Bool.and_true, Bool.true_and, Bool.and_self, Bool.or_false, Bool.false_or, Bool.or_true, Bool.true_or, szOk, mNeg, wipeM, ↓reduceIte, Nat.reduceAdd, Nat.reduceSub, Nat.reduceLeDiff, Int.reduceLT, Int.reduceLE, Int.reduceNeg, Int.reduceAdd, Int.reduceSub, Int.reducePow, Int.reduceEq, Int.reduceLT, Int.reduceMod, Int.reduceDiv, Int.reduceMul, Int.reduceToNat, String.reduceEq, reduceCtorEq, e2, en, a2, an]
    exact ⟨rfl, rfl⟩
  · have eW : ((List.range ws.length).map fun k : Nat => match W[k]? with | some p => w3 p | none => MV.non) = W.map w3 := by
      rw [← lW]
      apply List.ext_getElem (by simp)
      intro i h1 h2
      have hi : i < W.length := by simpa using h1
      simp [List.getElem?_eq_getElem hi]
    rw [eW]
    have lt : ∀ g, lTuple (W.map w3) g = .ok (.tup (W.map w3)) g := fun g => rfl
    simp only [↓SX1, SX2, List.getElem?_cons_zero, List.getElem?_cons_succ, List.set_cons_zero, List.set_cons_succ, List.map_cons, List.map_nil, List.cons_append, List.nil_append, List.append_nil, List.replicate_succ, List.replicate_zero, List.length_cons, List.length_nil, if_true, if_false, true_and, and_true, and_self, Nat.zero_add, Int.natCast_zero, i0, i1, i2, i3, i4, decide_true, decide_false, Bool.not_true, Bool.not_false, ofString_inj, gt_iff_lt, List.all_cons, List.all_nil, List.any_cons, List.any_nil, Bool.and_true, Bool.true_and, Bool.and_self, Bool.or_false, Bool.false_or, Bool.or_true, Bool.true_or, szOk, mNeg, wipeM, ↓reduceIte, Nat.reduceAdd, Nat.reduceSub, Nat.reduceLeDiff, Int.reduceLT, Int.reduceLE, Int.reduceNeg, Int.reduceAdd, Int.reduceSub, Int.reducePow, Int.reduceEq, Int.reduceLT, Int.reduceMod, Int.reduceDiv, Int.reduceMul, Int.reduceToNat, String.reduceEq, reduceCtorEq, lt]
    refine (words_of_ok tk h (by rw [ta, lW]; omega)).mono (fun y h2 => ?_) fun e h2 => ?_
    · rintro ⟨rfl, rfl, _⟩
      rw [ta]
      have lay : PdOk h2 60 (.tup (W.map w3)) := pd_t fun x hx => by
        obtain ⟨p, hp, rfl⟩ := List.mem_map.mp hx
        exact pd_t (pd_c (pd_s (gW_lay (gw _ (by rw [← hw]; exact List.mem_map_of_mem hp)))) (pd_c pd_i (pd_c pd_i pd_0)))
      have is : mIsi "tuple" (.tup (W.map w3)) h2 = .ok (.bl true) h2 := rfl
      simp only [↓SX1, SX2, List.getElem?_cons_zero, List.getElem?_cons_succ, List.set_cons_zero, List.set_cons_succ, List.map_cons, List.map_nil, List.cons_append, List.nil_append, List.append_nil, List.replicate_succ, List.replicate_zero, List.length_cons, List.length_nil, if_true, if_false, true_and, and_true, and_self, Nat.zero_add, Int.natCast_zero, i0, i1, i2, i3, i4, decide_true, decide_false, Bool.not_true, Bool.not_false, ofString_inj, gt_iff_lt, List.all_cons, List.all_nil, List.any_cons, List.any_nil, Bool.and_true, Bool.true_and, Bool.and_self, Bool.or_false, Bool.false_or, Bool.or_true, Bool.true_or, szOk, mNeg, wipeM, ↓reduceIte, Nat.reduceAdd, Nat.reduceSub, Nat.reduceLeDiff, Int.reduceLT, Int.reduceLE, Int.reduceNeg, Int.reduceAdd, Int.reduceSub, Int.reducePow, Int.reduceEq, Int.reduceLT, Int.reduceMod, Int.reduceDiv, Int.reduceMul, Int.reduceToNat, String.reduceEq, reduceCtorEq, is, (ne_self lay).2]
    · rintro ⟨as, w, r, c, bs, _, _, eW, _, bad⟩
      exfalso
      have : w ∈ ws := by rw [← hw, ← ta, eW]; simp
      rw [fit w this] at bad
      cases bad
theorem try_ok {ws A B : List Str} {wr : Str} {X : Str} {R : List (List Pc)} {rows : List Str} {n a : Nat} {h h0 : MH} {y0 y1 y2 y6 y7 y8 y9 y10 : Option MV} (tk : TextOk X rows) (ta : allW rows 0 = placed R 0) (hw : (placed R 0).map (·.1) = ws) (few : ws.length ≤ 100)
    (ew : ws = A ++ wr :: B) (la : A.length = a) (fit : ∀ w, w ∈ A → pWord w = true) (bad : pWord wr = false) (en : h[n]? = some (.lst ((placed R 0).map sp2))) :
    Sd (TRY [y0, y1, y2, some (.int a), some (.str X), some (.ref n), y6, y7, y8, y9, y10] h) (kFun h0 Tru) := by
  obtain ⟨W, hW⟩ : ∃ W, W = placed R 0 := ⟨_, rfl⟩
  rw [← hW] at ta hw en
  have lW : W.length = ws.length := by rw [← hw, List.length_map]
  unfold TRY
  simp only [↓SX1, SX2, List.getElem?_cons_zero, List.getElem?_cons_succ, List.set_cons_zero, List.set_cons_succ, List.map_cons, List.map_nil, List.cons_append, List.nil_append, List.append_nil, List.replicate_succ, List.replicate_zero, List.length_cons, List.length_nil, if_true, if_false, true_and, and_true, and_self, Nat.zero_add, Int.natCast_zero, i0, i1, i2, i3, i4, decide_true, decide_false, Bool.not_true, Bool.not_false, ofString_inj, gt_iff_lt, List.all_cons, List.all_nil, List.any_cons, List.any_nil, Bool.and_true, Bool.true_and, Bool.and_self, Bool.or_false, Bool.false_or, Bool.or_true, Bool.true_or, szOk, mNeg, wipeM, ↓reduceIte, Nat.reduceAdd, Nat.reduceSub, Nat.reduceLeDiff, Int.reduceLT, Int.reduceLE, Int.reduceNeg, Int.reduceAdd, Int.reduceSub, Int.reducePow, Int.reduceEq, Int.reduceLT, Int.reduceMod, Int.reduceDiv, Int.reduceMul, Int.reduceToNat, String.reduceEq, reduceCtorEq]
  rw [S_try4]
  simp only [↓SX1, SX2, List.getElem?_cons_zero, List.getElem?_cons_succ, List.set_cons_zero, List.set_cons_succ, List.map_cons, List.map_nil, List.cons_append, List.nil_append, List.append_nil, List.replicate_succ, List.replicate_zero, List.length_cons, List.length_nil, if_true, if_false, true_and, and_true, and_self, Nat.zero_add, Int.natCast_zero, i0, i1, i2, i3, i4, decide_true, decide_false, Bool.not_true, Bool.not_false, ofString_inj, gt_iff_lt, List.all_cons, List.all_nil, List.any_cons, List.any_nil, Bool.and_true, Bool.true_and, Bool.and_self, Bool.or_false, Bool.false_or, Bool.or_true, Bool.true_or, szOk, mNeg, wipeM, ↓reduceIte, Nat.reduceAdd, Nat.reduceSub, Nat.reduceLeDiff, Int.reduceLT, Int.reduceLE, Int.reduceNeg, Int.reduceAdd, Int.reduceSub, Int.reducePow, Int.reduceEq, Int.reduceLT, Int.reduceMod, Int.reduceDiv, Int.reduceMul, Int.reduceToNat, String.reduceEq, reduceCtorEq]
  refine (words_of_ok tk _ (by rw [ta, lW]; omega)).mono (fun y h2 => ?_) fun e h2 => ?_
  · rintro ⟨_, _, all⟩
    exfalso
    have : wr ∈ W.map (·.1) := by rw [hw, ew]; simp
    obtain ⟨p, hp, rfl⟩ := List.mem_map.mp this
    rw [all p (by rw [ta]; exact hp)] at bad
    cases bad
  · rintro ⟨as, w, r, c, bs, rfl, x2, eW, fits, bad2⟩
    rw [ta] at eW
    have es : as.length = a := by
      rw [← la]
      have := same_len (as := as.map (·.1)) (bs := bs.map (·.1)) (w := w) (A := A) (B := B) (x := wr) (by rw [← ew, ← hw, eW]; simp) (fun p hp => by obtain ⟨q, hq, rfl⟩ := List.mem_map.mp hp; exact fits q hq) fit bad2 bad
      rw [List.length_map] at this
      exact this
    have asp : atI (W.map sp2) (a : Int) = some (.tup [.int r, .int c]) := ixNat (by rw [eW, ← es]; simp [sp2])
    have eL : h2[h.length]? = some (.lst []) := x2.get gnew
    have en2 : h2[n]? = some (.lst (W.map sp2)) := x2.get (gap en)
    rw [kE_ap, kCatch_e]
    unfold caught4 flt
    dsimp only
    rw [if_pos ⟨by decide, rfl, by simp⟩, S_clr]
    unfold mxB
    simp only [List.set_cons_zero, List.set_cons_succ, List.getElem?_cons_zero, List.getElem?_cons_succ]
    rw [if_pos (tyl eL), Sd_st]
    have ev : eBin mAdd (eBin mIx (eVar 5) (eVar 3)) (eTup (aCons (eC (MV.str "sign")) (aCons (eC (MV.str "")) aNil))) [y0, y1, y2, some (MV.int a), some (MV.str X), some (MV.ref n), y6, y7, some (MV.ref h.length), none, y10] h2 = .ok (.tup [.int r, .int c, .str "sign", .str ""]) h2 := by
      refine Gd.eq ?_
      simp only [↓SX1, SX2, List.getElem?_cons_zero, List.getElem?_cons_succ, List.set_cons_zero, List.set_cons_succ, List.map_cons, List.map_nil, List.cons_append, List.nil_append, List.append_nil, List.replicate_succ, List.replicate_zero, List.length_cons, List.length_nil, if_true, if_false, true_and, and_true, and_self, Nat.zero_add, Int.natCast_zero, i0, i1, i2, i3, i4, decide_true, decide_false, Bool.not_true, Bool.not_false, ofString_inj, gt_iff_lt, List.all_cons, List.all_nil, List.any_cons, List.any_nil, Bool.and_true, Bool.true_and, Bool.and_self, Bool.or_false, Bool.false_or, Bool.or_true, Bool.true_or, szOk, mNeg, wipeM, ↓reduceIte, Nat.reduceAdd, Nat.reduceSub, Nat.reduceLeDiff, Int.reduceLT, Int.reduceLE, Int.reduceNeg, Int.reduceAdd, Int.reduceSub, Int.reducePow, Int.reduceEq, Int.reduceLT, Int.reduceMod, Int.reduceDiv, Int.reduceMul, Int.reduceToNat, String.reduceEq, reduceCtorEq, en2, asp]
      exact ⟨rfl, rfl⟩
    have lay : PdOk h2 60 (.tup [.int r, .int c, .str "sign", .str ""]) := pd_t (pd_c pd_i (pd_c pd_i (pd_c (pd_s (by decide +kernel)) (pd_c (pd_s (by decide +kernel)) pd_0))))
    rw [ev, Gd_ok, (ne_self lay).2, Sd_st, Gd_ok, Sd_st, app_ok eL (by simp), Gd_ok, Sd_nx, kClr_n, kNext_n]
    simp only [List.nil_append]
    obtain ⟨h3, hh3⟩ : ∃ h3, h3 = h2.set h.length (.lst [.bl true]) := ⟨_, rfl⟩
    have e3 : h3[h.length]? = some (.lst [.bl true]) := by rw [hh3]; exact gss eL
    rw [← hh3]
    have eq := eq_true (h := h3 ++ [.lst [.bl true]]) (gap e3) gnew
    simp only [↓SX1, SX2, List.getElem?_cons_zero, List.getElem?_cons_succ, List.set_cons_zero, List.set_cons_succ, List.map_cons, List.map_nil, List.cons_append, List.nil_append, List.append_nil, List.replicate_succ, List.replicate_zero, List.length_cons, List.length_nil, if_true, if_false, true_and, and_true, and_self, Nat.zero_add, Int.natCast_zero, i0, i1, i2, i3, i4, decide_true, decide_false, Bool.not_true, Bool.not_false, ofString_inj, gt_iff_lt, List.all_cons, List.all_nil, List.any_cons, List.any_nil, Bool.and_true, Bool.true_and, Bool.and_self, Bool.or_false, Bool.false_or, Bool.or_true, Bool.true_or, szOk, mNeg, wipeM, ↓reduceIte, Nat.reduceAdd, Nat.reduceSub, Nat.reduceLeDiff, Int.reduceLT, Int.reduceLE, Int.reduceNeg, Int.reduceAdd, Int.reduceSub, Int.reducePow, Int.reduceEq, Int.reduceLT, Int.reduceMod, Int.reduceDiv, Int.reduceMul, Int.reduceToNat, String.reduceEq, reduceCtorEq, eq]
end My

set_option Elab.async false
set_option linter.all false
set_option maxRecDepth 100000
set_option maxHeartbeats 4000000
namespace My
open PySem L2 Sm
noncomputable def REST : MSt := (sSeq (sSetT (.many [4, 5]) (eCallD m_law_laid [] (aCons (eVar 2) (aCons (eVar 1) aNil))))
    (sSeq (sIf (tOfE (eBin mIs (eVar 3) (eC .non))) DUE sNil) TRY))
/-- what is drawn: all fit, or one at a place doesn't -/
def Drawn (ws : List Str) (y3 : MV) : Prop := (y3 = .non ∧ ∀ w, w ∈ ws → pWord w = true) ∨ ∃ (A B : List Str) (wr : Str), y3 = .int A.length ∧ ws = A ++ wr :: B ∧ (∀ w, w ∈ A → pWord w = true) ∧ pWord wr = false
theorem rest_ok {ws : List Str} {r : List Int} {c : Nat} {y0 y3 : MV} (hr : Row r) (hc : c ≤ 200) (gw : allG ws) (few : ws.length ≤ 81) (sh : ∀ w, w ∈ ws → w.length ≤ 42) (dr : Drawn ws y3) :
    Sd (REST [some y0, some (.ref 1), some (.ref 2), some y3, none, none, none, none, none, none, none] (Dk r c 70 [.lst (ws.map MV.str)])) (kFun [] Tru) := by
  unfold REST
  have wz := wsum_le sh
  obtain ⟨h, hh⟩ : ∃ h, h = Dk r c 70 [.lst (ws.map MV.str)] := ⟨_, rfl⟩
  have e2 : h[2]? = some (.lst (ws.map MV.str)) := by rw [hh]; rfl
  rw [← hh]
  simp only [↓SX1, SX2, List.getElem?_cons_zero, List.getElem?_cons_succ, List.set_cons_zero, List.set_cons_succ, List.map_cons, List.map_nil, List.cons_append, List.nil_append, List.append_nil, List.replicate_succ, List.replicate_zero, List.length_cons, List.length_nil, if_true, if_false, true_and, and_true, and_self, Nat.zero_add, Int.natCast_zero, i0, i1, i2, i3, i4, decide_true, decide_false, Bool.not_true, Bool.not_false, ofString_inj, gt_iff_lt, List.all_cons, List.all_nil, List.any_cons, List.any_nil, Bool.and_true, Bool.true_and, Bool.and_self, Bool.or_false, Bool.false_or, Bool.or_true, Bool.true_or, szOk, mNeg, wipeM, ↓reduceIte, Nat.reduceAdd, Nat.reduceSub, Nat.reduceLeDiff, Int.reduceLT, Int.reduceLE, Int.reduceNeg, Int.reduceAdd, Int.reduceSub, Int.reducePow, Int.reduceEq, Int.reduceLT, Int.reduceMod, Int.reduceDiv, Int.reduceMul, Int.reduceToNat, String.reduceEq, reduceCtorEq]
  refine (laid_ok (ws := ws) (wl := 2) hr gw (by omega) (by omega) hh (by omega) e2).gd fun y h3 => ?_
  rintro ⟨R, T, n, c', b', g', rfl, nR, hR, hT, few2, hw, hD3, hc3, f3, ln, en⟩
  obtain ⟨X, hX⟩ : ∃ X, X = ofL (JL (R.map pcs ++ T)) := ⟨_, rfl⟩
  obtain ⟨tk, ta⟩ := text_lay hR nR hT (by omega)
  rw [← hX] at tk ⊢
  have e23 : h3[2]? = some (.lst (ws.map MV.str)) := f3.get (by omega) e2
  rcases dr with ⟨rfl, fit⟩ | ⟨A, B, wr, rfl, ew, fit, bad⟩
  · have go := due_ok (y0 := some y0) (y1 := some (.ref 1)) (y3 := some .non) (y6 := none) (y7 := none) (y8 := none) (y9 := none) (y10 := none) (h := h3) (h0 := []) tk ta hw (by omega) gw fit e23 en
    simp only [↓SX1, SX2, List.getElem?_cons_zero, List.getElem?_cons_succ, List.set_cons_zero, List.set_cons_succ, List.map_cons, List.map_nil, List.cons_append, List.nil_append, List.append_nil, List.replicate_succ, List.replicate_zero, List.length_cons, List.length_nil, if_true, if_false, true_and, and_true, and_self, Nat.zero_add, Int.natCast_zero, i0, i1, i2, i3, i4, decide_true, decide_false, Bool.not_true, Bool.not_false, ofString_inj, gt_iff_lt, List.all_cons, List.all_nil, List.any_cons, List.any_nil, Bool.and_true, Bool.true_and, Bool.and_self, Bool.or_false, Bool.false_or, Bool.or_true, Bool.true_or, szOk, mNeg, wipeM, ↓reduceIte, Nat.reduceAdd, Nat.reduceSub, Nat.reduceLeDiff, Int.reduceLT, Int.reduceLE, Int.reduceNeg, Int.reduceAdd, Int.reduceSub, Int.reducePow, Int.reduceEq, Int.reduceLT, Int.reduceMod, Int.reduceDiv, Int.reduceMul, Int.reduceToNat, String.reduceEq, reduceCtorEq]
    exact go.mono ⟨(fun _ _ z => by cases (show MV.non = MV.bl true from z)), (fun _ _ z => z), (fun _ _ z => z), (fun _ _ z => z), fun _ _ _ z => z⟩
  · have go := try_ok (y0 := some y0) (y1 := some (.ref 1)) (y2 := some (.ref 2)) (y6 := none) (y7 := none) (y8 := none) (y9 := none) (y10 := none) (h := h3) (h0 := []) tk ta hw (by omega) ew rfl fit bad en
    have isn : mIs (.int A.length) .non h3 = .ok (.bl false) h3 := rfl
    simp only [↓SX1, SX2, List.getElem?_cons_zero, List.getElem?_cons_succ, List.set_cons_zero, List.set_cons_succ, List.map_cons, List.map_nil, List.cons_append, List.nil_append, List.append_nil, List.replicate_succ, List.replicate_zero, List.length_cons, List.length_nil, if_true, if_false, true_and, and_true, and_self, Nat.zero_add, Int.natCast_zero, i0, i1, i2, i3, i4, decide_true, decide_false, Bool.not_true, Bool.not_false, ofString_inj, gt_iff_lt, List.all_cons, List.all_nil, List.any_cons, List.any_nil, Bool.and_true, Bool.true_and, Bool.and_self, Bool.or_false, Bool.false_or, Bool.or_true, Bool.true_or, szOk, mNeg, wipeM, ↓reduceIte, Nat.reduceAdd, Nat.reduceSub, Nat.reduceLeDiff, Int.reduceLT, Int.reduceLE, Int.reduceNeg, Int.reduceAdd, Int.reduceSub, Int.reducePow, Int.reduceEq, Int.reduceLT, Int.reduceMod, Int.reduceDiv, Int.reduceMul, Int.reduceToNat, String.reduceEq, reduceCtorEq, isn]
    exact go
theorem law_ok (ns : List Int) : ∃ h, m_law [.scr (ns.map MV.int)] [] = .ok (.bl true) h := by
  suffices H : Wp (m_law [.scr (ns.map MV.int)] []) Tru by
    obtain ⟨y, h, e, rfl⟩ := H.ex
    exact ⟨h, e⟩
  obtain ⟨r, hr, dk⟩ := deck_ok ns
  unfold m_law
  refine m_fun rfl ?_
  unfold b_law
  simp only [↓SX1, SX2, List.getElem?_cons_zero, List.getElem?_cons_succ, List.set_cons_zero, List.set_cons_succ, List.map_cons, List.map_nil, List.cons_append, List.nil_append, List.append_nil, List.replicate_succ, List.replicate_zero, List.length_cons, List.length_nil, if_true, if_false, true_and, and_true, and_self, Nat.zero_add, Int.natCast_zero, i0, i1, i2, i3, i4, decide_true, decide_false, Bool.not_true, Bool.not_false, ofString_inj, gt_iff_lt, List.all_cons, List.all_nil, List.any_cons, List.any_nil, Bool.and_true, Bool.true_and, Bool.and_self, Bool.or_false, Bool.false_or, Bool.or_true, Bool.true_or, szOk, mNeg, wipeM, ↓reduceIte, Nat.reduceAdd, Nat.reduceSub, Nat.reduceLeDiff, Int.reduceLT, Int.reduceLE, Int.reduceNeg, Int.reduceAdd, Int.reduceSub, Int.reducePow, Int.reduceEq, Int.reduceLT, Int.reduceMod, Int.reduceDiv, Int.reduceMul, Int.reduceToNat, String.reduceEq, reduceCtorEq, dk]
  obtain ⟨v, v0, v1, ev⟩ := next_ok (g := []) (b := 70) (c := 0) hr (by omega)
  simp only [↓SX1, SX2, List.getElem?_cons_zero, List.getElem?_cons_succ, List.set_cons_zero, List.set_cons_succ, List.map_cons, List.map_nil, List.cons_append, List.nil_append, List.append_nil, List.replicate_succ, List.replicate_zero, List.length_cons, List.length_nil, if_true, if_false, true_and, and_true, and_self, Nat.zero_add, Int.natCast_zero, i0, i1, i2, i3, i4, decide_true, decide_false, Bool.not_true, Bool.not_false, ofString_inj, gt_iff_lt, List.all_cons, List.all_nil, List.any_cons, List.any_nil, Bool.and_true, Bool.true_and, Bool.and_self, Bool.or_false, Bool.false_or, Bool.or_true, Bool.true_or, szOk, mNeg, wipeM, ↓reduceIte, Nat.reduceAdd, Nat.reduceSub, Nat.reduceLeDiff, Int.reduceLT, Int.reduceLE, Int.reduceNeg, Int.reduceAdd, Int.reduceSub, Int.reducePow, Int.reduceEq, Int.reduceLT, Int.reduceMod, Int.reduceDiv, Int.reduceMul, Int.reduceToNat, String.reduceEq, reduceCtorEq, ev]
  obtain ⟨k, ek, hk⟩ : ∃ k : Nat, v % 81 = (k : Int) ∧ k ≤ 80 := ⟨(v % 81).toNat, by have := md (v := v) (n := 81) (by decide); omega, by have := md (v := v) (n := 81) (by decide); omega⟩
  rw [ek]
  have r1 : -(2 ^ 62) ≤ (k : Int) ∧ (k : Int) < 2 ^ 62 := by
    have e : (2 : Int) ^ 62 = 4611686018427387904 := by decide
    rw [e]; omega
  refine ⟨r1, ?_⟩
  refine ⟨by simp [intR]; omega, ?_⟩
  refine s_comp (fun ys xs h => ∃ (c : Nat) (ws : List Str), ys = ws.map MV.str ∧ h = Dk r c 70 [] ∧ (∀ w, w ∈ ws → fitW w = true) ∧ ws.length + xs.length = k ∧ c = ws.length + 1) (fun _ _ _ _ _ z => by cases z) ⟨1, [], rfl, rfl, (fun w hw => by cases hw), by simp [intR], rfl⟩ ?_ ?_
  · rintro ys x xs h ⟨c, ws, rfl, rfl, fit, hl, hc⟩
    rw [List.length_cons] at hl
    refine ⟨_, rfl, ?_⟩
    obtain ⟨u, u0, u1, eu⟩ := next_ok (g := []) (b := 70) (c := c) hr (by omega)
    obtain ⟨w, fw, ew⟩ := right_ok u0 (Dk r (c + 1) 70 [])
    simp only [↓SX1, SX2, List.getElem?_cons_zero, List.getElem?_cons_succ, List.set_cons_zero, List.set_cons_succ, List.map_cons, List.map_nil, List.cons_append, List.nil_append, List.append_nil, List.replicate_succ, List.replicate_zero, List.length_cons, List.length_nil, if_true, if_false, true_and, and_true, and_self, Nat.zero_add, Int.natCast_zero, i0, i1, i2, i3, i4, decide_true, decide_false, Bool.not_true, Bool.not_false, ofString_inj, gt_iff_lt, List.all_cons, List.all_nil, List.any_cons, List.any_nil, Bool.and_true, Bool.true_and, Bool.and_self, Bool.or_false, Bool.false_or, Bool.or_true, Bool.true_or, szOk, mNeg, wipeM, ↓reduceIte, Nat.reduceAdd, Nat.reduceSub, Nat.reduceLeDiff, Int.reduceLT, Int.reduceLE, Int.reduceNeg, Int.reduceAdd, Int.reduceSub, Int.reducePow, Int.reduceEq, Int.reduceLT, Int.reduceMod, Int.reduceDiv, Int.reduceMul, Int.reduceToNat, String.reduceEq, reduceCtorEq, eu, ew]
    refine ⟨c + 1, ws ++ [w], by simp, rfl, fun x hx => ?_, by simp; omega, by simp; omega⟩
    rcases List.mem_append.mp hx with hx | hx
    · exact fit x hx
    · rw [List.mem_singleton] at hx; subst hx; exact fw
  · rintro ys h ⟨c, ws, rfl, rfl, fit, hl, hc⟩
    simp only [List.length_nil] at hl
    obtain ⟨w1, q0, q1, e1⟩ := next_ok (g := [.lst (ws.map MV.str)]) (b := 70) (c := c) hr (by omega)
    have e1 : m_law_next [.ref 1] (Dk r c 70 [] ++ [.lst (ws.map MV.str)]) = .ok (.int w1) (Dk r (c + 1) 70 [.lst (ws.map MV.str)]) := e1
    have eL : (Dk r c 70 []).length = 2 := rfl
    have gw : allG ws := fun w hw => (fit_all (fit w hw)).1
    have lw : ∀ w, w ∈ ws → w.length ≤ 42 := fun w hw => by have := (fit_all (fit w hw)).2.2; omega
    by_cases hm : w1 % 2 = 1
    · obtain ⟨w2, s0, s1, f2⟩ := next_ok (g := [.lst (ws.map MV.str)]) (b := 70) (c := c + 1) hr (by omega)
      obtain ⟨w3', t0, t1, f3⟩ := next_ok (g := [.lst (ws.map MV.str)]) (b := 70) (c := c + 1 + 1) hr (by omega)
      obtain ⟨wr, hwr, fw⟩ := wrong_ok t0 (Dk r (c + 1 + 1 + 1) 70 [.lst (ws.map MV.str)])
      obtain ⟨b1, b2, b3⟩ := wrong_bad wr hwr
      have e2 : ∀ c, (Dk r c 70 [.lst (ws.map MV.str)])[2]? = some (.lst (ws.map MV.str)) := fun c => rfl
      obtain ⟨a, ea, la⟩ : ∃ a : Nat, w2 % ((ws.length : Int) + 1) = (a : Int) ∧ a ≤ ws.length := ⟨(w2 % ((ws.length : Int) + 1)).toNat, by have := md (v := w2) (n := (ws.length : Int) + 1) (by omega); omega, by have := md (v := w2) (n := (ws.length : Int) + 1) (by omega); omega⟩
      have ins : ∀ c, mInsert (.ref 2) [.int a, .str wr] (Dk r c 70 [.lst (ws.map MV.str)]) = .ok .non (Dk r c 70 [.lst ((ws.take a ++ wr :: ws.drop a).map MV.str)]) := fun c => by
        unfold mInsert
        simp only [e2]
        have p62 : (2 : Int) ^ 62 = 4611686018427387904 := by decide
        rw [if_pos ⟨by omega, by rw [p62]; omega, by rw [List.length_map]; omega⟩]
        simp [Dk, List.map_take, List.map_drop]
      have go := rest_ok (ws := ws.take a ++ wr :: ws.drop a) (r := r) (c := c + 1 + 1 + 1) (y0 := .scr (ns.map MV.int)) (y3 := .int a) hr (by omega)
        (fun w hw => by
          rcases List.mem_append.mp hw with hw | hw
          · exact gw w (List.mem_of_mem_take hw)
          · rcases List.mem_cons.mp hw with rfl | hw
            · exact b1
            · exact gw w (List.mem_of_mem_drop hw))
        (by simp; omega)
        (fun w hw => by
          rcases List.mem_append.mp hw with hw | hw
          · exact lw w (List.mem_of_mem_take hw)
          · rcases List.mem_cons.mp hw with rfl | hw
            · exact b3
            · exact lw w (List.mem_of_mem_drop hw))
        (.inr ⟨ws.take a, ws.drop a, wr, by simp [la], rfl, fun w hw => (fit_all (fit w (List.mem_of_mem_take hw))).2.1, b2⟩)
      have ty : ∀ c, tyOk "list" (.ref 2) (Dk r c 70 [.lst (ws.map MV.str)]) = true := fun c => tyl (e2 c)
      unfold REST DUE TRY at go
      simp only [↓SX1, SX2, List.getElem?_cons_zero, List.getElem?_cons_succ, List.set_cons_zero, List.set_cons_succ, List.map_cons, List.map_nil, List.cons_append, List.nil_append, List.append_nil, List.replicate_succ, List.replicate_zero, List.length_cons, List.length_nil, if_true, if_false, true_and, and_true, and_self, Nat.zero_add, Int.natCast_zero, i0, i1, i2, i3, i4, decide_true, decide_false, Bool.not_true, Bool.not_false, ofString_inj, gt_iff_lt, List.all_cons, List.all_nil, List.any_cons, List.any_nil, Bool.and_true, Bool.true_and, Bool.and_self, Bool.or_false, Bool.false_or, Bool.or_true, Bool.true_or, szOk, mNeg, wipeM, ↓reduceIte, Nat.reduceAdd, Nat.reduceSub, Nat.reduceLeDiff, Int.reduceLT, Int.reduceLE, Int.reduceNeg, Int.reduceAdd, Int.reduceSub, Int.reducePow, Int.reduceEq, Int.reduceLT, Int.reduceMod, Int.reduceDiv, Int.reduceMul, Int.reduceToNat, String.reduceEq, reduceCtorEq] at go
      simp only [↓SX1, SX2, List.getElem?_cons_zero, List.getElem?_cons_succ, List.set_cons_zero, List.set_cons_succ, List.map_cons, List.map_nil, List.cons_append, List.nil_append, List.append_nil, List.replicate_succ, List.replicate_zero, List.length_cons, List.length_nil, if_true, if_false, true_and, and_true, and_self, Nat.zero_add, Int.natCast_zero, i0, i1, i2, i3, i4, decide_true, decide_false, Bool.not_true, Bool.not_false, ofString_inj, gt_iff_lt, List.all_cons, List.all_nil, List.any_cons, List.any_nil, Bool.and_true, Bool.true_and, Bool.and_self, Bool.or_false, Bool.false_or, Bool.or_true, Bool.true_or, szOk, mNeg, wipeM, ↓reduceIte, Nat.reduceAdd, Nat.reduceSub, Nat.reduceLeDiff, Int.reduceLT, Int.reduceLE, Int.reduceNeg, Int.reduceAdd, Int.reduceSub, Int.reducePow, Int.reduceEq, Int.reduceLT, Int.reduceMod, Int.reduceDiv, Int.reduceMul, Int.reduceToNat, String.reduceEq, reduceCtorEq, ↓e1, eL, hm, f2, e2, List.length_map]
      refine ⟨by omega, ty _, ?_⟩
      rw [ea]
      simp only [↓SX1, SX2, List.getElem?_cons_zero, List.getElem?_cons_succ, List.set_cons_zero, List.set_cons_succ, List.map_cons, List.map_nil, List.cons_append, List.nil_append, List.append_nil, List.replicate_succ, List.replicate_zero, List.length_cons, List.length_nil, if_true, if_false, true_and, and_true, and_self, Nat.zero_add, Int.natCast_zero, i0, i1, i2, i3, i4, decide_true, decide_false, Bool.not_true, Bool.not_false, ofString_inj, gt_iff_lt, List.all_cons, List.all_nil, List.any_cons, List.any_nil, Bool.and_true, Bool.true_and, Bool.and_self, Bool.or_false, Bool.false_or, Bool.or_true, Bool.true_or, szOk, mNeg, wipeM, ↓reduceIte, Nat.reduceAdd, Nat.reduceSub, Nat.reduceLeDiff, Int.reduceLT, Int.reduceLE, Int.reduceNeg, Int.reduceAdd, Int.reduceSub, Int.reducePow, Int.reduceEq, Int.reduceLT, Int.reduceMod, Int.reduceDiv, Int.reduceMul, Int.reduceToNat, String.reduceEq, reduceCtorEq, f3, fw, ins]
      exact go
    · have go := rest_ok (ws := ws) (r := r) (c := c + 1) (y0 := .scr (ns.map MV.int)) (y3 := .non) hr (by omega) gw (by omega) lw (.inl ⟨rfl, fun w hw => (fit_all (fit w hw)).2.1⟩)
      unfold REST DUE TRY at go
      simp only [↓SX1, SX2, List.getElem?_cons_zero, List.getElem?_cons_succ, List.set_cons_zero, List.set_cons_succ, List.map_cons, List.map_nil, List.cons_append, List.nil_append, List.append_nil, List.replicate_succ, List.replicate_zero, List.length_cons, List.length_nil, if_true, if_false, true_and, and_true, and_self, Nat.zero_add, Int.natCast_zero, i0, i1, i2, i3, i4, decide_true, decide_false, Bool.not_true, Bool.not_false, ofString_inj, gt_iff_lt, List.all_cons, List.all_nil, List.any_cons, List.any_nil, Bool.and_true, Bool.true_and, Bool.and_self, Bool.or_false, Bool.false_or, Bool.or_true, Bool.true_or, szOk, mNeg, wipeM, ↓reduceIte, Nat.reduceAdd, Nat.reduceSub, Nat.reduceLeDiff, Int.reduceLT, Int.reduceLE, Int.reduceNeg, Int.reduceAdd, Int.reduceSub, Int.reducePow, Int.reduceEq, Int.reduceLT, Int.reduceMod, Int.reduceDiv, Int.reduceMul, Int.reduceToNat, String.reduceEq, reduceCtorEq] at go
      simp only [↓SX1, SX2, List.getElem?_cons_zero, List.getElem?_cons_succ, List.set_cons_zero, List.set_cons_succ, List.map_cons, List.map_nil, List.cons_append, List.nil_append, List.append_nil, List.replicate_succ, List.replicate_zero, List.length_cons, List.length_nil, if_true, if_false, true_and, and_true, and_self, Nat.zero_add, Int.natCast_zero, i0, i1, i2, i3, i4, decide_true, decide_false, Bool.not_true, Bool.not_false, ofString_inj, gt_iff_lt, List.all_cons, List.all_nil, List.any_cons, List.any_nil, Bool.and_true, Bool.true_and, Bool.and_self, Bool.or_false, Bool.false_or, Bool.or_true, Bool.true_or, szOk, mNeg, wipeM, ↓reduceIte, Nat.reduceAdd, Nat.reduceSub, Nat.reduceLeDiff, Int.reduceLT, Int.reduceLE, Int.reduceNeg, Int.reduceAdd, Int.reduceSub, Int.reducePow, Int.reduceEq, Int.reduceLT, Int.reduceMod, Int.reduceDiv, Int.reduceMul, Int.reduceToNat, String.reduceEq, reduceCtorEq, ↓e1, eL, hm]
      exact go
end My

set_option Elab.async false
set_option linter.all false
set_option maxRecDepth 100000
set_option maxHeartbeats 8000000
namespace My
open PySem L2

/-- the law's promise, whatever the classes' places -/
def spLaw (K : PySem.W.Frag) : Sp := fun vs H Q E => ∃ (a : Addr) (ns : List Int), vs = [.ref a] ∧ ns.length ≤ 63 ∧ Only H ∧ SqL K H a (ns.map V.int) ∧ Q = (fun v _ => v = .bl true) ∧ E = (fun _ _ _ => False)
theorem ok_lawS {P : Program} {w : World} {K : PySem.W.Frag} {mg : Str → Option Value} {base : Heap} (T : Tx K mg) : FnOk P w K mg base CX0 6 T.d_law.f T.d_law.fd ["_law_script"] (spLaw K) :=
  (ok_law T).imp fun vs H Q E ⟨a, ns, e1, e2, e3, e4, e5, e6⟩ => by
    subst e1 e5 e6
    exact Sm.law_read (fun ns _ => law_ok ns) H a ns e2 e3 e4
theorem all_mk {l : PySem.W.OpenLaw} {w : World} {K : PySem.W.Frag} {h : Heap} {mg : Str → Option Value} {fa : Addr} (X : K.In h) (G : h.Ns mainGlobals mg) (hfa : mg "law" = some (.ref fa))
    {t_BIG : Tok}
    {t_ROWS : Tok}
    {t_COLUMNS : Tok}
    {t_SMALL : Tok}
    {t_GREAT : Tok}
    {t_FIGURES : Tok}
    {t_BRACKETS : Tok}
    {u_OPERATORS : Addr} {uo_OPERATORS : Option Addr} {us_OPERATORS : Array (Option Value)} {un_OPERATORS : Nat} {ut_OPERATORS_0 ut_OPERATORS_1 ut_OPERATORS_2 ut_OPERATORS_3 ut_OPERATORS_4 ut_OPERATORS_5 : Tok}
    {u_KEPT : Addr} {uo_KEPT : Option Addr} {us_KEPT : Array (Option Value)} {un_KEPT : Nat} {ut_KEPT_0 ut_KEPT_1 ut_KEPT_2 ut_KEPT_3 ut_KEPT_4 ut_KEPT_5 ut_KEPT_6 ut_KEPT_7 ut_KEPT_8 ut_KEPT_9 ut_KEPT_10 ut_KEPT_11 ut_KEPT_12 ut_KEPT_13 ut_KEPT_14 ut_KEPT_15 ut_KEPT_16 ut_KEPT_17 ut_KEPT_18 ut_KEPT_19 ut_KEPT_20 ut_KEPT_21 : Tok}
    {C_SteadError : Addr}
    {C_Fault Nx_Fault : Addr} {nx_Fault qx_Fault : Str} {bx_Fault : List Value} {sx_Fault : List Str} {ux_Fault : List Value} {abx_Fault : Bool} {cox_Fault : Option Bool} {ddx_Fault : Option Addr} {mx0_Fault mx1_Fault mx2_Fault mx3_Fault mx5_Fault : Option Value}
    {f1 : Addr} {od1 an1 : Option Addr} {sl1 : Array (Option Value)} {oc1 kV1 dc1 pm1 cd1 ct1 : Value}
    {f2 : Addr} {od2 an2 : Option Addr} {sl2 : Array (Option Value)} {oc2 kV2 dc2 pm2 cd2 ct2 : Value}
    {f3 : Addr} {od3 an3 : Option Addr} {sl3 : Array (Option Value)} {oc3 kV3 dc3 pm3 cd3 ct3 : Value}
    {f4 : Addr} {od4 an4 : Option Addr} {sl4 : Array (Option Value)} {oc4 kV4 dc4 pm4 cd4 ct4 : Value}
    {f5 : Addr} {od5 an5 : Option Addr} {sl5 : Array (Option Value)} {oc5 kV5 dc5 pm5 cd5 ct5 : Value}
    {f6 : Addr} {od6 an6 : Option Addr} {sl6 : Array (Option Value)} {oc6 kV6 dc6 pm6 cd6 ct6 : Value}
    {f7 : Addr} {od7 an7 : Option Addr} {sl7 : Array (Option Value)} {oc7 kV7 dc7 pm7 cd7 ct7 : Value}
    {f8 : Addr} {od8 an8 : Option Addr} {sl8 : Array (Option Value)} {oc8 kV8 dc8 pm8 cd8 ct8 : Value}
    {f9 : Addr} {od9 an9 : Option Addr} {sl9 : Array (Option Value)} {oc9 kV9 dc9 pm9 cd9 ct9 : Value}
    {f10 : Addr} {od10 an10 : Option Addr} {sl10 : Array (Option Value)} {oc10 kV10 dc10 pm10 cd10 ct10 : Value}
    {f11 : Addr} {od11 an11 : Option Addr} {sl11 : Array (Option Value)} {oc11 kV11 dc11 pm11 cd11 ct11 : Value}
    {f12 : Addr} {od12 an12 : Option Addr} {sl12 : Array (Option Value)} {oc12 kV12 dc12 pm12 cd12 ct12 : Value}
    {f13 : Addr} {od13 an13 : Option Addr} {sl13 : Array (Option Value)} {oc13 kV13 dc13 pm13 cd13 ct13 : Value}
    {f14 : Addr} {od14 an14 : Option Addr} {sl14 : Array (Option Value)} {oc14 kV14 dc14 pm14 cd14 ct14 : Value}
    {f15 : Addr} {od15 an15 : Option Addr} {sl15 : Array (Option Value)} {oc15 kV15 dc15 pm15 cd15 ct15 : Value}
    {f16 : Addr} {od16 an16 : Option Addr} {sl16 : Array (Option Value)} {oc16 kV16 dc16 pm16 cd16 ct16 : Value}
    (z_len : PySem.W.nsIn K mainGlobals "len" = some none)
    (z_range : PySem.W.nsIn K mainGlobals "range" = some none)
    (z_tuple : PySem.W.nsIn K mainGlobals "tuple" = some none)
    (z_isinstance : PySem.W.nsIn K mainGlobals "isinstance" = some none)
    (z_min : PySem.W.nsIn K mainGlobals "min" = some none)
    (z_str : PySem.W.nsIn K mainGlobals "str" = some none)
    (z_int : PySem.W.nsIn K mainGlobals "int" = some none)
    (z_enumerate : PySem.W.nsIn K mainGlobals "enumerate" = some none)
    (z_all : PySem.W.nsIn K mainGlobals "all" = some none)
    (c_BIG : PySem.W.nsIn K mainGlobals "BIG" = some (some (.int 1000000000000 t_BIG)))
    (c_ROWS : PySem.W.nsIn K mainGlobals "ROWS" = some (some (.int 300 t_ROWS)))
    (c_COLUMNS : PySem.W.nsIn K mainGlobals "COLUMNS" = some (some (.int 120 t_COLUMNS)))
    (c_SMALL : PySem.W.nsIn K mainGlobals "SMALL" = some (some (.str "abcdefghijklmnopqrstuvwxyz" t_SMALL)))
    (c_GREAT : PySem.W.nsIn K mainGlobals "GREAT" = some (some (.str "ABCDEFGHIJKLMNOPQRSTUVWXYZ" t_GREAT)))
    (c_FIGURES : PySem.W.nsIn K mainGlobals "FIGURES" = some (some (.str "0123456789" t_FIGURES)))
    (c_BRACKETS : PySem.W.nsIn K mainGlobals "BRACKETS" = some (some (.str "(){}[]|" t_BRACKETS)))
    (ua_OPERATORS : PySem.W.nsIn K mainGlobals "OPERATORS" = some (some (.ref u_OPERATORS)))
    (ul_OPERATORS : K.lookup u_OPERATORS = some ⟨.type "tuple", uo_OPERATORS, .seq #[.str "+" ut_OPERATORS_0, .str "-" ut_OPERATORS_1, .str "*" ut_OPERATORS_2, .str "/" ut_OPERATORS_3, .str "<" ut_OPERATORS_4, .str "=" ut_OPERATORS_5] un_OPERATORS, us_OPERATORS⟩)
    (ua_KEPT : PySem.W.nsIn K mainGlobals "KEPT" = some (some (.ref u_KEPT)))
    (ul_KEPT : K.lookup u_KEPT = some ⟨.type "tuple", uo_KEPT, .seq #[.str "do" ut_KEPT_0, .str "else" ut_KEPT_1, .str "end" ut_KEPT_2, .str "false" ut_KEPT_3, .str "field" ut_KEPT_4, .str "if" ut_KEPT_5, .str "kind" ut_KEPT_6, .str "method" ut_KEPT_7, .str "more" ut_KEPT_8, .str "new" ut_KEPT_9, .str "none" ut_KEPT_10, .str "raise" ut_KEPT_11, .str "return" ut_KEPT_12, .str "say" ut_KEPT_13, .str "self" ut_KEPT_14, .str "taken" ut_KEPT_15, .str "then" ut_KEPT_16, .str "true" ut_KEPT_17, .str "try" ut_KEPT_18, .str "under" ut_KEPT_19, .str "up" ut_KEPT_20, .str "while" ut_KEPT_21] un_KEPT, us_KEPT⟩)
    (a_SteadError : PySem.W.nsIn K mainGlobals "SteadError" = some (some (.ref C_SteadError)))
    (sg_SteadError : PySem.W.specialIn K (.ref C_SteadError) "__getattribute__" = some (some (.builtin "type.__getattribute__")))
    (rd_SteadError : PySem.W.readsIn K C_SteadError (.type "type") = true)
    (fi_SteadError : PySem.W.findCls K (.ref C_SteadError) (.type "type") "__init__" = some (.val (.builtin "ValueError.__init__")))
    (a_Fault : PySem.W.nsIn K mainGlobals "Fault" = some (some (.ref C_Fault)))
    (xl_Fault : K.lookup C_Fault = some (excClassObj nx_Fault qx_Fault C_Fault Nx_Fault bx_Fault [.ref C_SteadError, .type "ValueError", .type "Exception", .type "BaseException", .type "object"] true sx_Fault ux_Fault abx_Fault cox_Fault ddx_Fault mx0_Fault mx1_Fault mx2_Fault mx3_Fault mx5_Fault "ValueError.__new__"))
    (sa_Fault : PySem.W.findIn K (.ref C_Fault) "__setattr__" = some (some (.builtin "object.__setattr__")))
    (ga_Fault : PySem.W.findIn K (.ref C_Fault) "__getattribute__" = some (some (.builtin "BaseException.__getattribute__")))
    (gg_Fault : PySem.W.findIn K (.ref C_Fault) "__getattr__" = some none)
    (ex_Fault : PySem.W.subIn K (.ref C_Fault) (.type "BaseException") = some true)
    (ty_Fault : PySem.W.typeIn K (.ref C_Fault) = some (.type "type"))
    (kc_Fault : PySem.W.keepIn K (.ref C_Fault) = true)
    (hd_Fault : PySem.W.hasDictIn K C_Fault = true)
    (n_Fault_page : PySem.W.findIn K (.ref C_Fault) "page" = some none)
    (n_Fault_row : PySem.W.findIn K (.ref C_Fault) "row" = some none)
    (n_Fault_column : PySem.W.findIn K (.ref C_Fault) "column" = some none)
    (n_Fault_why : PySem.W.findIn K (.ref C_Fault) "why" = some none)
    (a1 : PySem.W.findIn K (.ref C_Fault) "__init__" = some (some (.ref f1)))
    (t1 : PySem.W.typeIn K (.ref f1) = some (.type "function"))
    (l1 : K.lookup f1 = some ⟨oc1, od1, .func (PySem.W.fnOf "__init__" "Fault.__init__" (defArgs s_Fault_init__) (defBody s_Fault_init__) (defScope s_Fault_init__) .none kV1 dc1 pm1 an1 cd1 ct1), sl1⟩)
    (c1 : PySem.W.codeIn K cd1 "Fault.__init__" = true)
    (k1 : PySem.W.keepIn K (.ref f1) = true)
    (eb_SteadError : PySem.W.subIn K (.ref C_SteadError) (.type "BaseException") = some true)
    (hb_SteadError : PySem.W.hasDictIn K C_SteadError = true)
    (tb_SteadError : PySem.W.typeIn K (.ref C_SteadError) = some (.type "type"))
    (su_Fault_SteadError : PySem.W.subIn K (.ref C_Fault) (.ref C_SteadError) = some true)
    (a2 : PySem.W.nsIn K mainGlobals "is_made_of" = some (some (.ref f2)))
    (l2 : K.lookup f2 = some ⟨oc2, od2, .func (PySem.W.fnOf "is_made_of" "is_made_of" (defArgs s_is_made_of) (defBody s_is_made_of) (defScope s_is_made_of) .none kV2 dc2 pm2 an2 cd2 ct2), sl2⟩)
    (c2 : PySem.W.codeIn K cd2 "is_made_of" = true)
    (k2 : PySem.W.keepIn K (.ref f2) = true)
    (a3 : PySem.W.nsIn K mainGlobals "is_small" = some (some (.ref f3)))
    (l3 : K.lookup f3 = some ⟨oc3, od3, .func (PySem.W.fnOf "is_small" "is_small" (defArgs s_is_small) (defBody s_is_small) (defScope s_is_small) .none kV3 dc3 pm3 an3 cd3 ct3), sl3⟩)
    (c3 : PySem.W.codeIn K cd3 "is_small" = true)
    (k3 : PySem.W.keepIn K (.ref f3) = true)
    (a4 : PySem.W.nsIn K mainGlobals "is_kind_name" = some (some (.ref f4)))
    (l4 : K.lookup f4 = some ⟨oc4, od4, .func (PySem.W.fnOf "is_kind_name" "is_kind_name" (defArgs s_is_kind_name) (defBody s_is_kind_name) (defScope s_is_kind_name) .none kV4 dc4 pm4 an4 cd4 ct4), sl4⟩)
    (c4 : PySem.W.codeIn K cd4 "is_kind_name" = true)
    (k4 : PySem.W.keepIn K (.ref f4) = true)
    (a5 : PySem.W.nsIn K mainGlobals "is_text" = some (some (.ref f5)))
    (l5 : K.lookup f5 = some ⟨oc5, od5, .func (PySem.W.fnOf "is_text" "is_text" (defArgs s_is_text) (defBody s_is_text) (defScope s_is_text) .none kV5 dc5 pm5 an5 cd5 ct5), sl5⟩)
    (c5 : PySem.W.codeIn K cd5 "is_text" = true)
    (k5 : PySem.W.keepIn K (.ref f5) = true)
    (a6 : PySem.W.nsIn K mainGlobals "is_figures" = some (some (.ref f6)))
    (l6 : K.lookup f6 = some ⟨oc6, od6, .func (PySem.W.fnOf "is_figures" "is_figures" (defArgs s_is_figures) (defBody s_is_figures) (defScope s_is_figures) .none kV6 dc6 pm6 an6 cd6 ct6), sl6⟩)
    (c6 : PySem.W.codeIn K cd6 "is_figures" = true)
    (k6 : PySem.W.keepIn K (.ref f6) = true)
    (a7 : PySem.W.nsIn K mainGlobals "is_word" = some (some (.ref f7)))
    (l7 : K.lookup f7 = some ⟨oc7, od7, .func (PySem.W.fnOf "is_word" "is_word" (defArgs s_is_word) (defBody s_is_word) (defScope s_is_word) .none kV7 dc7 pm7 an7 cd7 ct7), sl7⟩)
    (c7 : PySem.W.codeIn K cd7 "is_word" = true)
    (k7 : PySem.W.keepIn K (.ref f7) = true)
    (a8 : PySem.W.nsIn K mainGlobals "row_words" = some (some (.ref f8)))
    (l8 : K.lookup f8 = some ⟨oc8, od8, .func (PySem.W.fnOf "row_words" "row_words" (defArgs s_row_words) (defBody s_row_words) (defScope s_row_words) .none kV8 dc8 pm8 an8 cd8 ct8), sl8⟩)
    (c8 : PySem.W.codeIn K cd8 "row_words" = true)
    (k8 : PySem.W.keepIn K (.ref f8) = true)
    (a9 : PySem.W.nsIn K mainGlobals "scanned" = some (some (.ref f9)))
    (l9 : K.lookup f9 = some ⟨oc9, od9, .func (PySem.W.fnOf "scanned" "scanned" (defArgs s_scanned) (defBody s_scanned) (defScope s_scanned) .none kV9 dc9 pm9 an9 cd9 ct9), sl9⟩)
    (c9 : PySem.W.codeIn K cd9 "scanned" = true)
    (k9 : PySem.W.keepIn K (.ref f9) = true)
    (a10 : PySem.W.nsIn K mainGlobals "words_of" = some (some (.ref f10)))
    (l10 : K.lookup f10 = some ⟨oc10, od10, .func (PySem.W.fnOf "words_of" "words_of" (defArgs s_words_of) (defBody s_words_of) (defScope s_words_of) .none kV10 dc10 pm10 an10 cd10 ct10), sl10⟩)
    (c10 : PySem.W.codeIn K cd10 "words_of" = true)
    (k10 : PySem.W.keepIn K (.ref f10) = true)
    (a11 : PySem.W.nsIn K mainGlobals "_law_deck" = some (some (.ref f11)))
    (l11 : K.lookup f11 = some ⟨oc11, od11, .func (PySem.W.fnOf "_law_deck" "_law_deck" (defArgs s_law_deck) (defBody s_law_deck) (defScope s_law_deck) .none kV11 dc11 pm11 an11 cd11 ct11), sl11⟩)
    (c11 : PySem.W.codeIn K cd11 "_law_deck" = true)
    (k11 : PySem.W.keepIn K (.ref f11) = true)
    (a12 : PySem.W.nsIn K mainGlobals "_law_next" = some (some (.ref f12)))
    (l12 : K.lookup f12 = some ⟨oc12, od12, .func (PySem.W.fnOf "_law_next" "_law_next" (defArgs s_law_next) (defBody s_law_next) (defScope s_law_next) .none kV12 dc12 pm12 an12 cd12 ct12), sl12⟩)
    (c12 : PySem.W.codeIn K cd12 "_law_next" = true)
    (k12 : PySem.W.keepIn K (.ref f12) = true)
    (a13 : PySem.W.nsIn K mainGlobals "_law_laid" = some (some (.ref f13)))
    (l13 : K.lookup f13 = some ⟨oc13, od13, .func (PySem.W.fnOf "_law_laid" "_law_laid" (defArgs s_law_laid) (defBody s_law_laid) (defScope s_law_laid) .none kV13 dc13 pm13 an13 cd13 ct13), sl13⟩)
    (c13 : PySem.W.codeIn K cd13 "_law_laid" = true)
    (k13 : PySem.W.keepIn K (.ref f13) = true)
    (a14 : PySem.W.nsIn K mainGlobals "_law_right" = some (some (.ref f14)))
    (l14 : K.lookup f14 = some ⟨oc14, od14, .func (PySem.W.fnOf "_law_right" "_law_right" (defArgs s_law_right) (defBody s_law_right) (defScope s_law_right) .none kV14 dc14 pm14 an14 cd14 ct14), sl14⟩)
    (c14 : PySem.W.codeIn K cd14 "_law_right" = true)
    (k14 : PySem.W.keepIn K (.ref f14) = true)
    (a15 : PySem.W.nsIn K mainGlobals "_law_wrong" = some (some (.ref f15)))
    (l15 : K.lookup f15 = some ⟨oc15, od15, .func (PySem.W.fnOf "_law_wrong" "_law_wrong" (defArgs s_law_wrong) (defBody s_law_wrong) (defScope s_law_wrong) .none kV15 dc15 pm15 an15 cd15 ct15), sl15⟩)
    (c15 : PySem.W.codeIn K cd15 "_law_wrong" = true)
    (k15 : PySem.W.keepIn K (.ref f15) = true)
    (a16 : PySem.W.nsIn K mainGlobals "law" = some (some (.ref f16)))
    (l16 : K.lookup f16 = some ⟨oc16, od16, .func (PySem.W.fnOf "law" "law" (defArgs s_law) (defBody s_law) (defScope s_law) .none kV16 dc16 pm16 an16 cd16 ct16), sl16⟩)
    (c16 : PySem.W.codeIn K cd16 "law" = true)
    (k16 : PySem.W.keepIn K (.ref f16) = true) :
    ∃ fd : FuncData, (∀ (s : Shared) (v : Value), BindsTo s fd ⟨[v], []⟩ [("_law_script", v)]) ∧ ∀ base : Heap, K.In base → base.Ns mainGlobals mg → FnOk l.prog w K mg base CX0 6 fa fd ["_law_script"] (spLaw K) := by
  have e := hfa.symm.trans (PySem.W.mg_of X G a16)
  cases e
  have T : ∃ T : Tx K mg, T.d_law.f = fa ∧ T.d_law.fd = PySem.W.fnOf "law" "law" (defArgs s_law) (defBody s_law) (defScope s_law) .none kV16 dc16 pm16 an16 cd16 ct16 := ⟨{
      z_len := PySem.W.mg_none_of X G z_len,
      z_range := PySem.W.mg_none_of X G z_range,
      z_tuple := PySem.W.mg_none_of X G z_tuple,
      z_isinstance := PySem.W.mg_none_of X G z_isinstance,
      z_min := PySem.W.mg_none_of X G z_min,
      z_str := PySem.W.mg_none_of X G z_str,
      z_int := PySem.W.mg_none_of X G z_int,
      z_enumerate := PySem.W.mg_none_of X G z_enumerate,
      z_all := PySem.W.mg_none_of X G z_all,
      t_BIG := t_BIG,
      c_BIG := PySem.W.mg_of X G c_BIG,
      t_ROWS := t_ROWS,
      c_ROWS := PySem.W.mg_of X G c_ROWS,
      t_COLUMNS := t_COLUMNS,
      c_COLUMNS := PySem.W.mg_of X G c_COLUMNS,
      t_SMALL := t_SMALL,
      c_SMALL := PySem.W.mg_of X G c_SMALL,
      t_GREAT := t_GREAT,
      c_GREAT := PySem.W.mg_of X G c_GREAT,
      t_FIGURES := t_FIGURES,
      c_FIGURES := PySem.W.mg_of X G c_FIGURES,
      t_BRACKETS := t_BRACKETS,
      c_BRACKETS := PySem.W.mg_of X G c_BRACKETS,
      k_OPERATORS := ⟨_, PySem.W.mg_of X G ua_OPERATORS, fun H => .inr ⟨_, _, _, ul_OPERATORS, rfl, rfl, by show 6 ≤ sizeLine; decide, (.cons ⟨_, rfl⟩ (.cons ⟨_, rfl⟩ (.cons ⟨_, rfl⟩ (.cons ⟨_, rfl⟩ (.cons ⟨_, rfl⟩ (.cons ⟨_, rfl⟩ .nil))))))⟩⟩,
      k_KEPT := ⟨_, PySem.W.mg_of X G ua_KEPT, fun H => .inr ⟨_, _, _, ul_KEPT, rfl, rfl, by show 22 ≤ sizeLine; decide, (.cons ⟨_, rfl⟩ (.cons ⟨_, rfl⟩ (.cons ⟨_, rfl⟩ (.cons ⟨_, rfl⟩ (.cons ⟨_, rfl⟩ (.cons ⟨_, rfl⟩ (.cons ⟨_, rfl⟩ (.cons ⟨_, rfl⟩ (.cons ⟨_, rfl⟩ (.cons ⟨_, rfl⟩ (.cons ⟨_, rfl⟩ (.cons ⟨_, rfl⟩ (.cons ⟨_, rfl⟩ (.cons ⟨_, rfl⟩ (.cons ⟨_, rfl⟩ (.cons ⟨_, rfl⟩ (.cons ⟨_, rfl⟩ (.cons ⟨_, rfl⟩ (.cons ⟨_, rfl⟩ (.cons ⟨_, rfl⟩ (.cons ⟨_, rfl⟩ (.cons ⟨_, rfl⟩ .nil))))))))))))))))))))))⟩⟩,
      SteadError := ⟨C_SteadError, PySem.W.mg_of X G a_SteadError, sg_SteadError, rd_SteadError, fi_SteadError⟩,
      Fault := ⟨C_Fault, PySem.W.mg_of X G a_Fault, ⟨⟨_, _, _, _, _, _, _, _, _, _, _, _, _, _, _, xl_Fault, by rfl⟩, sa_Fault, ex_Fault, ty_Fault, kc_Fault⟩, ⟨ga_Fault, gg_Fault, ex_Fault, hd_Fault⟩, n_Fault_page, n_Fault_row, n_Fault_column, n_Fault_why, f1, _, fun_mk (st := s_Fault_init__) l1 c1 k1, a1, t1, (fun_mk (st := s_Fault_init__) l1 c1 k1).binds (ps := ["self", "page", "row", "column", "why"]) fun _ _ _ _ _ _ us hl => match us, hl with | [_, _, _, _, _], _ => rfl⟩,
      x_Fault_SteadError := PySem.W.exm_ref eb_SteadError hb_SteadError tb_SteadError su_Fault_SteadError,
      d_is_made_of := ⟨f2, _, fun_mk (st := s_is_made_of) l2 c2 k2, PySem.W.mg_of X G a2, (fun_mk (st := s_is_made_of) l2 c2 k2).binds (ps := ["text", "signs", "low", "high"]) fun _ _ _ _ _ _ us hl => match us, hl with | [_, _, _, _], _ => rfl⟩,
      d_is_small := ⟨f3, _, fun_mk (st := s_is_small) l3 c3 k3, PySem.W.mg_of X G a3, (fun_mk (st := s_is_small) l3 c3 k3).binds (ps := ["word"]) fun _ _ _ _ _ _ us hl => match us, hl with | [_], _ => rfl⟩,
      d_is_kind_name := ⟨f4, _, fun_mk (st := s_is_kind_name) l4 c4 k4, PySem.W.mg_of X G a4, (fun_mk (st := s_is_kind_name) l4 c4 k4).binds (ps := ["word"]) fun _ _ _ _ _ _ us hl => match us, hl with | [_], _ => rfl⟩,
      d_is_text := ⟨f5, _, fun_mk (st := s_is_text) l5 c5 k5, PySem.W.mg_of X G a5, (fun_mk (st := s_is_text) l5 c5 k5).binds (ps := ["text"]) fun _ _ _ _ _ _ us hl => match us, hl with | [_], _ => rfl⟩,
      d_is_figures := ⟨f6, _, fun_mk (st := s_is_figures) l6 c6 k6, PySem.W.mg_of X G a6, (fun_mk (st := s_is_figures) l6 c6 k6).binds (ps := ["word"]) fun _ _ _ _ _ _ us hl => match us, hl with | [_], _ => rfl⟩,
      d_is_word := ⟨f7, _, fun_mk (st := s_is_word) l7 c7 k7, PySem.W.mg_of X G a7, (fun_mk (st := s_is_word) l7 c7 k7).binds (ps := ["word"]) fun _ _ _ _ _ _ us hl => match us, hl with | [_], _ => rfl⟩,
      d_row_words := ⟨f8, _, fun_mk (st := s_row_words) l8 c8 k8, PySem.W.mg_of X G a8, (fun_mk (st := s_row_words) l8 c8 k8).binds (ps := ["text"]) fun _ _ _ _ _ _ us hl => match us, hl with | [_], _ => rfl⟩,
      d_scanned := ⟨f9, _, fun_mk (st := s_scanned) l9 c9 k9, PySem.W.mg_of X G a9, (fun_mk (st := s_scanned) l9 c9 k9).binds (ps := ["text"]) fun _ _ _ _ _ _ us hl => match us, hl with | [_], _ => rfl⟩,
      d_words_of := ⟨f10, _, fun_mk (st := s_words_of) l10 c10 k10, PySem.W.mg_of X G a10, (fun_mk (st := s_words_of) l10 c10 k10).binds (ps := ["text"]) fun _ _ _ _ _ _ us hl => match us, hl with | [_], _ => rfl⟩,
      d_law_deck := ⟨f11, _, fun_mk (st := s_law_deck) l11 c11 k11, PySem.W.mg_of X G a11, (fun_mk (st := s_law_deck) l11 c11 k11).binds (ps := ["_law_script"]) fun _ _ _ _ _ _ us hl => match us, hl with | [_], _ => rfl⟩,
      d_law_next := ⟨f12, _, fun_mk (st := s_law_next) l12 c12 k12, PySem.W.mg_of X G a12, (fun_mk (st := s_law_next) l12 c12 k12).binds (ps := ["_law_deck_here"]) fun _ _ _ _ _ _ us hl => match us, hl with | [_], _ => rfl⟩,
      d_law_laid := ⟨f13, _, fun_mk (st := s_law_laid) l13 c13 k13, PySem.W.mg_of X G a13, (fun_mk (st := s_law_laid) l13 c13 k13).binds (ps := ["_law_words", "_law_deck_here"]) fun _ _ _ _ _ _ us hl => match us, hl with | [_, _], _ => rfl⟩,
      d_law_right := ⟨f14, _, fun_mk (st := s_law_right) l14 c14 k14, PySem.W.mg_of X G a14, (fun_mk (st := s_law_right) l14 c14 k14).binds (ps := ["_law_draw"]) fun _ _ _ _ _ _ us hl => match us, hl with | [_], _ => rfl⟩,
      d_law_wrong := ⟨f15, _, fun_mk (st := s_law_wrong) l15 c15 k15, PySem.W.mg_of X G a15, (fun_mk (st := s_law_wrong) l15 c15 k15).binds (ps := ["_law_draw"]) fun _ _ _ _ _ _ us hl => match us, hl with | [_], _ => rfl⟩,
      d_law := ⟨fa, _, fun_mk (st := s_law) l16 c16 k16, PySem.W.mg_of X G a16, (fun_mk (st := s_law) l16 c16 k16).binds (ps := ["_law_script"]) fun _ _ _ _ _ _ us hl => match us, hl with | [_], _ => rfl⟩
    }, rfl, rfl⟩
  obtain ⟨T, e1, e2⟩ := T
  refine ⟨PySem.W.fnOf "law" "law" (defArgs s_law) (defBody s_law) (defScope s_law) .none kV16 dc16 pm16 an16 cd16 ct16, fun s v => .of_eq rfl, fun base _ _ => ?_⟩
  have z := ok_lawS (P := l.prog) (w := w) (base := base) T
  rw [e1, e2] at z
  exact z
theorem walk {l : PySem.W.OpenLaw} {q : Program} {loose : List Str} {XP : (Str → Option Value) → Heap → Prop} {YP : World → Heap → Prop} {d : DefRec} {K : Params → PySem.W.Frag} (hn : l.most = some 63) (hdf : d.params.defaults = [])
    (hY : ∀ (w : World) (h : Heap), YP w h → (K w.params).In h)
    (F : ∀ (w : World) (mg : Str → Option Value) (fa : Addr) (h : Heap), (K w.params).In h → h.Ns mainGlobals mg → mg d.name = some (.ref fa) →
      ∃ fd : FuncData, (∀ (s : Shared) (u : Value), BindsTo s fd ⟨[u], []⟩ [("_law_script", u)]) ∧ ∀ base : Heap, (K w.params).In base → base.Ns mainGlobals mg → FnOk l.prog w (K w.params) mg base CX0 6 fa fd ["_law_script"] (spLaw (K w.params))) :
    PySem.W.WalkO q loose XP YP l.row.toRowW d [] (fun f vs => PySem.call f vs) :=
  L2.walk_of (n := 63) (k := 6) (x := "_law_script") (CX := fun _ => CX0) (sp := fun w => spLaw (K w.params)) hn (by decide) hdf ⟨rfl, by decide, by decide⟩ hY F (fun _ _ a ns hl hO hS => by first | exact ⟨a, ns, rfl, hl, hO, hS, rfl, rfl⟩ | exact ⟨a, ns, rfl, hS, hl, fun _ => rfl⟩ | exact ⟨a, ns, rfl, hS, fun _ => rfl⟩) fun _ _ _ _ _ z => z
end My
open PySem PySem.W PyProof.Rows
set_option maxRecDepth 100000 in
set_option maxHeartbeats 0 in
theorem PySem.Challenge.cw_sendstead_k01_words_holds : PySem.Challenge.rw_sendstead_k01_words.Holds := by
  w_on; o_law; k_head; (case hw => w_witness2)
  k_fill
  refine My.walk (l := PySem.Challenge.rw_sendstead_k01_words) rfl rfl (fun w h Y => PySem.W.kIn_of Y) ?F
  case F =>
    intro w mg fa h KX G hmg
    refine' My.all_mk KX G hmg ?z_len ?z_range ?z_tuple ?z_isinstance ?z_min ?z_str ?z_int ?z_enumerate ?z_all ?c_BIG ?c_ROWS ?c_COLUMNS ?c_SMALL ?c_GREAT ?c_FIGURES ?c_BRACKETS ?ua_OPERATORS ?ul_OPERATORS ?ua_KEPT ?ul_KEPT ?a_SteadError ?sg_SteadError ?rd_SteadError ?fi_SteadError ?a_Fault ?xl_Fault ?sa_Fault ?ga_Fault ?gg_Fault ?ex_Fault ?ty_Fault ?kc_Fault ?hd_Fault ?n_Fault_page ?n_Fault_row ?n_Fault_column ?n_Fault_why ?a1 ?t1 ?l1 ?c1 ?k1 ?eb_SteadError ?hb_SteadError ?tb_SteadError ?su_Fault_SteadError ?a2 ?l2 ?c2 ?k2 ?a3 ?l3 ?c3 ?k3 ?a4 ?l4 ?c4 ?k4 ?a5 ?l5 ?c5 ?k5 ?a6 ?l6 ?c6 ?k6 ?a7 ?l7 ?c7 ?k7 ?a8 ?l8 ?c8 ?k8 ?a9 ?l9 ?c9 ?k9 ?a10 ?l10 ?c10 ?k10 ?a11 ?l11 ?c11 ?k11 ?a12 ?l12 ?c12 ?k12 ?a13 ?l13 ?c13 ?k13 ?a14 ?l14 ?c14 ?k14 ?a15 ?l15 ?c15 ?k15 ?a16 ?l16 ?c16 ?k16
    (case z_len => k_is)
    (case z_range => k_is)
    (case z_tuple => k_is)
    (case z_isinstance => k_is)
    (case z_min => k_is)
    (case z_str => k_is)
    (case z_int => k_is)
    (case z_enumerate => k_is)
    (case z_all => k_is)
    (case c_BIG => k_is)
    (case c_ROWS => k_is)
    (case c_COLUMNS => k_is)
    (case c_SMALL => k_is)
    (case c_GREAT => k_is)
    (case c_FIGURES => k_is)
    (case c_BRACKETS => k_is)
    (case ua_OPERATORS => k_is)
    (case ul_OPERATORS => k_is)
    (case ua_KEPT => k_is)
    (case ul_KEPT => k_is)
    (case a_SteadError => k_is)
    (case sg_SteadError => k_is)
    (case rd_SteadError => k_is)
    (case fi_SteadError => k_is)
    (case a_Fault => k_is)
    (case xl_Fault => k_is)
    (case sa_Fault => k_is)
    (case ga_Fault => k_is)
    (case gg_Fault => k_is)
    (case ex_Fault => k_is)
    (case ty_Fault => k_is)
    (case kc_Fault => k_is)
    (case hd_Fault => k_is)
    (case n_Fault_page => k_is)
    (case n_Fault_row => k_is)
    (case n_Fault_column => k_is)
    (case n_Fault_why => k_is)
    (case a1 => k_is)
    (case t1 => k_is)
    (case l1 => k_is)
    (case c1 => k_is)
    (case k1 => k_is)
    (case eb_SteadError => k_is)
    (case hb_SteadError => k_is)
    (case tb_SteadError => k_is)
    (case su_Fault_SteadError => first | rfl | k_is)
    (case a2 => k_is)
    (case l2 => k_is)
    (case c2 => k_is)
    (case k2 => k_is)
    (case a3 => k_is)
    (case l3 => k_is)
    (case c3 => k_is)
    (case k3 => k_is)
    (case a4 => k_is)
    (case l4 => k_is)
    (case c4 => k_is)
    (case k4 => k_is)
    (case a5 => k_is)
    (case l5 => k_is)
    (case c5 => k_is)
    (case k5 => k_is)
    (case a6 => k_is)
    (case l6 => k_is)
    (case c6 => k_is)
    (case k6 => k_is)
    (case a7 => k_is)
    (case l7 => k_is)
    (case c7 => k_is)
    (case k7 => k_is)
    (case a8 => k_is)
    (case l8 => k_is)
    (case c8 => k_is)
    (case k8 => k_is)
    (case a9 => k_is)
    (case l9 => k_is)
    (case c9 => k_is)
    (case k9 => k_is)
    (case a10 => k_is)
    (case l10 => k_is)
    (case c10 => k_is)
    (case k10 => k_is)
    (case a11 => k_is)
    (case l11 => k_is)
    (case c11 => k_is)
    (case k11 => k_is)
    (case a12 => k_is)
    (case l12 => k_is)
    (case c12 => k_is)
    (case k12 => k_is)
    (case a13 => k_is)
    (case l13 => k_is)
    (case c13 => k_is)
    (case k13 => k_is)
    (case a14 => k_is)
    (case l14 => k_is)
    (case c14 => k_is)
    (case k14 => k_is)
    (case a15 => k_is)
    (case l15 => k_is)
    (case c15 => k_is)
    (case k15 => k_is)
    (case a16 => k_is)
    (case l16 => k_is)
    (case c16 => k_is)
    (case k16 => k_is)

