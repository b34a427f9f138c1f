import PyProof.Rows.All
import Wide.All
import OpenK.AllK
import Wide.FinOn
import HandS.ForMost
import HandS.Defaults
import HandS.Wide
import HandS.IsInst
import HandS.Deep
import HandS.Style
import HandS.More
import HandS.WordsExc
import HandS.Head0
import HandS.Head1
import HandS.Head2
import HandS.HeadEnd
import HandS.HeadHook1
import HandS.HeadHook2
import PySem.Challenge.RW_everrow_k46_pieces_and_places
set_option Elab.async false
set_option linter.all false
set_option maxRecDepth 100000
set_option maxHeartbeats 1000000
namespace Mr
open PySem PySem.Spec PyProof.Rows L2

/-! ### values, objects, the monad -/
inductive Val where
  | non | bl (b : Bool) | int (i : Int) | str (x : Str) | tup (xs : List Val) | ref (n : Nat)
inductive AO where
  | lst (xs : List Val)
  | frz (xs : List Val)
  | dk (kvs : List (Key × Val))
abbrev AH := List AO
inductive Res (α : Type) where
  | ok (a : α) (h : AH)
  | bad
abbrev M (α : Type) := AH → Res α
def bnd {α β : Type} (m : M α) (f : α → M β) : M β := fun h => match m h with
  | .ok a h' => f a h'
  | .bad => .bad
def ret {α : Type} (a : α) : M α := fun h => .ok a h
def fail {α : Type} : M α := fun _ => .bad
theorem bnd_ok {α β : Type} {m : M α} {f : α → M β} {h h2 : AH} {b : β} (e : bnd m f h = .ok b h2) : ∃ a h1, m h = .ok a h1 ∧ f a h1 = .ok b h2 := by
  unfold bnd at e
  cases q : m h with
  | ok a h1 => rw [q] at e; exact ⟨a, h1, rfl, e⟩
  | bad => rw [q] at e; cases e
abbrev Sl := List (Option Val)
abbrev ME := Sl → M Val
abbrev MT := Sl → M Bool
abbrev MA := Sl → M (List Val)
abbrev MO := Sl → M (Option Int)
inductive Fl where
  | nx (s : Sl) | rt (v : Val) | bk (s : Sl) | ct (s : Sl)
abbrev MS := Sl → M Fl
def AO.mut : AO → Bool
  | .frz _ => false
  | _ => true

/-! ### what stands for what -/
mutual
inductive RV (K : PySem.W.Frag) (r : List Addr) (H : Hp) : Val → V → Prop
  | non : RV K r H .non .non
  | bl (b : Bool) : RV K r H (.bl b) (.bl b)
  | int (i : Int) : RV K r H (.int i) (.int i)
  | str (x : Str) : RV K r H (.str x) (.str x)
  | tup {a : Addr} {us : List V} {xs : List Val} : SqT K H a us → RVs K r H xs us → RV K r H (.tup xs) (.ref a)
  | ref {n : Nat} {a : Addr} : r[n]? = some a → RV K r H (.ref n) (.ref a)
inductive RVs (K : PySem.W.Frag) (r : List Addr) (H : Hp) : List Val → List V → Prop
  | nil : RVs K r H [] []
  | cons {x : Val} {u : V} {xs : List Val} {us : List V} : RV K r H x u → RVs K r H xs us → RVs K r H (x :: xs) (u :: us)
end
def FzL (K : PySem.W.Frag) (H : Hp) (a : Addr) (xs : List V) : Prop :=
  (∃ o, H a = some (.frz o (.lst xs))) ∨
    ∃ (o : Obj) (its : Array Value) (n : Nat), K.lookup a = some o ∧ o.cls = .type "list" ∧ o.dict = none ∧ o.data = .seq its n ∧ its.size ≤ sizeLine ∧ Vals xs its.toList
def RO (K : PySem.W.Frag) (r : List Addr) (H : Hp) (a : Addr) : AO → Prop
  | .lst xs => ∃ us, H a = some (.lst us) ∧ RVs K r H xs us
  | .frz xs => ∃ us, FzL K H a us ∧ RVs K r H xs us
  | .dk kvs => ∃ ws, H a = some (.dK ws) ∧ kvs.map (·.1) = ws.map (·.1) ∧ RVs K r H (kvs.map (·.2)) (ws.map (·.2))
structure Rel (K : PySem.W.Frag) (r : List Addr) (h : AH) (H : Hp) : Prop where
  len : r.length = h.length
  nd : ∀ (i j : Nat) (a : Addr) (o o' : AO), r[i]? = some a → r[j]? = some a → h[i]? = some o → h[j]? = some o' → o.mut = true → o'.mut = true → i = j
  ob : ∀ (i : Nat) (a : Addr) (o : AO), r[i]? = some a → h[i]? = some o → RO K r H a o
structure Keep (H H' : Hp) : Prop where
  tup : ∀ a xs, H a = some (.tup xs) → H' a = some (.tup xs)
  frz : ∀ a o u, H a = some (.frz o u) → H' a = some (.frz o u)
theorem Keep.refl (H : Hp) : Keep H H := ⟨fun _ _ e => e, fun _ _ _ e => e⟩
theorem Keep.trans {H H1 H2 : Hp} (a : Keep H H1) (b : Keep H1 H2) : Keep H H2 := ⟨fun x xs e => b.tup _ _ (a.tup x xs e), fun x o u e => b.frz _ _ _ (a.frz x o u e)⟩
structure Go (r : List Addr) (H : Hp) (r' : List Addr) (H' : Hp) : Prop where
  pre : ∀ (n : Nat) (a : Addr), r[n]? = some a → r'[n]? = some a
  kp : Keep H H'
theorem Go.refl (r : List Addr) (H : Hp) : Go r H r H := ⟨fun _ _ e => e, Keep.refl H⟩
theorem Go.trans {r r1 r2 : List Addr} {H H1 H2 : Hp} (a : Go r H r1 H1) (b : Go r1 H1 r2 H2) : Go r H r2 H2 := ⟨fun n x e => b.pre n x (a.pre n x e), a.kp.trans b.kp⟩
section
variable {K : PySem.W.Frag} {r r' : List Addr} {H H' : Hp}
theorem sqt_go {a : Addr} {us : List V} (g : Keep H H') (h : SqT K H a us) : SqT K H' a us := by
  rcases h with (h | ⟨o, h⟩) | h
  · exact .inl (.inl (g.tup _ _ h))
  · exact .inl (.inr ⟨o, g.frz _ _ _ h⟩)
  · exact .inr h
mutual
theorem RV.go (g : Go r H r' H') : ∀ {x : Val} {u : V}, RV K r H x u → RV K r' H' x u
  | _, _, .non => .non
  | _, _, .bl b => .bl b
  | _, _, .int i => .int i
  | _, _, .str x => .str x
  | _, _, .tup s t => .tup (sqt_go g.kp s) (RVs.go g t)
  | _, _, .ref e => .ref (g.pre _ _ e)
theorem RVs.go (g : Go r H r' H') : ∀ {xs : List Val} {us : List V}, RVs K r H xs us → RVs K r' H' xs us
  | _, _, .nil => .nil
  | _, _, .cons a b => .cons (RV.go g a) (RVs.go g b)
end
theorem fzl_go {a : Addr} {us : List V} (g : Keep H H') (h : FzL K H a us) : FzL K H' a us := by
  rcases h with ⟨o, h⟩ | h
  · exact .inl ⟨o, g.frz _ _ _ h⟩
  · exact .inr h
theorem RVs.length : ∀ {xs : List Val} {us : List V}, RVs K r H xs us → us.length = xs.length
  | _, _, .nil => rfl
  | _, _, .cons _ b => by rw [List.length_cons, List.length_cons, RVs.length b]
theorem RVs.get : ∀ {xs : List Val} {us : List V} {i : Nat} {x : Val}, RVs K r H xs us → xs[i]? = some x → ∃ u, us[i]? = some u ∧ RV K r H x u
  | _, _, _, _, .nil, e => by simp at e
  | _, _, 0, _, .cons a _, e => by
    have e' := Option.some.inj e
    subst e'
    exact ⟨_, rfl, a⟩
  | _, _, i + 1, x, .cons _ b, e => by
    obtain ⟨u, h1, h2⟩ := RVs.get (i := i) (x := x) b (by simpa using e)
    exact ⟨u, by simpa using h1, h2⟩
theorem RVs.get2 : ∀ {xs : List Val} {us : List V} {i : Nat} {u : V}, RVs K r H xs us → us[i]? = some u → ∃ x, xs[i]? = some x ∧ RV K r H x u
  | _, _, _, _, .nil, e => by simp at e
  | _, _, 0, _, .cons a _, e => by
    have e' := Option.some.inj e
    subst e'
    exact ⟨_, rfl, a⟩
  | _, _, i + 1, x, .cons _ b, e => by
    obtain ⟨u, h1, h2⟩ := RVs.get2 (i := i) b (by simpa using e)
    exact ⟨u, by simpa using h1, h2⟩
theorem RVs.append : ∀ {xs ys : List Val} {us ws : List V}, RVs K r H xs us → RVs K r H ys ws → RVs K r H (xs ++ ys) (us ++ ws)
  | _, _, _, _, .nil, s => s
  | _, _, _, _, .cons a b, s => .cons a (RVs.append b s)
theorem RVs.take : ∀ {xs : List Val} {us : List V} (n : Nat), RVs K r H xs us → RVs K r H (xs.take n) (us.take n)
  | _, _, 0, _ => .nil
  | _, _, _ + 1, .nil => .nil
  | _, _, n + 1, .cons a b => .cons a (RVs.take n b)
theorem RVs.drop : ∀ {xs : List Val} {us : List V} (n : Nat), RVs K r H xs us → RVs K r H (xs.drop n) (us.drop n)
  | _, _, 0, s => s
  | _, _, _ + 1, .nil => .nil
  | _, _, n + 1, .cons _ b => RVs.drop n b
theorem RVs.set {x : Val} {u : V} (a : RV K r H x u) : ∀ {xs : List Val} {us : List V} (n : Nat), RVs K r H xs us → RVs K r H (xs.set n x) (us.set n u)
  | _, _, _, .nil => .nil
  | _, _, 0, .cons _ b => .cons a b
  | _, _, n + 1, .cons q b => .cons q (RVs.set a n b)
/-- r with one more address -/
theorem pre_snoc {r : List Addr} {p : Addr} (n : Nat) (a : Addr) (e : r[n]? = some a) : (r ++ [p])[n]? = some a := by
  rw [List.getElem?_append_left (List.getElem?_eq_some_iff.mp e).1]
  exact e
theorem go_new {p : Addr} {o : HO} (n : H p = none) : Go r H (r ++ [p]) (upd H p o) :=
  ⟨fun i a e => pre_snoc i a e, ⟨fun a xs e => by rw [upd_ne (ne_of_none e n)]; exact e, fun a ob u e => by rw [upd_ne (ne_of_none e n)]; exact e⟩⟩
theorem go_tup {p : Addr} {o : HO} (n : H p = none) : Go r H r (upd H p o) :=
  ⟨fun _ _ e => e, ⟨fun a xs e => by rw [upd_ne (ne_of_none e n)]; exact e, fun a ob u e => by rw [upd_ne (ne_of_none e n)]; exact e⟩⟩
/-- what stands at a stays where a is not written -/
theorem RO.go {a : Addr} {o : AO} (g : Go r H r' H') (hs : o.mut = true → H' a = H a) (x : RO K r H a o) : RO K r' H' a o := by
  cases o with
  | lst xs =>
    obtain ⟨us, e, q⟩ := x
    exact ⟨us, by rw [hs rfl]; exact e, q.go g⟩
  | frz xs =>
    obtain ⟨us, e, q⟩ := x
    exact ⟨us, fzl_go g.kp e, q.go g⟩
  | dk kvs =>
    obtain ⟨ws, e, z, q⟩ := x
    exact ⟨ws, by rw [hs rfl]; exact e, z, q.go g⟩
theorem RO.some_of {a : Addr} {o : AO} (x : RO K r H a o) (m : o.mut = true) : ∃ u, H a = some u := by
  cases o with
  | lst xs => obtain ⟨us, e, q⟩ := x; exact ⟨_, e⟩
  | frz xs => cases m
  | dk kvs => obtain ⟨ws, e, q⟩ := x; exact ⟨_, e⟩
/-- a new tracked object -/
theorem Rel.new {h : AH} {p : Addr} {o : AO} {u : HO} (R : Rel K r h H) (n : H p = none) (q : RO K (r ++ [p]) (upd H p u) p o) : Rel K (r ++ [p]) (h ++ [o]) (upd H p u) := by
  have g : Go r H (r ++ [p]) (upd H p u) := go_new n
  have at_ : ∀ (i : Nat) (a : Addr) (o' : AO), (r ++ [p])[i]? = some a → (h ++ [o])[i]? = some o' → (r[i]? = some a ∧ h[i]? = some o') ∨ (i = r.length ∧ a = p ∧ o' = o) := fun i a o' e1 e2 => by
    by_cases hi : i < r.length
    · rw [List.getElem?_append_left hi] at e1
      rw [List.getElem?_append_left (by rw [← R.len]; exact hi)] at e2
      exact .inl ⟨e1, e2⟩
    · have hi2 : i < (r ++ [p]).length := (List.getElem?_eq_some_iff.mp e1).1
      rw [List.length_append] at hi2
      have hi3 : i = r.length := by
        have : ([p] : List Addr).length = 1 := rfl
        omega
      subst hi3
      rw [List.getElem?_append_right (Nat.le_refl _), Nat.sub_self] at e1
      rw [R.len, List.getElem?_append_right (Nat.le_refl _), Nat.sub_self] at e2
      exact .inr ⟨rfl, (Option.some.inj e1).symm, (Option.some.inj e2).symm⟩
  refine ⟨by rw [List.length_append, List.length_append, R.len]; rfl, fun i j a o1 o2 e1 e2 f1 f2 m1 m2 => ?_, fun i a o' e1 e2 => ?_⟩
  · rcases at_ i a o1 e1 f1 with ⟨x1, x2⟩ | ⟨x1, x2, x3⟩
    · rcases at_ j a o2 e2 f2 with ⟨y1, y2⟩ | ⟨y1, y2, y3⟩
      · exact R.nd i j a o1 o2 x1 y1 x2 y2 m1 m2
      · obtain ⟨u', q'⟩ := (R.ob i a o1 x1 x2).some_of m1
        rw [y2, n] at q'; cases q'
    · rcases at_ j a o2 e2 f2 with ⟨y1, y2⟩ | ⟨y1, y2, y3⟩
      · obtain ⟨u', q'⟩ := (R.ob j a o2 y1 y2).some_of m2
        rw [x2, n] at q'; cases q'
      · rw [x1, y1]
  · rcases at_ i a o' e1 e2 with ⟨x1, x2⟩ | ⟨x1, x2, x3⟩
    · refine (R.ob i a o' x1 x2).go g fun m => ?_
      obtain ⟨u', q'⟩ := (R.ob i a o' x1 x2).some_of m
      exact upd_ne (ne_of_none q' n)
    · subst x2; subst x3; exact q
/-- an untracked new object (a tuple) -/
theorem Rel.tup {h : AH} {p : Addr} {u : HO} (R : Rel K r h H) (n : H p = none) : Rel K r h (upd H p u) :=
  ⟨R.len, R.nd, fun i a o e1 e2 => (R.ob i a o e1 e2).go (go_tup n) fun m => by
    obtain ⟨u', q'⟩ := (R.ob i a o e1 e2).some_of m
    exact upd_ne (ne_of_none q' n)⟩
/-- what may be changed in place -/
def Flat : HO → Prop
  | .lst _ => True
  | .dK _ => True
  | _ => False
theorem go_set {a : Addr} {u u' : HO} (e : H a = some u) (f : Flat u) : Go r H r (upd H a u') := by
  refine ⟨fun _ _ e => e, ⟨fun b xs q => ?_, fun b o w q => ?_⟩⟩
  · have ne : b ≠ a := fun z => by subst z; rw [e] at q; cases q; exact f
    rw [upd_ne ne]; exact q
  · have ne : b ≠ a := fun z => by subst z; rw [e] at q; cases q; exact f
    rw [upd_ne ne]; exact q
/-- a tracked object is changed -/
theorem Rel.set {h : AH} {a : Addr} {i : Nat} {o o' : AO} {u u' : HO} (R : Rel K r h H) (e1 : r[i]? = some a) (e2 : h[i]? = some o) (m : o.mut = true) (e : H a = some u) (f : Flat u) (m' : o'.mut = true)
    (q : RO K r (upd H a u') a o') : Rel K r (h.set i o') (upd H a u') := by
  have g : Go r H r (upd H a u') := go_set e f
  have hi : i < h.length := (List.getElem?_eq_some_iff.mp e2).1
  refine ⟨by rw [List.length_set]; exact R.len, fun j k b o1 o2 x1 y1 x2 y2 n1 n2 => ?_, fun j b o1 x1 x2 => ?_⟩
  · have get : ∀ (j : Nat) (o1 : AO), (h.set i o')[j]? = some o1 → o1.mut = true → ∃ o3, h[j]? = some o3 ∧ o3.mut = true := fun j o1 x2 n1 => by
      by_cases hj : j = i
      · subst hj; exact ⟨o, e2, m⟩
      · rw [List.getElem?_set_ne (Ne.symm hj)] at x2
        exact ⟨o1, x2, n1⟩
    obtain ⟨o3, z3, w3⟩ := get j o1 x2 n1
    obtain ⟨o4, z4, w4⟩ := get k o2 y2 n2
    exact R.nd j k b o3 o4 x1 y1 z3 z4 w3 w4
  · by_cases hj : j = i
    · subst hj
      rw [List.getElem?_set_self hi] at x2
      have x3 := Option.some.inj x2
      subst x3
      rw [e1] at x1
      have x4 := Option.some.inj x1
      subst x4
      exact q
    · rw [List.getElem?_set_ne (Ne.symm hj)] at x2
      refine (R.ob j b o1 x1 x2).go g fun n1 => upd_ne fun z => ?_
      subst z
      exact hj (R.nd j i b o1 o x1 e1 x2 e2 n1 m)
end

/-! ### slots -/
def RSl (K : PySem.W.Frag) (r : List Addr) (H : Hp) (sl : Sl) (s : L2.St) : Prop := sl.length = s.length ∧ ∀ (i : Nat) (x : Val), sl[i]? = some (some x) → ∃ u, s[i]? = some (some u) ∧ RV K r H x u
section
variable {K : PySem.W.Frag} {r r' : List Addr} {H H' : Hp} {sl : Sl} {s : L2.St}
theorem RSl.go (g : Go r H r' H') (x : RSl K r H sl s) : RSl K r' H' sl s := ⟨x.1, fun i v e => let ⟨u, e1, q⟩ := x.2 i v e; ⟨u, e1, q.go g⟩⟩
theorem RSl.set {i : Nat} {v : Val} {u : V} (x : RSl K r H sl s) (q : RV K r H v u) : RSl K r H (sl.set i (some v)) (s.set i (some u)) := by
  refine ⟨by rw [List.length_set, List.length_set]; exact x.1, fun j w e => ?_⟩
  by_cases hj : j = i
  · subst hj
    by_cases hl : j < sl.length
    · rw [List.getElem?_set_self hl] at e
      have e' := Option.some.inj (Option.some.inj e)
      subst e'
      exact ⟨u, List.getElem?_set_self (by rw [← x.1]; exact hl), q⟩
    · rw [List.getElem?_eq_none (by simpa using hl)] at e; cases e
  · rw [List.getElem?_set_ne (Ne.symm hj)] at e
    obtain ⟨u', e1, q1⟩ := x.2 j w e
    exact ⟨u', by rw [List.getElem?_set_ne (Ne.symm hj)]; exact e1, q1⟩
theorem RSl.none {i : Nat} (x : RSl K r H sl s) : RSl K r H (sl.set i none) (s.set i none) := by
  refine ⟨by rw [List.length_set, List.length_set]; exact x.1, fun j w e => ?_⟩
  by_cases hj : j = i
  · subst hj
    by_cases hl : j < sl.length
    · rw [List.getElem?_set_self hl] at e
      cases e
    · rw [List.getElem?_eq_none (by simpa using hl)] at e; cases e
  · rw [List.getElem?_set_ne (Ne.symm hj)] at e
    obtain ⟨u', e1, q1⟩ := x.2 j w e
    exact ⟨u', by rw [List.getElem?_set_ne (Ne.symm hj)]; exact e1, q1⟩
end

/-! ### readings -/
section
variable (K : PySem.W.Frag)
/-- what is wanted behind a value -/
def Cn (r : List Addr) (H : Hp) (v : Val) (h' : AH) (Q : VK) : Prop := ∀ r' H' u, Go r H r' H' → Rel K r' h' H' → RV K r' H' v u → Q u H'
def tE (m : ME) : TE := fun s H Q => ∃ r h sl, Rel K r h H ∧ RSl K r H sl s ∧ ∃ v h', m sl h = .ok v h' ∧ Cn K r H v h' Q
def tT (m : MT) : TT := fun s H Q => ∃ r h sl, Rel K r h H ∧ RSl K r H sl s ∧ ∃ b h', m sl h = .ok b h' ∧ ∀ r' H', Go r H r' H' → Rel K r' h' H' → Q b H'
def tA (m : MA) : TA := fun s H Q => ∃ r h sl, Rel K r h H ∧ RSl K r H sl s ∧ ∃ vs h', m sl h = .ok vs h' ∧ ∀ r' H' us, Go r H r' H' → Rel K r' h' H' → RVs K r' H' vs us → Q us H'
def FlK (D : Ends) (r : List Addr) (H : Hp) : Fl → Prop
  | .nx sl => ∀ s, RSl K r H sl s → D.nx s H
  | .rt v => ∀ u, RV K r H v u → D.rt u H
  | .bk sl => ∀ s, RSl K r H sl s → D.bk s H
  | .ct sl => ∀ s, RSl K r H sl s → D.ct s H
def tS (m : MS) : TS := fun D s H => ∃ r h sl, Rel K r h H ∧ RSl K r H sl s ∧ ∃ fl h', m sl h = .ok fl h' ∧ ∀ r' H', Go r H r' H' → Rel K r' h' H' → FlK K D r' H' fl
end
theorem PE.imp {X : Cx} {e : Expr} {t t' : TE} (p : PE X e t) (h : ∀ s H Q, t' s H Q → t s H Q) : PE X e t' := ⟨fun pins s σ H Q I q => p.run pins s σ H Q I (h σ H Q q)⟩
theorem PT.imp {X : Cx} {e : Expr} {t t' : TT} (p : PT X e t) (h : ∀ s H Q, t' s H Q → t s H Q) : PT X e t' := ⟨fun pins s σ H Q I q => p.run pins s σ H Q I (h σ H Q q)⟩
theorem PW.imp {X : Cx} {e : Expr} {t t' : TT} (p : PW X e t) (h : ∀ s H Q, t' s H Q → t s H Q) : PW X e t' := ⟨fun wh pins s σ H Q I q => p.run wh pins s σ H Q I (h σ H Q q)⟩
theorem PA.imp {X : Cx} {es : List Expr} {t t' : TA} (p : PA X es t) (h : ∀ s H Q, t' s H Q → t s H Q) : PA X es t' := ⟨fun pos pins s σ H Q I q => p.run pos pins s σ H Q I (h σ H Q q)⟩
theorem PS.imp {X : Cx} {e : Stmt} {t t' : TS} (p : PS X e t) (h : ∀ D s H, t' D s H → t D s H) : PS X e t' := ⟨fun pins s σ H D I q => p.run pins s σ H D I (h D σ H q)⟩
theorem PSs.imp {X : Cx} {e : List Stmt} {t t' : TS} (p : PSs X e t) (h : ∀ D s H, t' D s H → t D s H) : PSs X e t' := ⟨fun pins s σ H D I q => p.run pins s σ H D I (h D σ H q)⟩

/-! ### names, constants, operators -/
def mVar (i : Nat) : ME := fun sl => match sl[i]? with
  | some (some v) => ret v
  | _ => fail
def mC (v : Val) : ME := fun _ => ret v
def mOp (o : Val → Val → M Val) (a b : ME) : ME := fun sl => bnd (a sl) fun x => bnd (b sl) fun y => o x y
def mUn (o : Val → M Val) (a : ME) : ME := fun sl => bnd (a sl) o
abbrev SE (X : Cx) (e : Expr) (m : ME) : Prop := PE X e (tE X.K m)
abbrev ST (X : Cx) (e : Expr) (m : MT) : Prop := PT X e (tT X.K m)
abbrev SA (X : Cx) (es : List Expr) (m : MA) : Prop := PA X es (tA X.K m)
abbrev SS (X : Cx) (e : Stmt) (m : MS) : Prop := PS X e (tS X.K m)
abbrev SSs (X : Cx) (e : List Stmt) (m : MS) : Prop := PSs X e (tS X.K m)
section
variable {X : Cx}
theorem Cn.self {K : PySem.W.Frag} {r : List Addr} {h : AH} {H : Hp} {v : Val} {u : V} {Q : VK} (k : Cn K r H v h Q) (R : Rel K r h H) (q : RV K r H v u) : Q u H := k r H u (Go.refl r H) R q
theorem se_var {i : Nat} {x : Str} {pos : Pos} (hN : X.N[i]? = some x := by rfl) (hv : Vis X.env.scope x := by first | exact Or.inl rfl | exact Or.inr (Or.inl rfl) | exact Or.inr (Or.inr rfl)) (hd : (x == ("__debug__" : Str)) = false := by decide)
    (hcd : (x == ("__classdict__" : Str)) = false := by decide) : SE X (.Name x pos) (mVar i) := by
  refine PE.imp (pe_var (i := i) hN hv hd hcd) fun s H Q ⟨r, h, sl, R, S, v, h', e, k⟩ => ?_
  unfold mVar at e
  cases hw : sl[i]? with
  | none => rw [hw] at e; cases e
  | some o =>
    rw [hw] at e
    cases o with
    | none => cases e
    | some w =>
      cases e
      obtain ⟨u, e1, q⟩ := S.2 i _ hw
      exact ⟨u, e1, k.self R q⟩
theorem se_c {e : Expr} {v : Val} {u : V} (p : PE X e (tC u)) (q : ∀ r H, RV X.K r H v u) : SE X e (mC v) :=
  PE.imp p fun s H Q ⟨r, h, sl, R, S, w, h', e, k⟩ => by
    cases e
    exact k.self R (q r H)
theorem se_int {i : Int} {j pos} : SE X (.Constant (.int i) j pos) (mC (.int i)) := se_c pe_int fun _ _ => .int i
theorem se_bl {b : Bool} {j pos} : SE X (.Constant (.bool b) j pos) (mC (.bl b)) := se_c pe_bl fun _ _ => .bl b
theorem se_non {j pos} : SE X (.Constant .none j pos) (mC .non) := se_c pe_non fun _ _ => .non
theorem se_str {x : Str} {j pos} : SE X (.Constant (.str x) j pos) (mC (.str x)) := se_c pe_str fun _ _ => .str x
theorem se_gstr {x z : Str} {pos : Pos} (hm : ∃ t, X.mg x = some (.str z t)) (hg : Gl X x := by rfl) (hd : (x == ("__debug__" : Str)) = false := by decide) : SE X (.Name x pos) (mC (.str z)) := by
  obtain ⟨t, hm⟩ := hm
  exact se_c (pe_glob (v := .str z) hg hm ⟨t, rfl⟩ hd) fun _ _ => .str z
theorem se_gint {x : Str} {z : Int} {pos : Pos} (hm : ∃ t, X.mg x = some (.int z t)) (hg : Gl X x := by rfl) (hd : (x == ("__debug__" : Str)) = false := by decide) : SE X (.Name x pos) (mC (.int z)) := by
  obtain ⟨t, hm⟩ := hm
  exact se_c (pe_glob (v := .int z) hg hm ⟨t, rfl⟩ hd) fun _ _ => .int z
/-- an operation by values, mirrored -/
def OpM (K : PySem.W.Frag) (q : R2) (o : Val → Val → M Val) : Prop := ∀ (r : List Addr) (h : AH) (H : Hp) (x y : Val) (u w : V) (z : Val) (h' : AH) (Q : VK), Rel K r h H → RV K r H x u → RV K r H y w → o x y h = .ok z h' → Cn K r H z h' Q → q u w H Q
def UnM (K : PySem.W.Frag) (q : V → Hp → VK → Prop) (o : Val → M Val) : Prop := ∀ (r : List Addr) (h : AH) (H : Hp) (x : Val) (u : V) (z : Val) (h' : AH) (Q : VK), Rel K r h H → RV K r H x u → o x h = .ok z h' → Cn K r H z h' Q → q u H Q
def CaM (K : PySem.W.Frag) (q : List V → Hp → VK → Prop) (o : List Val → M Val) : Prop := ∀ (r : List Addr) (h : AH) (H : Hp) (xs : List Val) (us : List V) (z : Val) (h' : AH) (Q : VK), Rel K r h H → RVs K r H xs us → o xs h = .ok z h' → Cn K r H z h' Q → q us H Q
theorem Cn.go {K : PySem.W.Frag} {r r' : List Addr} {H H' : Hp} {v : Val} {h' : AH} {Q : VK} (k : Cn K r H v h' Q) (g : Go r H r' H') : Cn K r' H' v h' Q := fun r2 H2 u g2 => k r2 H2 u (g.trans g2)
variable {a b : Expr} {ma mb : ME} {pos : Pos}
theorem opm_run {q : R2} {o : Val → Val → M Val} {K : PySem.W.Frag} (ho : OpM K q o) {s : L2.St} {H : Hp} {Q : VK} (z : tE K (mOp o ma mb) s H Q) : tOp q (tE K ma) (tE K mb) s H Q := by
  obtain ⟨r, h, sl, R, S, v, h', e, k⟩ := z
  obtain ⟨x, h1, e1, e⟩ := bnd_ok e
  obtain ⟨y, h2, e2, e⟩ := bnd_ok e
  exact ⟨r, h, sl, R, S, x, h1, e1, fun r1 H1 u g1 R1 q1 => ⟨r1, h1, sl, R1, S.go g1, y, h2, e2, fun r2 H2 w g2 R2 q2 => ho r2 h2 H2 x y u w v h' Q R2 (q1.go g2) q2 e (k.go (g1.trans g2))⟩⟩
theorem se_op {op : Operator} {q : R2} {o : Val → Val → M Val} (hp : OpR X (binaryOp op) q) (ho : OpM X.K q o) (ha : SE X a ma) (hb : SE X b mb) : SE X (.BinOp a op b pos) (mOp o ma mb) :=
  PE.imp (pe_op hp ha hb) fun _ _ _ z => opm_run ho z
theorem se_un {op : UnaryOp} {q : V → Hp → VK → Prop} {o : Val → M Val} (hp : UnR X (unaryOp op) q) (ho : UnM X.K q o) (ha : SE X a ma) : SE X (.UnaryOp op a pos) (mUn o ma) :=
  PE.imp (pe_un hp ha) fun s H Q ⟨r, h, sl, R, S, v, h', e, k⟩ => by
    obtain ⟨x, h1, e1, e⟩ := bnd_ok e
    exact ⟨r, h, sl, R, S, x, h1, e1, fun r1 H1 u g1 R1 q1 => ho r1 h1 H1 x u v h' Q R1 q1 e (k.go g1)⟩
theorem se_cmp {op : CmpOp} {q : R2} {o : Val → Val → M Val} (hp : OpR X (compareOp op) q) (ho : OpM X.K q o) (ha : SE X a ma) (hb : SE X b mb) (hm : behindInMarks op b = false) : SE X (.Compare a [op] [b] pos) (mOp o ma mb) :=
  PE.imp (pe_cmpR hp ha hb hm) fun _ _ _ z => opm_run ho z
/-- the truth of a bool -/
def mTest (m : ME) : MT := fun sl => bnd (m sl) fun v => match v with
  | .bl b => ret b
  | _ => fail
theorem mTest_run {K : PySem.W.Frag} {m : ME} {s : L2.St} {H : Hp} {Q : Bool → Hp → Prop} (z : tT K (mTest m) s H Q) : tE K m s H fun x H' => ∃ k, x = .bl k ∧ Q k H' := by
  obtain ⟨r, h, sl, R, S, b, h', e, k⟩ := z
  obtain ⟨x, h1, e1, e⟩ := bnd_ok e
  cases x with
  | bl c =>
    cases e
    refine ⟨r, h, sl, R, S, .bl b, h', e1, fun r1 H1 u g1 R1 q1 => ?_⟩
    cases q1
    exact ⟨b, rfl, k r1 H1 g1 R1⟩
  | _ => cases e
theorem st_val {e : Expr} {m : ME} (h : SE X e m) (he : ∀ whole, isTrue e X.env whole = (do let v ← whole; standAt e.pos; holding [v] (truthy v)) := by intro _; rfl) : ST X e (mTest m) :=
  PT.imp (pt_val h he) fun _ _ _ z => mTest_run z
theorem st_cmp {op : CmpOp} {q : R2} {o : Val → Val → M Val} (hp : OpR X (compareOp op) q) (ho : OpM X.K q o) (ha : SE X a ma) (hb : SE X b mb) (hm : behindInMarks op b = false) : ST X (.Compare a [op] [b] pos) (mTest (mOp o ma mb)) :=
  PT.imp (pt_cmpR hp ha hb hm) fun s H Q z => by
    obtain z1 := mTest_run z
    exact opm_run ho z1
/-! and, or, not -/
variable {ta tb : MT} {rest : List Expr}
def mAnd (t u : MT) : MT := fun sl => bnd (t sl) fun c => if c = true then u sl else ret false
def mOr (t u : MT) : MT := fun sl => bnd (t sl) fun c => if c = true then ret true else u sl
def mNot (t : MT) : MT := fun sl => bnd (t sl) fun c => ret (!c)
theorem mAnd_run {K : PySem.W.Frag} {s : L2.St} {H : Hp} {Q : Bool → Hp → Prop} (z : tT K (mAnd ta tb) s H Q) : tAnd (tT K ta) (tT K tb) s H Q := by
  obtain ⟨r, h, sl, R, S, b, h', e, k⟩ := z
  obtain ⟨c, h1, e1, e⟩ := bnd_ok e
  refine ⟨r, h, sl, R, S, c, h1, e1, fun r1 H1 g1 R1 => ?_⟩
  cases c with
  | true => exact iteT ⟨r1, h1, sl, R1, S.go g1, b, h', e, fun r2 H2 g2 R2 => k r2 H2 (g1.trans g2) R2⟩
  | false =>
    cases e
    exact iteF (k r1 H1 g1 R1)
theorem mOr_run {K : PySem.W.Frag} {s : L2.St} {H : Hp} {Q : Bool → Hp → Prop} (z : tT K (mOr ta tb) s H Q) : tOr (tT K ta) (tT K tb) s H Q := by
  obtain ⟨r, h, sl, R, S, b, h', e, k⟩ := z
  obtain ⟨c, h1, e1, e⟩ := bnd_ok e
  refine ⟨r, h, sl, R, S, c, h1, e1, fun r1 H1 g1 R1 => ?_⟩
  cases c with
  | false => exact iteF ⟨r1, h1, sl, R1, S.go g1, b, h', e, fun r2 H2 g2 R2 => k r2 H2 (g1.trans g2) R2⟩
  | true =>
    cases e
    exact iteT (k r1 H1 g1 R1)
abbrev SW (X : Cx) (e : Expr) (m : MT) : Prop := PW X e (tT X.K m)
theorem sw_and1 (ha : ST X a ta) : SW X (.BoolOp .And [a] pos) ta := pw_and1 ha
theorem sw_or1 (ha : ST X a ta) : SW X (.BoolOp .Or [a] pos) ta := pw_or1 ha
theorem sw_and (ha : ST X a ta) (hb : SW X (.BoolOp .And (b :: rest) pos) tb) : SW X (.BoolOp .And (a :: b :: rest) pos) (mAnd ta tb) := PW.imp (pw_and ha hb) fun _ _ _ z => mAnd_run z
theorem sw_or (ha : ST X a ta) (hb : SW X (.BoolOp .Or (b :: rest) pos) tb) : SW X (.BoolOp .Or (a :: b :: rest) pos) (mOr ta tb) := PW.imp (pw_or ha hb) fun _ _ _ z => mOr_run z
theorem st_not (ha : ST X a ta) : ST X (.UnaryOp .Not a pos) (mNot ta) := PT.imp (pt_not ha) fun s H Q ⟨r, h, sl, R, S, b, h', e, k⟩ => by
  obtain ⟨c, h1, e1, e⟩ := bnd_ok e
  cases e
  exact ⟨r, h, sl, R, S, c, _, e1, fun r1 H1 g1 R1 => k r1 H1 g1 R1⟩
/-- as values (bools) -/
def mAndV (p q : ME) : ME := fun sl => bnd (p sl) fun v => match v with
  | .bl true => q sl
  | .bl false => ret (.bl false)
  | _ => fail
def mOrV (p q : ME) : ME := fun sl => bnd (p sl) fun v => match v with
  | .bl true => ret (.bl true)
  | .bl false => q sl
  | _ => fail
def mNotV (p : ME) : ME := fun sl => bnd (p sl) fun v => match v with
  | .bl b => ret (.bl (!b))
  | _ => fail
theorem se_one {op} {m : ME} (h : SE X a m) : SE X (.BoolOp op [a] pos) m := pe_one h
theorem se_and (ha : SE X a ma) (hb : SE X (.BoolOp .And (b :: rest) pos) mb) : SE X (.BoolOp .And (a :: b :: rest) pos) (mAndV ma mb) := PE.imp (pe_and ha hb) fun s H Q ⟨r, h, sl, R, S, v, h', e, k⟩ => by
  obtain ⟨x, h1, e1, e⟩ := bnd_ok e
  refine ⟨r, h, sl, R, S, x, h1, e1, fun r1 H1 u g1 R1 q1 => ?_⟩
  cases q1 with
  | bl c =>
    refine ⟨c, rfl, ?_⟩
    cases c with
    | true => exact iteT ⟨r1, h1, sl, R1, S.go g1, v, h', e, k.go g1⟩
    | false =>
      cases e
      exact iteF ((k.go g1).self R1 (.bl false))
  | _ => cases e
theorem se_or (ha : SE X a ma) (hb : SE X (.BoolOp .Or (b :: rest) pos) mb) : SE X (.BoolOp .Or (a :: b :: rest) pos) (mOrV ma mb) := PE.imp (pe_or ha hb) fun s H Q ⟨r, h, sl, R, S, v, h', e, k⟩ => by
  obtain ⟨x, h1, e1, e⟩ := bnd_ok e
  refine ⟨r, h, sl, R, S, x, h1, e1, fun r1 H1 u g1 R1 q1 => ?_⟩
  cases q1 with
  | bl c =>
    refine ⟨c, rfl, ?_⟩
    cases c with
    | false => exact iteF ⟨r1, h1, sl, R1, S.go g1, v, h', e, k.go g1⟩
    | true =>
      cases e
      exact iteT ((k.go g1).self R1 (.bl true))
  | _ => cases e
theorem se_not (ha : SE X a ma) : SE X (.UnaryOp .Not a pos) (mNotV ma) := PE.imp (pe_not ha) fun s H Q ⟨r, h, sl, R, S, v, h', e, k⟩ => by
  obtain ⟨x, h1, e1, e⟩ := bnd_ok e
  refine ⟨r, h, sl, R, S, x, h1, e1, fun r1 H1 u g1 R1 q1 => ?_⟩
  cases q1 with
  | bl c =>
    cases e
    exact ⟨c, rfl, (k.go g1).self R1 (.bl (!c))⟩
  | _ => cases e
def mIf (t : MT) (p q : ME) : ME := fun sl => bnd (t sl) fun c => if c = true then p sl else q sl
theorem se_if {c : Expr} (hc : ST X c ta) (ha : SE X a ma) (hb : SE X b mb) : SE X (.IfExp c a b pos) (mIf ta ma mb) := PE.imp (pe_ifExp hc ha hb) fun s H Q ⟨r, h, sl, R, S, v, h', e, k⟩ => by
  obtain ⟨c, h1, e1, e⟩ := bnd_ok e
  refine ⟨r, h, sl, R, S, c, h1, e1, fun r1 H1 g1 R1 => ?_⟩
  cases c with
  | true => exact iteT ⟨r1, h1, sl, R1, S.go g1, v, h', e, k.go g1⟩
  | false => exact iteF ⟨r1, h1, sl, R1, S.go g1, v, h', e, k.go g1⟩
end
end Mr

set_option Elab.async false
set_option linter.all false
set_option maxRecDepth 100000
set_option maxHeartbeats 1000000
namespace Mr
open PySem PySem.Spec PyProof.Rows L2

/-! ### reading the heap -/
def lstAt (h : AH) (n : Nat) : Option (List Val) := match h[n]? with
  | some (.lst xs) => some xs
  | some (.frz xs) => some xs
  | _ => none
def mutAt (h : AH) (n : Nat) : Option (List Val) := match h[n]? with
  | some (.lst xs) => some xs
  | _ => none
def dkAt (h : AH) (n : Nat) : Option (List (Key × Val)) := match h[n]? with
  | some (.dk xs) => some xs
  | _ => none
section
variable {K : PySem.W.Frag} {r : List Addr} {h : AH} {H : Hp}
theorem Rel.at (R : Rel K r h H) {n : Nat} {o : AO} (e : h[n]? = some o) : ∃ a, r[n]? = some a ∧ RO K r H a o := by
  have hn : n < r.length := by rw [R.len]; exact (List.getElem?_eq_some_iff.mp e).1
  exact ⟨r[n], List.getElem?_eq_getElem hn, R.ob n _ o (List.getElem?_eq_getElem hn) e⟩
theorem Rel.lst (R : Rel K r h H) {n : Nat} {a : Addr} {xs : List Val} (e : lstAt h n = some xs) (ea : r[n]? = some a) : ∃ us, SqL K H a us ∧ RVs K r H xs us := by
  unfold lstAt at e
  cases q : h[n]? with
  | none => rw [q] at e; cases e
  | some o =>
    rw [q] at e
    cases o with
    | lst ys =>
      cases e
      obtain ⟨us, e1, e2⟩ := R.ob n a _ ea q
      exact ⟨us, SqL.of e1, e2⟩
    | frz ys =>
      cases e
      obtain ⟨us, e1, e2⟩ := R.ob n a _ ea q
      rcases e1 with ⟨o, e1⟩ | e1
      · exact ⟨us, .inl (.inr ⟨o, e1⟩), e2⟩
      · exact ⟨us, .inr e1, e2⟩
    | dk _ => cases e
theorem Rel.mut (R : Rel K r h H) {n : Nat} {a : Addr} {xs : List Val} (e : mutAt h n = some xs) (ea : r[n]? = some a) : h[n]? = some (.lst xs) ∧ ∃ us, H a = some (.lst us) ∧ RVs K r H xs us := by
  unfold mutAt at e
  cases q : h[n]? with
  | none => rw [q] at e; cases e
  | some o =>
    rw [q] at e
    cases o with
    | lst ys =>
      cases e
      exact ⟨rfl, R.ob n a _ ea q⟩
    | frz ys => cases e
    | dk _ => cases e
theorem Rel.dk (R : Rel K r h H) {n : Nat} {a : Addr} {kvs : List (Key × Val)} (e : dkAt h n = some kvs) (ea : r[n]? = some a) : h[n]? = some (.dk kvs) ∧ ∃ ws, H a = some (.dK ws) ∧ kvs.map (·.1) = ws.map (·.1) ∧ RVs K r H (kvs.map (·.2)) (ws.map (·.2)) := by
  unfold dkAt at e
  cases q : h[n]? with
  | none => rw [q] at e; cases e
  | some o =>
    rw [q] at e
    cases o with
    | lst ys => cases e
    | frz ys => cases e
    | dk _ =>
      cases e
      exact ⟨rfl, R.ob n a _ ea q⟩
/-- a new list is handed back -/
theorem cn_list {xs : List Val} {us : List V} {Q : VK} {p : Addr} (R : Rel K r h H) (q : RVs K r H xs us) (k : Cn K r H (.ref h.length) (h ++ [.lst xs]) Q) (n : H p = none) : Q (.ref p) (upd H p (.lst us)) := by
  have g : Go r H (r ++ [p]) (upd H p (.lst us)) := go_new n
  refine k (r ++ [p]) _ _ g (R.new n ⟨us, upd_same, q.go g⟩) (.ref ?_)
  rw [← R.len, List.getElem?_append_right (Nat.le_refl _), Nat.sub_self]
  rfl
theorem cn_dk {xs : List (Key × Val)} {us : List (Key × V)} {Q : VK} {p : Addr} (R : Rel K r h H) (e : xs.map (·.1) = us.map (·.1)) (q : RVs K r H (xs.map (·.2)) (us.map (·.2))) (k : Cn K r H (.ref h.length) (h ++ [.dk xs]) Q) (n : H p = none) : Q (.ref p) (upd H p (.dK us)) := by
  have g : Go r H (r ++ [p]) (upd H p (.dK us)) := go_new n
  refine k (r ++ [p]) _ _ g (R.new n ⟨us, upd_same, e, q.go g⟩) (.ref ?_)
  rw [← R.len, List.getElem?_append_right (Nat.le_refl _), Nat.sub_self]
  rfl
theorem cn_tup {xs : List Val} {us : List V} {Q : VK} {p : Addr} (R : Rel K r h H) (q : RVs K r H xs us) (k : Cn K r H (.tup xs) h Q) (n : H p = none) : Q (.ref p) (upd H p (.tup us)) := by
  have g : Go r H r (upd H p (.tup us)) := go_tup n
  exact k r _ _ g (R.tup n) (.tup (SqT.of upd_same) (q.go g))
/-- a list is changed, v is handed back -/
theorem cn_set {xs ys : List Val} {us ws : List V} {Q : Hp → Prop} {n : Nat} {a : Addr} (R : Rel K r h H) (ea : r[n]? = some a) (e : h[n]? = some (.lst xs)) (eH : H a = some (.lst us)) (q : RVs K r H ys ws)
    (k : ∀ H', Go r H r H' → Rel K r (h.set n (.lst ys)) H' → Q H') : Q (upd H a (.lst ws)) := by
  have g : Go r H r (upd H a (.lst ws)) := go_set eH trivial
  exact k _ g (R.set ea e rfl eH trivial rfl ⟨ws, upd_same, q.go g⟩)
theorem cn_setd {xs ys : List (Key × Val)} {us ws : List (Key × V)} {Q : Hp → Prop} {n : Nat} {a : Addr} (R : Rel K r h H) (ea : r[n]? = some a) (e : h[n]? = some (.dk xs)) (eH : H a = some (.dK us)) (e1 : ys.map (·.1) = ws.map (·.1)) (q : RVs K r H (ys.map (·.2)) (ws.map (·.2)))
    (k : ∀ H', Go r H r H' → Rel K r (h.set n (.dk ys)) H' → Q H') : Q (upd H a (.dK ws)) := by
  have g : Go r H r (upd H a (.dK ws)) := go_set eH trivial
  exact k _ g (R.set ea e rfl eH trivial rfl ⟨ws, upd_same, e1, q.go g⟩)
end
def mNewL (xs : List Val) : M Val := fun h => .ok (.ref h.length) (h ++ [.lst xs])
def sizeOk (n : Nat) : Bool := decide (n ≤ 16777216)
theorem sizeOk_le {n : Nat} (h : sizeOk n = true) : n ≤ sizeLine := by rw [sizeLine_eq]; exact of_decide_eq_true h
theorem RVs.sizeL {K : PySem.W.Frag} {r : List Addr} {H : Hp} {xs : List Val} {us : List V} (q : RVs K r H xs us) (h : sizeOk xs.length = true) : us.length ≤ sizeLine := by rw [q.length]; exact sizeOk_le h

/-! ### arithmetic -/
def oI (g : Int → Int → M Val) : Val → Val → M Val
  | .int i, .int j => g i j
  | _, _ => fail
def oAdd : Val → Val → M Val
  | .int i, .int j => ret (.int (i + j))
  | .int i, .bl b => ret (.int (i + b2i b))
  | .str x, .str y => if sizeOk (x.length + y.length) then ret (.str (x ++ y)) else fail
  | .ref a, .ref b => fun h => match mutAt h a, mutAt h b with
    | some xs, some ys => if sizeOk (xs.length + ys.length) then mNewL (xs ++ ys) h else .bad
    | _, _ => .bad
  | .tup xs, .tup ys => if !xs.isEmpty && (!ys.isEmpty && sizeOk (xs.length + ys.length)) then ret (.tup (xs ++ ys)) else fail
  | _, _ => fail
abbrev rAddA (K : PySem.W.Frag) : R2 := fun x y H Q => ((((rI0 fun i j => .int (i + j)) x y H Q ∨ (∃ i k, x = .int i ∧ y = .bl k ∧ Q (.int (i + b2i k)) H)) ∨ (∃ i j, x = .str i ∧ y = .str j ∧ i.length + j.length ≤ sizeLine ∧ Q (.str (i ++ j)) H)) ∨ rCat x y H Q) ∨ rCatT K x y H Q
theorem op_addA {X : Cx} : OpR X (binaryOp .Add) (rAddA X.K) := (((op_add.or op_add_ib).or op_add_str).or op_cat).or op_catT
theorem om_add {K : PySem.W.Frag} : OpM K (rAddA K) oAdd := by
  intro r h H x y u w z h' Q R qx qy e k
  cases qx with
  | int i => cases qy with
    | int j => cases e; exact .inl (.inl (.inl (.inl ⟨i, j, rfl, rfl, k.self R (.int _)⟩)))
    | bl b => cases e; exact .inl (.inl (.inl (.inr ⟨i, b, rfl, rfl, k.self R (.int _)⟩)))
    | _ => cases e
  | str x => cases qy with
    | str y =>
      unfold oAdd at e
      dsimp only at e
      split at e
      · rename_i hs
        cases e
        exact .inl (.inl (.inr ⟨x, y, rfl, rfl, sizeOk_le hs, k.self R (.str _)⟩))
      · cases e
    | _ => cases e
  | ref ea => cases qy with
    | ref eb =>
      rename_i n a m b
      unfold oAdd at e
      dsimp only at e
      cases q1 : mutAt h n with
      | none => rw [q1] at e; cases e
      | some xs =>
        rw [q1] at e
        cases q2 : mutAt h m with
        | none => rw [q2] at e; cases e
        | some ys =>
          rw [q2] at e
          dsimp only at e
          split at e
          · rename_i hs
            cases e
            obtain ⟨_, us, f1, f2⟩ := R.mut q1 ea
            obtain ⟨_, ws, f3, f4⟩ := R.mut q2 eb
            exact .inl (.inr ⟨a, b, us, ws, rfl, rfl, f1, f3, by rw [f2.length, f4.length]; exact sizeOk_le hs, fun p np => cn_list R (f2.append f4) k np⟩)
          · cases e
    | _ => cases e
  | tup s1 t1 => cases qy with
    | tup s2 t2 =>
      rename_i a us xs b ws ys
      unfold oAdd at e
      dsimp only at e
      split at e
      · rename_i hs
        cases e
        rw [Bool.and_eq_true, Bool.and_eq_true] at hs
        obtain ⟨h1, h2, h3⟩ := hs
        have n1 : us ≠ [] := fun z => by subst z; cases t1; cases h1
        have n2 : ws ≠ [] := fun z => by subst z; cases t2; cases h2
        exact .inr ⟨_, _, _, _, rfl, rfl, s1, s2, n1, by rw [t1.length, t2.length]; exact sizeOk_le h3, fun z => absurd z n2, fun _ p np => cn_tup R (t1.append t2) k np⟩
      · cases e
    | _ => cases e
  | _ => cases e
theorem se_add {X : Cx} {a b : Expr} {ma mb : ME} {pos : Pos} (ha : SE X a ma) (hb : SE X b mb) : SE X (.BinOp a .Add b pos) (mOp oAdd ma mb) := se_op op_addA om_add ha hb
/-- two ints -/
theorem om_I {K : PySem.W.Frag} {C : Int → Int → Prop} {g : Int → Int → V} {o : Val → Val → M Val} {gv : Int → Int → Val} (ho : ∀ i j h z h', o (.int i) (.int j) h = .ok z h' → C i j ∧ z = gv i j ∧ h' = h) (hg : ∀ i j r H, RV K r H (gv i j) (g i j))
    (hn : ∀ x y h z h', o x y h = .ok z h' → ∃ i j, x = .int i ∧ y = .int j) : OpM K (rI C g) o := by
  intro r h H x y u w z h' Q R qx qy e k
  obtain ⟨i, j, rfl, rfl⟩ := hn _ _ _ _ _ e
  obtain ⟨hc, rfl, rfl⟩ := ho _ _ _ _ _ e
  cases qx
  cases qy
  exact ⟨i, j, rfl, rfl, hc, k.self R (hg i j r H)⟩
theorem om_I0 {K : PySem.W.Frag} {g : Int → Int → V} {o : Val → Val → M Val} {gv : Int → Int → Val} (ho : ∀ i j h z h', o (.int i) (.int j) h = .ok z h' → z = gv i j ∧ h' = h) (hg : ∀ i j r H, RV K r H (gv i j) (g i j))
    (hn : ∀ x y h z h', o x y h = .ok z h' → ∃ i j, x = .int i ∧ y = .int j) : OpM K (rI0 g) o := by
  intro r h H x y u w z h' Q R qx qy e k
  obtain ⟨i, j, rfl, rfl⟩ := hn _ _ _ _ _ e
  obtain ⟨rfl, rfl⟩ := ho _ _ _ _ _ e
  cases qx
  cases qy
  exact ⟨i, j, rfl, rfl, k.self R (hg i j r H)⟩
/-- an operation on two ints, with a test -/
def oIc (c : Int → Int → Bool) (g : Int → Int → Val) : Val → Val → M Val
  | .int i, .int j => if c i j then ret (g i j) else fail
  | _, _ => fail
theorem oIc_n {c : Int → Int → Bool} {g : Int → Int → Val} : ∀ x y h z h', oIc c g x y h = .ok z h' → ∃ i j, x = .int i ∧ y = .int j := fun x y h z h' e => by
  cases x with
  | int i => cases y with
    | int j => exact ⟨i, j, rfl, rfl⟩
    | _ => cases e
  | _ => cases e
theorem oIc_o {c : Int → Int → Bool} {g : Int → Int → Val} : ∀ i j h z h', oIc c g (.int i) (.int j) h = .ok z h' → c i j = true ∧ z = g i j ∧ h' = h := fun i j h z h' e => by
  unfold oIc at e
  dsimp only at e
  split at e
  · rename_i hc
    cases e
    exact ⟨hc, rfl, rfl⟩
  · cases e
def oI0 (g : Int → Int → Val) : Val → Val → M Val
  | .int i, .int j => ret (g i j)
  | _, _ => fail
theorem oI0_n {g : Int → Int → Val} : ∀ x y h z h', oI0 g x y h = .ok z h' → ∃ i j, x = .int i ∧ y = .int j := fun x y h z h' e => by
  cases x with
  | int i => cases y with
    | int j => exact ⟨i, j, rfl, rfl⟩
    | _ => cases e
  | _ => cases e
theorem oI0_o {g : Int → Int → Val} : ∀ i j h z h', oI0 g (.int i) (.int j) h = .ok z h' → z = g i j ∧ h' = h := fun i j h z h' e => by
  cases e
  exact ⟨rfl, rfl⟩
def oSub := oI0 fun i j => .int (i - j)
def mulOk (i j : Int) : Bool := decide (i.natAbs.log2 + j.natAbs.log2 < 1000000)
def divOk (j : Int) : Bool := decide (0 < j) && decide (j.natAbs.log2 < 9000)
def powOk (i j : Int) : Bool := decide (0 ≤ j ∧ j ≤ 1000000 ∧ i.natAbs < 2 ^ 64)
def oDiv := oIc (fun _ j => divOk j) fun i j => .int (i / j)
def oMod := oIc (fun _ j => decide (0 < j)) fun i j => .int (i % j)
def oPow := oIc powOk fun i j => .int (i ^ j.toNat)
def oShl := oIc powOk fun i j => .int (i * 2 ^ j.toNat)
def oShr := oIc (fun _ j => decide (0 ≤ j)) fun i j => .int (i / 2 ^ j.toNat)
def oBand := oI0 fun i j => .int (Builtin.bitAnd i j)
def oBor := oI0 fun i j => .int (Builtin.bitOr i j)
def oBxor := oI0 fun i j => .int (Builtin.bitXor i j)
section
variable {X : Cx} {a b : Expr} {ma mb : ME} {pos : Pos}
theorem se_sub (ha : SE X a ma) (hb : SE X b mb) : SE X (.BinOp a .Sub b pos) (mOp oSub ma mb) := se_op op_sub (om_I0 oI0_o (fun _ _ _ _ => .int _) oI0_n) ha hb
theorem se_div (ha : SE X a ma) (hb : SE X b mb) : SE X (.BinOp a .FloorDiv b pos) (mOp oDiv ma mb) := se_op op_fdivW (om_I (fun i j h z h' e => by
  obtain ⟨e1, e2, e3⟩ := oIc_o _ _ _ _ _ e
  refine ⟨?_, e2, e3⟩
  have e4 := Bool.and_eq_true_iff.mp e1
  exact ⟨of_decide_eq_true e4.1, of_decide_eq_true e4.2⟩) (fun _ _ _ _ => .int _) oIc_n) ha hb
theorem se_mod (ha : SE X a ma) (hb : SE X b mb) : SE X (.BinOp a .Mod b pos) (mOp oMod ma mb) := se_op op_mod (om_I (fun i j h z h' e => by
  obtain ⟨e1, e2, e3⟩ := oIc_o _ _ _ _ _ e
  exact ⟨of_decide_eq_true e1, e2, e3⟩) (fun _ _ _ _ => .int _) oIc_n) ha hb
theorem powOk_ok {i j : Int} (h : powOk i j = true) : CPow i j := by
  have q : 0 ≤ j ∧ j ≤ 1000000 ∧ i.natAbs < 2 ^ 64 := of_decide_eq_true h
  exact q
theorem mulOk_ok {i j : Int} (h : mulOk i j = true) : CMulW i j := by
  have q : i.natAbs.log2 + j.natAbs.log2 < 1000000 := of_decide_eq_true h
  exact q
theorem se_pow (ha : SE X a ma) (hb : SE X b mb) : SE X (.BinOp a .Pow b pos) (mOp oPow ma mb) := se_op op_pow (om_I (fun i j h z h' e => by
  obtain ⟨e1, e2, e3⟩ := oIc_o _ _ _ _ _ e
  exact ⟨powOk_ok e1, e2, e3⟩) (fun _ _ _ _ => .int _) oIc_n) ha hb
theorem se_shl (ha : SE X a ma) (hb : SE X b mb) : SE X (.BinOp a .LShift b pos) (mOp oShl ma mb) := se_op op_shl (om_I (fun i j h z h' e => by
  obtain ⟨e1, e2, e3⟩ := oIc_o _ _ _ _ _ e
  exact ⟨powOk_ok e1, e2, e3⟩) (fun _ _ _ _ => .int _) oIc_n) ha hb
theorem se_shr (ha : SE X a ma) (hb : SE X b mb) : SE X (.BinOp a .RShift b pos) (mOp oShr ma mb) := se_op op_shr (om_I (fun i j h z h' e => by
  obtain ⟨e1, e2, e3⟩ := oIc_o _ _ _ _ _ e
  exact ⟨of_decide_eq_true e1, e2, e3⟩) (fun _ _ _ _ => .int _) oIc_n) ha hb
theorem se_band (ha : SE X a ma) (hb : SE X b mb) : SE X (.BinOp a .BitAnd b pos) (mOp oBand ma mb) := se_op op_and (om_I0 oI0_o (fun _ _ _ _ => .int _) oI0_n) ha hb
theorem se_bor (ha : SE X a ma) (hb : SE X b mb) : SE X (.BinOp a .BitOr b pos) (mOp oBor ma mb) := se_op op_or (om_I0 oI0_o (fun _ _ _ _ => .int _) oI0_n) ha hb
theorem se_bxor (ha : SE X a ma) (hb : SE X b mb) : SE X (.BinOp a .BitXor b pos) (mOp oBxor ma mb) := se_op op_xor (om_I0 oI0_o (fun _ _ _ _ => .int _) oI0_n) ha hb
/-- * : ints; a list and an int -/
def oMul : Val → Val → M Val
  | .int i, .int j => if mulOk i j then ret (.int (i * j)) else fail
  | .ref a, .int k => fun h => match mutAt h a with
    | some xs => if decide (-(2 ^ 63) ≤ k ∧ k < 2 ^ 63) && sizeOk (xs.length * k.toNat) then mNewL (List.replicate k.toNat xs).flatten h else .bad
    | none => .bad
  | _, _ => fail
theorem RVs.rep {K : PySem.W.Frag} {r : List Addr} {H : Hp} {xs : List Val} {us : List V} (q : RVs K r H xs us) : ∀ k : Nat, RVs K r H (List.replicate k xs).flatten (List.replicate k us).flatten
  | 0 => .nil
  | k + 1 => by
    rw [List.replicate_succ, List.replicate_succ, List.flatten_cons, List.flatten_cons]
    exact q.append (RVs.rep q k)
theorem om_mul {K : PySem.W.Frag} : OpM K (fun x y H Q => rI CMulW (fun i j => .int (i * j)) x y H Q ∨ rRep x y H Q) oMul := by
  intro r h H x y u w z h' Q R qx qy e k
  cases qx with
  | int i => cases qy with
    | int j =>
      unfold oMul at e
      dsimp only at e
      split at e
      · rename_i hc
        cases e
        exact .inl ⟨i, j, rfl, rfl, mulOk_ok hc, k.self R (.int _)⟩
      · cases e
    | _ => cases e
  | ref ea => cases qy with
    | int j =>
      rename_i n a
      unfold oMul at e
      dsimp only at e
      cases q1 : mutAt h n with
      | none => rw [q1] at e; cases e
      | some xs =>
        rw [q1] at e
        dsimp only at e
        split at e
        · rename_i hs
          cases e
          obtain ⟨_, us, f1, f2⟩ := R.mut q1 ea
          have e4 := Bool.and_eq_true_iff.mp hs
          have e5 := of_decide_eq_true e4.1
          exact .inr ⟨a, j, us, rfl, rfl, f1, e5.1, e5.2, by rw [f2.length]; exact sizeOk_le e4.2, fun p np => cn_list R (f2.rep _) k np⟩
        · cases e
    | _ => cases e
  | _ => cases e
theorem se_mul (ha : SE X a ma) (hb : SE X b mb) : SE X (.BinOp a .Mult b pos) (mOp oMul ma mb) := se_op (op_mulW.or op_rep) om_mul ha hb
def uNeg : Val → M Val
  | .int i => ret (.int (-i))
  | _ => fail
def uInv : Val → M Val
  | .int i => ret (.int (Builtin.bitNot i))
  | _ => fail
theorem se_neg (ha : SE X a ma) : SE X (.UnaryOp .USub a pos) (mUn uNeg ma) := se_un un_neg (fun r h H x u z h' Q R q e k => by
  cases q with
  | int i => cases e; exact ⟨i, rfl, k.self R (.int _)⟩
  | _ => cases e) ha
theorem se_inv (ha : SE X a ma) : SE X (.UnaryOp .Invert a pos) (mUn uInv ma) := se_un un_inv (fun r h H x u z h' Q R q e k => by
  cases q with
  | int i => cases e; exact ⟨i, rfl, k.self R (.int _)⟩
  | _ => cases e) ha
end
end Mr

set_option Elab.async false
set_option linter.all false
set_option maxRecDepth 100000
set_option maxHeartbeats 1000000
namespace Mr
open PySem PySem.Spec PyProof.Rows L2

/-! ### data -/
mutual
def dat (h : AH) : Nat → Val → Option PyData
  | 0, _ => none
  | _ + 1, .non => some .none
  | _ + 1, .bl b => some (.bool b)
  | _ + 1, .int i => some (.int i)
  | _ + 1, .str x => if PyData.strOk x then some (.str x) else none
  | n + 1, .tup xs => (datL h n xs).map .tuple
  | n + 1, .ref i => match lstAt h i with
    | some xs => (datL h n xs).map .list
    | none => none
termination_by n _ => (n, 0)
def datL (h : AH) : Nat → List Val → Option (List PyData)
  | _, [] => some []
  | n, x :: xs => match dat h n x with
    | some d => (datL h n xs).map (d :: ·)
    | none => none
termination_by n xs => (n, xs.length + 1)
end
section
variable {K : PySem.W.Frag} {r : List Addr} {h : AH} {H : Hp}
theorem dat_ok (R : Rel K r h H) : ∀ (n : Nat), (∀ (x : Val) (u : V) (d : PyData), RV K r H x u → dat h n x = some d → Dp K H u d ∧ d.canLay0 = true ∧ d.depth ≤ n) ∧
    (∀ (xs : List Val) (us : List V) (ds : List PyData), RVs K r H xs us → datL h n xs = some ds → DpAll K H us ds ∧ PyData.canLayAll0 ds = true ∧ PyData.depthAll ds ≤ n) := by
  intro n
  induction n with
  | zero =>
    refine ⟨fun x u d q e => ?_, fun xs us ds q e => ?_⟩
    · rw [dat] at e
      cases e
    · cases q with
      | nil =>
        rw [datL] at e
        cases e
        exact ⟨.nil, by simp [PyData.canLayAll0], by simp [PyData.depthAll]⟩
      | cons a b =>
        rw [datL, dat] at e
        cases e
  | succ n ih =>
    have one : ∀ (x : Val) (u : V) (d : PyData), RV K r H x u → dat h (n + 1) x = some d → Dp K H u d ∧ d.canLay0 = true ∧ d.depth ≤ n + 1 := fun x u d q e => by
      cases q with
      | non => rw [dat] at e; cases e; exact ⟨.non, by simp [PyData.canLay0], by simp [PyData.depth]⟩
      | bl b => rw [dat] at e; cases e; exact ⟨.bl b, by simp [PyData.canLay0], by simp [PyData.depth]⟩
      | int i => rw [dat] at e; cases e; exact ⟨.int i, by simp [PyData.canLay0], by simp [PyData.depth]⟩
      | str y =>
        rw [dat] at e
        split at e
        · rename_i hs
          cases e
          exact ⟨.str y, by simp [PyData.canLay0, hs], by simp [PyData.depth]⟩
        · cases e
      | tup s t =>
        rename_i a us xs
        rw [dat] at e
        cases q : datL h n xs with
        | none => rw [q] at e; cases e
        | some ds =>
          rw [q] at e
          cases e
          obtain ⟨d1, d2, d3⟩ := ih.2 _ _ _ t q
          exact ⟨.tup s d1, by simp [PyData.canLay0, d2], by simp only [PyData.depth]; omega⟩
      | ref ea =>
        rename_i m a
        rw [dat] at e
        cases q1 : lstAt h m with
        | none => rw [q1] at e; cases e
        | some xs =>
          rw [q1] at e
          dsimp only at e
          cases q : datL h n xs with
          | none => rw [q] at e; cases e
          | some ds =>
            rw [q] at e
            cases e
            obtain ⟨us, s, t⟩ := R.lst q1 ea
            obtain ⟨d1, d2, d3⟩ := ih.2 _ _ _ t q
            exact ⟨.lst s d1, by simp [PyData.canLay0, d2], by simp only [PyData.depth]; omega⟩
    refine ⟨one, fun xs => ?_⟩
    induction xs with
    | nil =>
      intro us ds q e
      cases q
      rw [datL] at e
      cases e
      exact ⟨.nil, by simp [PyData.canLayAll0], by simp [PyData.depthAll]⟩
    | cons x xs ihx =>
      intro us ds q e
      cases q with
      | cons a b =>
        rw [datL] at e
        cases q1 : dat h (n + 1) x with
        | none => rw [q1] at e; cases e
        | some d =>
          rw [q1] at e
          dsimp only at e
          cases q2 : datL h (n + 1) xs with
          | none => rw [q2] at e; cases e
          | some es =>
            rw [q2] at e
            cases e
            obtain ⟨a1, a2, a3⟩ := one _ _ _ a q1
            obtain ⟨b1, b2, b3⟩ := ihx _ _ b q2
            refine ⟨.cons a1 b1, by simp [PyData.canLayAll0, a2, b2], ?_⟩
            simp only [PyData.depthAll]
            omega
theorem shaped_of {d : PyData} {n : Nat} (h1 : d.canLay0 = true) (h2 : d.depth ≤ n) (hn : n ≤ 64) : SeqAt.shaped d = true := by
  unfold SeqAt.shaped
  rw [h1, Bool.true_and]
  exact decide_eq_true (Nat.le_trans h2 hn)
end
/-! ### == and != -/
def eqS : Val → Val → Option Bool
  | .non, .non => some true | .non, .int _ => some false | .int _, .non => some false | .non, .bl _ => some false | .bl _, .non => some false | .non, .str _ => some false | .str _, .non => some false
  | .int i, .int j => some (decide (i = j)) | .bl a, .bl b => some (decide (a = b)) | .str x, .str y => some (decide (x = y))
  | .int _, .str _ => some false | .str _, .int _ => some false | .bl _, .str _ => some false | .str _, .bl _ => some false
  | _, _ => none
def eqB (x y : Val) (h : AH) : Option Bool := match eqS x y with
  | some b => some b
  | none => match dat h 30 x, dat h 30 y with
    | some d, some e => some (PyData.eqv d e)
    | _, _ => none
def oEq (x y : Val) : M Val := fun h => match eqB x y h with
  | some b => .ok (.bl b) h
  | none => .bad
def oNe (x y : Val) : M Val := fun h => match eqB x y h with
  | some b => .ok (.bl (!b)) h
  | none => .bad
theorem eqS_ok {K : PySem.W.Frag} {r : List Addr} {H : Hp} {x y : Val} {u w : V} {b : Bool} (qx : RV K r H x u) (qy : RV K r H y w) (e : eqS x y = some b) : scal u w = true ∧ b = decide (u = w) := by
  cases qx <;> cases qy <;> simp only [eqS] at e <;> first | (cases e; exact ⟨rfl, by simp⟩) | cases e
theorem om_eq {K : PySem.W.Frag} : OpM K (fun x y H Q => rEq x y H Q ∨ rEqD K x y H Q) oEq := by
  intro r h H x y u w z h' Q R qx qy e k
  unfold oEq eqB at e
  cases q1 : eqS x y with
  | some b =>
    rw [q1] at e
    cases e
    obtain ⟨e1, e2⟩ := eqS_ok qx qy q1
    refine .inl ⟨e1, ?_⟩
    rw [← e2]
    exact k.self R (.bl _)
  | none =>
    rw [q1] at e
    dsimp only at e
    cases q2 : dat h 30 x with
    | none => rw [q2] at e; cases e
    | some d =>
      cases q3 : dat h 30 y with
      | none => rw [q2, q3] at e; cases e
      | some d' =>
        rw [q2, q3] at e
        cases e
        obtain ⟨a1, a2, a3⟩ := (dat_ok R 30).1 _ _ _ qx q2
        obtain ⟨b1, b2, b3⟩ := (dat_ok R 30).1 _ _ _ qy q3
        exact .inr ⟨d, d', a1, b1, shaped_of a2 a3 (by decide), shaped_of b2 b3 (by decide), k.self R (.bl _)⟩
theorem om_ne {K : PySem.W.Frag} : OpM K (fun x y H Q => rNe x y H Q ∨ rNeD K x y H Q) oNe := by
  intro r h H x y u w z h' Q R qx qy e k
  unfold oNe eqB at e
  cases q1 : eqS x y with
  | some b =>
    rw [q1] at e
    cases e
    obtain ⟨e1, e2⟩ := eqS_ok qx qy q1
    refine .inl ⟨e1, ?_⟩
    rw [← e2]
    exact k.self R (.bl _)
  | none =>
    rw [q1] at e
    dsimp only at e
    cases q2 : dat h 30 x with
    | none => rw [q2] at e; cases e
    | some d =>
      cases q3 : dat h 30 y with
      | none => rw [q2, q3] at e; cases e
      | some d' =>
        rw [q2, q3] at e
        cases e
        obtain ⟨a1, a2, a3⟩ := (dat_ok R 30).1 _ _ _ qx q2
        obtain ⟨b1, b2, b3⟩ := (dat_ok R 30).1 _ _ _ qy q3
        exact .inr ⟨d, d', a1, b1, shaped_of a2 a3 (by decide), shaped_of b2 b3 (by decide), k.self R (.bl _)⟩
/-! ### order -/
def oOrd (gi : Int → Int → Bool) (gs : Str → Str → Bool) : Val → Val → M Val
  | .int i, .int j => ret (.bl (gi i j))
  | .str x, .str y => ret (.bl (gs x y))
  | _, _ => fail
theorem om_ord {K : PySem.W.Frag} {gi : Int → Int → Bool} {gs : Str → Str → Bool} : OpM K (fun x y H Q => rI0 (fun i j => .bl (gi i j)) x y H Q ∨ (∃ i j, x = .str i ∧ y = .str j ∧ Q (.bl (gs i j)) H)) (oOrd gi gs) := by
  intro r h H x y u w z h' Q R qx qy e k
  cases qx with
  | int i => cases qy with
    | int j => cases e; exact .inl ⟨i, j, rfl, rfl, k.self R (.bl _)⟩
    | _ => cases e
  | str i => cases qy with
    | str j => cases e; exact .inr ⟨i, j, rfl, rfl, k.self R (.bl _)⟩
    | _ => cases e
  | _ => cases e
def ltS (x y : Str) : Bool := decide (x.cps.toList < y.cps.toList)
def oLt := oOrd (fun i j => decide (i < j)) ltS
def oLe := oOrd (fun i j => decide (i ≤ j)) fun x y => !ltS y x
def oGt := oOrd (fun i j => decide (j < i)) fun x y => ltS y x
def oGe := oOrd (fun i j => decide (j ≤ i)) fun x y => !ltS x y
theorem op_ltA {X : Cx} : OpR X (compareOp .Lt) (fun x y H Q => rI0 (fun i j => .bl (decide (i < j))) x y H Q ∨ (∃ i j, x = .str i ∧ y = .str j ∧ Q (.bl (ltS i j)) H)) := op_lt.or op_lt_str
theorem op_leA {X : Cx} : OpR X (compareOp .LtE) (fun x y H Q => rI0 (fun i j => .bl (decide (i ≤ j))) x y H Q ∨ (∃ i j, x = .str i ∧ y = .str j ∧ Q (.bl (!ltS j i)) H)) := op_le.or op_le_str
theorem op_gtA {X : Cx} : OpR X (compareOp .Gt) (fun x y H Q => rI0 (fun i j => .bl (decide (j < i))) x y H Q ∨ (∃ i j, x = .str i ∧ y = .str j ∧ Q (.bl (ltS j i)) H)) := op_gt.or op_gt_str
theorem op_geA {X : Cx} : OpR X (compareOp .GtE) (fun x y H Q => rI0 (fun i j => .bl (decide (j ≤ i))) x y H Q ∨ (∃ i j, x = .str i ∧ y = .str j ∧ Q (.bl (!ltS i j)) H)) := op_ge.or op_ge_str
/-! ### in, not in -/
def flat : Val → Bool
  | .non => true | .bl _ => true | .int _ => true | .str _ => true
  | _ => false
def eqF : Val → Val → Bool
  | .non, .non => true
  | .bl a, .bl b => a == b
  | .bl a, .int b => (if a then 1 else 0) == b
  | .int a, .bl b => a == (if b then 1 else 0)
  | .int a, .int b => a == b
  | .str a, .str b => a == b
  | _, _ => false
def seqOf (h : AH) : Val → Option (List Val)
  | .tup xs => some xs
  | .ref n => lstAt h n
  | _ => none
def inB (x y : Val) (h : AH) : Option Bool := match y with
  | .str z => (match x with
    | .str ⟨#[c]⟩ => some (decide (c ∈ z.cps.toList))
    | _ => none)
  | y => match seqOf h y with
    | some xs => if flat x && xs.all flat then some (xs.any fun v => eqF v x) else (match y with
      | .ref n => (match dat h 29 x, datL h 29 xs with
        | some d, some ds => some (ds.any fun z => PyData.eqv z d)
        | _, _ => none)
      | _ => none)
    | none => none
def oIn (x y : Val) : M Val := fun h => match inB x y h with
  | some b => .ok (.bl b) h
  | none => .bad
def oNotIn (x y : Val) : M Val := fun h => match inB x y h with
  | some b => .ok (.bl (!b)) h
  | none => .bad
section
variable {K : PySem.W.Frag} {r : List Addr} {h : AH} {H : Hp}
theorem flat_ok {x : Val} {u : V} (q : RV K r H x u) (f : flat x = true) : flatV u = true := by
  cases q <;> first | rfl | cases f
theorem eqF_ok {x y : Val} {u w : V} (q : RV K r H x u) (q' : RV K r H y w) (f : flat x = true) (f' : flat y = true) : eqV u w = eqF x y := by
  cases q <;> cases q' <;> first | rfl | cases f | cases f'
theorem flats_ok : ∀ {xs : List Val} {us : List V}, RVs K r H xs us → xs.all flat = true → us.all flatV = true
  | _, _, .nil, _ => rfl
  | _, _, .cons a b, f => by
    rw [List.all_cons, Bool.and_eq_true] at f
    rw [List.all_cons, flat_ok a f.1, flats_ok b f.2]
    rfl
theorem inV_ok {x : Val} {u : V} (q : RV K r H x u) (f : flat x = true) : ∀ {xs : List Val} {us : List V}, RVs K r H xs us → xs.all flat = true → inV u us = xs.any fun v => eqF v x
  | _, _, .nil, _ => rfl
  | _, _, .cons a b, f' => by
    rw [List.all_cons, Bool.and_eq_true] at f'
    unfold inV
    rw [List.any_cons, List.any_cons, eqF_ok a q f'.1 f]
    have z := inV_ok q f b f'.2
    unfold inV at z
    rw [z]
theorem Rel.seq (R : Rel K r h H) {y : Val} {w : V} {xs : List Val} (q : RV K r H y w) (e : seqOf h y = some xs) : ∃ p us, w = .ref p ∧ (SqL K H p us ∨ SqT K H p us) ∧ RVs K r H xs us := by
  cases q with
  | tup s t => cases e; exact ⟨_, _, rfl, .inr s, t⟩
  | ref ea =>
    obtain ⟨us, s, t⟩ := R.lst e ea
    exact ⟨_, us, rfl, .inl s, t⟩
  | _ => cases e
abbrev rInA (K : PySem.W.Frag) : R2 := fun x y H Q => ((∃ (c : Nat) (z : Str), x = .str ⟨#[c]⟩ ∧ y = .str z ∧ Q (.bl (decide (c ∈ z.cps.toList))) H) ∨ rIn K false x y H Q) ∨ rInD K x y H Q
abbrev rNotInA (K : PySem.W.Frag) : R2 := fun x y H Q => ((∃ (c : Nat) (z : Str), x = .str ⟨#[c]⟩ ∧ y = .str z ∧ Q (.bl (!decide (c ∈ z.cps.toList))) H) ∨ rIn K true x y H Q) ∨ rNotInD K x y H Q
theorem inB_ok (R : Rel K r h H) {x y : Val} {u w : V} {b : Bool} (qx : RV K r H x u) (qy : RV K r H y w) (e : inB x y h = some b) :
    (∃ (c : Nat) (z : Str), u = .str ⟨#[c]⟩ ∧ w = .str z ∧ b = decide (c ∈ z.cps.toList)) ∨ (∃ p us, w = .ref p ∧ (SqL K H p us ∨ SqT K H p us) ∧ flatV u = true ∧ us.all flatV = true ∧ b = inV u us) ∨
    (∃ d ds, Dp K H u d ∧ Dp K H w (.list ds) ∧ SeqAt.shaped d = true ∧ SeqAt.shaped (.list ds) = true ∧ b = ds.any fun z => PyData.eqv z d) := by
  have gen : ∀ xs, seqOf h y = some xs → (if flat x && xs.all flat then some (xs.any fun v => eqF v x) else (match y with
      | .ref n => (match dat h 29 x, datL h 29 xs with
        | some d, some ds => some (ds.any fun z => PyData.eqv z d)
        | _, _ => none)
      | _ => none)) = some b → (∃ p us, w = .ref p ∧ (SqL K H p us ∨ SqT K H p us) ∧ flatV u = true ∧ us.all flatV = true ∧ b = inV u us) ∨
    (∃ d ds, Dp K H u d ∧ Dp K H w (.list ds) ∧ SeqAt.shaped d = true ∧ SeqAt.shaped (.list ds) = true ∧ b = ds.any fun z => PyData.eqv z d) := fun xs es e => by
    split at e
    · rename_i hf
      rw [Bool.and_eq_true] at hf
      cases e
      obtain ⟨p, us, e1, e2, e3⟩ := R.seq qy es
      exact .inl ⟨p, us, e1, e2, flat_ok qx hf.1, flats_ok e3 hf.2, (inV_ok qx hf.1 e3 hf.2).symm⟩
    · cases qy with
      | ref ea =>
        dsimp only at e
        cases q1 : dat h 29 x with
        | none => rw [q1] at e; cases e
        | some d =>
          cases q2 : datL h 29 xs with
          | none => rw [q1, q2] at e; cases e
          | some ds =>
            rw [q1, q2] at e
            cases e
            obtain ⟨us, s, t⟩ := R.lst es ea
            obtain ⟨a1, a2, a3⟩ := (dat_ok R 29).1 _ _ _ qx q1
            obtain ⟨b1, b2, b3⟩ := (dat_ok R 29).2 _ _ _ t q2
            exact .inr ⟨d, ds, a1, .lst s b1, shaped_of a2 a3 (by decide), shaped_of (n := 30) (by simp [PyData.canLay0, b2]) (by simp only [PyData.depth]; omega) (by decide), rfl⟩
      | _ => cases e
  unfold inB at e
  cases qy with
  | str z =>
    dsimp only at e
    cases qx with
    | str x' =>
      obtain ⟨⟨l⟩⟩ := x'
      match l, e with
      | [c], e =>
        cases e
        exact .inl ⟨c, z, rfl, rfl, rfl⟩
    | _ => cases e
  | tup s t => exact .inr (gen _ rfl e)
  | ref ea =>
    rename_i n a
    dsimp only at e
    cases q1 : seqOf h (.ref n) with
    | none => rw [q1] at e; cases e
    | some xs =>
      rw [q1] at e
      exact .inr (gen _ q1 e)
  | _ => cases e
theorem om_in : OpM K (rInA K) oIn := by
  intro r h H x y u w z h' Q R qx qy e k
  unfold oIn at e
  cases q1 : inB x y h with
  | none => rw [q1] at e; cases e
  | some b =>
    rw [q1] at e
    cases e
    rcases inB_ok R qx qy q1 with ⟨c, z, rfl, rfl, rfl⟩ | ⟨p, us, e1, e2, e3, e4, rfl⟩ | ⟨d, ds, e1, e2, e3, e4, rfl⟩
    · exact .inl (.inl ⟨c, z, rfl, rfl, k.self R (.bl _)⟩)
    · exact .inl (.inr ⟨p, us, e1, e2, e3, e4, k.self R (.bl _)⟩)
    · exact .inr ⟨d, ds, e1, e2, e3, e4, k.self R (.bl _)⟩
theorem om_notIn : OpM K (rNotInA K) oNotIn := by
  intro r h H x y u w z h' Q R qx qy e k
  unfold oNotIn at e
  cases q1 : inB x y h with
  | none => rw [q1] at e; cases e
  | some b =>
    rw [q1] at e
    cases e
    rcases inB_ok R qx qy q1 with ⟨c, z, rfl, rfl, rfl⟩ | ⟨p, us, e1, e2, e3, e4, rfl⟩ | ⟨d, ds, e1, e2, e3, e4, rfl⟩
    · exact .inl (.inl ⟨c, z, rfl, rfl, k.self R (.bl _)⟩)
    · exact .inl (.inr ⟨p, us, e1, e2, e3, e4, k.self R (.bl _)⟩)
    · exact .inr ⟨d, ds, e1, e2, e3, e4, k.self R (.bl _)⟩
end
/-! ### is None -/
def oIsN (x y : Val) : M Val := match y with
  | .non => (match x with | .non => ret (.bl true) | _ => ret (.bl false))
  | _ => fail
def oNotN (x y : Val) : M Val := match y with
  | .non => (match x with | .non => ret (.bl false) | _ => ret (.bl true))
  | _ => fail
theorem om_isN {K : PySem.W.Frag} : OpM K (fun x y H Q => y = .non ∧ Q (.bl (decide (x = .non))) H) oIsN := by
  intro r h H x y u w z h' Q R qx qy e k
  cases qy with
  | non =>
    refine ⟨rfl, ?_⟩
    cases qx <;> (cases e; exact k.self R (.bl _))
  | _ => cases e
theorem om_notN {K : PySem.W.Frag} : OpM K (fun x y H Q => y = .non ∧ Q (.bl (!decide (x = .non))) H) oNotN := by
  intro r h H x y u w z h' Q R qx qy e k
  cases qy with
  | non =>
    refine ⟨rfl, ?_⟩
    cases qx <;> (cases e; exact k.self R (.bl _))
  | _ => cases e
/-- the operators of comparison -/
inductive Cp where | eq | ne | lt | le | gt | ge | isIn | notIn | isN | notN
def Cp.op : Cp → CmpOp
  | .eq => .Eq | .ne => .NotEq | .lt => .Lt | .le => .LtE | .gt => .Gt | .ge => .GtE | .isIn => .In | .notIn => .NotIn | .isN => .Is | .notN => .IsNot
def Cp.o : Cp → Val → Val → M Val
  | .eq => oEq | .ne => oNe | .lt => oLt | .le => oLe | .gt => oGt | .ge => oGe | .isIn => oIn | .notIn => oNotIn | .isN => oIsN | .notN => oNotN
theorem Cp.ok {X : Cx} {k : Nat} (hr : Room k X.A) (c : Cp) : ∃ q : R2, OpR X (compareOp c.op) q ∧ OpM X.K q c.o := by
  have hu : X.A.units + 65 < cLine := by have := hr.un; omega
  cases c with
  | eq => exact ⟨_, op_eq.or (op_eqD hr.units), om_eq⟩
  | ne => exact ⟨_, op_ne.or (op_neD hr.units), om_ne⟩
  | lt => exact ⟨_, op_ltA, om_ord⟩
  | le => exact ⟨_, op_leA, om_ord⟩
  | gt => exact ⟨_, op_gtA, om_ord⟩
  | ge => exact ⟨_, op_geA, om_ord⟩
  | isIn => exact ⟨_, (op_in_sign.or op_in_seq).or (op_inD hu), om_in⟩
  | notIn => exact ⟨_, (op_notIn_sign.or op_notIn_seq).or (op_notInD hu), om_notIn⟩
  | isN => exact ⟨_, op_isN, om_isN⟩
  | notN => exact ⟨_, op_notN, om_notN⟩
section
variable {X : Cx} {a b c : Expr} {ma mb mc : ME} {pos : Pos} {k : Nat}
theorem se_cp (p : Cp) (hr : Room k X.A) (ha : SE X a ma) (hb : SE X b mb) (hm : behindInMarks p.op b = false := by rfl) : SE X (.Compare a [p.op] [b] pos) (mOp p.o ma mb) := by
  obtain ⟨q, h1, h2⟩ := Cp.ok hr p
  exact se_cmp h1 h2 ha hb hm
theorem st_cp (p : Cp) (hr : Room k X.A) (ha : SE X a ma) (hb : SE X b mb) (hm : behindInMarks p.op b = false := by rfl) : ST X (.Compare a [p.op] [b] pos) (mTest (mOp p.o ma mb)) := by
  obtain ⟨q, h1, h2⟩ := Cp.ok hr p
  exact st_cmp h1 h2 ha hb hm
/-- a < b < c -/
def mChain (o o' : Val → Val → M Val) (ma mb mc : ME) : ME := fun sl => bnd (ma sl) fun x => bnd (mb sl) fun y => bnd (o x y) fun z => match z with
  | .bl true => bnd (mc sl) fun w => o' y w
  | .bl false => ret (.bl false)
  | _ => fail
end
end Mr

set_option Elab.async false
set_option linter.all false
set_option maxRecDepth 100000
set_option maxHeartbeats 1000000
namespace Mr
open PySem PySem.Spec PyProof.Rows L2
section
variable {X : Cx} {a b c : Expr} {ma mb mc : ME} {pos : Pos} {k : Nat}
theorem mChain_run {K : PySem.W.Frag} {q q' : R2} {o o' : Val → Val → M Val} (h1 : OpM K q o) (h2 : OpM K q' o') {s : L2.St} {H : Hp} {Q : VK} (z : tE K (mChain o o' ma mb mc) s H Q) : tChain q q' (tE K ma) (tE K mb) (tE K mc) s H Q := by
  obtain ⟨r, h, sl, R, S, v, h', e, k⟩ := z
  obtain ⟨x, g1, e1, e⟩ := bnd_ok e
  obtain ⟨y, g2, e2, e⟩ := bnd_ok e
  obtain ⟨z, g3, e3, e⟩ := bnd_ok e
  refine ⟨r, h, sl, R, S, x, g1, e1, fun r1 H1 u k1 R1 q1 => ⟨r1, g1, sl, R1, S.go k1, y, g2, e2, fun r2 H2 w k2 R2 q2 => ?_⟩⟩
  refine h1 r2 g2 H2 x y u w z g3 _ R2 (q1.go k2) q2 e3 fun r3 H3 zz k3 R3 q3 => ?_
  cases q3 with
  | bl b =>
    refine ⟨b, rfl, ?_⟩
    cases b with
    | true =>
      obtain ⟨w', g4, e4, e⟩ := bnd_ok e
      exact iteT ⟨r3, g3, sl, R3, S.go (k1.trans (k2.trans k3)), w', g4, e4, fun r4 H4 w2 k4 R4 q4 => h2 r4 g4 H4 y w' w w2 v h' Q R4 (q2.go (k3.trans k4)) q4 e (k.go (k1.trans (k2.trans (k3.trans k4))))⟩
    | false =>
      cases e
      exact iteF ((k.go (k1.trans (k2.trans k3))).self R3 (.bl false))
  | _ => cases e
theorem se_chain (p p' : Cp) (hr : Room k X.A) (ha : SE X a ma) (hb : SE X b mb) (hc : SE X c mc) (hm : lastMarks [p.op, p'.op] [b, c] = false := by with_unfolding_all rfl) : SE X (.Compare a [p.op, p'.op] [b, c] pos) (mChain p.o p'.o ma mb mc) := by
  obtain ⟨q, h1, h2⟩ := Cp.ok hr p
  obtain ⟨q', h1', h2'⟩ := Cp.ok hr p'
  exact PE.imp (pe_chain h1 h1' ha hb hc hm) fun _ _ _ z => mChain_run h2 h2' z
theorem st_chain (p p' : Cp) (hr : Room k X.A) (ha : SE X a ma) (hb : SE X b mb) (hc : SE X c mc) (hm : lastMarks [p.op, p'.op] [b, c] = false := by with_unfolding_all rfl) : ST X (.Compare a [p.op, p'.op] [b, c] pos) (mTest (mChain p.o p'.o ma mb mc)) := by
  obtain ⟨q, h1, h2⟩ := Cp.ok hr p
  obtain ⟨q', h1', h2'⟩ := Cp.ok hr p'
  exact PT.imp (pt_chain h1 h1' ha hb hc hm) fun _ _ _ z => mChain_run h2 h2' (mTest_run z)
/-! ### arguments, displays -/
def mNil : MA := fun _ => ret []
def mCons (m : ME) (t : MA) : MA := fun sl => bnd (m sl) fun x => bnd (t sl) fun xs => ret (x :: xs)
variable {es : List Expr} {mt : MA}
theorem sa_nil : SA X [] mNil := PA.imp pa_nil fun s H Q ⟨r, h, sl, R, S, vs, h', e, k⟩ => by
  cases e
  exact k r H [] (Go.refl r H) R .nil
theorem sa_cons (ha : SE X a ma) (hr : SA X es mt) (hs : starEach (a :: es) X.env = (false, eval a X.env) :: starEach es X.env := by rfl) : SA X (a :: es) (mCons ma mt) := PA.imp (pa_cons ha hr hs) fun s H Q ⟨r, h, sl, R, S, vs, h', e, k⟩ => by
  obtain ⟨x, g1, e1, e⟩ := bnd_ok e
  obtain ⟨xs, g2, e2, e⟩ := bnd_ok e
  cases e
  exact ⟨r, h, sl, R, S, x, g1, e1, fun r1 H1 u k1 R1 q1 => ⟨r1, g1, sl, R1, S.go k1, xs, _, e2, fun r2 H2 us k2 R2 q2 => k r2 H2 (u :: us) (k1.trans k2) R2 (.cons (q1.go k2) q2)⟩⟩
def mTup (t : MA) : ME := fun sl => bnd (t sl) fun xs => if sizeOk xs.length then ret (.tup xs) else fail
def mLst (t : MA) : ME := fun sl => bnd (t sl) fun xs => if sizeOk xs.length then mNewL xs else fail
theorem se_tup {x1} (h : SA X es mt) : SE X (.Tuple es x1 pos) (mTup mt) := PE.imp (pe_tup h) fun s H Q ⟨r, h, sl, R, S, v, h', e, k⟩ => by
  obtain ⟨xs, g1, e1, e⟩ := bnd_ok e
  split at e
  · rename_i hs
    cases e
    exact ⟨r, h, sl, R, S, xs, _, e1, fun r1 H1 us k1 R1 q1 => ⟨q1.sizeL hs, fun p np => cn_tup R1 q1 (k.go k1) np⟩⟩
  · cases e
theorem se_lst (h : SA X es mt) : SE X (.List es pos) (mLst mt) := PE.imp (pe_lst h) fun s H Q ⟨r, h, sl, R, S, v, h', e, k⟩ => by
  obtain ⟨xs, g1, e1, e⟩ := bnd_ok e
  split at e
  · rename_i hs
    cases e
    exact ⟨r, h, sl, R, S, xs, _, e1, fun r1 H1 us k1 R1 q1 => ⟨q1.sizeL hs, fun p np => cn_list R1 q1 (k.go k1) np⟩⟩
  · cases e
/-! ### calls of built-ins -/
def mCall (o : List Val → M Val) (t : MA) : ME := fun sl => bnd (t sl) o
theorem mCall_run {K : PySem.W.Frag} {q : List V → Hp → VK → Prop} {o : List Val → M Val} (ho : CaM K q o) {s : L2.St} {H : Hp} {Q : VK} (z : tE K (mCall o mt) s H Q) : tCB q (tA K mt) s H Q := by
  obtain ⟨r, h, sl, R, S, v, h', e, k⟩ := z
  obtain ⟨xs, g1, e1, e⟩ := bnd_ok e
  exact ⟨r, h, sl, R, S, xs, g1, e1, fun r1 H1 us k1 R1 q1 => ho r1 g1 H1 xs us v h' Q R1 q1 e (k.go k1)⟩
variable {x : Str} {p : Pos}
theorem se_callB {id : String} {q : List V → Hp → VK → Prop} {o : List Val → M Val} (hc : CallR X (.builtin id) q) (ho : CaM X.K q o) (hv : bootBuiltins x = some (.builtin id)) (hm : X.mg x = none) (ha : SA X (a :: es) mt) (hg : Gl X x := by rfl) (hn : x ≠ "__name__" := by decide) (hdb : (x == ("__debug__" : Str)) = false := by decide)
    (he : starEach (a :: es) X.env = (false, eval a X.env) :: starEach es X.env := by rfl) (hpl : (backTo pos (starEach es X.env)).any (·.1) = false := by rfl) : SE X (.Call (.Name x p) (a :: es) [] pos) (mCall o mt) :=
  PE.imp (pe_callB hc hg hm hv ha hn hdb he hpl) fun _ _ _ z => mCall_run ho z
theorem se_callTy {id : String} {q : List V → Hp → VK → Prop} {o : List Val → M Val} (hc : CallR X (.type id) q) (ho : CaM X.K q o) (hv : bootBuiltins x = some (.type id)) (hm : X.mg x = none) (ha : SA X (a :: es) mt) (hg : Gl X x := by rfl) (hn : x ≠ "__name__" := by decide) (hdb : (x == ("__debug__" : Str)) = false := by decide)
    (he : starEach (a :: es) X.env = (false, eval a X.env) :: starEach es X.env := by rfl) (hpl : (backTo pos (starEach es X.env)).any (·.1) = false := by rfl) : SE X (.Call (.Name x p) (a :: es) [] pos) (mCall o mt) :=
  PE.imp (pe_callTy hc hg hm hv ha hn hdb he hpl) fun _ _ _ z => mCall_run ho z
/-- one argument -/
theorem RVs.one {K : PySem.W.Frag} {r : List Addr} {H : Hp} {x : Val} {us : List V} (q : RVs K r H [x] us) : ∃ u, us = [u] ∧ RV K r H x u := by
  cases q with
  | cons a b => cases b; exact ⟨_, rfl, a⟩
theorem RVs.two {K : PySem.W.Frag} {r : List Addr} {H : Hp} {x y : Val} {us : List V} (q : RVs K r H [x, y] us) : ∃ u w, us = [u, w] ∧ RV K r H x u ∧ RV K r H y w := by
  cases q with
  | cons a b =>
    obtain ⟨w, e, q⟩ := b.one
    subst e
    exact ⟨_, _, rfl, a, q⟩
/-- len -/
def lenB (h : AH) : Val → Option Nat
  | .str x => if sizeOk x.length then some x.length else none
  | .tup xs => some xs.length
  | .ref n => (lstAt h n).map List.length
  | _ => none
def cLen : List Val → M Val
  | [x] => fun h => match lenB h x with
    | some n => .ok (.int n) h
    | none => .bad
  | _ => fail
theorem cm_len {K : PySem.W.Frag} : CaM K (fun xs H Q => ∃ x n, xs = [x] ∧ LenV K x H n ∧ Q (.int n) H) cLen := by
  intro r h H xs us z h' Q R q e k
  match xs, e with
  | [x], e =>
    obtain ⟨u, rfl, qx⟩ := q.one
    unfold cLen at e
    dsimp only at e
    cases q1 : lenB h x with
    | none => rw [q1] at e; cases e
    | some n =>
      rw [q1] at e
      cases e
      refine ⟨u, n, rfl, ?_, k.self R (.int _)⟩
      unfold lenB at q1
      cases qx with
      | str y =>
        dsimp only at q1
        split at q1
        · rename_i hs
          cases q1
          exact ⟨sizeOk_le hs, rfl⟩
        · cases q1
      | tup s t =>
        cases q1
        exact .inr ⟨_, s, t.length.symm⟩
      | ref ea =>
        rename_i m a
        dsimp only at q1
        cases q2 : lstAt h m with
        | none => rw [q2] at q1; cases q1
        | some ys =>
          rw [q2] at q1
          cases q1
          obtain ⟨us, s, t⟩ := R.lst q2 ea
          exact .inl ⟨us, s, t.length.symm⟩
      | _ => cases q1
theorem se_len (hm : X.mg "len" = none) (ha : SA X (a :: es) mt) (hg : Gl X "len" := by rfl) 
    (he : starEach (a :: es) X.env = (false, eval a X.env) :: starEach es X.env := by rfl) (hpl : (backTo pos (starEach es X.env)).any (·.1) = false := by rfl) : SE X (.Call (.Name "len" p) (a :: es) [] pos) (mCall cLen mt) :=
  se_callB call_len cm_len boot_len hm ha hg (by decide) (by decide) he hpl
/-- int, min, max, abs -/
def cInt : List Val → M Val
  | [.int i] => ret (.int i)
  | [.bl b] => ret (.int (if b then 1 else 0))
  | _ => fail
theorem cm_int {K : PySem.W.Frag} : CaM K (fun xs H Q => (∃ i, xs = [.int i] ∧ Q (.int i) H) ∨ ∃ k, xs = [.bl k] ∧ Q (.int (if k then 1 else 0)) H) cInt := by
  intro r h H xs us z h' Q R q e k
  match xs, e with
  | [.int i], e =>
    cases e
    obtain ⟨u, rfl, qx⟩ := q.one
    cases qx
    exact .inl ⟨i, rfl, k.self R (.int _)⟩
  | [.bl i], e =>
    cases e
    obtain ⟨u, rfl, qx⟩ := q.one
    cases qx
    exact .inr ⟨i, rfl, k.self R (.int _)⟩
theorem se_cint (hm : X.mg "int" = none) (ha : SA X (a :: es) mt) (hg : Gl X "int" := by rfl) 
    (he : starEach (a :: es) X.env = (false, eval a X.env) :: starEach es X.env := by rfl) (hpl : (backTo pos (starEach es X.env)).any (·.1) = false := by rfl) : SE X (.Call (.Name "int" p) (a :: es) [] pos) (mCall cInt mt) :=
  se_callTy call_int1 cm_int boot_int hm ha hg (by decide) (by decide) he hpl
def cMin2 : List Val → M Val
  | [.int i, .int j] => ret (.int (if j < i then j else i))
  | _ => fail
def cMax2 : List Val → M Val
  | [.int i, .int j] => ret (.int (if j > i then j else i))
  | _ => fail
theorem cm_min2 {K : PySem.W.Frag} : CaM K (fun xs H Q => ∃ i j, xs = [.int i, .int j] ∧ Q (.int (if j < i then j else i)) H) cMin2 := by
  intro r h H xs us z h' Q R q e k
  match xs, e with
  | [.int i, .int j], e =>
    cases e
    obtain ⟨u, w, rfl, qx, qy⟩ := q.two
    cases qx
    cases qy
    exact ⟨i, j, rfl, k.self R (.int _)⟩
theorem cm_max2 {K : PySem.W.Frag} : CaM K (fun xs H Q => ∃ i j, xs = [.int i, .int j] ∧ Q (.int (if j > i then j else i)) H) cMax2 := by
  intro r h H xs us z h' Q R q e k
  match xs, e with
  | [.int i, .int j], e =>
    cases e
    obtain ⟨u, w, rfl, qx, qy⟩ := q.two
    cases qx
    cases qy
    exact ⟨i, j, rfl, k.self R (.int _)⟩
theorem se_min2 (hc : X.calm = true) (hm : X.mg "min" = none) (ha : SA X (a :: es) mt) (hg : Gl X "min" := by rfl) 
    (he : starEach (a :: es) X.env = (false, eval a X.env) :: starEach es X.env := by rfl) (hpl : (backTo pos (starEach es X.env)).any (·.1) = false := by rfl) : SE X (.Call (.Name "min" p) (a :: es) [] pos) (mCall cMin2 mt) :=
  se_callB (call_min2 hc) cm_min2 (by decide +kernel) hm ha hg (by decide) (by decide) he hpl
theorem se_max2 (hc : X.calm = true) (hm : X.mg "max" = none) (ha : SA X (a :: es) mt) (hg : Gl X "max" := by rfl) 
    (he : starEach (a :: es) X.env = (false, eval a X.env) :: starEach es X.env := by rfl) (hpl : (backTo pos (starEach es X.env)).any (·.1) = false := by rfl) : SE X (.Call (.Name "max" p) (a :: es) [] pos) (mCall cMax2 mt) :=
  se_callB (call_max2 hc) cm_max2 (by decide +kernel) hm ha hg (by decide) (by decide) he hpl
/-- list(x) -/
def cList : List Val → M Val
  | [x] => fun h => match seqOf h x with
    | some xs => mNewL xs h
    | none => .bad
  | _ => fail
theorem cm_list {K : PySem.W.Frag} : CaM K (fun xs H Q => ∃ p ys, xs = [.ref p] ∧ (SqL K H p ys ∨ SqT K H p ys) ∧ ∀ l, H l = none → Q (.ref l) (upd H l (.lst ys))) cList := by
  intro r h H xs us z h' Q R q e k
  match xs, e with
  | [x], e =>
    obtain ⟨u, rfl, qx⟩ := q.one
    unfold cList at e
    dsimp only at e
    cases q1 : seqOf h x with
    | none => rw [q1] at e; cases e
    | some ys =>
      rw [q1] at e
      cases e
      obtain ⟨p, us, rfl, s, t⟩ := R.seq qx q1
      exact ⟨p, us, rfl, s, fun l nl => cn_list R t k nl⟩
theorem se_clist (hm : X.mg "list" = none) (ha : SA X (a :: es) mt) (hg : Gl X "list" := by rfl) 
    (he : starEach (a :: es) X.env = (false, eval a X.env) :: starEach es X.env := by rfl) (hpl : (backTo pos (starEach es X.env)).any (·.1) = false := by rfl) : SE X (.Call (.Name "list" p) (a :: es) [] pos) (mCall cList mt) :=
  se_callTy call_list_of cm_list (by decide +kernel) hm ha hg (by decide) (by decide) he hpl
/-! ### isinstance -/
def tyName (h : AH) : Val → Option String
  | .non => some "NoneType" | .bl _ => some "bool" | .int _ => some "int" | .str _ => some "str" | .tup _ => some "tuple"
  | .ref n => match h[n]? with
    | some (.lst _) => some "list"
    | some (.frz _) => some "list"
    | some (.dk _) => some "dict"
    | _ => none
def mIsi (T : String) (m : ME) : ME := fun sl => bnd (m sl) fun x h => match tyName h x with
  | some t => (match kitB t T with
    | some b => .ok (.bl b) h
    | none => .bad)
  | none => .bad
theorem sqt_ty {K : PySem.W.Frag} {H : Hp} {a : Addr} {us : List V} (s : SqT K H a us) : TyX K H (.ref a) (.type "tuple") := by
  rcases s with (s | ⟨o, s⟩) | ⟨o, its, n, s, c, _⟩
  · exact .base (.tup s)
  · exact .fTuple s
  · exact .kTuple s c
theorem Rel.ty {K : PySem.W.Frag} {r : List Addr} {h : AH} {H : Hp} {x : Val} {u : V} {t : String} (R : Rel K r h H) (q : RV K r H x u) (e : tyName h x = some t) : TyX K H u (.type t) := by
  cases q with
  | non => cases e; exact .base .non
  | bl b => cases e; exact .base (.bl b)
  | int i => cases e; exact .base (.int i)
  | str y => cases e; exact .base (.str y)
  | tup s _ => cases e; exact sqt_ty s
  | ref ea =>
    rename_i n a
    unfold tyName at e
    dsimp only at e
    cases q1 : h[n]? with
    | none => rw [q1] at e; cases e
    | some o =>
      rw [q1] at e
      have ro := R.ob n a o ea q1
      cases o with
      | lst xs =>
        cases e
        obtain ⟨us, f1, f2⟩ := ro
        exact .base (.lst f1)
      | frz xs =>
        cases e
        obtain ⟨us, f1, f2⟩ := ro
        rcases f1 with ⟨o, f1⟩ | ⟨o, its, n, f1, c, _⟩
        · exact .base (.frz f1)
        · exact .kList f1 c
      | dk xs =>
        cases e
        obtain ⟨us, f1, f2⟩ := ro
        exact .base (.dK f1)
theorem se_isi {T : String} {y : Str} {p2 : Pos} (hm : X.mg "isinstance" = none) (hmT : X.mg y = none) (hb : bootBuiltins y = some (.type T)) (ha : SE X a ma) (hg : Gl X "isinstance" := by rfl) (hgT : Gl X y := by rfl) (hny : y ≠ "__name__" := by decide) (hdy : (y == ("__debug__" : Str)) = false := by decide)
    (he : starEach [a, .Name y p2] X.env = (false, eval a X.env) :: starEach [.Name y p2] X.env := by rfl) (he2 : starEach [.Name y p2] X.env = (false, eval (.Name y p2) X.env) :: starEach [] X.env := by rfl) (hpl : (backTo pos (starEach [.Name y p2] X.env)).any (·.1) = false := by rfl) : SE X (.Call (.Name "isinstance" p) [a, .Name y p2] [] pos) (mIsi T ma) :=
  PE.imp (pe_callB call_isi hg hm (by decide +kernel) (pa_cons ha (pa_cons (pe_bltn (v := .ty T) hgT hmT hb rfl hny hdy) pa_nil he2) he) (by decide) (by decide) he hpl) fun s H Q ⟨r, h, sl, R, S, v, h', e, k⟩ => by
    obtain ⟨x, g1, e1, e⟩ := bnd_ok e
    refine ⟨r, h, sl, R, S, x, g1, e1, fun r1 H1 u k1 R1 q1 => ?_⟩
    cases q2 : tyName g1 x with
    | none => rw [q2] at e; cases e
    | some t =>
      rw [q2] at e
      dsimp only at e
      cases q3 : kitB t T with
      | none => rw [q3] at e; cases e
      | some b =>
        rw [q3] at e
        cases e
        exact ⟨u, .ty T, .type t, .type T, b, rfl, .ty T, R1.ty q1 q2, kit_ty q3, (k.go k1).self R1 (.bl b)⟩
/-! ### items, slices -/
def oIx (x y : Val) : M Val := match y with
  | .int i => (match x with
    | .str z => (match atI z.cps.toList i with
      | some c => if sizeOk z.length then ret (.str ⟨#[c]⟩) else fail
      | none => fail)
    | x => fun h => match seqOf h x with
      | some xs => (match atI xs i with
        | some v => .ok v h
        | none => .bad)
      | none => .bad)
  | _ => fail
theorem RVs.atI {K : PySem.W.Frag} {r : List Addr} {H : Hp} {xs : List Val} {us : List V} {i : Int} {v : Val} (q : RVs K r H xs us) (e : L2.atI xs i = some v) : ∃ u, L2.atI us i = some u ∧ RV K r H v u := by
  unfold L2.atI at e ⊢
  rw [q.length]
  cases q1 : ixN xs.length i with
  | none => rw [q1] at e; cases e
  | some j =>
    rw [q1] at e
    obtain ⟨u, e1, e2⟩ := q.get (i := j) e
    exact ⟨u, e1, e2⟩
theorem om_ix {K : PySem.W.Frag} : OpM K (rIx K) oIx := by
  intro r h H x y u w z h' Q R qx qy e k
  cases qy with
  | int i =>
    unfold oIx at e
    dsimp only at e
    have gen : ∀ xs, seqOf h x = some xs → (match L2.atI xs i with
        | some v => Res.ok v h
        | none => Res.bad) = Res.ok z h' → rIx K u (.int i) H Q := fun xs es e => by
      cases q1 : L2.atI xs i with
      | none => rw [q1] at e; cases e
      | some v =>
        rw [q1] at e
        cases e
        obtain ⟨p, us, rfl, s, t⟩ := R.seq qx es
        obtain ⟨u', f1, f2⟩ := t.atI q1
        rcases s with s | s
        · exact .inl ⟨p, us, i, u', rfl, rfl, s, f1, k.self R f2⟩
        · exact .inr (.inl ⟨p, us, i, u', rfl, rfl, s, f1, k.self R f2⟩)
    cases qx with
    | str y =>
      dsimp only at e
      cases q1 : L2.atI y.cps.toList i with
      | none => rw [q1] at e; cases e
      | some c =>
        rw [q1] at e
        dsimp only at e
        split at e
        · rename_i hs
          cases e
          exact .inr (.inr ⟨y, i, c, rfl, rfl, sizeOk_le hs, q1, k.self R (.str _)⟩)
        · cases e
    | tup s t => exact gen _ rfl e
    | ref ea =>
      rename_i n a
      dsimp only at e
      cases q1 : seqOf h (.ref n) with
      | none => rw [q1] at e; cases e
      | some xs =>
        rw [q1] at e
        exact gen _ q1 e
    | _ => cases e
  | _ => cases e
theorem se_ix (ha : SE X a ma) (hb : SE X b mb) (hs : PlainIx b := by exact fun _ _ => rfl) : SE X (.Subscript a b pos) (mOp oIx ma mb) := PE.imp (pe_ix ix_seq ha hb hs) fun _ _ _ z => opm_run om_ix z
/-- parts of slices -/
def tO (K : PySem.W.Frag) (m : MO) : TO := fun s H Q => ∃ r h sl, Rel K r h H ∧ RSl K r H sl s ∧ ∃ o h', m sl h = .ok o h' ∧ ∀ r' H', Go r H r' H' → Rel K r' h' H' → Q o H'
abbrev SO (X : Cx) (e : Option Expr) (m : MO) : Prop := PO X e (tO X.K m)
def mNoPart : MO := fun _ => ret none
def mPart (m : ME) : MO := fun sl => bnd (m sl) fun v => match v with
  | .int i => ret (some i)
  | _ => fail
theorem PO.imp {X : Cx} {e : Option Expr} {t t' : TO} (p : PO X e t) (h : ∀ s H Q, t' s H Q → t s H Q) : PO X e t' := ⟨fun pins s σ H Q I q => p.run pins s σ H Q I (h σ H Q q)⟩
theorem so_none : SO X none mNoPart := PO.imp po_none fun s H Q ⟨r, h, sl, R, S, o, h', e, k⟩ => by
  cases e
  exact k r H (Go.refl r H) R
theorem so_some (ha : SE X a ma) : SO X (some a) (mPart ma) := PO.imp (po_some ha) fun s H Q ⟨r, h, sl, R, S, o, h', e, k⟩ => by
  obtain ⟨x, g1, e1, e⟩ := bnd_ok e
  refine ⟨r, h, sl, R, S, x, g1, e1, fun r1 H1 u k1 R1 q1 => ?_⟩
  cases q1 with
  | int i =>
    cases e
    exact ⟨i, rfl, k r1 H1 k1 R1⟩
  | _ => cases e
def cutL {α : Type} (xs : List α) (lo hi : Option Int) : List α := (xs.drop (HT.sIx xs.length 0 lo)).take (HT.sIx xs.length xs.length hi - HT.sIx xs.length 0 lo)
def oSl (x : Val) (lo hi : Option Int) : M Val := match x with
  | .str z => if sizeOk z.length then ret (.str (cutS z lo hi)) else fail
  | .tup xs => if decide (HT.sIx xs.length 0 lo = 0 ∧ HT.sIx xs.length xs.length hi = xs.length) then fail else ret (.tup (cutL xs lo hi))
  | .ref n => fun h => match lstAt h n with
    | some xs => mNewL (cutL xs lo hi) h
    | none => .bad
  | _ => fail
def mSl (m : ME) (l u : MO) : ME := fun sl => bnd (m sl) fun x => bnd (l sl) fun lo => bnd (u sl) fun hi => oSl x lo hi
theorem RVs.cut {K : PySem.W.Frag} {r : List Addr} {H : Hp} {xs : List Val} {us : List V} (q : RVs K r H xs us) (lo hi : Option Int) : RVs K r H (cutL xs lo hi) (cutV us lo hi) := by
  unfold cutL cutV
  rw [q.length]
  exact (q.drop _).take _
variable {lo hi : Option Expr} {ml mh : MO}
theorem se_sl {p2 : Pos} (ha : SE X a ma) (hl : SO X lo ml) (hh : SO X hi mh) : SE X (.Subscript a (.Slice lo hi none p2) pos) (mSl ma ml mh) := PE.imp (pe_slice ((sl_list.or sl_tup).or sl_str) ha hl hh) fun s H Q ⟨r, h, sl, R, S, v, h', e, k⟩ => by
  obtain ⟨x, g1, e1, e⟩ := bnd_ok e
  obtain ⟨l, g2, e2, e⟩ := bnd_ok e
  obtain ⟨m, g3, e3, e⟩ := bnd_ok e
  refine ⟨r, h, sl, R, S, x, g1, e1, fun r1 H1 u k1 R1 q1 => ⟨r1, g1, sl, R1, S.go k1, l, g2, e2, fun r2 H2 k2 R2 => ⟨r2, g2, sl, R2, S.go (k1.trans k2), m, g3, e3, fun r3 H3 k3 R3 => ?_⟩⟩⟩
  have q3 := q1.go (k2.trans k3)
  have kk := k.go (k1.trans (k2.trans k3))
  unfold oSl at e
  cases q3 with
  | str y =>
    dsimp only at e
    split at e
    · rename_i hs
      cases e
      exact .inr ⟨y, rfl, sizeOk_le hs, kk.self R3 (.str _)⟩
    · cases e
  | tup s t =>
    dsimp only at e
    split at e
    · cases e
    · rename_i hs
      cases e
      refine .inl (.inr ⟨_, _, rfl, s, ?_, fun p np => cn_tup R3 (t.cut l m) kk np⟩)
      rw [t.length]
      exact fun z => hs (decide_eq_true z)
  | @ref n a ea =>
    dsimp only at e
    cases q4 : lstAt g3 n with
    | none => rw [q4] at e; cases e
    | some xs =>
      rw [q4] at e
      cases e
      obtain ⟨us, s, t⟩ := R3.lst q4 ea
      exact .inl (.inl ⟨a, us, rfl, s, fun p np => cn_list R3 (t.cut l m) kk np⟩)
  | _ => cases e
end
end Mr

set_option Elab.async false
set_option linter.all false
set_option maxRecDepth 100000
set_option maxHeartbeats 1000000
namespace Mr
open PySem PySem.Spec PyProof.Rows L2
/-! ### targets -/
inductive Pat where
  | nm (i : Nat)
  | tp (ps : List Pat)
mutual
def Pat.bd : Pat → Val → Sl → Option Sl
  | .nm i, v, sl => some (sl.set i (some v))
  | .tp ps, .tup xs, sl => if xs.length = ps.length then Pat.bds ps xs sl else none
  | .tp _, _, _ => none
def Pat.bds : List Pat → List Val → Sl → Option Sl
  | [], _, sl => some sl
  | p :: ps, x :: xs, sl => match Pat.bd p x sl with
    | some sl1 => Pat.bds ps xs sl1
    | none => none
  | _ :: _, [], _ => none
end
mutual
def Pat.tg (K : PySem.W.Frag) : Pat → TG
  | .nm i => gName i
  | .tp ps => gTup K ps.length (Pat.tgs K ps)
def Pat.tgs (K : PySem.W.Frag) : List Pat → TGs
  | [] => gNil
  | p :: ps => gCons (Pat.tg K p) (Pat.tgs K ps)
end
mutual
def Pat.names : Pat → List Nat
  | .nm i => [i]
  | .tp ps => Pat.namess ps
def Pat.namess : List Pat → List Nat
  | [] => []
  | p :: ps => Pat.names p ++ Pat.namess ps
end
theorem wipe_set {s : L2.St} {i : Nat} {v : Option V} : ∀ {vs : List Nat}, i ∈ vs → wipe (s.set i v) vs = wipe s vs
  | j :: vs, h => by
    unfold wipe
    by_cases hj : i ∈ vs
    · rw [wipe_set hj]
    · have e : i = j := by
        rcases List.mem_cons.mp h with e | e
        · exact e
        · exact absurd e hj
      subst e
      have out : ∀ {ws : List Nat}, i ∉ ws → wipe (s.set i v) ws = (wipe s ws).set i v := fun {ws} => by
        induction ws with
        | nil => intro _; rfl
        | cons k ws ih =>
          intro hk
          unfold wipe
          have h1 : i ≠ k := fun z => hk (by rw [z]; exact List.mem_cons_self)
          rw [ih fun z => hk (List.mem_cons_of_mem _ z), List.set_comm _ _ h1]
      rw [out hj, List.set_set]
section
variable {K : PySem.W.Frag} {r : List Addr} {H : Hp}
mutual
theorem Pat.run : ∀ (p : Pat) {v : Val} {u : V} {sl sl' : Sl} {s : L2.St}, RV K r H v u → RSl K r H sl s → p.bd v sl = some sl' →
    ∃ s', RSl K r H sl' s' ∧ (∀ vs : List Nat, (∀ i ∈ p.names, i ∈ vs) → wipe s' vs = wipe s vs) ∧ ∀ Q : L2.St → Hp → Prop, Q s' H → p.tg K u s H Q
  | .nm i, v, u, sl, sl', s, q, S, e => by
    unfold Pat.bd at e
    cases e
    exact ⟨s.set i (some u), S.set q, fun vs h => wipe_set (h i (by unfold Pat.names; exact List.mem_cons_self)), fun Q k => by unfold Pat.tg; exact k⟩
  | .tp ps, v, u, sl, sl', s, q, S, e => by
    cases q with
    | tup t1 t2 =>
      unfold Pat.bd at e
      split at e
      · rename_i hl
        obtain ⟨s', S', w', k'⟩ := Pat.runs ps t2 S e
        refine ⟨s', S', fun vs h => w' vs (by unfold Pat.names at h; exact h), fun Q k => ?_⟩
        unfold Pat.tg
        exact ⟨_, _, rfl, t1, by rw [t2.length]; exact hl, k' Q (by rw [t2.length]; exact hl) k⟩
      · cases e
    | _ => unfold Pat.bd at e; cases e
theorem Pat.runs : ∀ (ps : List Pat) {xs : List Val} {us : List V} {sl sl' : Sl} {s : L2.St}, RVs K r H xs us → RSl K r H sl s → Pat.bds ps xs sl = some sl' →
    ∃ s', RSl K r H sl' s' ∧ (∀ vs : List Nat, (∀ i ∈ Pat.namess ps, i ∈ vs) → wipe s' vs = wipe s vs) ∧ ∀ Q : L2.St → Hp → Prop, us.length = ps.length → Q s' H → Pat.tgs K ps us s H Q
  | [], xs, us, sl, sl', s, q, S, e => by
    unfold Pat.bds at e
    cases e
    refine ⟨s, S, fun _ _ => rfl, fun Q hl k => ?_⟩
    unfold Pat.tgs
    exact ⟨List.eq_nil_of_length_eq_zero hl, k⟩
  | p :: ps, xs, us, sl, sl', s, q, S, e => by
    cases q with
    | nil => unfold Pat.bds at e; cases e
    | cons q1 q2 =>
      rename_i x u xs us
      unfold Pat.bds at e
      cases e1 : p.bd x sl with
      | none => rw [e1] at e; cases e
      | some sl1 =>
        rw [e1] at e
        obtain ⟨s1, S1, w1, k1⟩ := Pat.run p q1 S e1
        obtain ⟨s2, S2, w2, k2⟩ := Pat.runs ps q2 S1 e
        refine ⟨s2, S2, fun vs h => ?_, fun Q hl k => ?_⟩
        · unfold Pat.namess at h
          rw [w2 vs fun i hi => h i (List.mem_append_right _ hi), w1 vs fun i hi => h i (List.mem_append_left _ hi)]
        · unfold Pat.tgs
          exact ⟨u, us, rfl, k1 _ (k2 Q (by simpa using hl) k)⟩
end
end
section
variable {X : Cx} {pos : Pos}
abbrev SG (X : Cx) (e : Expr) (p : Pat) : Prop := PG X e (p.tg X.K)
abbrev SGs (X : Cx) (es : List Expr) (ps : List Pat) : Prop := PGs X es (Pat.tgs X.K ps)
theorem sg_nm {i : Nat} {x : Str} (hN : X.N.Nodup) (hi : X.N[i]? = some x := by rfl) (hx : Loc X.env.scope x := by first | exact Or.inl rfl | exact Or.inr rfl) (hf : X.fn x = true ∨ X.env.scope.names.lookup x = some .local := by first | exact .inl rfl | exact .inr rfl) : SG X (.Name x pos) (.nm i) := by
  have q := pg_name (pos := pos) hN hi hx hf
  show PG X _ (Pat.tg X.K (.nm i))
  unfold Pat.tg
  exact q
theorem sgs_nil : SGs X [] [] := by
  show PGs X _ (Pat.tgs X.K [])
  unfold Pat.tgs
  exact pgs_nil
theorem sgs_cons {e : Expr} {es : List Expr} {p : Pat} {ps : List Pat} (h1 : SG X e p) (h2 : SGs X es ps) (hs : (assignEach (e :: es) X.env).map (·.2) = assign e X.env :: (assignEach es X.env).map (·.2) := by rfl) : SGs X (e :: es) (p :: ps) := by
  show PGs X _ (Pat.tgs X.K (p :: ps))
  unfold Pat.tgs
  exact pgs_cons h1 h2 hs
theorem sg_tp {es : List Expr} {k : Nat} {ps : List Pat} (hc : X.calm = true) (h : SGs X es ps) (hn : (assignEach es X.env).length = ps.length := by rfl) (hst : (assignEach es X.env).findIdx? (·.1) = none := by rfl) : SG X (.Tuple es k pos) (.tp ps) := by
  show PG X _ (Pat.tg X.K (.tp ps))
  unfold Pat.tg
  exact pg_tup hc h hn hst
/-! ### statements -/
variable {e : Expr} {m : ME} {st : Stmt} {rest : List Stmt} {ms mu : MS}
def mNext : MS := fun sl => ret (.nx sl)
def mSeq (a b : MS) : MS := fun sl => bnd (a sl) fun f => match f with
  | .nx sl1 => b sl1
  | f => ret f
theorem FlK.go {K : PySem.W.Frag} {D : Ends} {r : List Addr} {H : Hp} {f : Fl} (x : FlK K D r H f) : FlK K D r H f := x
theorem sss_nil : SSs X [] mNext := PSs.imp pss_nil fun D s H ⟨r, h, sl, R, S, f, h', e, k⟩ => by
  cases e
  exact k r H (Go.refl r H) R s S
theorem sss_cons (h1 : SS X st ms) (h2 : SSs X rest mu) : SSs X (st :: rest) (mSeq ms mu) := PSs.imp (pss_cons h1 h2) fun D s H ⟨r, h, sl, R, S, f, h', e, k⟩ => by
  obtain ⟨f1, g1, e1, e⟩ := bnd_ok e
  refine ⟨r, h, sl, R, S, f1, g1, e1, fun r1 H1 k1 R1 => ?_⟩
  cases f1 with
  | nx sl1 => exact fun s1 S1 => ⟨r1, g1, sl1, R1, S1, f, h', e, fun r2 H2 k2 R2 => k r2 H2 (k1.trans k2) R2⟩
  | rt v => cases e; exact k r1 H1 k1 R1
  | bk v => cases e; exact k r1 H1 k1 R1
  | ct v => cases e; exact k r1 H1 k1 R1
theorem sss_one (h1 : SS X st ms) : SSs X [st] ms := pss_one h1
def mBreak : MS := fun sl => ret (.bk sl)
def mCont : MS := fun sl => ret (.ct sl)
theorem ss_pass : SS X (.Pass pos) mNext := PS.imp ps_pass fun D s H ⟨r, h, sl, R, S, f, h', e, k⟩ => by
  cases e
  exact k r H (Go.refl r H) R s S
theorem ss_break : SS X (.Break pos) mBreak := PS.imp ps_break fun D s H ⟨r, h, sl, R, S, f, h', e, k⟩ => by
  cases e
  exact k r H (Go.refl r H) R s S
theorem ss_cont : SS X (.Continue pos) mCont := PS.imp ps_continue fun D s H ⟨r, h, sl, R, S, f, h', e, k⟩ => by
  cases e
  exact k r H (Go.refl r H) R s S
def mDrop (m : ME) : MS := fun sl => bnd (m sl) fun _ => ret (.nx sl)
theorem ss_expr (he : SE X e m) (hs : swapsWith e none pos.line X.env = pure false := by rfl) : SS X (.Expr e pos) (mDrop m) := PS.imp (ps_expr he hs) fun D s H ⟨r, h, sl, R, S, f, h', e, k⟩ => by
  obtain ⟨x, g1, e1, e⟩ := bnd_ok e
  cases e
  exact ⟨r, h, sl, R, S, x, _, e1, fun r1 H1 u k1 R1 q1 => k r1 H1 k1 R1 s (S.go k1)⟩
def mRet (m : ME) : MS := fun sl => bnd (m sl) fun v => ret (.rt v)
theorem ss_ret (he : SE X e m) : SS X (.Return (some e) pos) (mRet m) := PS.imp (ps_ret he) fun D s H ⟨r, h, sl, R, S, f, h', e, k⟩ => by
  obtain ⟨x, g1, e1, e⟩ := bnd_ok e
  cases e
  exact ⟨r, h, sl, R, S, x, _, e1, fun r1 H1 u k1 R1 q1 => k r1 H1 k1 R1 u q1⟩
theorem ss_retN : SS X (.Return none pos) (fun _ => ret (.rt .non)) := PS.imp ps_retN fun D s H ⟨r, h, sl, R, S, f, h', e, k⟩ => by
  cases e
  exact k r H (Go.refl r H) R .non .non
def mIfS (t : MT) (a b : MS) : MS := fun sl => bnd (t sl) fun c => if c = true then a sl else b sl
theorem ss_if {c : Expr} {p q : List Stmt} {t : MT} (hc : ST X c t) (ha : SSs X p ms) (hb : SSs X q mu) : SS X (.If c p q pos) (mIfS t ms mu) := PS.imp (ps_if hc ha hb) fun D s H ⟨r, h, sl, R, S, f, h', e, k⟩ => by
  obtain ⟨c, g1, e1, e⟩ := bnd_ok e
  refine ⟨r, h, sl, R, S, c, g1, e1, fun r1 H1 k1 R1 => ?_⟩
  cases c with
  | true => exact iteT ⟨r1, g1, sl, R1, S.go k1, f, h', e, fun r2 H2 k2 R2 => k r2 H2 (k1.trans k2) R2⟩
  | false => exact iteF ⟨r1, g1, sl, R1, S.go k1, f, h', e, fun r2 H2 k2 R2 => k r2 H2 (k1.trans k2) R2⟩
def mNever : MS := fun _ => fail
theorem ss_never : SS X st mNever := PS.imp ps_never fun D s H ⟨r, h, sl, R, S, f, h', e, k⟩ => by cases e
/-- name = e -/
def mSet (i : Nat) (m : ME) : MS := fun sl => bnd (m sl) fun v => ret (.nx (sl.set i (some v)))
theorem mSet_run {K : PySem.W.Frag} {i : Nat} {D : Ends} {s : L2.St} {H : Hp} (z : tS K (mSet i m) D s H) : tAsg (tE K m) (gName i) D s H := by
  obtain ⟨r, h, sl, R, S, f, h', e, k⟩ := z
  obtain ⟨x, g1, e1, e⟩ := bnd_ok e
  cases e
  exact ⟨r, h, sl, R, S, x, _, e1, fun r1 H1 u k1 R1 q1 => k r1 H1 k1 R1 _ ((S.go k1).set q1)⟩
theorem ss_set {i : Nat} {x : Str} {pos' : Pos} (hN : X.N.Nodup) (he : SE X e m) (hi : X.N[i]? = some x := by rfl) (hx : Loc X.env.scope x := by first | exact Or.inl rfl | exact Or.inr rfl) (hs : swapsWith e (some (.Name x pos')) pos.line X.env = pure false := by rfl) (hf : X.fn x = true ∨ X.env.scope.names.lookup x = some .local := by first | exact .inl rfl | exact .inr rfl) :
    SS X (.Assign [.Name x pos'] e pos) (mSet i m) := PS.imp (ps_set hN hi hx he hs hf) fun _ _ _ z => mSet_run z
/-- pattern = e -/
def mAsg (p : Pat) (m : ME) : MS := fun sl => bnd (m sl) fun v => match p.bd v sl with
  | some sl1 => ret (.nx sl1)
  | none => fail
theorem ss_asg {tg : Expr} {p : Pat} (he : SE X e m) (hg : SG X tg p) (hs : swapsWithSole [tg] e pos.line X.env = pure false := by rfl) (hw : swappedStores [tg] e X.env = pure none := by rfl)
    (h1 : (assignEach [tg] X.env).map (·.2) = [assign tg X.env] := by rfl) : SS X (.Assign [tg] e pos) (mAsg p m) := PS.imp (ps_asg he hg hs hw h1) fun D s H ⟨r, h, sl, R, S, f, h', e, k⟩ => by
  obtain ⟨x, g1, e1, e⟩ := bnd_ok e
  cases e2 : p.bd x sl with
  | none => rw [e2] at e; cases e
  | some sl1 =>
    rw [e2] at e
    cases e
    refine ⟨r, h, sl, R, S, x, _, e1, fun r1 H1 u k1 R1 q1 => ?_⟩
    obtain ⟨s', S', _, kk⟩ := Pat.run p q1 (S.go k1) e2
    exact kk D.nx (k r1 H1 k1 R1 s' S')
/-- a, b = x, y -/
def mPar (i j : Nat) (t : MA) : MS := fun sl => bnd (t sl) fun vs => match vs with
  | [v, w] => ret (.nx ((sl.set i (some v)).set j (some w)))
  | _ => fail
theorem ss_par {i j : Nat} {x y : Str} {a b : Expr} {mt : MA} {px py pt : Pos} {kt k2 pt2} (hc : X.calm = true) (hN : X.N.Nodup) (ha : SA X [a, b] mt) (hi : X.N[i]? = some x := by rfl) (hj : X.N[j]? = some y := by rfl) (hij : i ≠ j := by decide)
    (hx : X.env.scope.names.lookup x = some .local := by rfl) (hy : X.env.scope.names.lookup y = some .local := by rfl)
    (hw : swappedStores [.Tuple [.Name x px, .Name y py] kt pt] (.Tuple [a, b] k2 pt2) X.env = pure (some [x, y]) := by rfl)
    (hs : swapsWithSole [.Tuple [.Name x px, .Name y py] kt pt] (.Tuple [a, b] k2 pt2) pos.line X.env = pure false := by rfl) :
    SS X (.Assign [.Tuple [.Name x px, .Name y py] kt pt] (.Tuple [a, b] k2 pt2) pos) (mPar i j mt) := PS.imp (ps_par hc hN hi hj hij hx hy ha hw hs) fun D s H ⟨r, h, sl, R, S, f, h', e, k⟩ => by
  obtain ⟨vs, g1, e1, e⟩ := bnd_ok e
  match vs, e with
  | [v, w], e =>
    cases e
    refine ⟨r, h, sl, R, S, _, _, e1, fun r1 H1 us k1 R1 q1 => ?_⟩
    obtain ⟨u, z, rfl, q2, q3⟩ := q1.two
    exact ⟨u, z, rfl, k r1 H1 k1 R1 _ (((S.go k1).set q2).set q3)⟩
/-- o[i] = e -/
def stL (o i v : Val) : M Unit := match o, i with
  | .ref n, .int z => fun h => match mutAt h n with
    | some xs => (match ixN xs.length z with
      | some j => .ok () (h.set n (.lst (xs.set j v)))
      | none => .bad)
    | none => .bad
  | _, _ => fail
def mSub (mo mi m : ME) : MS := fun sl => bnd (m sl) fun v => bnd (mo sl) fun o => bnd (mi sl) fun i => bnd (stL o i v) fun _ => ret (.nx sl)
theorem ss_sub {o i : Expr} {mo mi : ME} {pos' : Pos} (ho : SE X o mo) (hi : SE X i mi) (he : SE X e m)
    (ha : ∀ v, assign (.Subscript o i pos') X.env v = (do
      let ov ← holding [v] (eval o X.env)
      let iv ← holding [v, ov] (eval i X.env)
      standAt pos'
      holding [v, ov, iv] (setItem ov iv v)
      release [v, ov, iv] []) := by intro _; rfl) (hs : swapsWithSole [.Subscript o i pos'] e pos.line X.env = pure false := by rfl) (hw : swappedStores [.Subscript o i pos'] e X.env = pure none := by rfl)
    (h1 : (assignEach [.Subscript o i pos'] X.env).map (·.2) = [assign (.Subscript o i pos') X.env] := by rfl) : SS X (.Assign [.Subscript o i pos'] e pos) (mSub mo mi m) := PS.imp (ps_asg he (pg_sub ho hi set_list ha) hs hw h1) fun D s H ⟨r, h, sl, R, S, f, h', e, k⟩ => by
  obtain ⟨v, g1, e1, e⟩ := bnd_ok e
  obtain ⟨o, g2, e2, e⟩ := bnd_ok e
  obtain ⟨i, g3, e3, e⟩ := bnd_ok e
  obtain ⟨_, g4, e4, e⟩ := bnd_ok e
  cases e
  refine ⟨r, h, sl, R, S, v, g1, e1, fun r1 H1 u k1 R1 q1 => ⟨r1, g1, sl, R1, S.go k1, o, g2, e2, fun r2 H2 w k2 R2 q2 => ⟨r2, g2, sl, R2, S.go (k1.trans k2), i, g3, e3, fun r3 H3 z k3 R3 q3 => ?_⟩⟩⟩
  have q2' := q2.go k3
  have q1' := q1.go (k2.trans k3)
  have S3 := S.go (k1.trans (k2.trans k3))
  unfold stL at e4
  cases q2' with
  | @ref n a ea => cases q3 with
    | int j =>
      dsimp only at e4
      cases q4 : mutAt g3 n with
      | none => rw [q4] at e4; cases e4
      | some xs =>
        rw [q4] at e4
        dsimp only at e4
        cases q5 : ixN xs.length j with
        | none => rw [q5] at e4; cases e4
        | some l =>
          rw [q5] at e4
          cases e4
          obtain ⟨f0, us, f1, f2⟩ := R3.mut q4 ea
          refine ⟨a, us, j, l, rfl, rfl, f1, by rw [f2.length]; exact q5, ?_⟩
          exact cn_set (Q := fun H' => D.nx s H') R3 ea f0 f1 (f2.set q1' l) fun H4 k4 R4 => k r3 H4 (k1.trans (k2.trans (k3.trans k4))) R4 s (S3.go k4)
    | _ => cases e4
  | _ => cases e4
/-- name op= e (ints, texts) -/
def mAug (i : Nat) (o : Val → Val → M Val) (m : ME) : MS := fun sl => match sl[i]? with
  | some (some x) => bnd (m sl) fun y => bnd (o x y) fun z => ret (.nx (sl.set i (some z)))
  | _ => fail
theorem ss_aug {i : Nat} {x : Str} {op : Operator} {q : R2} {o : Val → Val → M Val} {pos' : Pos} (hN : X.N.Nodup) (hp : OpR X (inplaceOp op) q) (ho : OpM X.K q o) (he : SE X e m) (hi : X.N[i]? = some x := by rfl) (hx : Loc X.env.scope x := by first | exact Or.inl rfl | exact Or.inr rfl) (hf : X.fn x = true ∨ X.env.scope.names.lookup x = some .local := by first | exact .inl rfl | exact .inr rfl) :
    SS X (.AugAssign (.Name x pos') op e pos) (mAug i o m) := by
  refine PS.imp (ps_aug (ti := q) hN hi hx he (fun pins s σ H x y v u Q I r1 r2 h => hp pins s σ H x y v u Q I r1 r2 h) hf) fun D s H ⟨r, h, sl, R, S, f, h', e, k⟩ => ?_
  unfold mAug at e
  cases q1 : sl[i]? with
  | none => rw [q1] at e; cases e
  | some w =>
    rw [q1] at e
    cases w with
    | none => cases e
    | some x =>
      obtain ⟨y, g1, e1, e⟩ := bnd_ok e
      obtain ⟨z, g2, e2, e⟩ := bnd_ok e
      cases e
      obtain ⟨ux, f1, f2⟩ := S.2 i x q1
      exact ⟨ux, f1, r, h, sl, R, S, y, g1, e1, fun r1 H1 u k1 R1 q2 => ho r1 g1 H1 x y ux u z _ _ R1 (f2.go k1) q2 e2 fun r2 H2 w k2 R2 q3 => k r2 H2 (k1.trans k2) R2 _ ((S.go (k1.trans k2)).set q3)⟩
def oAug : Val → Val → M Val
  | .int i, .int j => ret (.int (i + j))
  | .str x, .str y => if sizeOk (x.length + y.length) then ret (.str (x ++ y)) else fail
  | _, _ => fail
theorem om_aug {K : PySem.W.Frag} : OpM K (fun x y H Q => rI0 (fun i j => .int (i + j)) x y H Q ∨ (∃ i j, x = .str i ∧ y = .str j ∧ i.length + j.length ≤ sizeLine ∧ Q (.str (i ++ j)) H)) oAug := by
  intro r h H x y u w z h' Q R qx qy e k
  cases qx with
  | int i => cases qy with
    | int j => cases e; exact .inl ⟨i, j, rfl, rfl, k.self R (.int _)⟩
    | _ => cases e
  | str x => cases qy with
    | str y =>
      unfold oAug at e
      dsimp only at e
      split at e
      · rename_i hs
        cases e
        exact .inr ⟨x, y, rfl, rfl, sizeOk_le hs, k.self R (.str _)⟩
      · cases e
    | _ => cases e
  | _ => cases e
theorem ss_augadd {i : Nat} {x : Str} {pos' : Pos} (hN : X.N.Nodup) (he : SE X e m) (hi : X.N[i]? = some x := by rfl) (hx : Loc X.env.scope x := by first | exact Or.inl rfl | exact Or.inr rfl) (hf : X.fn x = true ∨ X.env.scope.names.lookup x = some .local := by first | exact .inl rfl | exact .inr rfl) :
    SS X (.AugAssign (.Name x pos') .Add e pos) (mAug i oAug m) := ss_aug hN (iop_add.or iop_add_str) om_aug he hi hx hf
theorem ss_augsub {i : Nat} {x : Str} {pos' : Pos} (hN : X.N.Nodup) (he : SE X e m) (hi : X.N[i]? = some x := by rfl) (hx : Loc X.env.scope x := by first | exact Or.inl rfl | exact Or.inr rfl) (hf : X.fn x = true ∨ X.env.scope.names.lookup x = some .local := by first | exact .inl rfl | exact .inr rfl) :
    SS X (.AugAssign (.Name x pos') .Sub e pos) (mAug i oSub m) := ss_aug hN iop_sub (om_I0 oI0_o (fun _ _ _ _ => .int _) oI0_n) he hi hx hf
end
end Mr

set_option Elab.async false
set_option linter.all false
set_option maxRecDepth 100000
set_option maxHeartbeats 1000000
namespace Mr
open PySem PySem.Spec PyProof.Rows L2
/-! ### while -/
theorem fuel_ex : ∃ n : Nat, 1000000 ≤ n := ⟨1000000, Nat.le_refl _⟩
/-- how many turns a loop of the mirror may take: more than a million (no number that the kernel could unroll) -/
noncomputable def FUEL : Nat := Classical.choose fuel_ex
theorem FUEL_le : 1000000 ≤ FUEL := Classical.choose_spec fuel_ex
def whileL (t : MT) (body : MS) : Nat → MS
  | 0 => fun _ => fail
  | n + 1 => fun sl h => match t sl h with
    | .bad => .bad
    | .ok false h1 => .ok (.nx sl) h1
    | .ok true h1 => match body sl h1 with
      | .bad => .bad
      | .ok (.nx sl2) h2 => whileL t body n sl2 h2
      | .ok (.ct sl2) h2 => whileL t body n sl2 h2
      | .ok (.bk sl2) h2 => .ok (.nx sl2) h2
      | .ok (.rt v) h2 => .ok (.rt v) h2
section
variable {X : Cx} {pos : Pos}
theorem ss_while {c : Expr} {body : List Stmt} {t : MT} {mb : MS} (hp : PassesOwn (model X.prog X.w) X.A X.env X.xe) (hc : ST X c t) (hb : SSs X body mb) : SS X (.While c body [] pos) (whileL t mb FUEL) := by
  refine PS.imp (ps_while hp hc hb) fun D s H ⟨r, h, sl, R, S, f, h', e, k⟩ => ?_
  refine ⟨fun n s H => ∃ r h sl f h', Rel X.K r h H ∧ RSl X.K r H sl s ∧ whileL t mb n sl h = .ok f h' ∧ ∀ r' H', Go r H r' H' → Rel X.K r' h' H' → FlK X.K D r' H' f, ⟨FUEL, r, h, sl, f, h', R, S, e, k⟩, ?_⟩
  rintro n s H ⟨r, h, sl, f, h', R, S, e, k⟩
  cases n with
  | zero => cases e
  | succ n =>
    unfold whileL at e
    cases q1 : t sl h with
    | bad => rw [q1] at e; cases e
    | ok b h1 =>
      rw [q1] at e
      refine ⟨r, h, sl, R, S, b, h1, q1, fun r1 H1 k1 R1 => ?_⟩
      cases b with
      | false =>
        cases e
        exact iteF (k r1 H1 k1 R1 s (S.go k1))
      | true =>
        refine iteT ⟨fun s H => ∃ r h sl f h', Rel X.K r h H ∧ RSl X.K r H sl s ∧ whileL t mb n sl h = .ok f h' ∧ ∀ r' H', Go r H r' H' → Rel X.K r' h' H' → FlK X.K D r' H' f, fun s' H' z => ⟨n, Nat.lt_succ_self n, z⟩, ?_⟩
        dsimp only at e
        cases q2 : mb sl h1 with
        | bad => rw [q2] at e; cases e
        | ok f2 h2 =>
          rw [q2] at e
          refine ⟨r1, h1, sl, R1, S.go k1, f2, h2, q2, fun r2 H2 k2 R2 => ?_⟩
          cases f2 with
          | nx sl2 => exact fun s2 S2 => ⟨r2, h2, sl2, f, h', R2, S2, e, fun r3 H3 k3 R3 => k r3 H3 (k1.trans (k2.trans k3)) R3⟩
          | ct sl2 => exact fun s2 S2 => ⟨r2, h2, sl2, f, h', R2, S2, e, fun r3 H3 k3 R3 => k r3 H3 (k1.trans (k2.trans k3)) R3⟩
          | bk sl2 => cases e; exact k r2 H2 (k1.trans k2) R2
          | rt v => cases e; exact k r2 H2 (k1.trans k2) R2
/-! ### what is walked -/
abbrev Nxt := Nat → AH → Option (Option Val)
abbrev MI := Sl → M Nxt
def ItR (K : PySem.W.Frag) (r0 : List Addr) (H0 : Hp) (J : It) (nx : Nxt) : Prop := ∀ (r : List Addr) (h : AH) (H : Hp) (k : Nat), Go r0 H0 r H → Rel K r h H →
  (nx k h = some none → J.stop k H) ∧ ∀ v, nx k h = some (some v) → J.go k H ∧ ∀ x H', J.yld k H x H' → Go r H r H' ∧ Rel K r h H' ∧ RV K r H' v x
def tI (K : PySem.W.Frag) (m : MI) : TI := fun s H Q => ∃ r h sl, Rel K r h H ∧ RSl K r H sl s ∧ ∃ nx h', m sl h = .ok nx h' ∧ ∀ r' H' J, Go r H r' H' → Rel K r' h' H' → ItR K r' H' J nx → Q J H'
abbrev SI (X : Cx) (tg iter : Expr) (m : MI) : Prop := PI X tg iter (tI X.K m)
theorem PI.imp {X : Cx} {tg iter : Expr} {t t' : TI} (p : PI X tg iter t) (h : ∀ s H Q, t' s H Q → t s H Q) : PI X tg iter t' := ⟨fun pins s σ H R I q => p.run pins s σ H R I (h σ H R q)⟩
theorem PI.or {X : Cx} {tg iter : Expr} {t t' : TI} (p : PI X tg iter t) (p' : PI X tg iter t') : PI X tg iter (fun s H Q => t s H Q ∨ t' s H Q) := ⟨fun pins s σ H R I q => q.elim (p.run pins s σ H R I) (p'.run pins s σ H R I)⟩
def nList (n : Nat) : Nxt := fun k h => (lstAt h n).map fun xs => xs[k]?
def nVals (xs : List Val) : Nxt := fun k _ => some xs[k]?
def nStr (x : Str) : Nxt := fun k _ => some (x.cps.toList[k]?.map fun c => .str ⟨#[c]⟩)
def nRange (lo : Int) (n : Nat) : Nxt := fun k _ => some (if k < n then some (.int (lo + (k : Nat))) else none)
def mIter (m : ME) : MI := fun sl => bnd (m sl) fun v h => match v with
  | .ref n => (match lstAt h n with
    | some _ => .ok (nList n) h
    | none => .bad)
  | .tup xs => .ok (nVals xs) h
  | .str x => .ok (nStr x) h
  | _ => .bad
theorem sqL_inj {K : PySem.W.Frag} {H : Hp} {a : Addr} {xs ys : List V} (h : H a ≠ none ∨ True) : True := trivial
theorem itr_list {K : PySem.W.Frag} {r : List Addr} {H : Hp} {n : Nat} {a : Addr} (ea : r[n]? = some a) : ItR K r H (Itl K a) (nList n) := by
  intro r1 h1 H1 k g R
  refine ⟨fun e => ?_, fun v e => ?_⟩
  · unfold nList at e
    cases q : lstAt h1 n with
    | none => rw [q] at e; cases e
    | some xs =>
      rw [q] at e
      obtain ⟨us, s, t⟩ := R.lst q (g.pre _ _ ea)
      have e' : xs[k]? = none := Option.some.inj e
      exact ⟨us, s, by rw [t.length]; exact List.getElem?_eq_none_iff.mp e'⟩
  · unfold nList at e
    cases q : lstAt h1 n with
    | none => rw [q] at e; cases e
    | some xs =>
      rw [q] at e
      obtain ⟨us, s, t⟩ := R.lst q (g.pre _ _ ea)
      have e' : xs[k]? = some v := Option.some.inj e
      obtain ⟨u, f1, f2⟩ := t.get e'
      refine ⟨⟨us, u, s, f1⟩, fun x H' y => ?_⟩
      obtain ⟨rfl, y⟩ := y
      have e2 := y us s
      rw [f1] at e2
      cases e2
      exact ⟨Go.refl _ _, R, f2⟩
theorem itr_tup {K : PySem.W.Frag} {r : List Addr} {H : Hp} {a : Addr} {us : List V} {xs : List Val} (s : SqT K H a us) (t : RVs K r H xs us) : ItR K r H (Itt K a) (nVals xs) := by
  intro r1 h1 H1 k g R
  have s1 := sqt_go g.kp s
  have t1 := t.go g
  refine ⟨fun e => ?_, fun v e => ?_⟩
  · have e' : xs[k]? = none := Option.some.inj e
    exact ⟨us, s1, by rw [t1.length]; exact List.getElem?_eq_none_iff.mp e'⟩
  · have e' : xs[k]? = some v := Option.some.inj e
    obtain ⟨u, f1, f2⟩ := t1.get e'
    refine ⟨⟨us, u, s1, f1⟩, fun x H' y => ?_⟩
    obtain ⟨rfl, y⟩ := y
    have e2 := y us s1
    rw [f1] at e2
    cases e2
    exact ⟨Go.refl _ _, R, f2⟩
theorem itr_str {K : PySem.W.Frag} {r : List Addr} {H : Hp} {x : Str} : ItR K r H (Its x) (nStr x) := by
  intro r1 h1 H1 k g R
  have ec : x.cps.toList[k]? = x.cps[k]? := by rw [Array.getElem?_toList]
  refine ⟨fun e => ?_, fun v e => ?_⟩
  · have e' := Option.some.inj e
    cases q : x.cps.toList[k]? with
    | some c => rw [q] at e'; cases e'
    | none =>
      have := List.getElem?_eq_none_iff.mp q
      show x.cps.size ≤ k
      simpa using this
  · have e' := Option.some.inj e
    cases q : x.cps.toList[k]? with
    | none => rw [q] at e'; cases e'
    | some c =>
      rw [q] at e'
      cases e'
      have hl := (List.getElem?_eq_some_iff.mp q).1
      refine ⟨(by show k < x.cps.size; simpa using hl), fun y H' z => ?_⟩
      obtain ⟨rfl, c', e1, rfl⟩ := z
      rw [ec, e1] at q
      cases q
      exact ⟨Go.refl _ _, R, .str _⟩
theorem itr_range {K : PySem.W.Frag} {r : List Addr} {H : Hp} {lo : Int} {n : Nat} : ItR K r H (Itr lo n) (nRange lo n) := by
  intro r1 h1 H1 k g R
  refine ⟨fun e => ?_, fun v e => ?_⟩
  · have e' := Option.some.inj e
    split at e'
    · cases e'
    · rename_i hk
      exact Nat.le_of_not_lt hk
  · have e' := Option.some.inj e
    split at e'
    · rename_i hk
      cases e'
      refine ⟨hk, fun y H' z => ?_⟩
      obtain ⟨rfl, rfl⟩ := z
      exact ⟨Go.refl _ _, R, .int _⟩
    · cases e'
theorem si_any {tg l : Expr} {m : ME} (hl : SE X l m) : SI X tg l (mIter m) := PI.imp ((PI.or (PI.or (pi_list hl) (pi_tup hl)) (pi_str hl))) fun s H Q ⟨r, h, sl, R, S, nx, h', e, k⟩ => by
  obtain ⟨x, g1, e1, e⟩ := bnd_ok e
  cases x with
  | ref n =>
    dsimp only at e
    cases q : lstAt g1 n with
    | none => rw [q] at e; cases e
    | some xs =>
      rw [q] at e
      cases e
      refine .inl (.inl ⟨r, h, sl, R, S, _, _, e1, fun r1 H1 u k1 R1 q1 => ?_⟩)
      cases q1 with
      | @ref _ a ea =>
        obtain ⟨us, s, t⟩ := R1.lst q ea
        exact ⟨a, rfl, ⟨us, s⟩, k r1 H1 _ k1 R1 (itr_list ea)⟩
  | tup xs =>
    cases e
    refine .inl (.inr ⟨r, h, sl, R, S, _, _, e1, fun r1 H1 u k1 R1 q1 => ?_⟩)
    cases q1 with
    | tup s t => exact ⟨_, rfl, ⟨_, s⟩, k r1 H1 _ k1 R1 (itr_tup s t)⟩
  | str y =>
    cases e
    refine .inr ⟨r, h, sl, R, S, _, _, e1, fun r1 H1 u k1 R1 q1 => ?_⟩
    cases q1
    exact ⟨y, rfl, k r1 H1 _ k1 R1 itr_str⟩
  | _ => cases e
def rngOk (i : Int) : Bool := decide (-(2 ^ 62) ≤ i) && decide (i < 2 ^ 62)
def mRng1 (t : MA) : MI := fun sl => bnd (t sl) fun vs => match vs with
  | [.int j] => if rngOk j then ret (nRange 0 j.toNat) else fail
  | _ => fail
def mRng2 (t : MA) : MI := fun sl => bnd (t sl) fun vs => match vs with
  | [.int i, .int j] => if rngOk i && rngOk j then ret (nRange i (j - i).toNat) else fail
  | _ => fail
theorem rngOk_ok {i : Int} (h : rngOk i = true) : -(2 ^ 62) ≤ i ∧ i < 2 ^ 62 := by
  have q := Bool.and_eq_true_iff.mp h
  exact ⟨of_decide_eq_true q.1, of_decide_eq_true q.2⟩
theorem si_rng1 {tg a : Expr} {t : MA} {p : Pos} (hm : X.mg "range" = none) (ha : SA X [a] t) (hg : Gl X "range" := by rfl) (hs : starEach [a] X.env = [(false, eval a X.env)] := by rfl) : SI X tg (.Call (.Name "range" p) [a] [] pos) (mRng1 t) := PI.imp (pi_range1 hg hm ha hs) fun s H Q ⟨r, h, sl, R, S, nx, h', e, k⟩ => by
  obtain ⟨vs, g1, e1, e⟩ := bnd_ok e
  match vs, e with
  | [.int j], e =>
    dsimp only at e
    split at e
    · rename_i hj
      cases e
      refine ⟨r, h, sl, R, S, _, _, e1, fun r1 H1 us k1 R1 q1 => ?_⟩
      obtain ⟨u, rfl, q2⟩ := q1.one
      cases q2
      exact ⟨j, rfl, (rngOk_ok hj).1, (rngOk_ok hj).2, k r1 H1 _ k1 R1 itr_range⟩
    · cases e
theorem si_rng2 {tg a b : Expr} {t : MA} {p : Pos} (hm : X.mg "range" = none) (ha : SA X [a, b] t) (hg : Gl X "range" := by rfl) (hs : starEach [a, b] X.env = [(false, eval a X.env), (false, eval b X.env)] := by rfl) (hs2 : starEach [b] X.env = [(false, eval b X.env)] := by rfl) : SI X tg (.Call (.Name "range" p) [a, b] [] pos) (mRng2 t) := PI.imp (pi_range2 hg hm ha hs hs2) fun s H Q ⟨r, h, sl, R, S, nx, h', e, k⟩ => by
  obtain ⟨vs, g1, e1, e⟩ := bnd_ok e
  match vs, e with
  | [.int i, .int j], e =>
    dsimp only at e
    split at e
    · rename_i hj
      cases e
      have hq := Bool.and_eq_true_iff.mp hj
      refine ⟨r, h, sl, R, S, _, _, e1, fun r1 H1 us k1 R1 q1 => ?_⟩
      obtain ⟨u, w, rfl, q2, q3⟩ := q1.two
      cases q2
      cases q3
      exact ⟨i, j, rfl, ⟨(rngOk_ok hq.1).1, (rngOk_ok hq.1).2, (rngOk_ok hq.2).1, (rngOk_ok hq.2).2⟩, k r1 H1 _ k1 R1 itr_range⟩
    · cases e
/-- enumerate(list), zip(list, list) -/
def nEnum (n : Nat) : Nxt := fun k h => (lstAt h n).map fun xs => xs[k]?.map fun x => .tup [.int (k : Nat), x]
def mEnum (t : MA) : MI := fun sl => bnd (t sl) fun vs h => match vs with
  | [.ref n] => (match lstAt h n with
    | some _ => .ok (nEnum n) h
    | none => .bad)
  | _ => .bad
theorem itr_enum {K : PySem.W.Frag} {r : List Addr} {H : Hp} {n : Nat} {a : Addr} (ea : r[n]? = some a) : ItR K r H (Ite K a) (nEnum n) := by
  intro r1 h1 H1 k g R
  refine ⟨fun e => ?_, fun v e => ?_⟩
  · unfold nEnum at e
    cases q : lstAt h1 n with
    | none => rw [q] at e; cases e
    | some xs =>
      rw [q] at e
      obtain ⟨us, s, t⟩ := R.lst q (g.pre _ _ ea)
      have e' := Option.some.inj e
      dsimp only at e'
      cases q2 : xs[k]? with
      | some y => rw [q2] at e'; cases e'
      | none => exact ⟨us, s, by rw [t.length]; exact List.getElem?_eq_none_iff.mp q2⟩
  · unfold nEnum at e
    cases q : lstAt h1 n with
    | none => rw [q] at e; cases e
    | some xs =>
      rw [q] at e
      obtain ⟨us, s, t⟩ := R.lst q (g.pre _ _ ea)
      have e' := Option.some.inj e
      dsimp only at e'
      cases q2 : xs[k]? with
      | none => rw [q2] at e'; cases e'
      | some y =>
        rw [q2] at e'
        cases e'
        obtain ⟨u, f1, f2⟩ := t.get q2
        refine ⟨⟨us, u, s, f1⟩, fun x H' z => ?_⟩
        obtain ⟨T, w, rfl, nT, rfl, z⟩ := z
        have e2 := z us s
        rw [f1] at e2
        cases e2
        have g2 : Go r1 H1 r1 (upd H1 T (.tup [.int (k : Nat), u])) := go_tup nT
        exact ⟨g2, R.tup nT, .tup (SqT.of upd_same) (.cons (.int _) (.cons (f2.go g2) .nil))⟩
theorem si_enum {a : Expr} {t : MA} {p tpos : Pos} {elts : List Expr} {kk : Nat} (hm : X.mg "enumerate" = none) (ha : SA X [a] t) (hg : Gl X "enumerate" := by rfl) (hs : starEach [a] X.env = [(false, eval a X.env)] := by rfl) : SI X (.Tuple elts kk tpos) (.Call (.Name "enumerate" p) [a] [] pos) (mEnum t) := PI.imp (pi_enum hg hm ha hs) fun s H Q ⟨r, h, sl, R, S, nx, h', e, k⟩ => by
  obtain ⟨vs, g1, e1, e⟩ := bnd_ok e
  match vs, e with
  | [.ref n], e =>
    dsimp only at e
    cases q : lstAt g1 n with
    | none => rw [q] at e; cases e
    | some xs =>
      rw [q] at e
      cases e
      refine ⟨r, h, sl, R, S, _, _, e1, fun r1 H1 us k1 R1 q1 => ?_⟩
      obtain ⟨u, rfl, q2⟩ := q1.one
      cases q2 with
      | @ref _ a ea =>
        obtain ⟨ws, s, t⟩ := R1.lst q ea
        exact ⟨a, ws, rfl, s, k r1 H1 _ k1 R1 (itr_enum ea)⟩
def nZip (n m : Nat) : Nxt := fun k h => match lstAt h n, lstAt h m with
  | some xs, some ys => (match xs[k]?, ys[k]? with
    | some x, some y => some (some (.tup [x, y]))
    | _, _ => some none)
  | _, _ => none
def mZip (t : MA) : MI := fun sl => bnd (t sl) fun vs h => match vs with
  | [.ref n, .ref m] => (match lstAt h n, lstAt h m with
    | some _, some _ => .ok (nZip n m) h
    | _, _ => .bad)
  | _ => .bad
theorem itr_zip {K : PySem.W.Frag} {r : List Addr} {H : Hp} {n m : Nat} {a b : Addr} (ea : r[n]? = some a) (eb : r[m]? = some b) : ItR K r H (Itz K a b) (nZip n m) := by
  intro r1 h1 H1 k g R
  refine ⟨fun e => ?_, fun v e => ?_⟩
  · unfold nZip at e
    cases q : lstAt h1 n with
    | none => rw [q] at e; cases e
    | some xs =>
      cases q' : lstAt h1 m with
      | none => rw [q, q'] at e; cases e
      | some ys =>
        rw [q, q'] at e
        obtain ⟨us, s, t⟩ := R.lst q (g.pre _ _ ea)
        obtain ⟨ws, s', t'⟩ := R.lst q' (g.pre _ _ eb)
        dsimp only at e
        cases q2 : xs[k]? with
        | none => exact ⟨us, ws, s, s', .inl (by rw [t.length]; exact List.getElem?_eq_none_iff.mp q2)⟩
        | some x =>
          cases q3 : ys[k]? with
          | none => exact ⟨us, ws, s, s', .inr (by rw [t'.length]; exact List.getElem?_eq_none_iff.mp q3)⟩
          | some y => rw [q2, q3] at e; cases e
  · unfold nZip at e
    cases q : lstAt h1 n with
    | none => rw [q] at e; cases e
    | some xs =>
      cases q' : lstAt h1 m with
      | none => rw [q, q'] at e; cases e
      | some ys =>
        rw [q, q'] at e
        obtain ⟨us, s, t⟩ := R.lst q (g.pre _ _ ea)
        obtain ⟨ws, s', t'⟩ := R.lst q' (g.pre _ _ eb)
        dsimp only at e
        cases q2 : xs[k]? with
        | none => rw [q2] at e; cases e
        | some x =>
          cases q3 : ys[k]? with
          | none => rw [q2, q3] at e; cases e
          | some y =>
            rw [q2, q3] at e
            cases e
            obtain ⟨u, f1, f2⟩ := t.get q2
            obtain ⟨w, f3, f4⟩ := t'.get q3
            refine ⟨⟨us, ws, u, w, s, s', f1, f3⟩, fun z H' y => ?_⟩
            obtain ⟨T, x1, x2, rfl, nT, rfl, z1, z2⟩ := y
            have e2 := z1 us s
            rw [f1] at e2
            cases e2
            have e3 := z2 ws s'
            rw [f3] at e3
            cases e3
            have g2 : Go r1 H1 r1 (upd H1 T (.tup [u, w])) := go_tup nT
            exact ⟨g2, R.tup nT, .tup (SqT.of upd_same) (.cons (f2.go g2) (.cons (f4.go g2) .nil))⟩
theorem si_zip {a b : Expr} {t : MA} {p tpos : Pos} {elts : List Expr} {kk : Nat} (hm : X.mg "zip" = none) (ha : SA X [a, b] t) (hg : Gl X "zip" := by rfl) (hs : starEach [a, b] X.env = (false, eval a X.env) :: starEach [b] X.env := by rfl) (hpl : (backTo pos (starEach [b] X.env)).any (·.1) = false := by rfl) : SI X (.Tuple elts kk tpos) (.Call (.Name "zip" p) [a, b] [] pos) (mZip t) := PI.imp (pi_zip hg hm ha hs hpl) fun s H Q ⟨r, h, sl, R, S, nx, h', e, k⟩ => by
  obtain ⟨vs, g1, e1, e⟩ := bnd_ok e
  match vs, e with
  | [.ref n, .ref m], e =>
    dsimp only at e
    cases q : lstAt g1 n with
    | none => rw [q] at e; cases e
    | some xs =>
      cases q' : lstAt g1 m with
      | none => rw [q, q'] at e; cases e
      | some ys =>
        rw [q, q'] at e
        cases e
        refine ⟨r, h, sl, R, S, _, _, e1, fun r1 H1 us k1 R1 q1 => ?_⟩
        obtain ⟨u, w, rfl, q2, q3⟩ := q1.two
        cases q2 with
        | @ref _ a ea => cases q3 with
          | @ref _ b eb =>
            obtain ⟨us, s, t⟩ := R1.lst q ea
            obtain ⟨ws, s', t'⟩ := R1.lst q' eb
            exact ⟨a, b, us, ws, rfl, s, s', k r1 H1 _ k1 R1 (itr_zip ea eb)⟩
/-! ### for -/
def forL (nx : Nxt) (p : Pat) (body : MS) : Nat → Nat → MS
  | 0, _ => fun _ => fail
  | f + 1, k => fun sl h => match nx k h with
    | none => .bad
    | some none => .ok (.nx sl) h
    | some (some v) => match p.bd v sl with
      | none => .bad
      | some sl1 => match body sl1 h with
        | .bad => .bad
        | .ok (.nx sl2) h2 => forL nx p body f (k + 1) sl2 h2
        | .ok (.ct sl2) h2 => forL nx p body f (k + 1) sl2 h2
        | .ok (.bk sl2) h2 => .ok (.nx sl2) h2
        | .ok (.rt v) h2 => .ok (.rt v) h2
noncomputable def mFor (m : MI) (p : Pat) (body : MS) : MS := fun sl => bnd (m sl) fun nx => forL nx p body FUEL 0 sl
theorem ss_for {tg iter : Expr} {body : List Stmt} {mi : MI} {p : Pat} {mb : MS} (hp : PassesOwn (model X.prog X.w) X.A X.env X.xe) (hc : X.calm = true) (hi : SI X tg iter mi) (hg : SG X tg p) (hb : SSs X body mb) (hs : ∀ x, foldedSetIterable iter X.env x = pure x := by intro _; rfl) :
    SS X (.For tg iter body [] pos) (mFor mi p mb) := by
  refine PS.imp (ps_for hp hc hi hg hb hs) fun D s H ⟨r, h, sl, R, S, f, h', e, k⟩ => ?_
  obtain ⟨nx, g1, e1, e⟩ := bnd_ok e
  refine ⟨r, h, sl, R, S, nx, g1, e1, fun r1 H1 J k1 R1 iT => ?_⟩
  refine ⟨fun i n s H => ∃ r h sl f h', Rel X.K r h H ∧ RSl X.K r H sl s ∧ Go r1 H1 r H ∧ forL nx p mb n i sl h = .ok f h' ∧ ∀ r' H', Go r H r' H' → Rel X.K r' h' H' → FlK X.K D r' H' f, ⟨FUEL, r1, g1, sl, f, h', R1, S.go k1, Go.refl _ _, e, fun r2 H2 k2 R2 => k r2 H2 (k1.trans k2) R2⟩, ?_⟩
  rintro i n s H ⟨r, h, sl, f, h', R, S, gg, e, k⟩
  cases n with
  | zero => cases e
  | succ n =>
    unfold forL at e
    obtain ⟨i1, i2⟩ := iT r h H i gg R
    cases q1 : nx i h with
    | none => rw [q1] at e; cases e
    | some o =>
      rw [q1] at e
      cases o with
      | none =>
        cases e
        exact .inl ⟨i1 q1, k r H (Go.refl _ _) R s S⟩
      | some v =>
        obtain ⟨j1, j2⟩ := i2 v q1
        refine .inr ⟨j1, fun s H => ∃ r h sl f h', Rel X.K r h H ∧ RSl X.K r H sl s ∧ Go r1 H1 r H ∧ forL nx p mb n (i + 1) sl h = .ok f h' ∧ ∀ r' H', Go r H r' H' → Rel X.K r' h' H' → FlK X.K D r' H' f, fun s' H' z => ⟨n, Nat.lt_succ_self n, z⟩, fun x H' y => ?_⟩
        obtain ⟨k2, R2, q2⟩ := j2 x H' y
        dsimp only at e
        cases q3 : p.bd v sl with
        | none => rw [q3] at e; cases e
        | some sl1 =>
          rw [q3] at e
          dsimp only at e
          obtain ⟨s', S', _, kk⟩ := Pat.run p q2 (S.go k2) q3
          refine kk _ ?_
          cases q4 : mb sl1 h with
          | bad => rw [q4] at e; cases e
          | ok f2 h2 =>
            rw [q4] at e
            refine ⟨r, h, sl1, R2, S', f2, h2, q4, fun r3 H3 k3 R3 => ?_⟩
            cases f2 with
            | nx sl2 => exact fun s2 S2 => ⟨r3, h2, sl2, f, h', R3, S2, gg.trans (k2.trans k3), e, fun r4 H4 k4 R4 => k r4 H4 (k2.trans (k3.trans k4)) R4⟩
            | ct sl2 => exact fun s2 S2 => ⟨r3, h2, sl2, f, h', R3, S2, gg.trans (k2.trans k3), e, fun r4 H4 k4 R4 => k r4 H4 (k2.trans (k3.trans k4)) R4⟩
            | bk sl2 => cases e; exact k r3 H3 (k2.trans k3) R3
            | rt v => cases e; exact k r3 H3 (k2.trans k3) R3
/-! ### comprehensions -/
def wipeM (sl : Sl) : List Nat → Sl
  | [] => sl
  | v :: vs => (wipeM sl vs).set v none
theorem RSl.wipe {K : PySem.W.Frag} {r : List Addr} {H : Hp} {sl : Sl} {s : L2.St} (S : RSl K r H sl s) : ∀ vs : List Nat, RSl K r H (wipeM sl vs) (L2.wipe s vs)
  | [] => S
  | v :: vs => by
    unfold wipeM L2.wipe
    exact (RSl.wipe S vs).none
def lcL (nx : Nxt) (p : Pat) (t : MT) (el : ME) (d : Nat) (sl : Sl) : Nat → Nat → M Unit
  | 0, _ => fail
  | f + 1, k => fun h => match nx k h with
    | none => .bad
    | some none => .ok () h
    | some (some v) => match p.bd v sl with
      | none => .bad
      | some sl1 => match t sl1 h with
        | .bad => .bad
        | .ok false h2 => lcL nx p t el d sl f (k + 1) h2
        | .ok true h2 => match el sl1 h2 with
          | .bad => .bad
          | .ok y h3 => match mutAt h3 d with
            | some acc => if acc.length < 16777216 then lcL nx p t el d sl f (k + 1) (h3.set d (.lst (acc ++ [y]))) else .bad
            | none => .bad
noncomputable def mLc (m : MI) (p : Pat) (t : MT) (el : ME) (own : List Nat) : ME := fun sl => bnd (m sl) fun nx h => match lcL nx p t el h.length (wipeM sl own) FUEL 0 (h ++ [.lst []]) with
  | .ok _ h' => .ok (.ref h.length) h'
  | .bad => .bad
def mYes : MT := fun _ => ret true
abbrev STs (X : Cx) (es : List Expr) (m : MT) : Prop := PTs X es (tT X.K m)
theorem PTs.imp {X : Cx} {e : List Expr} {t t' : TT} (p : PTs X e t) (h : ∀ s H Q, t' s H Q → t s H Q) : PTs X e t' := ⟨fun pins s σ H Q I q => p.run pins s σ H Q I (h σ H Q q)⟩
theorem sts_nil : STs X [] mYes := PTs.imp pts_nil fun s H Q ⟨r, h, sl, R, S, b, h', e, k⟩ => by
  cases e
  exact k r H (Go.refl r H) R
theorem sts_one {c : Expr} {t : MT} (h : ST X c t) : STs X [c] t := pts_one h
theorem mLc_run {K : PySem.W.Frag} {mi : MI} {p : Pat} {t : MT} {el : ME} {own : List Nat} (hn : ∀ i ∈ p.names, i ∈ own) {s : L2.St} {H : Hp} {Q : VK} (z : tE K (mLc mi p t el own) s H Q) : tLc (tI K mi) (p.tg K) (tT K t) (tE K el) own s H Q := by
  obtain ⟨r, h, sl, R, S, v, h', e, k⟩ := z
  obtain ⟨nx, g1, e1, e⟩ := bnd_ok e
  refine ⟨r, h, sl, R, S, nx, g1, e1, fun r1 H1 J k1 R1 iT => fun D nD => ?_⟩
  cases e2 : lcL nx p t el g1.length (wipeM sl own) FUEL 0 (g1 ++ [.lst []]) with
  | bad => rw [e2] at e; cases e
  | ok u hE =>
    rw [e2] at e
    cases e
    have k2 : Go r1 H1 (r1 ++ [D]) (upd H1 D (.lst [])) := go_new nD
    have R2 : Rel K (r1 ++ [D]) (g1 ++ [.lst []]) (upd H1 D (.lst [])) := R1.new nD ⟨[], upd_same, .nil⟩
    have eD : (r1 ++ [D])[g1.length]? = some D := by
      rw [← R1.len, List.getElem?_append_right (Nat.le_refl _), Nat.sub_self]
      rfl
    refine ⟨fun i n H => ∃ r h u, Rel K r h H ∧ Go (r1 ++ [D]) (upd H1 D (.lst [])) r H ∧ lcL nx p t el g1.length (wipeM sl own) n i h = .ok u h', ⟨FUEL, _, _, u, R2, Go.refl _ _, e2⟩, ?_⟩
    rintro i n H ⟨r, h, u, R, gg, e⟩
    cases n with
    | zero => cases e
    | succ n =>
      unfold lcL at e
      have gA : Go r1 H1 r H := k2.trans gg
      have gS := S.go (k1.trans gA)
      obtain ⟨i1, i2⟩ := iT r h H i gA R
      cases q1 : nx i h with
      | none => rw [q1] at e; cases e
      | some o =>
        rw [q1] at e
        cases o with
        | none =>
          cases e
          exact .inl ⟨i1 q1, k r H _ (k1.trans gA) R (.ref (gg.pre _ _ eD))⟩
        | some v =>
          obtain ⟨j1, j2⟩ := i2 v q1
          refine .inr ⟨j1, fun H => ∃ r h u, Rel K r h H ∧ Go (r1 ++ [D]) (upd H1 D (.lst [])) r H ∧ lcL nx p t el g1.length (wipeM sl own) n (i + 1) h = .ok u h', fun H' z => ⟨n, Nat.lt_succ_self n, z⟩, fun x H' y => ?_⟩
          obtain ⟨k3, R3, q2⟩ := j2 x H' y
          dsimp only at e
          cases q3 : p.bd v (wipeM sl own) with
          | none => rw [q3] at e; cases e
          | some sl1 =>
            rw [q3] at e
            dsimp only at e
            obtain ⟨s', S', w', kk⟩ := Pat.run p q2 ((gS.go k3).wipe own) q3
            refine kk _ ⟨?_, ?_⟩
            · rw [w' own hn]
              exact wipe_idem s own
            · cases q4 : t sl1 h with
              | bad => rw [q4] at e; cases e
              | ok b h2 =>
                rw [q4] at e
                refine ⟨r, h, sl1, R3, S', b, h2, q4, fun r4 H4 k4 R4 => ?_⟩
                cases b with
                | false => exact iteF ⟨r4, h2, u, R4, gg.trans (k3.trans k4), e⟩
                | true =>
                  dsimp only at e
                  cases q5 : el sl1 h2 with
                  | bad => rw [q5] at e; cases e
                  | ok y h3 =>
                    rw [q5] at e
                    refine iteT ⟨r4, h2, sl1, R4, S'.go k4, y, h3, q5, fun r5 H5 w k5 R5 q6 => ?_⟩
                    dsimp only at e
                    cases q7 : mutAt h3 g1.length with
                    | none => rw [q7] at e; cases e
                    | some acc =>
                      rw [q7] at e
                      dsimp only at e
                      split at e
                      · rename_i hlen
                        have gB := gg.trans (k3.trans (k4.trans k5))
                        have eD5 := gB.pre _ _ eD
                        obtain ⟨f0, us, f1, f2⟩ := R5.mut q7 eD5
                        refine ⟨us, f1, by rw [f2.length, sizeLine_eq]; exact hlen, ?_⟩
                        exact cn_set (Q := fun H' => ∃ r h u, Rel K r h H' ∧ Go (r1 ++ [D]) (upd H1 D (.lst [])) r H' ∧ lcL nx p t el g1.length (wipeM sl own) n (i + 1) h = .ok u h') R5 eD5 f0 f1 (f2.append (.cons q6 .nil)) fun H6 k6 R6 => ⟨r5, _, u, R6, gB.trans k6, e⟩
                      · cases e
where
  wipe_idem (s : L2.St) (vs : List Nat) : L2.wipe (L2.wipe s vs) vs = L2.wipe s vs := by
    have gen : ∀ (ws us : List Nat), (∀ i ∈ ws, i ∈ us) → L2.wipe (L2.wipe s us) ws = L2.wipe s us := fun ws => by
      induction ws with
      | nil => intro us _; rfl
      | cons j ws ih =>
        intro us hs
        rw [L2.wipe, ih us fun i hi => hs i (List.mem_cons_of_mem _ hi)]
        have hj : j ∈ us := hs j List.mem_cons_self
        have : ∀ {us : List Nat}, j ∈ us → (L2.wipe s us).set j none = L2.wipe s us := fun {us} => by
          induction us with
          | nil => intro h; cases h
          | cons k us ihu =>
            intro h
            unfold L2.wipe
            by_cases e : j = k
            · subst e; rw [List.set_set]
            · rw [List.set_comm _ _ (Ne.symm e)]
              rw [ihu ((List.mem_cons.mp h).resolve_left e)]
        exact this hj
    exact gen vs vs fun _ h => h
theorem se_lc {elt tg iter : Expr} {ifs : List Expr} {scope : Scope} {own : List (Str × Nat)} {mi : MI} {p : Pat} {t : MT} {el : ME} (hc : X.calm = true) (hN : X.N.Nodup) (hi : SI X tg iter mi) (ok : BlkOk X.N X.env.scope scope own)
    (hg : ∀ (s : Shared) (H : Hp) (C : Addr) (cl : List (Str × Addr)) (fp : List Addr), SG (X.blk s H scope (compEnvC scope cl C X.env) fp) tg p) (ht : ∀ (s : Shared) (H : Hp) (C : Addr) (cl : List (Str × Addr)) (fp : List Addr), STs (X.blk s H scope (compEnvC scope cl C X.env) fp) ifs t)
    (he : ∀ (s : Shared) (H : Hp) (C : Addr) (cl : List (Str × Addr)) (fp : List Addr), SE (X.blk s H scope (compEnvC scope cl C X.env) fp) elt el) (hn : ∀ i ∈ p.names, i ∈ own.map (·.2) := by decide) (hs : ∀ x, foldedSetIterable iter X.env x = pure x := by intro _; rfl) :
    SE X (.ListComp elt [⟨tg, iter, ifs, 0⟩] scope pos) (mLc mi p t el (own.map (·.2))) :=
  PE.imp (pe_lc hc hN hi ok hg ht he hs) fun _ _ _ z => mLc_run hn z
theorem ss_setLc {i : Nat} {y : Str} {py : Pos} {elt tg iter : Expr} {ifs : List Expr} {scope : Scope} {own : List (Str × Nat)} {spos : Pos} {mi : MI} {p : Pat} {t : MT} {el : ME} (hc : X.calm = true) (hN : X.N.Nodup)
    (hsw : swapsWith (.ListComp elt [⟨tg, iter, ifs, 0⟩] scope pos) (some (.Name y py)) spos.line X.env = pure true) (hi : SI X tg iter mi) (ok : BlkOk X.N X.env.scope scope own)
    (hg : ∀ (s : Shared) (H : Hp) (C : Addr) (cl : List (Str × Addr)) (fp : List Addr), SG (X.blk s H scope (compEnvC scope cl C X.env) fp) tg p) (ht : ∀ (s : Shared) (H : Hp) (C : Addr) (cl : List (Str × Addr)) (fp : List Addr), STs (X.blk s H scope (compEnvC scope cl C X.env) fp) ifs t)
    (he : ∀ (s : Shared) (H : Hp) (C : Addr) (cl : List (Str × Addr)) (fp : List Addr), SE (X.blk s H scope (compEnvC scope cl C X.env) fp) elt el) (hy : X.N[i]? = some y := by rfl) (hyl : X.env.scope.names.lookup y = some .local := by rfl) (hn : ∀ i ∈ p.names, i ∈ own.map (·.2) := by decide) (hs : ∀ x, foldedSetIterable iter X.env x = pure x := by intro _; rfl) :
    SS X (.Assign [.Name y py] (.ListComp elt [⟨tg, iter, ifs, 0⟩] scope pos) spos) (mSet i (mLc mi p t el (own.map (·.2)))) :=
  PS.imp (ps_setLc hc hN hy hyl hsw hi ok hg ht he hs) fun D s H z => by
    obtain ⟨r, h, sl, R, S, f, h', e, k⟩ := z
    obtain ⟨x, g1, e1, e⟩ := bnd_ok e
    cases e
    exact mLc_run hn ⟨r, h, sl, R, S, x, _, e1, fun r1 H1 u k1 R1 q1 => k r1 H1 k1 R1 _ ((S.go k1).set q1)⟩
end
end Mr

set_option Elab.async false
set_option linter.all false
set_option maxRecDepth 100000
set_option maxHeartbeats 1000000
namespace Mr
open PySem PySem.Spec PyProof.Rows L2
section
variable {X : Cx} {pos : Pos} {o a e : Expr} {es : List Expr} {mo ma : ME} {mt : MA}
/-! ### methods of built-in things -/
def isTy (T : String) (h : AH) : Val → Bool
  | .str _ => T == "str"
  | .ref n => match h[n]? with
    | some (.lst _) => T == "list"
    | some (.frz _) => T == "list"
    | some (.dk _) => T == "dict"
    | none => false
  | _ => false
theorem Rel.tyV {K : PySem.W.Frag} {r : List Addr} {h : AH} {H : Hp} {T : String} {x : Val} {u : V} (R : Rel K r h H) (q : RV K r H x u) (e : isTy T h x = true) : L2.tyV K T u H := by
  cases q with
  | str y => exact eq_of_beq e
  | @ref n a ea =>
    unfold isTy at e
    dsimp only at e
    cases q1 : h[n]? with
    | none => rw [q1] at e; cases e
    | some ob =>
      rw [q1] at e
      have ro := R.ob n a ob ea q1
      cases ob with
      | lst xs =>
        obtain ⟨us, f1, f2⟩ := ro
        exact .inl ⟨eq_of_beq e, us, SqL.of f1⟩
      | frz xs =>
        obtain ⟨us, f1, f2⟩ := ro
        rcases f1 with ⟨ob, f1⟩ | f1
        · exact .inl ⟨eq_of_beq e, us, .inl (.inr ⟨ob, f1⟩)⟩
        · exact .inl ⟨eq_of_beq e, us, .inr f1⟩
      | dk xs =>
        obtain ⟨us, f1, f2⟩ := ro
        exact .inr (.inr (.inl ⟨eq_of_beq e, .inl ⟨us, f1⟩⟩))
  | _ => cases e
def MeM (K : PySem.W.Frag) (q : V → List V → Hp → VK → Prop) (o : Val → List Val → M Val) : Prop := ∀ (r : List Addr) (h : AH) (H : Hp) (x : Val) (xs : List Val) (u : V) (us : List V) (z : Val) (h' : AH) (Q : VK), Rel K r h H → RV K r H x u → RVs K r H xs us → o x xs h = .ok z h' → Cn K r H z h' Q → q u us H Q
def mMeth (T : String) (f : Val → List Val → M Val) (mo : ME) (t : MA) : ME := fun sl => bnd (mo sl) fun x h => if isTy T h x then bnd (t sl) (fun xs => f x xs) h else .bad
theorem se_meth {T : String} {name : Str} {id : String} {q : V → List V → Hp → VK → Prop} {f : Val → List Val → M Val} {apos cpos : Pos} (pa : PlainAttrs T) (slot : Slot T name id) (hty : typeOf (.builtin id) = pure (.type "method_descriptor")) (hm : MtR X id q) (hf : MeM X.K q f) (ho : SE X o mo) (ha : SA X (e :: es) mt)
    (hbase : attributeBase o name X.env (eval o X.env) = eval o X.env := by rfl)
    (hfew : ((backTo cpos (starEach (e :: es) X.env)).all (fun x => !x.1) && (backToKw cpos (keywordEach [] X.env)).all (fun x => x.1.isSome)
      && decide ((e :: es).length + ([] : List Keyword).length + (if ([] : List Keyword).isEmpty then 0 else 1) < 30)) = true := by rfl)
    (hline : (apos.endLine == cpos.line) = true := by rfl) (hs : starEach (e :: es) X.env = (false, eval e X.env) :: starEach es X.env := by rfl) (hplain : (backTo cpos (starEach es X.env)).any (·.1) = false := by rfl) :
    SE X (.Call (.Attribute o name apos) (e :: es) [] cpos) (mMeth T f mo mt) :=
  PE.imp (pe_bm pa slot hty hm ho ha hbase hfew hline hs hplain) fun s H Q ⟨r, h, sl, R, S, v, h', e, k⟩ => by
    obtain ⟨x, g1, e1, e⟩ := bnd_ok e
    split at e
    · rename_i ht
      obtain ⟨xs, g2, e2, e⟩ := bnd_ok e
      exact ⟨r, h, sl, R, S, x, g1, e1, fun r1 H1 u k1 R1 q1 => ⟨R1.tyV q1 ht, r1, g1, sl, R1, S.go k1, xs, g2, e2, fun r2 H2 us k2 R2 q2 => hf r2 g2 H2 x xs u us v h' Q R2 (q1.go k2) q2 e (k.go (k1.trans k2))⟩⟩
    · cases e
theorem se_meth0 {T : String} {name : Str} {id : String} {q : V → List V → Hp → VK → Prop} {f : Val → List Val → M Val} {apos cpos : Pos} (pa : PlainAttrs T) (slot : Slot T name id) (hty : typeOf (.builtin id) = pure (.type "method_descriptor")) (hm : MtR X id q) (hf : MeM X.K q f) (ho : SE X o mo)
    (hbase : attributeBase o name X.env (eval o X.env) = eval o X.env := by rfl) (hline : (apos.endLine == cpos.line) = true := by rfl) :
    SE X (.Call (.Attribute o name apos) [] [] cpos) (mMeth T f mo mNil) :=
  PE.imp (pe_bm0 pa slot hty hm ho hbase hline) fun s H Q ⟨r, h, sl, R, S, v, h', e, k⟩ => by
    obtain ⟨x, g1, e1, e⟩ := bnd_ok e
    split at e
    · rename_i ht
      obtain ⟨xs, g2, e2, e⟩ := bnd_ok e
      cases e2
      exact ⟨r, h, sl, R, S, x, _, e1, fun r1 H1 u k1 R1 q1 => ⟨R1.tyV q1 ht, hf r1 _ H1 x [] u [] v h' Q R1 q1 .nil e (k.go k1)⟩⟩
    · cases e
/-- append -/
def fAppend : Val → List Val → M Val
  | .ref n, [y] => fun h => match mutAt h n with
    | some xs => if xs.length < 16777216 then .ok .non (h.set n (.lst (xs ++ [y]))) else .bad
    | none => .bad
  | _, _ => fail
theorem mm_append {K : PySem.W.Frag} : MeM K rAppend fAppend := by
  intro r h H x xs u us z h' Q R qx qs e k
  cases qx with
  | @ref n a ea =>
    match xs, e with
    | [y], e =>
      obtain ⟨w, rfl, qy⟩ := qs.one
      unfold fAppend at e
      dsimp only at e
      cases q : mutAt h n with
      | none => rw [q] at e; cases e
      | some ys =>
        rw [q] at e
        dsimp only at e
        split at e
        · rename_i hl
          cases e
          obtain ⟨f0, ws, f1, f2⟩ := R.mut q ea
          refine ⟨a, ws, w, rfl, rfl, f1, by rw [f2.length, sizeLine_eq]; exact hl, ?_⟩
          exact cn_set (Q := fun H' => Q .non H') R ea f0 f1 (f2.append (.cons qy .nil)) fun H' g R' => k r H' .non g R' .non
        · cases e
  | _ => cases e
theorem se_append {apos cpos : Pos} (ho : SE X o mo) (ha : SA X [e] mt)
    (hbase : attributeBase o "append" X.env (eval o X.env) = eval o X.env := by rfl)
    (hfew : ((backTo cpos (starEach [e] X.env)).all (fun x => !x.1) && (backToKw cpos (keywordEach [] X.env)).all (fun x => x.1.isSome)
      && decide ([e].length + ([] : List Keyword).length + (if ([] : List Keyword).isEmpty then 0 else 1) < 30)) = true := by rfl)
    (hline : (apos.endLine == cpos.line) = true := by rfl) (hs : starEach [e] X.env = (false, eval e X.env) :: starEach [] X.env := by rfl) (hplain : (backTo cpos (starEach [] X.env)).any (·.1) = false := by rfl) :
    SE X (.Call (.Attribute o "append" apos) [e] [] cpos) (mMeth "list" fAppend mo mt) :=
  se_meth PySem.F.plainAttrs_list PySem.F.slot_list_append PySem.F.type_list_append mt_append mm_append ho ha hbase hfew hline hs hplain
/-- join -/
def strsOf : List Val → Option (List Str)
  | [] => some []
  | .str x :: xs => (strsOf xs).map (x :: ·)
  | _ :: _ => none
theorem strsOf_ok {K : PySem.W.Frag} {r : List Addr} {H : Hp} : ∀ {xs : List Val} {us : List V} {ys : List Str}, RVs K r H xs us → strsOf xs = some ys → us = ys.map V.str
  | _, _, _, .nil, e => by cases e; rfl
  | _, _, ys, .cons a b, e => by
    cases a with
    | str x =>
      rename_i xs us
      unfold strsOf at e
      cases q : strsOf xs with
      | none => rw [q] at e; cases e
      | some zs =>
        rw [q] at e
        cases e
        rw [strsOf_ok b q]
        rfl
    | _ => cases e
def joinOk (a : Str) (ys : List Str) : Bool := decide ((ys.map (·.length)).sum + ys.length * a.length ≤ 16777216)
def fJoin : Val → List Val → M Val
  | .str a, [y] => fun h => match seqOf h y with
    | some xs => (match strsOf xs with
      | some ys => if joinOk a ys then .ok (.str (Txt.join a ys)) h else .bad
      | none => .bad)
    | none => .bad
  | _, _ => fail
theorem mm_join {K : PySem.W.Frag} : MeM K (fun x xs H Q => ∃ a p, ∃ ys : List Str, x = .str a ∧ xs = [.ref p] ∧ (SqL K H p (ys.map V.str) ∨ SqT K H p (ys.map V.str)) ∧ (ys.map (·.length)).sum + ys.length * a.length ≤ 16777216 ∧ Q (.str (Txt.join a ys)) H) fJoin := by
  intro r h H x xs u us z h' Q R qx qs e k
  cases qx with
  | str a =>
    match xs, e with
    | [y], e =>
      obtain ⟨w, rfl, qy⟩ := qs.one
      unfold fJoin at e
      dsimp only at e
      cases q : seqOf h y with
      | none => rw [q] at e; cases e
      | some ys =>
        rw [q] at e
        dsimp only at e
        cases q2 : strsOf ys with
        | none => rw [q2] at e; cases e
        | some zs =>
          rw [q2] at e
          dsimp only at e
          split at e
          · rename_i hl
            cases e
            obtain ⟨p, ws, rfl, s, t⟩ := R.seq qy q
            have e3 := strsOf_ok t q2
            subst e3
            exact ⟨a, p, zs, rfl, rfl, s, of_decide_eq_true hl, k.self R (.str _)⟩
          · cases e
  | _ => cases e
theorem se_join {apos cpos : Pos} (ho : SE X o mo) (ha : SA X [e] mt)
    (hbase : attributeBase o "join" X.env (eval o X.env) = eval o X.env := by rfl)
    (hfew : ((backTo cpos (starEach [e] X.env)).all (fun x => !x.1) && (backToKw cpos (keywordEach [] X.env)).all (fun x => x.1.isSome)
      && decide ([e].length + ([] : List Keyword).length + (if ([] : List Keyword).isEmpty then 0 else 1) < 30)) = true := by rfl)
    (hline : (apos.endLine == cpos.line) = true := by rfl) (hs : starEach [e] X.env = (false, eval e X.env) :: starEach [] X.env := by rfl) (hplain : (backTo cpos (starEach [] X.env)).any (·.1) = false := by rfl) :
    SE X (.Call (.Attribute o "join" apos) [e] [] cpos) (mMeth "str" fJoin mo mt) :=
  se_meth PySem.F.plainAttrs_str PySem.F.slot_str_join PySem.F.type_str_join mt_join mm_join ho ha hbase hfew hline hs hplain
/-- split(sep) -/
def fSplit : Val → List Val → M Val
  | .str a, [.str b] => if (b.length != 0) && sizeOk (a.length + 2) then mNewL ((Txt.split a b).map .str) else fail
  | _, _ => fail
theorem RVs.strs {K : PySem.W.Frag} {r : List Addr} {H : Hp} : ∀ ys : List Str, RVs K r H (ys.map Val.str) (ys.map V.str)
  | [] => .nil
  | y :: ys => .cons (.str y) (RVs.strs ys)
theorem mm_split {K : PySem.W.Frag} : MeM K (fun x xs H Q => ∃ a b, x = .str a ∧ xs = [.str b] ∧ (b.length == 0) = false ∧ a.length + 2 ≤ sizeLine ∧ rNewStrs (Txt.split a b) H Q) fSplit := by
  intro r h H x xs u us z h' Q R qx qs e k
  cases qx with
  | str a =>
    match xs, e with
    | [.str b], e =>
      obtain ⟨w, rfl, qy⟩ := qs.one
      cases qy
      unfold fSplit at e
      dsimp only at e
      split at e
      · rename_i hl
        cases e
        have hq := Bool.and_eq_true_iff.mp hl
        refine ⟨a, b, rfl, rfl, by simpa [bne] using hq.1, sizeOk_le hq.2, fun p np => cn_list R (RVs.strs _) k np⟩
      · cases e
  | _ => cases e
theorem se_split {apos cpos : Pos} (ho : SE X o mo) (ha : SA X [e] mt)
    (hbase : attributeBase o "split" X.env (eval o X.env) = eval o X.env := by rfl)
    (hfew : ((backTo cpos (starEach [e] X.env)).all (fun x => !x.1) && (backToKw cpos (keywordEach [] X.env)).all (fun x => x.1.isSome)
      && decide ([e].length + ([] : List Keyword).length + (if ([] : List Keyword).isEmpty then 0 else 1) < 30)) = true := by rfl)
    (hline : (apos.endLine == cpos.line) = true := by rfl) (hs : starEach [e] X.env = (false, eval e X.env) :: starEach [] X.env := by rfl) (hplain : (backTo cpos (starEach [] X.env)).any (·.1) = false := by rfl) :
    SE X (.Call (.Attribute o "split" apos) [e] [] cpos) (mMeth "str" fSplit mo mt) :=
  se_meth PySem.F.plainAttrs_str PySem.F.slot_str_split PySem.F.type_str_split mt_split mm_split ho ha hbase hfew hline hs hplain
end
/-! ### defs -/
def mFn (n size : Nat) (body : MS) : List Val → M Val := fun xs h => if xs.length = n then (match body (xs.map some ++ List.replicate (size - n) none) h with
  | .ok (.rt v) h' => .ok v h'
  | .ok (.nx _) h' => .ok .non h'
  | _ => .bad) else .bad
def spM (K : PySem.W.Frag) (m : List Val → M Val) (n : Nat) : Sp := fun vs H Q _ => vs.length = n ∧ ∃ r h xs, Rel K r h H ∧ RVs K r H xs vs ∧ ∃ v h', m xs h = .ok v h' ∧ Cn K r H v h' Q
theorem RVs.start {K : PySem.W.Frag} {r : List Addr} {H : Hp} {xs : List Val} {us : List V} {N : List Str} {n : Nat} (q : RVs K r H xs us) (hn : n = N.length) : RSl K r H (xs.map some ++ List.replicate (n - xs.length) none) (L2.start N us) := by
  subst hn
  unfold L2.start
  rw [q.length]
  refine ⟨by rw [List.length_append, List.length_append, List.length_map, List.length_map, List.length_replicate, List.length_replicate, q.length], fun i v e => ?_⟩
  by_cases hi : i < xs.length
  · rw [List.getElem?_append_left (by rw [List.length_map]; exact hi), List.getElem?_map] at e
    cases q1 : xs[i]? with
    | none => rw [q1] at e; cases e
    | some x =>
      rw [q1] at e
      cases e
      obtain ⟨u, f1, f2⟩ := q.get q1
      exact ⟨u, by rw [List.getElem?_append_left (by rw [List.length_map, q.length]; exact hi), List.getElem?_map, f1]; rfl, f2⟩
  · rw [List.getElem?_append_right (by rw [List.length_map]; omega)] at e
    have := List.mem_of_getElem? e
    rw [List.mem_replicate] at this
    cases this.2
theorem fn_ok {P : Program} {w : World} {K : PySem.W.Frag} {mg : Str → Option Value} {base : Heap} {x qual : Str} {params : Arguments} {body : List Stmt} {scope : Scope} {dvs : List V} {kws : List (Str × V)} {f : Addr} {fd : FuncData} {N ps : List Str} {k n : Nat} {m : MS}
    (F : FunD K x qual params body scope dvs kws f fd) (S : FnScope N ps scope) (hn : ps.length = n)
    (hbody : ∀ (cdv : Value) (A : Around) (outer : List Env) (s : Shared) (H : Hp) (E : XK), Room k (A.deeper (envOfC qual scope s.heap.objs.size f cdv)) → SSs (cxOf CX0 P w K mg base N qual scope f cdv A outer s H E).nox body m) :
    FnOk P w K mg base CX0 (k + 1) f fd ps (spM K (mFn n N.length m) n) := by
  refine F.ok S (fun vs H Q E h => by rw [h.1, hn]) fun cdv A outer s H vs Q E hr h => ?_
  refine ⟨_, PSs.nox (hbody cdv A outer s H E hr), ?_⟩
  obtain ⟨hl, r, h, xs, R, q, v, h', e, kk⟩ := h
  unfold mFn at e
  split at e
  · rename_i hx
    have q2 := q.start (N := N) rfl
    rw [hx] at q2
    cases q1 : m (xs.map some ++ List.replicate (N.length - n) none) h with
    | bad => rw [q1] at e; cases e
    | ok fl h2 =>
      rw [q1] at e
      refine ⟨r, h, _, R, q2, fl, h2, q1, fun r1 H1 k1 R1 => ?_⟩
      cases fl with
      | rt v2 => cases e; exact fun u q3 => kk r1 H1 u k1 R1 q3
      | nx sl => cases e; exact fun s1 S1 => kk r1 H1 .non k1 R1 .non
      | bk sl => cases e
      | ct sl => cases e
  · cases e
section
variable {X : Cx} {pos p : Pos} {a : Expr} {es : List Expr} {mt : MA} {x : Str} {k n : Nat} {f : Addr} {fd : FuncData} {ps : List Str} {m : List Val → M Val}
theorem mCallF_run {K : PySem.W.Frag} {dvs : List V} {ds : List Val} {E : XK} {s : L2.St} {H : Hp} {Q : VK} (hd : ∀ r H, RVs K r H ds dvs) (hn : ∀ xs h v h', m (xs ++ ds) h = .ok v h' → (xs ++ ds).length = n) (z : tE K (mCall (fun xs => m (xs ++ ds)) mt) s H Q) : tCall (spM K m n) dvs E (tA K mt) s H Q := by
  obtain ⟨r, h, sl, R, S, v, h', e, k⟩ := z
  obtain ⟨xs, g1, e1, e⟩ := bnd_ok e
  refine ⟨r, h, sl, R, S, xs, g1, e1, fun r1 H1 us k1 R1 q1 => ?_⟩
  have q2 := q1.append (hd r1 H1)
  exact ⟨by rw [q2.length]; exact hn xs g1 v h' e, r1, g1, xs ++ ds, R1, q2, v, h', e, k.go k1⟩
theorem mFn_n {size : Nat} {b : MS} {xs : List Val} {h h' : AH} {v : Val} (e : mFn n size b xs h = .ok v h') : xs.length = n := by
  unfold mFn at e
  split at e
  · assumption
  · cases e
/-- f(e, ..): every parameter given -/
theorem se_call {size : Nat} {b : MS} (F : FnOk X.prog X.w X.K X.mg X.base CX0 k f fd ps (spM X.K (mFn n size b) n)) (hr : Room k X.A) (hm : X.mg x = some (.ref f)) (hk : PySem.W.keepIn X.K (.ref f) = true) (hb : Binds X.K fd ps []) (ha : SA X (a :: es) mt)
    (hg : Gl X x := by rfl) (hdb : (x == ("__debug__" : Str)) = false := by decide) (he : starEach (a :: es) X.env = (false, eval a X.env) :: starEach es X.env := by rfl) (hpl : (backTo pos (starEach es X.env)).any (·.1) = false := by rfl) :
    SE X (.Call (.Name x p) (a :: es) [] pos) (mCall (mFn n size b) mt) :=
  PE.imp (pe_call F hr hg hm hk hb .nil pass0 ha hdb he hpl) fun s H Q z => by
    have z2 : tE X.K (mCall (fun xs => mFn n size b (xs ++ [])) mt) s H Q := by
      obtain ⟨r, h, sl, R, S, v, h', e, k⟩ := z
      refine ⟨r, h, sl, R, S, v, h', ?_, k⟩
      simpa only [List.append_nil] using e
    exact mCallF_run (fun _ _ => .nil) (fun xs h v h' e => mFn_n e) z2
/-- f(e, ..): the last parameters by their defaults -/
theorem se_calld {size : Nat} {b : MS} {ds : List Value} {dvs : List V} {dm : List Val} (F : FnOk X.prog X.w X.K X.mg X.base CX0 k f fd ps (spM X.K (mFn n size b) n)) (hr : Room k X.A) (hm : X.mg x = some (.ref f)) (hk : PySem.W.keepIn X.K (.ref f) = true) (hb : Binds X.K fd ps ds) (hd : Vals dvs ds) (hdm : ∀ r H, RVs X.K r H dm dvs) (ha : SA X (a :: es) mt)
    (hg : Gl X x := by rfl) (hdb : (x == ("__debug__" : Str)) = false := by decide) (he : starEach (a :: es) X.env = (false, eval a X.env) :: starEach es X.env := by rfl) (hpl : (backTo pos (starEach es X.env)).any (·.1) = false := by rfl) :
    SE X (.Call (.Name x p) (a :: es) [] pos) (mCall (fun xs => mFn n size b (xs ++ dm)) mt) :=
  PE.imp (pe_call F hr hg hm hk hb hd pass0 ha hdb he hpl) fun s H Q z => mCallF_run hdm (fun xs h v h' e => mFn_n e) z
theorem se_call0 {size : Nat} {b : MS} (F : FnOk X.prog X.w X.K X.mg X.base CX0 k f fd ps (spM X.K (mFn n size b) n)) (hr : Room k X.A) (hm : X.mg x = some (.ref f)) (hk : PySem.W.keepIn X.K (.ref f) = true) (hb : Binds X.K fd ps [])
    (hg : Gl X x := by rfl) (hdb : (x == ("__debug__" : Str)) = false := by decide) :
    SE X (.Call (.Name x p) [] [] pos) (mCall (mFn n size b) mNil) :=
  PE.imp (pe_call0 F hr hg hm hk hb .nil pass0 hdb) fun s H Q z => by
    obtain ⟨r, h, sl, R, S, v, h', e, k⟩ := z
    obtain ⟨xs, g1, e1, e⟩ := bnd_ok e
    cases e1
    exact ⟨by rw [← mFn_n e]; rfl, r, _, [], R, .nil, v, h', e, k⟩
end
/-! ### the end -/
theorem RVs.ints {K : PySem.W.Frag} {r : List Addr} {H : Hp} : ∀ ys : List Int, RVs K r H (ys.map Val.int) (ys.map V.int)
  | [] => .nil
  | y :: ys => .cons (.int y) (RVs.ints ys)
theorem law_sp {K : PySem.W.Frag} {m : List Val → M Val} {H : Hp} {a : Addr} {ns : List Int} (hO : Only H) (hS : SqL K H a (ns.map V.int)) (hm : ∃ h', m [.ref 0] [.frz (ns.map Val.int)] = .ok (.bl true) h') :
    spM K m 1 [.ref a] H (fun v _ => v = .bl true) fun _ _ _ => False := by
  obtain ⟨h', e⟩ := hm
  have fz : FzL K H a (ns.map V.int) := by
    rcases hS with (h | h) | h
    · rcases hO a with q | ⟨o, xs, q⟩
      · rw [q] at h; cases h
      · rw [q] at h; cases h
    · exact .inl h
    · exact .inr h
  refine ⟨rfl, [a], [.frz (ns.map Val.int)], [.ref 0], ⟨rfl, fun i j b o o' e1 e2 f1 f2 m1 m2 => ?_, fun i b o e1 e2 => ?_⟩, .cons (.ref rfl) .nil, .bl true, h', e, fun r' H' u g R q => ?_⟩
  · match i, f1 with
    | 0, f1 => cases f1; cases m1
    | i + 1, f1 => cases f1
  · match i, e1, e2 with
    | 0, e1, e2 =>
      cases e1
      cases e2
      exact ⟨_, fz, RVs.ints ns⟩
    | i + 1, e1, e2 => cases e1
  · cases q
    rfl
end Mr

set_option Elab.async false
set_option linter.all false
set_option maxRecDepth 100000
set_option maxHeartbeats 1000000
namespace Mr
open PySem PySem.Spec PyProof.Rows L2
theorem sss_never {X : Cx} {sts : List Stmt} : SSs X sts mNever := PSs.imp pss_never fun D s H ⟨r, h, sl, R, S, f, h', e, k⟩ => by cases e
/-- a def of the text, where it stands -/
structure Df (K : PySem.W.Frag) (mg : Str → Option Value) (x : Str) (st : Stmt) (ps : List Str) (dvs : List V) (f : Addr) (fd : FuncData) : Prop where
  F : FunD K x x (defArgs st) (defBody st) (defScope st) dvs [] f fd
  gm : mg x = some (.ref f)
  b : ∀ n, n ≤ dvs.length → ∃ ds, Vals (dvs.drop n) ds ∧ Binds K fd ps ds
theorem Df.bd {K : PySem.W.Frag} {mg : Str → Option Value} {x : Str} {st : Stmt} {ps : List Str} {dvs : List V} {f : Addr} {fd : FuncData} (D : Df K mg x st ps dvs f fd) : Binds K fd ps [] := by
  obtain ⟨ds, h1, h2⟩ := D.b dvs.length (Nat.le_refl _)
  rw [List.drop_length] at h1
  cases h1
  exact h2
theorem Df.mk0 {K : PySem.W.Frag} {mg : Str → Option Value} {x : Str} {st : Stmt} {ps : List Str} {f : Addr} {fd : FuncData} (F : FunD K x x (defArgs st) (defBody st) (defScope st) [] [] f fd) (gm : mg x = some (.ref f))
    (h : ∀ (kV doc pm : Value) (an : Option Addr) (cdv ct : Value) (us : List Value), us.length = ps.length → bindArgs (PySem.W.fnOf x x (defArgs st) (defBody st) (defScope st) .none kV doc pm an cdv ct) ⟨us, []⟩ = pure (ps.zip us)) : Df K mg x st ps [] f fd :=
  ⟨F, gm, fun n hn => ⟨[], by
    rw [List.drop_nil]
    exact .nil, F.bindsN h⟩⟩
theorem Df.mk1 {K : PySem.W.Frag} {mg : Str → Option Value} {x : Str} {st : Stmt} {ps : List Str} {d : V} {f : Addr} {fd : FuncData} {m : Nat} (F : FunD K x x (defArgs st) (defBody st) (defScope st) [d] [] f fd) (gm : mg x = some (.ref f)) (hm : m + 1 = ps.length)
    (h0 : ∀ (T : Addr) (kV doc pm : Value) (an : Option Addr) (cdv ct : Value) (us its : List Value), us.length = m → its.length = 1 →
      ∃ k, bindArgs (PySem.W.fnOf x x (defArgs st) (defBody st) (defScope st) (.ref T) kV doc pm an cdv ct) ⟨us, []⟩ = seqItems? (.ref T) >>= k ∧ k (some its.toArray) = pure (ps.zip (us ++ its.drop 0)))
    (h1 : ∀ (T : Addr) (kV doc pm : Value) (an : Option Addr) (cdv ct : Value) (us its : List Value), us.length = m + 1 → its.length = 1 →
      ∃ k, bindArgs (PySem.W.fnOf x x (defArgs st) (defBody st) (defScope st) (.ref T) kV doc pm an cdv ct) ⟨us, []⟩ = seqItems? (.ref T) >>= k ∧ k (some its.toArray) = pure (ps.zip (us ++ its.drop 1))) : Df K mg x st ps [d] f fd :=
  ⟨F, gm, fun n hn => by
    match n, hn with
    | 0, _ => exact F.binds1 m 0 (by simp) (by simpa using hm) h0
    | 1, _ => exact F.binds1 (m + 1) 1 (by simp) (by simpa using hm) h1⟩
def mPar3 (i j l : Nat) (t : MA) : MS := fun sl => bnd (t sl) fun vs => match vs with
  | [u, v, w] => ret (.nx (((sl.set i (some u)).set j (some v)).set l (some w)))
  | _ => fail
theorem RVs.three {K : PySem.W.Frag} {r : List Addr} {H : Hp} {x y z : Val} {us : List V} (q : RVs K r H [x, y, z] us) : ∃ u w v, us = [u, w, v] ∧ RV K r H x u ∧ RV K r H y w ∧ RV K r H z v := by
  cases q with
  | cons a b =>
    obtain ⟨w, v, e, q, q'⟩ := b.two
    subst e
    exact ⟨_, _, _, rfl, a, q, q'⟩
theorem ss_par3 {X : Cx} {i j l : Nat} {x y z : Str} {a b c : Expr} {mt : MA} {px py pz pt pos : Pos} {kt k2 pt2} (hc : X.calm = true) (hN : X.N.Nodup) (ha : SA X [a, b, c] mt) (hi : X.N[i]? = some x := by rfl) (hj : X.N[j]? = some y := by rfl) (hl : X.N[l]? = some z := by rfl) (hij : i ≠ j := by decide) (hil : i ≠ l := by decide) (hjl : j ≠ l := by decide)
    (hx : X.env.scope.names.lookup x = some .local := by rfl) (hy : X.env.scope.names.lookup y = some .local := by rfl) (hz : X.env.scope.names.lookup z = some .local := by rfl)
    (hw : swappedStores [.Tuple [.Name x px, .Name y py, .Name z pz] kt pt] (.Tuple [a, b, c] k2 pt2) X.env = pure (some [x, y, z]) := by rfl)
    (hs : swapsWithSole [.Tuple [.Name x px, .Name y py, .Name z pz] kt pt] (.Tuple [a, b, c] k2 pt2) pos.line X.env = pure false := by rfl) :
    SS X (.Assign [.Tuple [.Name x px, .Name y py, .Name z pz] kt pt] (.Tuple [a, b, c] k2 pt2) pos) (mPar3 i j l mt) := PS.imp (ps_par3 hc hN hi hj hl hij hil hjl hx hy hz ha hw hs) fun D s H ⟨r, h, sl, R, S, f, h', e, k⟩ => by
  obtain ⟨vs, g1, e1, e⟩ := bnd_ok e
  match vs, e with
  | [u, v, w], e =>
    cases e
    refine ⟨r, h, sl, R, S, _, _, e1, fun r1 H1 us k1 R1 q1 => ?_⟩
    obtain ⟨u', v', w', rfl, q2, q3, q4⟩ := q1.three
    exact ⟨u', v', w', rfl, k r1 H1 k1 R1 _ ((((S.go k1).set q2).set q3).set q4)⟩
section
variable {X : Cx} {pos p : Pos} {a : Expr} {es : List Expr} {mt : MA} {x : Str} {k n : Nat} {f : Addr} {fd : FuncData} {ps : List Str}
theorem se_callm {size : Nat} {b : MS} {dvs : List V} {dm : List Val} (F : FnOk X.prog X.w X.K X.mg X.base CX0 k f fd ps (spM X.K (mFn n size b) n)) (hr : Room k X.A) (hm : X.mg x = some (.ref f)) (hk : PySem.W.keepIn X.K (.ref f) = true) (hb : ∃ ds, Vals dvs ds ∧ Binds X.K fd ps ds) (hdm : ∀ r H, RVs X.K r H dm dvs) (ha : SA X (a :: es) mt)
    (hg : Gl X x := by rfl) (hdb : (x == ("__debug__" : Str)) = false := by decide) (he : starEach (a :: es) X.env = (false, eval a X.env) :: starEach es X.env := by rfl) (hpl : (backTo pos (starEach es X.env)).any (·.1) = false := by rfl) :
    SE X (.Call (.Name x p) (a :: es) [] pos) (mCall (fun xs => mFn n size b (xs ++ dm)) mt) := by
  obtain ⟨ds, hd, hb⟩ := hb
  exact se_calld F hr hm hk hb hd hdm ha hg hdb he hpl
end
end Mr

set_option Elab.async false
set_option linter.all false
set_option maxRecDepth 100000
set_option maxHeartbeats 1000000
namespace Mr
open PySem L2
/-! ### rules for running the mirror -/
def Res.bd {α β : Type} (r : Res α) (f : α → AH → Res β) : Res β := match r with
  | .ok a h => f a h
  | .bad => .bad
@[simp] theorem bd_ok {α β : Type} (a : α) (h : AH) (f : α → AH → Res β) : Res.bd (.ok a h) f = f a h := rfl
@[simp] theorem bd_bad {α β : Type} (f : α → AH → Res β) : Res.bd .bad f = .bad := rfl
def fin : Res Fl → Res Val
  | .ok (.rt v) h => .ok v h
  | .ok (.nx _) h => .ok .non h
  | _ => .bad
@[simp] theorem fin_rt (v : Val) (h : AH) : fin (.ok (.rt v) h) = .ok v h := rfl
@[simp] theorem fin_nx (s : Sl) (h : AH) : fin (.ok (.nx s) h) = .ok .non h := rfl
@[simp] theorem ret_app {α : Type} (a : α) (h : AH) : Mr.ret a h = .ok a h := rfl
@[simp] theorem fail_app {α : Type} (h : AH) : (Mr.fail : M α) h = .bad := rfl
theorem bnd_app {α β : Type} (m : M α) (f : α → M β) (h : AH) : bnd m f h = Res.bd (m h) f := by
  unfold bnd Res.bd
  cases m h <;> rfl
@[simp] theorem mC_app (v : Val) (sl : Sl) (h : AH) : mC v sl h = .ok v h := rfl
def varR (h : AH) : Option (Option Val) → Res Val
  | some (some v) => .ok v h
  | _ => .bad
@[simp] theorem varR_some (v : Val) (h : AH) : varR h (some (some v)) = .ok v h := rfl
@[simp] theorem mVar_app (i : Nat) (sl : Sl) (h : AH) : mVar i sl h = varR h sl[i]? := by
  unfold mVar varR
  cases sl[i]? with
  | none => rfl
  | some o => cases o <;> rfl
@[simp] theorem mOp_app (o : Val → Val → M Val) (a b : ME) (sl : Sl) (h : AH) : mOp o a b sl h = Res.bd (a sl h) fun x h1 => Res.bd (b sl h1) fun y h2 => o x y h2 := by
  unfold mOp; rw [bnd_app]; first | (congr; done) | (congr; funext x h1; rw [bnd_app])
@[simp] theorem mUn_app (o : Val → M Val) (a : ME) (sl : Sl) (h : AH) : mUn o a sl h = Res.bd (a sl h) o := by unfold mUn; simp only [bnd_app]
def truR : Val → AH → Res Bool
  | .bl b, h => .ok b h
  | _, _ => .bad
@[simp] theorem truR_bl (b : Bool) (h : AH) : truR (.bl b) h = .ok b h := rfl
@[simp] theorem mTest_app (m : ME) (sl : Sl) (h : AH) : mTest m sl h = Res.bd (m sl h) truR := by
  unfold mTest; rw [bnd_app]; congr; funext v h; cases v <;> rfl
@[simp] theorem mAnd_app (t u : MT) (sl : Sl) (h : AH) : mAnd t u sl h = Res.bd (t sl h) fun c h1 => if c = true then u sl h1 else .ok false h1 := by
  unfold mAnd; rw [bnd_app]; congr; funext v h; cases v <;> rfl
@[simp] theorem mOr_app (t u : MT) (sl : Sl) (h : AH) : mOr t u sl h = Res.bd (t sl h) fun c h1 => if c = true then .ok true h1 else u sl h1 := by
  unfold mOr; rw [bnd_app]; congr; funext v h; cases v <;> rfl
@[simp] theorem mNot_app (t : MT) (sl : Sl) (h : AH) : mNot t sl h = Res.bd (t sl h) fun c h1 => .ok (!c) h1 := by
  unfold mNot; rw [bnd_app]; rfl
def andR (k : AH → Res Val) : Val → AH → Res Val
  | .bl true, h => k h
  | .bl false, h => .ok (.bl false) h
  | _, _ => .bad
def orR (k : AH → Res Val) : Val → AH → Res Val
  | .bl true, h => .ok (.bl true) h
  | .bl false, h => k h
  | _, _ => .bad
def notR : Val → AH → Res Val
  | .bl b, h => .ok (.bl (!b)) h
  | _, _ => .bad
@[simp] theorem andR_bl (k : AH → Res Val) (b : Bool) (h : AH) : andR k (.bl b) h = if b = true then k h else .ok (.bl false) h := by cases b <;> rfl
@[simp] theorem orR_bl (k : AH → Res Val) (b : Bool) (h : AH) : orR k (.bl b) h = if b = true then .ok (.bl true) h else k h := by cases b <;> rfl
@[simp] theorem notR_bl (b : Bool) (h : AH) : notR (.bl b) h = .ok (.bl (!b)) h := rfl
@[simp] theorem mAndV_app (p q : ME) (sl : Sl) (h : AH) : mAndV p q sl h = Res.bd (p sl h) (andR (q sl)) := by
  unfold mAndV; rw [bnd_app]; congr; funext v h
  cases v with
  | bl b => cases b <;> rfl
  | _ => rfl
@[simp] theorem mOrV_app (p q : ME) (sl : Sl) (h : AH) : mOrV p q sl h = Res.bd (p sl h) (orR (q sl)) := by
  unfold mOrV; rw [bnd_app]; congr; funext v h
  cases v with
  | bl b => cases b <;> rfl
  | _ => rfl
@[simp] theorem mNotV_app (p : ME) (sl : Sl) (h : AH) : mNotV p sl h = Res.bd (p sl h) notR := by
  unfold mNotV; rw [bnd_app]; congr; funext v h; cases v <;> rfl
@[simp] theorem mIf_app (t : MT) (p q : ME) (sl : Sl) (h : AH) : mIf t p q sl h = Res.bd (t sl h) fun c h1 => if c = true then p sl h1 else q sl h1 := by
  unfold mIf; rw [bnd_app]; congr; funext v h; cases v <;> rfl
@[simp] theorem mNil_app (sl : Sl) (h : AH) : mNil sl h = .ok [] h := rfl
@[simp] theorem mCons_app (m : ME) (t : MA) (sl : Sl) (h : AH) : mCons m t sl h = Res.bd (m sl h) fun x h1 => Res.bd (t sl h1) fun xs h2 => .ok (x :: xs) h2 := by
  unfold mCons; simp only [bnd_app]; rfl
@[simp] theorem mTup_app (t : MA) (sl : Sl) (h : AH) : mTup t sl h = Res.bd (t sl h) fun xs h1 => if sizeOk xs.length = true then .ok (.tup xs) h1 else .bad := by
  unfold mTup; rw [bnd_app]; congr; funext v h; split <;> rfl
@[simp] theorem mNewL_app (xs : List Val) (h : AH) : mNewL xs h = .ok (.ref h.length) (h ++ [.lst xs]) := rfl
@[simp] theorem mLst_app (t : MA) (sl : Sl) (h : AH) : mLst t sl h = Res.bd (t sl h) fun xs h1 => if sizeOk xs.length = true then .ok (.ref h1.length) (h1 ++ [.lst xs]) else .bad := by
  unfold mLst; rw [bnd_app]; congr; funext v h; split <;> rfl
@[simp] theorem mCall_app (o : List Val → M Val) (t : MA) (sl : Sl) (h : AH) : mCall o t sl h = Res.bd (t sl h) o := by unfold mCall; rw [bnd_app]
@[simp] theorem mNoPart_app (sl : Sl) (h : AH) : mNoPart sl h = .ok none h := rfl
def partR : Val → AH → Res (Option Int)
  | .int i, h => .ok (some i) h
  | _, _ => .bad
@[simp] theorem partR_int (i : Int) (h : AH) : partR (.int i) h = .ok (some i) h := rfl
@[simp] theorem mPart_app (m : ME) (sl : Sl) (h : AH) : mPart m sl h = Res.bd (m sl h) partR := by
  unfold mPart; rw [bnd_app]; congr; funext v h; cases v <;> rfl
@[simp] theorem mSl_app (m : ME) (l u : MO) (sl : Sl) (h : AH) : mSl m l u sl h = Res.bd (m sl h) fun x h1 => Res.bd (l sl h1) fun lo h2 => Res.bd (u sl h2) fun hi h3 => oSl x lo hi h3 := by
  unfold mSl; rw [bnd_app]; congr
def chainR (o' : Val → Val → M Val) (mc : AH → Res Val) (y : Val) : Val → AH → Res Val
  | .bl true, h => Res.bd (mc h) fun w h1 => o' y w h1
  | .bl false, h => .ok (.bl false) h
  | _, _ => .bad
@[simp] theorem chainR_bl (o' : Val → Val → M Val) (mc : AH → Res Val) (y : Val) (b : Bool) (h : AH) : chainR o' mc y (.bl b) h = if b = true then Res.bd (mc h) fun w h1 => o' y w h1 else .ok (.bl false) h := by cases b <;> rfl
@[simp] theorem mChain_app (o o' : Val → Val → M Val) (a b c : ME) (sl : Sl) (h : AH) : mChain o o' a b c sl h = Res.bd (a sl h) fun x h1 => Res.bd (b sl h1) fun y h2 => Res.bd (o x y h2) (chainR o' (c sl) y) := by
  unfold mChain
  simp only [bnd_app]
  congr; funext x h1; congr; funext y h2; congr; funext z h3
  cases z with
  | bl b => cases b <;> simp [chainR, bnd_app]
  | _ => rfl
def kitR (h : AH) : Option Bool → Res Val
  | some b => .ok (.bl b) h
  | none => .bad
@[simp] theorem kitR_some (h : AH) (b : Bool) : kitR h (some b) = .ok (.bl b) h := rfl
def tyR (T : String) (h : AH) : Option String → Res Val
  | some t => kitR h (kitB t T)
  | none => .bad
@[simp] theorem tyR_some (T t : String) (h : AH) : tyR T h (some t) = kitR h (kitB t T) := rfl
@[simp] theorem mIsi_app (T : String) (m : ME) (sl : Sl) (h : AH) : mIsi T m sl h = Res.bd (m sl h) fun x h1 => tyR T h1 (tyName h1 x) := by
  unfold mIsi; rw [bnd_app]
  have e : (fun x h1 => match tyName h1 x with
    | some t => (match kitB t T with
      | some b => Res.ok (Val.bl b) h1
      | none => Res.bad)
    | none => Res.bad) = fun x h1 => tyR T h1 (tyName h1 x) := by
    funext x h1
    unfold tyR
    cases tyName h1 x with
    | none => rfl
    | some t =>
      dsimp only
      unfold kitR
      cases kitB t T <;> rfl
  exact congrArg _ e
@[simp] theorem mMeth_app (T : String) (f : Val → List Val → M Val) (mo : ME) (t : MA) (sl : Sl) (h : AH) : mMeth T f mo t sl h = Res.bd (mo sl h) fun x h1 => if isTy T h1 x = true then Res.bd (t sl h1) fun xs h2 => f x xs h2 else .bad := by
  unfold mMeth; simp only [bnd_app]
/-! statements -/
@[simp] theorem mNext_app (sl : Sl) (h : AH) : mNext sl h = .ok (.nx sl) h := rfl
def seqR (b : MS) : Fl → AH → Res Fl
  | .nx sl, h => b sl h
  | f, h => .ok f h
@[simp] theorem seqR_nx (b : MS) (sl : Sl) (h : AH) : seqR b (.nx sl) h = b sl h := rfl
@[simp] theorem seqR_rt (b : MS) (v : Val) (h : AH) : seqR b (.rt v) h = .ok (.rt v) h := rfl
@[simp] theorem seqR_bk (b : MS) (v : Sl) (h : AH) : seqR b (.bk v) h = .ok (.bk v) h := rfl
@[simp] theorem seqR_ct (b : MS) (v : Sl) (h : AH) : seqR b (.ct v) h = .ok (.ct v) h := rfl
@[simp] theorem mSeq_app (a b : MS) (sl : Sl) (h : AH) : mSeq a b sl h = Res.bd (a sl h) (seqR b) := by
  unfold mSeq; rw [bnd_app]; congr; funext v h; cases v <;> rfl
@[simp] theorem mBreak_app (sl : Sl) (h : AH) : mBreak sl h = .ok (.bk sl) h := rfl
@[simp] theorem mCont_app (sl : Sl) (h : AH) : mCont sl h = .ok (.ct sl) h := rfl
@[simp] theorem mDrop_app (m : ME) (sl : Sl) (h : AH) : mDrop m sl h = Res.bd (m sl h) fun _ h1 => .ok (.nx sl) h1 := by unfold mDrop; rw [bnd_app]; rfl
@[simp] theorem mRet_app (m : ME) (sl : Sl) (h : AH) : mRet m sl h = Res.bd (m sl h) fun v h1 => .ok (.rt v) h1 := by unfold mRet; rw [bnd_app]; rfl
@[simp] theorem mIfS_app (t : MT) (a b : MS) (sl : Sl) (h : AH) : mIfS t a b sl h = Res.bd (t sl h) fun c h1 => if c = true then a sl h1 else b sl h1 := by
  unfold mIfS; rw [bnd_app]; congr; funext v h; cases v <;> rfl
@[simp] theorem mSet_app (i : Nat) (m : ME) (sl : Sl) (h : AH) : mSet i m sl h = Res.bd (m sl h) fun v h1 => .ok (.nx (sl.set i (some v))) h1 := by unfold mSet; rw [bnd_app]; rfl
def asgR (o : Option Sl) (h : AH) : Res Fl := match o with
  | some s => .ok (.nx s) h
  | none => .bad
@[simp] theorem asgR_some (s : Sl) (h : AH) : asgR (some s) h = .ok (.nx s) h := rfl
@[simp] theorem mAsg_app (p : Pat) (m : ME) (sl : Sl) (h : AH) : mAsg p m sl h = Res.bd (m sl h) fun v h1 => asgR (p.bd v sl) h1 := by
  unfold mAsg; rw [bnd_app]; congr; funext v h; unfold asgR; cases p.bd v sl <;> rfl
def parR (i j : Nat) (sl : Sl) : List Val → AH → Res Fl
  | [v, w], h => .ok (.nx ((sl.set i (some v)).set j (some w))) h
  | _, _ => .bad
@[simp] theorem parR_two (i j : Nat) (sl : Sl) (v w : Val) (h : AH) : parR i j sl [v, w] h = .ok (.nx ((sl.set i (some v)).set j (some w))) h := rfl
@[simp] theorem mPar_app (i j : Nat) (t : MA) (sl : Sl) (h : AH) : mPar i j t sl h = Res.bd (t sl h) (parR i j sl) := by
  unfold mPar; rw [bnd_app]; congr; funext v h
  match v with
  | [] => rfl
  | [_] => rfl
  | [_, _] => rfl
  | _ :: _ :: _ :: _ => rfl
def par3R (i j l : Nat) (sl : Sl) : List Val → AH → Res Fl
  | [u, v, w], h => .ok (.nx (((sl.set i (some u)).set j (some v)).set l (some w))) h
  | _, _ => .bad
@[simp] theorem par3R_three (i j l : Nat) (sl : Sl) (u v w : Val) (h : AH) : par3R i j l sl [u, v, w] h = .ok (.nx (((sl.set i (some u)).set j (some v)).set l (some w))) h := rfl
@[simp] theorem mPar3_app (i j l : Nat) (t : MA) (sl : Sl) (h : AH) : mPar3 i j l t sl h = Res.bd (t sl h) (par3R i j l sl) := by
  unfold mPar3; rw [bnd_app]; congr; funext v h
  match v with
  | [] => rfl
  | [_] => rfl
  | [_, _] => rfl
  | [_, _, _] => rfl
  | _ :: _ :: _ :: _ :: _ => rfl
@[simp] theorem mSub_app (mo mi m : ME) (sl : Sl) (h : AH) : mSub mo mi m sl h = Res.bd (m sl h) fun v h1 => Res.bd (mo sl h1) fun o h2 => Res.bd (mi sl h2) fun i h3 => Res.bd (stL o i v h3) fun _ h4 => .ok (.nx sl) h4 := by
  unfold mSub; simp only [bnd_app]; rfl
def augR' (i : Nat) (o : Val → Val → M Val) (m : ME) (sl : Sl) (h : AH) : Option (Option Val) → Res Fl
  | some (some x) => Res.bd (m sl h) fun y h1 => Res.bd (o x y h1) fun z h2 => .ok (.nx (sl.set i (some z))) h2
  | _ => .bad
@[simp] theorem augR'_some (i : Nat) (o : Val → Val → M Val) (m : ME) (sl : Sl) (h : AH) (x : Val) : augR' i o m sl h (some (some x)) = Res.bd (m sl h) fun y h1 => Res.bd (o x y h1) fun z h2 => .ok (.nx (sl.set i (some z))) h2 := rfl
@[simp] theorem mAug_app (i : Nat) (o : Val → Val → M Val) (m : ME) (sl : Sl) (h : AH) : mAug i o m sl h = augR' i o m sl h sl[i]? := by
  unfold mAug augR'
  cases sl[i]? with
  | none => rfl
  | some w =>
    cases w with
    | none => rfl
    | some x => simp only [bnd_app]; rfl
@[simp] theorem mFor_app (m : MI) (p : Pat) (b : MS) (sl : Sl) (h : AH) : mFor m p b sl h = Res.bd (m sl h) fun nx h1 => forL nx p b FUEL 0 sl h1 := by unfold mFor; rw [bnd_app]
/-! patterns -/
@[simp] theorem bd_nm (i : Nat) (v : Val) (sl : Sl) : (Pat.nm i).bd v sl = some (sl.set i (some v)) := by unfold Pat.bd; rfl
@[simp] theorem bd_tp (ps : List Pat) (xs : List Val) (sl : Sl) : (Pat.tp ps).bd (.tup xs) sl = if xs.length = ps.length then Pat.bds ps xs sl else none := by rw [Pat.bd]
@[simp] theorem bds_nil (xs : List Val) (sl : Sl) : Pat.bds [] xs sl = some sl := by rw [Pat.bds]
def bdsR (ps : List Pat) (xs : List Val) : Option Sl → Option Sl
  | some s => Pat.bds ps xs s
  | none => none
@[simp] theorem bdsR_some (ps : List Pat) (xs : List Val) (s : Sl) : bdsR ps xs (some s) = Pat.bds ps xs s := rfl
@[simp] theorem bds_cons (p : Pat) (ps : List Pat) (x : Val) (xs : List Val) (sl : Sl) : Pat.bds (p :: ps) (x :: xs) sl = bdsR ps xs (p.bd x sl) := by
  rw [Pat.bds]; unfold bdsR; cases p.bd x sl <;> rfl
/-! operators on known values -/
section
variable (i j : Int) (x y : Str) (h : AH) (b : Bool)
@[simp] theorem oAdd_ii : oAdd (.int i) (.int j) h = .ok (.int (i + j)) h := rfl
@[simp] theorem oAdd_ss : oAdd (.str x) (.str y) h = if sizeOk (x.length + y.length) = true then .ok (.str (x ++ y)) h else .bad := by unfold oAdd; dsimp only; split <;> rfl
@[simp] theorem oSub_ii : oSub (.int i) (.int j) h = .ok (.int (i - j)) h := rfl
@[simp] theorem oMul_ii : oMul (.int i) (.int j) h = if mulOk i j = true then .ok (.int (i * j)) h else .bad := by unfold oMul; dsimp only; split <;> rfl
@[simp] theorem oDiv_ii : oDiv (.int i) (.int j) h = if divOk j = true then .ok (.int (i / j)) h else .bad := by unfold oDiv oIc; dsimp only; split <;> rfl
@[simp] theorem oMod_ii : oMod (.int i) (.int j) h = if 0 < j then .ok (.int (i % j)) h else .bad := by unfold oMod oIc; dsimp only; simp only [decide_eq_true_eq]; split <;> rfl
@[simp] theorem oPow_ii : oPow (.int i) (.int j) h = if powOk i j = true then .ok (.int (i ^ j.toNat)) h else .bad := by unfold oPow oIc; dsimp only; split <;> rfl
@[simp] theorem cpo_eq : Cp.o .eq = oEq := rfl
@[simp] theorem cpo_ne : Cp.o .ne = oNe := rfl
@[simp] theorem cpo_lt : Cp.o .lt = oLt := rfl
@[simp] theorem cpo_le : Cp.o .le = oLe := rfl
@[simp] theorem cpo_gt : Cp.o .gt = oGt := rfl
@[simp] theorem cpo_ge : Cp.o .ge = oGe := rfl
@[simp] theorem cpo_in : Cp.o .isIn = oIn := rfl
@[simp] theorem cpo_notin : Cp.o .notIn = oNotIn := rfl
@[simp] theorem cpo_isN : Cp.o .isN = oIsN := rfl
@[simp] theorem cpo_notN : Cp.o .notN = oNotN := rfl
@[simp] theorem oEq_ii : oEq (.int i) (.int j) h = .ok (.bl (decide (i = j))) h := rfl
@[simp] theorem oEq_ss : oEq (.str x) (.str y) h = .ok (.bl (decide (x = y))) h := rfl
@[simp] theorem oNe_ii : oNe (.int i) (.int j) h = .ok (.bl (!decide (i = j))) h := rfl
@[simp] theorem oNe_ss : oNe (.str x) (.str y) h = .ok (.bl (!decide (x = y))) h := rfl
@[simp] theorem oLt_ii : oLt (.int i) (.int j) h = .ok (.bl (decide (i < j))) h := rfl
@[simp] theorem oLe_ii : oLe (.int i) (.int j) h = .ok (.bl (decide (i ≤ j))) h := rfl
@[simp] theorem oGt_ii : oGt (.int i) (.int j) h = .ok (.bl (decide (j < i))) h := rfl
@[simp] theorem oGe_ii : oGe (.int i) (.int j) h = .ok (.bl (decide (j ≤ i))) h := rfl
@[simp] theorem oIsN_non : oIsN .non .non h = .ok (.bl true) h := rfl
@[simp] theorem oIsN_ref (n : Nat) : oIsN (.ref n) .non h = .ok (.bl false) h := rfl
@[simp] theorem oIsN_tup (xs : List Val) : oIsN (.tup xs) .non h = .ok (.bl false) h := rfl
@[simp] theorem oNotN_non : oNotN .non .non h = .ok (.bl false) h := rfl
@[simp] theorem oNotN_ref (n : Nat) : oNotN (.ref n) .non h = .ok (.bl true) h := rfl
@[simp] theorem oNotN_tup (xs : List Val) : oNotN (.tup xs) .non h = .ok (.bl true) h := rfl
def atR (h : AH) : Option Val → Res Val
  | some v => .ok v h
  | none => .bad
@[simp] theorem atR_some (v : Val) : atR h (some v) = .ok v h := rfl
@[simp] theorem oIx_tup (xs : List Val) : oIx (.tup xs) (.int i) h = atR h (L2.atI xs i) := by unfold oIx atR; dsimp only [seqOf]; all_goals (cases L2.atI xs i <;> rfl)
def ixR (i : Int) (h : AH) : Option (List Val) → Res Val
  | some xs => atR h (L2.atI xs i)
  | none => .bad
@[simp] theorem ixR_some (xs : List Val) : ixR i h (some xs) = atR h (L2.atI xs i) := rfl
@[simp] theorem oIx_ref (n : Nat) : oIx (.ref n) (.int i) h = ixR i h (lstAt h n) := by
  unfold oIx ixR atR; dsimp only [seqOf]
  all_goals cases lstAt h n with
  | none => rfl
  | some xs => dsimp only; cases L2.atI xs i <;> rfl
def sxR (z : Str) (h : AH) : Option Nat → Res Val
  | some c => if sizeOk z.length = true then .ok (.str ⟨#[c]⟩) h else .bad
  | none => .bad
@[simp] theorem sxR_some (z : Str) (c : Nat) : sxR z h (some c) = if sizeOk z.length = true then .ok (.str ⟨#[c]⟩) h else .bad := rfl
@[simp] theorem oIx_str (z : Str) : oIx (.str z) (.int i) h = sxR z h (L2.atI z.cps.toList i) := by
  unfold oIx sxR; dsimp only
  all_goals cases L2.atI z.cps.toList i with
  | none => rfl
  | some c => dsimp only; split <;> rfl
def newR (h : AH) : Option (List Val) → Res Val
  | some xs => .ok (.ref h.length) (h ++ [.lst xs])
  | none => .bad
@[simp] theorem newR_some (xs : List Val) : newR h (some xs) = .ok (.ref h.length) (h ++ [.lst xs]) := rfl
@[simp] theorem oSl_str (lo hi : Option Int) : oSl (.str x) lo hi h = if sizeOk x.length = true then .ok (.str (cutS x lo hi)) h else .bad := by unfold oSl; dsimp only; split <;> rfl
@[simp] theorem oSl_ref (n : Nat) (lo hi : Option Int) : oSl (.ref n) lo hi h = newR h ((lstAt h n).map fun xs => cutL xs lo hi) := by
  unfold oSl newR; dsimp only
  all_goals cases lstAt h n <;> rfl
def lenR (h : AH) : Option Nat → Res Val
  | some n => .ok (.int n) h
  | none => .bad
@[simp] theorem lenR_some (n : Nat) : lenR h (some n) = .ok (.int n) h := rfl
@[simp] theorem cLen_one (v : Val) : cLen [v] h = lenR h (lenB h v) := by unfold cLen lenR; dsimp only; all_goals (cases lenB h v <;> rfl)
@[simp] theorem lenB_str : lenB h (.str x) = if sizeOk x.length = true then some x.length else none := rfl
@[simp] theorem lenB_ref (n : Nat) : lenB h (.ref n) = (lstAt h n).map List.length := rfl
@[simp] theorem lenB_tup (xs : List Val) : lenB h (.tup xs) = some xs.length := rfl
@[simp] theorem cInt_i : cInt [.int i] h = .ok (.int i) h := rfl
@[simp] theorem cInt_b : cInt [.bl b] h = .ok (.int (if b then 1 else 0)) h := rfl
@[simp] theorem cMin2_ii : cMin2 [.int i, .int j] h = .ok (.int (if j < i then j else i)) h := rfl
@[simp] theorem cMax2_ii : cMax2 [.int i, .int j] h = .ok (.int (if j > i then j else i)) h := rfl
@[simp] theorem cList_ref (n : Nat) : cList [.ref n] h = newR h (lstAt h n) := by unfold cList newR; dsimp only [seqOf]; all_goals (cases lstAt h n <;> rfl)
def stR (n : Nat) (v : Val) (i : Int) (h : AH) : Option (List Val) → Res Unit
  | some xs => (match ixN xs.length i with
    | some j => .ok () (h.set n (.lst (xs.set j v)))
    | none => .bad)
  | none => .bad
@[simp] theorem stR_some (n : Nat) (v : Val) (xs : List Val) : stR n v i h (some xs) = match ixN xs.length i with
    | some j => .ok () (h.set n (.lst (xs.set j v)))
    | none => .bad := rfl
@[simp] theorem stL_ref (n : Nat) (v : Val) : stL (.ref n) (.int i) v h = stR n v i h (mutAt h n) := by
  unfold stL stR; dsimp only
  all_goals cases mutAt h n with
  | none => rfl
  | some xs => dsimp only; cases ixN xs.length i <;> rfl
def appR (n : Nat) (v : Val) (h : AH) : Option (List Val) → Res Val
  | some xs => if xs.length < 16777216 then .ok .non (h.set n (.lst (xs ++ [v]))) else .bad
  | none => .bad
@[simp] theorem appR_some (n : Nat) (v : Val) (xs : List Val) : appR n v h (some xs) = if xs.length < 16777216 then .ok .non (h.set n (.lst (xs ++ [v]))) else .bad := rfl
@[simp] theorem fAppend_ref (n : Nat) (v : Val) : fAppend (.ref n) [v] h = appR n v h (mutAt h n) := by
  unfold fAppend appR; dsimp only
  all_goals cases mutAt h n with
  | none => rfl
  | some xs => dsimp only
@[simp] theorem oAug_ii : oAug (.int i) (.int j) h = .ok (.int (i + j)) h := rfl
@[simp] theorem oAug_ss : oAug (.str x) (.str y) h = if sizeOk (x.length + y.length) = true then .ok (.str (x ++ y)) h else .bad := by unfold oAug; dsimp only; split <;> rfl
@[simp] theorem uNeg_i : uNeg (.int i) h = .ok (.int (-i)) h := rfl
@[simp] theorem isTy_str (T : String) : isTy T h (.str x) = (T == "str") := rfl
@[simp] theorem tyName_int : tyName h (.int i) = some "int" := rfl
@[simp] theorem tyName_str : tyName h (.str x) = some "str" := rfl
@[simp] theorem tyName_bl : tyName h (.bl b) = some "bool" := rfl
@[simp] theorem tyName_non : tyName h .non = some "NoneType" := rfl
@[simp] theorem tyName_tup (xs : List Val) : tyName h (.tup xs) = some "tuple" := rfl
@[simp] theorem kit_ii : kitB "int" "int" = some true := by decide +kernel
@[simp] theorem kit_ib : kitB "int" "bool" = some false := by decide +kernel
@[simp] theorem kit_bb : kitB "bool" "bool" = some true := by decide +kernel
@[simp] theorem kit_bi : kitB "bool" "int" = some true := by decide +kernel
@[simp] theorem kit_ss : kitB "str" "str" = some true := by decide +kernel
@[simp] theorem kit_is : kitB "int" "str" = some false := by decide +kernel
@[simp] theorem kit_ll : kitB "list" "list" = some true := by decide +kernel
@[simp] theorem kit_tt : kitB "tuple" "tuple" = some true := by decide +kernel
@[simp] theorem kit_tl : kitB "tuple" "list" = some false := by decide +kernel
@[simp] theorem kit_lt : kitB "list" "tuple" = some false := by decide +kernel
end
/-! iterables -/
def iterR : Val → AH → Res Nxt
  | .ref n, h => (match lstAt h n with
    | some _ => .ok (nList n) h
    | none => .bad)
  | .tup xs, h => .ok (nVals xs) h
  | .str x, h => .ok (nStr x) h
  | _, _ => .bad
@[simp] theorem mIter_app (m : ME) (sl : Sl) (h : AH) : mIter m sl h = Res.bd (m sl h) iterR := by
  unfold mIter; rw [bnd_app]; congr; funext v h; cases v <;> rfl
@[simp] theorem iterR_str (x : Str) (h : AH) : iterR (.str x) h = .ok (nStr x) h := rfl
@[simp] theorem iterR_tup (xs : List Val) (h : AH) : iterR (.tup xs) h = .ok (nVals xs) h := rfl
theorem iterR_ref {n : Nat} {h : AH} {xs : List Val} (e : lstAt h n = some xs) : iterR (.ref n) h = .ok (nList n) h := by unfold iterR; dsimp only; rw [e]
def rngR : List Val → AH → Res Nxt
  | [.int j], h => if rngOk j = true then .ok (nRange 0 j.toNat) h else .bad
  | _, _ => .bad
@[simp] theorem rngR_one (j : Int) (h : AH) : rngR [.int j] h = if rngOk j = true then .ok (nRange 0 j.toNat) h else .bad := rfl
@[simp] theorem mRng1_app (t : MA) (sl : Sl) (h : AH) : mRng1 t sl h = Res.bd (t sl h) rngR := by
  unfold mRng1; rw [bnd_app]; congr; funext v h
  match v with
  | [] => rfl
  | [.int j] => dsimp only; unfold rngR; dsimp only; split <;> rfl
  | [.non] => rfl
  | [.bl _] => rfl
  | [.str _] => rfl
  | [.tup _] => rfl
  | [.ref _] => rfl
  | x :: _ :: _ => cases x <;> rfl
def rng2R : List Val → AH → Res Nxt
  | [.int i, .int j], h => if (rngOk i && rngOk j) = true then .ok (nRange i (j - i).toNat) h else .bad
  | _, _ => .bad
@[simp] theorem rng2R_two (i j : Int) (h : AH) : rng2R [.int i, .int j] h = if (rngOk i && rngOk j) = true then .ok (nRange i (j - i).toNat) h else .bad := rfl
@[simp] theorem mRng2_app (t : MA) (sl : Sl) (h : AH) : mRng2 t sl h = Res.bd (t sl h) rng2R := by
  unfold mRng2; rw [bnd_app]; congr; funext v h
  match v with
  | [] => rfl
  | [x] => cases x <;> rfl
  | [.int i, .int j] => dsimp only; unfold rng2R; dsimp only; split <;> rfl
  | [.int i, .non] => rfl
  | [.int i, .bl _] => rfl
  | [.int i, .str _] => rfl
  | [.int i, .tup _] => rfl
  | [.int i, .ref _] => rfl
  | [.non, _] => rfl
  | [.bl _, _] => rfl
  | [.str _, _] => rfl
  | [.tup _, _] => rfl
  | [.ref _, _] => rfl
  | x :: y :: _ :: _ => cases x <;> cases y <;> rfl
def enumR : List Val → AH → Res Nxt
  | [.ref n], h => (match lstAt h n with
    | some _ => .ok (nEnum n) h
    | none => .bad)
  | _, _ => .bad
@[simp] theorem mEnum_app (t : MA) (sl : Sl) (h : AH) : mEnum t sl h = Res.bd (t sl h) enumR := by
  unfold mEnum; rw [bnd_app]; congr; funext v h
  match v with
  | [] => rfl
  | [x] => cases x <;> rfl
  | x :: _ :: _ => cases x <;> rfl
theorem enumR_ref {n : Nat} {h : AH} {xs : List Val} (e : lstAt h n = some xs) : enumR [.ref n] h = .ok (nEnum n) h := by unfold enumR; dsimp only; rw [e]
def zipR : List Val → AH → Res Nxt
  | [.ref n, .ref m], h => (match lstAt h n, lstAt h m with
    | some _, some _ => .ok (nZip n m) h
    | _, _ => .bad)
  | _, _ => .bad
@[simp] theorem mZip_app (t : MA) (sl : Sl) (h : AH) : mZip t sl h = Res.bd (t sl h) zipR := by
  unfold mZip; rw [bnd_app]; congr; funext v h
  match v with
  | [] => rfl
  | [x] => cases x <;> rfl
  | [x, y] => cases x <;> cases y <;> rfl
  | x :: y :: _ :: _ => cases x <;> cases y <;> rfl
theorem zipR_ref {n m : Nat} {h : AH} {xs ys : List Val} (e : lstAt h n = some xs) (e' : lstAt h m = some ys) : zipR [.ref n, .ref m] h = .ok (nZip n m) h := by unfold zipR; dsimp only; rw [e, e']
/-! heaps that grow -/
theorem get_app {h more : AH} {n : Nat} {o : AO} (e : h[n]? = some o) : (h ++ more)[n]? = some o := by
  rw [List.getElem?_append_left (List.getElem?_eq_some_iff.mp e).1]; exact e
theorem lst_app {h more : AH} {n : Nat} {xs : List Val} (e : lstAt h n = some xs) : lstAt (h ++ more) n = some xs := by
  unfold lstAt at e ⊢
  cases q : h[n]? with
  | none => rw [q] at e; cases e
  | some o => rw [get_app q]; rw [q] at e; exact e
@[simp] theorem get_new (h : AH) (o : AO) : (h ++ [o])[h.length]? = some o := by
  rw [List.getElem?_append_right (Nat.le_refl _), Nat.sub_self]; rfl
@[simp] theorem lst_new (h : AH) (xs : List Val) : lstAt (h ++ [.lst xs]) h.length = some xs := by unfold lstAt; rw [get_new]
@[simp] theorem mut_new (h : AH) (xs : List Val) : mutAt (h ++ [.lst xs]) h.length = some xs := by unfold mutAt; rw [get_new]
@[simp] theorem isTy_new (T : String) (h : AH) (xs : List Val) : isTy T (h ++ [.lst xs]) (.ref h.length) = (T == "list") := by unfold isTy; dsimp only; rw [get_new]
@[simp] theorem set_new (h : AH) (o o' : AO) : (h ++ [o]).set h.length o' = h ++ [o'] := by
  rw [List.set_append_right _ _ (Nat.le_refl _), Nat.sub_self]; rfl
end Mr

set_option Elab.async false
set_option linter.all false
set_option maxRecDepth 100000
set_option maxHeartbeats 1000000
namespace Mr
open PySem L2
/-! ### heaps that grow -/
def Xt (h h' : AH) : Prop := ∃ more, h' = h ++ more
theorem Xt.refl (h : AH) : Xt h h := ⟨[], (List.append_nil h).symm⟩
theorem Xt.trans {h h1 h2 : AH} (a : Xt h h1) (b : Xt h1 h2) : Xt h h2 := by
  obtain ⟨m1, rfl⟩ := a
  obtain ⟨m2, rfl⟩ := b
  exact ⟨m1 ++ m2, List.append_assoc _ _ _⟩
theorem Xt.new (h : AH) (o : AO) : Xt h (h ++ [o]) := ⟨[o], rfl⟩
theorem Xt.len {h h' : AH} (a : Xt h h') : h.length ≤ h'.length := by
  obtain ⟨m, rfl⟩ := a
  rw [List.length_append]
  exact Nat.le_add_right _ _
theorem Xt.set {h h' : AH} {d : Nat} {o : AO} (a : Xt h h') (hd : h.length ≤ d) : Xt h (h'.set d o) := by
  obtain ⟨m, rfl⟩ := a
  exact ⟨m.set (d - h.length) o, List.set_append_right _ _ hd⟩
theorem Xt.get {h h' : AH} {n : Nat} {o : AO} (a : Xt h h') (e : h[n]? = some o) : h'[n]? = some o := by
  obtain ⟨m, rfl⟩ := a
  exact get_app e
theorem Xt.lst {h h' : AH} {n : Nat} {xs : List Val} (a : Xt h h') (e : lstAt h n = some xs) : lstAt h' n = some xs := by
  obtain ⟨m, rfl⟩ := a
  exact lst_app e
theorem Xt.mut {h h' : AH} {n : Nat} {xs : List Val} (a : Xt h h') (e : mutAt h n = some xs) : mutAt h' n = some xs := by
  unfold mutAt at e ⊢
  cases q : h[n]? with
  | none => rw [q] at e; cases e
  | some o => rw [a.get q]; rw [q] at e; exact e
theorem mut_get {h : AH} {n : Nat} {xs : List Val} (e : mutAt h n = some xs) : h[n]? = some (.lst xs) := by
  unfold mutAt at e
  cases q : h[n]? with
  | none => rw [q] at e; cases e
  | some o =>
    rw [q] at e
    cases o with
    | lst ys => cases e; rfl
    | frz _ => cases e
    | dk _ => cases e
theorem get_mut {h : AH} {n : Nat} {xs : List Val} (e : h[n]? = some (.lst xs)) : mutAt h n = some xs := by unfold mutAt; rw [e]
theorem mut_lst {h : AH} {n : Nat} {xs : List Val} (e : mutAt h n = some xs) : lstAt h n = some xs := by unfold lstAt; rw [mut_get e]
theorem mut_lt {h : AH} {n : Nat} {xs : List Val} (e : mutAt h n = some xs) : n < h.length := (List.getElem?_eq_some_iff.mp (mut_get e)).1
theorem lst_lt {h : AH} {n : Nat} {xs : List Val} (e : lstAt h n = some xs) : n < h.length := by
  unfold lstAt at e
  cases q : h[n]? with
  | none => rw [q] at e; cases e
  | some o => exact (List.getElem?_eq_some_iff.mp q).1
theorem mut_set {h : AH} {n : Nat} {xs ys : List Val} (e : mutAt h n = some xs) : mutAt (h.set n (.lst ys)) n = some ys := by
  unfold mutAt
  rw [List.getElem?_set_self (mut_lt e)]
theorem mut_set_ne {h : AH} {n m : Nat} {ys : List Val} {o : AO} (hn : m ≠ n) (e : mutAt h m = some ys) : mutAt (h.set n o) m = some ys := by
  unfold mutAt at e ⊢
  rw [List.getElem?_set_ne (Ne.symm hn)]
  exact e
theorem lst_set_ne {h : AH} {n m : Nat} {ys : List Val} {o : AO} (hn : m ≠ n) (e : lstAt h m = some ys) : lstAt (h.set n o) m = some ys := by
  unfold lstAt at e ⊢
  rw [List.getElem?_set_ne (Ne.symm hn)]
  exact e
theorem isTy_mut {h : AH} {n : Nat} {xs : List Val} (e : mutAt h n = some xs) : isTy "list" h (.ref n) = true := by
  unfold isTy
  dsimp only
  rw [mut_get e]
  rfl
theorem append_mut {h : AH} {n : Nat} {xs : List Val} (v : Val) (e : mutAt h n = some xs) (hl : xs.length < 16777216) : fAppend (.ref n) [v] h = .ok .non (h.set n (.lst (xs ++ [v]))) := by
  rw [fAppend_ref, e, appR_some, if_pos hl]
theorem xt_mut {h h' : AH} {xs : List Val} (a : Xt (h ++ [.lst xs]) h') : mutAt h' h.length = some xs := a.mut (mut_new h xs)
/-! ### what is told of an end -/
def Nx (r : Res Fl) (J : Sl → AH → Prop) : Prop := match r with
  | .ok (.nx s) h => J s h
  | _ => False
@[simp] theorem Nx_ok (s : Sl) (h : AH) (J : Sl → AH → Prop) : Nx (.ok (.nx s) h) J = J s h := rfl
theorem Nx.ex {r : Res Fl} {J : Sl → AH → Prop} (x : Nx r J) : ∃ s h, r = .ok (.nx s) h ∧ J s h := by
  match r, x with
  | .ok (.nx s) h, x => exact ⟨s, h, rfl, x⟩
def Bd (o : Option Sl) (J : Sl → Prop) : Prop := match o with
  | some s => J s
  | none => False
@[simp] theorem Bd_some (s : Sl) (J : Sl → Prop) : Bd (some s) J = J s := rfl
theorem Bd.ex {o : Option Sl} {J : Sl → Prop} (x : Bd o J) : ∃ s, o = some s ∧ J s := by
  match o, x with
  | some s, x => exact ⟨s, rfl, x⟩
/-- the loop goes on, or leaves by a return of which P holds -/
def Fx (r : Res Fl) (J : Sl → AH → Prop) (Pv : Val → AH → Prop) : Prop := match r with
  | .ok (.nx s) h => J s h
  | .ok (.rt v) h => Pv v h
  | _ => False
@[simp] theorem Fx_nx (s : Sl) (h : AH) (J : Sl → AH → Prop) (Pv : Val → AH → Prop) : Fx (.ok (.nx s) h) J Pv = J s h := rfl
@[simp] theorem Fx_rt (v : Val) (h : AH) (J : Sl → AH → Prop) (Pv : Val → AH → Prop) : Fx (.ok (.rt v) h) J Pv = Pv v h := rfl
/-- a new list | a plain value -/
def RL (r : Res Val) (h : AH) (xs : List Val) : Prop := match r with
  | .ok (.ref d) h' => Xt h h' ∧ h.length ≤ d ∧ mutAt h' d = some xs
  | _ => False
def RS (r : Res Val) (h : AH) (v : Val) : Prop := match r with
  | .ok u h' => u = v ∧ Xt h h'
  | .bad => False
@[simp] theorem RL_ok (d : Nat) (h' h : AH) (xs : List Val) : RL (.ok (.ref d) h') h xs = (Xt h h' ∧ h.length ≤ d ∧ mutAt h' d = some xs) := rfl
@[simp] theorem RS_ok (u v : Val) (h' h : AH) : RS (.ok u h') h v = (u = v ∧ Xt h h') := rfl
theorem RL.ex {r : Res Val} {h : AH} {xs : List Val} (x : RL r h xs) : ∃ d h', r = .ok (.ref d) h' ∧ Xt h h' ∧ h.length ≤ d ∧ mutAt h' d = some xs := by
  match r, x with
  | .ok (.ref d) h', x => exact ⟨d, h', rfl, x⟩
theorem RS.ex {r : Res Val} {h : AH} {v : Val} (x : RS r h v) : ∃ h', r = .ok v h' ∧ Xt h h' := by
  cases r with
  | ok u h' =>
    obtain ⟨e, y⟩ := x
    exact ⟨h', by rw [e], y⟩
  | bad => exact x.elim
/-! ### loops -/
theorem forL_inv {nx : Nxt} {p : Pat} {body : MS} (xs : List Val) (I : Nat → Sl → AH → Prop)
    (hnx : ∀ k sl h, k ≤ xs.length → I k sl h → nx k h = some xs[k]?)
    (hs : ∀ k x sl h, xs[k]? = some x → I k sl h → Bd (p.bd x sl) fun sl1 => Nx (body sl1 h) (I (k + 1))) :
    ∀ (f k : Nat) (sl : Sl) (h : AH), xs.length - k < f → k ≤ xs.length → I k sl h → Nx (forL nx p body f k sl h) (I xs.length) := by
  intro f
  induction f with
  | zero => intro k sl h hf; omega
  | succ f ih =>
    intro k sl h hf hk hI
    unfold forL
    rw [hnx k sl h hk hI]
    by_cases hlt : k < xs.length
    · rw [List.getElem?_eq_getElem hlt]
      obtain ⟨sl1, e1, z⟩ := (hs k _ sl h (List.getElem?_eq_getElem hlt) hI).ex
      obtain ⟨sl2, h2, e2, I2⟩ := z.ex
      dsimp only
      rw [e1]
      dsimp only
      rw [e2]
      exact ih (k + 1) sl2 h2 (by omega) hlt I2
    · have e : k = xs.length := by omega
      subst e
      rw [List.getElem?_eq_none (Nat.le_refl _)]
      exact hI
/-- a for loop, G of what stands behind it -/
theorem for_bd {α : Type} {nx : Nxt} {p : Pat} {body : MS} {sl : Sl} {h : AH} {k : Fl → AH → Res α} (xs : List Val) (I : Nat → Sl → AH → Prop) (G : Res α → Prop) (h0 : I 0 sl h) (hl : xs.length < 1000000)
    (hnx : ∀ k sl h, k ≤ xs.length → I k sl h → nx k h = some xs[k]?)
    (hs : ∀ k x sl h, xs[k]? = some x → I k sl h → Bd (p.bd x sl) fun sl1 => Nx (body sl1 h) (I (k + 1)))
    (hd : ∀ sl h, I xs.length sl h → G (k (.nx sl) h)) : G (Res.bd (forL nx p body FUEL 0 sl h) k) := by
  obtain ⟨s, h', e, z⟩ := (forL_inv xs I hnx hs FUEL 0 sl h (by have := FUEL_le; omega) (Nat.zero_le _) h0).ex
  rw [e, bd_ok]
  exact hd s h' z
/-- a loop whose turn may leave -/
theorem forL_all {nx : Nxt} {p : Pat} {body : MS} (xs : List Val) (I : Nat → Sl → AH → Prop) (Pv : Val → AH → Prop)
    (hnx : ∀ k sl h, k ≤ xs.length → I k sl h → nx k h = some xs[k]?)
    (hs : ∀ k x sl h, xs[k]? = some x → I k sl h → Bd (p.bd x sl) fun sl1 => Fx (body sl1 h) (I (k + 1)) Pv) :
    ∀ (f k : Nat) (sl : Sl) (h : AH), xs.length - k < f → k ≤ xs.length → I k sl h → Fx (forL nx p body f k sl h) (I xs.length) Pv := by
  intro f
  induction f with
  | zero => intro k sl h hf; omega
  | succ f ih =>
    intro k sl h hf hk hI
    unfold forL
    rw [hnx k sl h hk hI]
    by_cases hlt : k < xs.length
    · rw [List.getElem?_eq_getElem hlt]
      obtain ⟨sl1, e1, z⟩ := (hs k _ sl h (List.getElem?_eq_getElem hlt) hI).ex
      dsimp only
      rw [e1]
      dsimp only
      match q : body sl1 h, z with
      | .ok (.nx sl2) h2, z => exact ih (k + 1) sl2 h2 (by omega) hlt z
      | .ok (.rt v) h2, z => exact z
    · have e : k = xs.length := by omega
      subst e
      rw [List.getElem?_eq_none (Nat.le_refl _)]
      exact hI
/-- a comprehension, by what holds between two turns: acc is the list so far -/
theorem lcL_inv {nx : Nxt} {p : Pat} {t : MT} {el : ME} {d : Nat} {sl : Sl} (xs : List Val) (I : Nat → List Val → AH → Prop)
    (hnx : ∀ k acc h, k ≤ xs.length → I k acc h → nx k h = some xs[k]?)
    (hm : ∀ k acc h, I k acc h → mutAt h d = some acc)
    (hs : ∀ k x acc h, xs[k]? = some x → I k acc h → ∃ sl1, p.bd x sl = some sl1 ∧ ∃ b h2, t sl1 h = .ok b h2 ∧ (b = false → I (k + 1) acc h2) ∧ (b = true → ∃ y h3, el sl1 h2 = .ok y h3 ∧ mutAt h3 d = some acc ∧ acc.length < 16777216 ∧ I (k + 1) (acc ++ [y]) (h3.set d (.lst (acc ++ [y]))))) :
    ∀ (f k : Nat) (acc : List Val) (h : AH), xs.length - k < f → k ≤ xs.length → I k acc h → ∃ acc' h', lcL nx p t el d sl f k h = .ok () h' ∧ I xs.length acc' h' := by
  intro f
  induction f with
  | zero => intro k acc h hf; omega
  | succ f ih =>
    intro k acc h hf hk hI
    unfold lcL
    rw [hnx k acc h hk hI]
    by_cases hlt : k < xs.length
    · rw [List.getElem?_eq_getElem hlt]
      obtain ⟨sl1, e1, b, h2, e2, z0, z1⟩ := hs k _ acc h (List.getElem?_eq_getElem hlt) hI
      dsimp only
      rw [e1]
      dsimp only
      rw [e2]
      cases b with
      | false => exact ih (k + 1) acc h2 (by omega) hlt (z0 rfl)
      | true =>
        obtain ⟨y, h3, e3, e4, e5, I2⟩ := z1 rfl
        dsimp only
        rw [e3]
        dsimp only
        rw [e4]
        dsimp only
        rw [if_pos e5]
        exact ih (k + 1) _ _ (by omega) hlt I2
    · have e : k = xs.length := by omega
      subst e
      rw [List.getElem?_eq_none (Nat.le_refl _)]
      exact ⟨acc, h, rfl, hI⟩
@[simp] theorem mYes_app (sl : Sl) (h : AH) : mYes sl h = .ok true h := rfl
noncomputable def lcR (p : Pat) (t : MT) (el : ME) (sl : Sl) (own : List Nat) (nx : Nxt) (h : AH) : Res Val := Res.bd (lcL nx p t el h.length (wipeM sl own) FUEL 0 (h ++ [.lst []])) fun _ h' => .ok (.ref h.length) h'
theorem mLc_app (m : MI) (p : Pat) (t : MT) (el : ME) (own : List Nat) (sl : Sl) (h : AH) : mLc m p t el own sl h = Res.bd (m sl h) fun nx h1 => lcR p t el sl own nx h1 := by
  unfold mLc
  rw [bnd_app]
  congr
  funext nx h1
  unfold lcR Res.bd
  cases lcL nx p t el h1.length (wipeM sl own) FUEL 0 (h1 ++ [.lst []]) <;> rfl
/-- a comprehension whose parts leave the heap as it is -/
theorem lc_pure {α : Type} {nx : Nxt} {p : Pat} {t : MT} {el : ME} {sl : Sl} {own : List Nat} {h : AH} (ys : List α) (g : α → Val) (tf : α → Bool) (ef : α → Val) (hl : ys.length < 1000000)
    (hnx : ∀ k h', k ≤ ys.length → Xt h h' → nx k h' = some (ys.map g)[k]?)
    (hs : ∀ y h', y ∈ ys → Xt h h' → Bd (p.bd (g y) (wipeM sl own)) fun sl1 => t sl1 h' = .ok (tf y) h' ∧ (tf y = true → el sl1 h' = .ok (ef y) h')) :
    lcR p t el sl own nx h = .ok (.ref h.length) (h ++ [.lst ((ys.filter tf).map ef)]) := by
  have z := lcL_inv (nx := nx) (p := p) (t := t) (el := el) (d := h.length) (sl := wipeM sl own) (ys.map g) (fun k acc h' => h' = h ++ [.lst acc] ∧ acc = ((ys.take k).filter tf).map ef)
    (fun k acc h' hk I => hnx k h' (by simpa using hk) ⟨_, I.1⟩) (fun k acc h' I => by rw [I.1]; exact mut_new h acc) (fun k x acc h' hx I => by
      obtain ⟨e1, e2⟩ := I
      subst e1
      rw [List.getElem?_map] at hx
      cases hy : ys[k]? with
      | none => rw [hy] at hx; cases hx
      | some y =>
        rw [hy] at hx
        cases hx
        obtain ⟨sl1, f1, f2, f3⟩ := (hs y (h ++ [.lst acc]) (List.mem_of_getElem? hy) ⟨_, rfl⟩).ex
        have hk : k < ys.length := (List.getElem?_eq_some_iff.mp hy).1
        have tk : ys.take (k + 1) = ys.take k ++ [y] := by rw [List.take_add_one, hy]; rfl
        refine ⟨sl1, f1, tf y, _, f2, fun hb => ⟨rfl, ?_⟩, fun hb => ⟨ef y, _, f3 hb, mut_new h acc, ?_, ?_, ?_⟩⟩
        · rw [e2, tk, List.filter_append]
          simp [hb]
        · rw [e2, List.length_map]
          have := List.length_filter_le tf (ys.take k)
          rw [List.length_take] at this
          omega
        · rw [set_new]
        · rw [e2, tk, List.filter_append, List.map_append]
          simp [hb]) FUEL 0 [] (h ++ [.lst []]) (by have := FUEL_le; rw [List.length_map]; omega) (Nat.zero_le _) ⟨rfl, rfl⟩
  obtain ⟨acc, h', e1, e2, e3⟩ := z
  unfold lcR
  rw [e1, bd_ok, e2, e3, List.length_map, List.take_length]
/-! ### what the walked things give -/
theorem nList_at {h : AH} {n : Nat} {xs : List Val} (k : Nat) (e : lstAt h n = some xs) : nList n k h = some xs[k]? := by unfold nList; rw [e]; rfl
def strVals (x : Str) : List Val := x.cps.toList.map fun c => .str ⟨#[c]⟩
theorem nStr_at (x : Str) (k : Nat) (h : AH) : nStr x k h = some (strVals x)[k]? := by
  unfold nStr strVals
  rw [List.getElem?_map]
def rngVals (lo : Int) (n : Nat) : List Val := (List.range n).map fun k => .int (lo + (k : Nat))
theorem nRange_at (lo : Int) (n k : Nat) (h : AH) : nRange lo n k h = some (rngVals lo n)[k]? := by
  unfold nRange rngVals
  rw [List.getElem?_map]
  by_cases hk : k < n
  · rw [if_pos hk, List.getElem?_range hk]
    rfl
  · rw [if_neg hk, List.getElem?_eq_none (by rw [List.length_range]; omega)]
    rfl
theorem rngVals_len (lo : Int) (n : Nat) : (rngVals lo n).length = n := by unfold rngVals; rw [List.length_map, List.length_range]
theorem strVals_len (x : Str) : (strVals x).length = x.length := by unfold strVals; rw [List.length_map]; rfl
def enumVals (xs : List Val) : List Val := xs.zipIdx.map fun p => .tup [.int (p.2 : Nat), p.1]
theorem nEnum_at {h : AH} {n : Nat} {xs : List Val} (k : Nat) (e : lstAt h n = some xs) : nEnum n k h = some (enumVals xs)[k]? := by
  unfold nEnum enumVals
  rw [e, List.getElem?_map, List.getElem?_zipIdx]
  show some (Option.map (fun x => Val.tup [.int (k : Nat), x]) xs[k]?) = _
  cases xs[k]? with
  | none => rfl
  | some x => simp
theorem enumVals_len (xs : List Val) : (enumVals xs).length = xs.length := by unfold enumVals; rw [List.length_map, List.length_zipIdx]
end Mr

set_option Elab.async false
set_option linter.all false
set_option maxRecDepth 100000
set_option maxHeartbeats 4000000
namespace W
open PySem L2 Mr
def top (i : Nat) : Stmt := PySem.Challenge.pw_everrow_k46_pieces_and_places.main.body.getD i (.Pass ⟨0, 0, 0, 0⟩)
structure Tx (mg : Str → Option Value) : Prop where
  f_bool : mg "bool" = none
  f_enumerate : mg "enumerate" = none
  f_int : mg "int" = none
  f_isinstance : mg "isinstance" = none
  f_len : mg "len" = none
  f_list : mg "list" = none
  f_max : mg "max" = none
  f_min : mg "min" = none
  f_range : mg "range" = none
  f_str : mg "str" = none
  f_tuple : mg "tuple" = none
  c_LETTERS : ∃ t, mg "LETTERS" = some (.str "abcdefghijklmnopqrstuvwxyz" t)
  c_SIGNS : ∃ t, mg "SIGNS" = some (.str "abcdefghijklmnopqrstuvwxyz \n" t)
  c_LINE_SIGNS : ∃ t, mg "LINE_SIGNS" = some (.str " abcdefghijklmnopqrstuvwxyz" t)
noncomputable def b__law_pump : MS := mSeq (mSet 2 (mOp oAdd (mOp oMul (mC (.int 23)) (mVar 1)) (mC (.int 11)))) (mSeq (mIfS (mTest (mOp (Cp.o .lt) (mVar 1) (mCall cLen (mCons (mVar 0) (mNil))))) (mSet 2 (mOp oIx (mVar 0) (mVar 1))) (mNext)) (mSeq (mIfS (mTest (mOp (Cp.o .ge) (mVar 2) (mOp oPow (mC (.int 10)) (mC (.int 18))))) (mSeq (mSet 5 (mOp oMul (mOp oMul (mOp oMul (mOp oPow (mC (.int 10)) (mC (.int 60))) (mOp oPow (mC (.int 10)) (mC (.int 60)))) (mOp oPow (mC (.int 10)) (mC (.int 60)))) (mOp oPow (mC (.int 10)) (mC (.int 60))))) (mRet (mLst (mCons (mOp oMod (mCall cInt (mCons (mOp oSub (mVar 2) (mOp oPow (mC (.int 10)) (mC (.int 18)))) (mNil))) (mOp oMul (mOp oMul (mVar 5) (mVar 5)) (mVar 5))) (mNil))))) (mNext)) (mSeq (mPar 6 7 (mCons (mOp oMod (mCall cInt (mCons (mOp oAdd (mVar 2) (mOp oMul (mC (.int 13)) (mVar 1))) (mNil))) (mC (.int 2147483053))) (mCons (mOp oMod (mCall cInt (mCons (mVar 2) (mNil))) (mC (.int 2147483033))) (mNil)))) (mSeq (mSet 3 (mC (.int 0))) (mSeq (mFor (mRng1 (mCons (mC (.int 120)) (mNil))) (.nm 4) (mSeq (mSet 6 (mOp oMod (mCall cInt (mCons (mOp oAdd (mOp oAdd (mOp oAdd (mOp oMul (mVar 6) (mC (.int 44771))) (mOp oMul (mVar 4) (mC (.int 887)))) (mOp oMul (mC (.int 1301)) (mVar 1))) (mC (.int 43))) (mNil))) (mC (.int 2147483053)))) (mSeq (mSet 7 (mOp oMod (mCall cInt (mCons (mOp oAdd (mOp oAdd (mOp oMul (mVar 7) (mVar 7)) (mOp oMul (mC (.int 42073)) (mVar 4))) (mC (.int 8009))) (mNil))) (mC (.int 2147483033)))) (mSet 3 (mOp oAdd (mOp oMul (mVar 3) (mC (.int 2147483032))) (mOp oMod (mCall cInt (mCons (mOp oAdd (mOp oMul (mVar 6) (mVar 7)) (mOp oMul (mC (.int 37)) (mVar 4))) (mNil))) (mC (.int 2147483032)))))))) (mRet (mLst (mCons (mVar 3) (mNil)))))))))
noncomputable abbrev m__law_pump : List Val → M Val := mFn 2 8 b__law_pump
noncomputable def b__law_cup : MS := mSeq (mSet 2 (mOp oMod (mCall cInt (mCons (mOp oIx (mVar 0) (mC (.int 0))) (mNil))) (mVar 1))) (mSeq (mSub (mVar 0) (mC (.int 0)) (mOp oDiv (mOp oIx (mVar 0) (mC (.int 0))) (mVar 1))) (mRet (mVar 2)))
noncomputable abbrev m__law_cup : List Val → M Val := mFn 2 3 b__law_cup
noncomputable def b__law_line : MS := mSeq (mSet 2 (mC (.str ""))) (mSeq (mFor (mRng1 (mCons (mCall m__law_cup (mCons (mVar 0) (mCons (mC (.int 9)) (mNil)))) (mNil))) (.nm 3) (mSeq (mSet 4 (mOp oIx (mLst (mCons (mC (.str "a")) (mCons (mC (.str "bc")) (mCons (mC (.str "def")) (mCons (mC (.str "ghijk")) (mCons (mC (.str "lmnopqrs")) (mNil))))))) (mCall m__law_cup (mCons (mVar 0) (mCons (mC (.int 5)) (mNil)))))) (mSet 2 (mOp oAdd (mOp oAdd (mVar 2) (mVar 4)) (mOp oIx (mLst (mCons (mC (.str "")) (mCons (mC (.str " ")) (mCons (mC (.str " ")) (mCons (mC (.str "  ")) (mCons (mC (.str "   ")) (mNil))))))) (mCall m__law_cup (mCons (mVar 0) (mCons (mC (.int 5)) (mNil))))))))) (mRet (mSl (mOp oAdd (mOp oIx (mLst (mCons (mC (.str " ")) (mCons (mC (.str "  ")) (mCons (mC (.str "")) (mCons (mC (.str "")) (mCons (mC (.str "")) (mCons (mC (.str "")) (mNil)))))))) (mCall m__law_cup (mCons (mVar 0) (mCons (mC (.int 6)) (mNil))))) (mVar 2)) (mNoPart) (mPart (mVar 1)))))
noncomputable abbrev m__law_line : List Val → M Val := mFn 2 5 b__law_line
noncomputable def b__law_text : MS := mSeq (mSet 3 (mLst (mNil))) (mSeq (mFor (mRng1 (mCons (mOp oAdd (mC (.int 1)) (mCall m__law_cup (mCons (mVar 0) (mCons (mVar 1) (mNil))))) (mNil))) (.nm 4) (mDrop (mMeth "list" fAppend (mVar 3) (mCons (mCall m__law_line (mCons (mVar 0) (mCons (mOp oIx (mLst (mCons (mC (.int 0)) (mCons (mC (.int 6)) (mCons (mVar 2) (mCons (mVar 2) (mNil)))))) (mCall m__law_cup (mCons (mVar 0) (mCons (mC (.int 4)) (mNil))))) (mNil)))) (mNil))))) (mRet (mMeth "str" fJoin (mC (.str "\n")) (mCons (mVar 3) (mNil)))))
noncomputable abbrev m__law_text : List Val → M Val := mFn 3 5 b__law_text
noncomputable def b__law_borders : MS := mRet (mLc (mRng1 (mCons (mCall cLen (mCons (mVar 0) (mNil))) (mNil))) (.nm 1) (mOr (mTest (mOp (Cp.o .eq) (mOp oIx (mVar 0) (mVar 1)) (mC (.str " ")))) (mTest (mOp (Cp.o .eq) (mOp oAdd (mVar 1) (mC (.int 1))) (mCall cLen (mCons (mVar 0) (mNil)))))) (mOp oAdd (mVar 1) (mC (.int 1))) [1])
noncomputable abbrev m__law_borders : List Val → M Val := mFn 1 2 b__law_borders
noncomputable def b__law_pieces : MS := mSeq (mPar3 3 4 5 (mCons (mLst (mCons (mC (.str "")) (mNil))) (mCons (mC (.int 0)) (mCons (mC (.int 0)) (mNil))))) (mSeq (mFor (mIter (mCall m__law_borders (mCons (mVar 0) (mNil)))) (.nm 2) (mSeq (mIfS (mAnd (mTest (mOp (Cp.o .gt) (mVar 5) (mVar 4))) (mTest (mOp (Cp.o .gt) (mOp oSub (mVar 2) (mVar 4)) (mVar 1)))) (mSeq (mDrop (mMeth "list" fAppend (mVar 3) (mCons (mC (.str "")) (mNil)))) (mSet 4 (mVar 5))) (mNext)) (mSeq (mSub (mVar 3) (mUn uNeg (mC (.int 1))) (mSl (mVar 0) (mPart (mVar 4)) (mPart (mVar 2)))) (mSet 5 (mVar 2))))) (mRet (mVar 3)))
noncomputable abbrev m__law_pieces : List Val → M Val := mFn 2 6 b__law_pieces
noncomputable def b__law_screen : MS := mSeq (mSet 2 (mLst (mNil))) (mSeq (mFor (mEnum (mCons (mMeth "str" fSplit (mVar 0) (mCons (mC (.str "\n")) (mNil))) (mNil))) (.tp [.nm 3, .nm 4]) (mSeq (mSet 5 (mC (.int 0))) (mFor (mIter (mCall m__law_pieces (mCons (mVar 4) (mCons (mVar 1) (mNil))))) (.nm 6) (mSeq (mDrop (mMeth "list" fAppend (mVar 2) (mCons (mTup (mCons (mVar 3) (mCons (mVar 5) (mCons (mVar 6) (mNil))))) (mNil)))) (mSet 5 (mOp oAdd (mVar 5) (mCall cLen (mCons (mVar 6) (mNil))))))))) (mRet (mVar 2)))
noncomputable abbrev m__law_screen : List Val → M Val := mFn 2 7 b__law_screen
noncomputable def b_is_text : MS := mRet (mAndV (mIsi "str" (mVar 0)) (mOp (Cp.o .eq) (mLc (mIter (mVar 0)) (.nm 1) (mTest (mOp (Cp.o .notIn) (mVar 1) (mC (.str "abcdefghijklmnopqrstuvwxyz \n")))) (mVar 1) [1]) (mLst (mNil))))
noncomputable abbrev m_is_text : List Val → M Val := mFn 1 2 b_is_text
noncomputable def b_check_text : MS := mIfS (mNot (mTest (mCall m_is_text (mCons (mVar 0) (mNil))))) (mNever) (mNext)
noncomputable abbrev m_check_text : List Val → M Val := mFn 1 1 b_check_text
noncomputable def b_is_whole : MS := mRet (mAndV (mIsi "int" (mVar 0)) (mNotV (mIsi "bool" (mVar 0))))
noncomputable abbrev m_is_whole : List Val → M Val := mFn 1 1 b_is_whole
noncomputable def b_check_least : MS := mIfS (mOr (mNot (mTest (mCall m_is_whole (mCons (mVar 0) (mNil))))) (mTest (mOp (Cp.o .lt) (mVar 0) (mVar 1)))) (mNever) (mNext)
noncomputable abbrev m_check_least : List Val → M Val := mFn 2 2 b_check_least
noncomputable def b_are_folds : MS := mNever
noncomputable abbrev m_are_folds : List Val → M Val := mFn 2 5 b_are_folds
noncomputable def b_chunks : MS := mSeq (mSet 1 (mLst (mNil))) (mSeq (mSet 2 (mC (.str ""))) (mSeq (mFor (mIter (mVar 0)) (.nm 3) (mSeq (mAug 2 oAug (mVar 3)) (mIfS (mTest (mOp (Cp.o .eq) (mVar 3) (mC (.str " ")))) (mSeq (mDrop (mMeth "list" fAppend (mVar 1) (mCons (mVar 2) (mNil)))) (mSet 2 (mC (.str "")))) (mNext)))) (mRet (mIf (mTest (mOp (Cp.o .ne) (mVar 2) (mC (.str "")))) (mOp oAdd (mVar 1) (mLst (mCons (mVar 2) (mNil)))) (mVar 1)))))
noncomputable abbrev m_chunks : List Val → M Val := mFn 1 4 b_chunks
noncomputable def b_cut : MS := mSeq (mSet 2 (mLst (mCons (mC (.str "")) (mNil)))) (mSeq (mFor (mIter (mCall m_chunks (mCons (mVar 0) (mNil)))) (.nm 3) (mIfS (mOr (mTest (mOp (Cp.o .eq) (mOp oIx (mVar 2) (mUn uNeg (mC (.int 1)))) (mC (.str "")))) (mTest (mOp (Cp.o .le) (mOp oAdd (mCall cLen (mCons (mOp oIx (mVar 2) (mUn uNeg (mC (.int 1)))) (mNil))) (mCall cLen (mCons (mVar 3) (mNil)))) (mVar 1)))) (mSub (mVar 2) (mUn uNeg (mC (.int 1))) (mOp oAdd (mOp oIx (mVar 2) (mUn uNeg (mC (.int 1)))) (mVar 3))) (mDrop (mMeth "list" fAppend (mVar 2) (mCons (mVar 3) (mNil)))))) (mRet (mVar 2)))
noncomputable abbrev m_cut : List Val → M Val := mFn 2 4 b_cut
noncomputable def b_rows_of : MS := mSeq (mSet 3 (mLst (mNil))) (mSeq (mFor (mEnum (mCons (mMeth "str" fSplit (mVar 0) (mCons (mC (.str "\n")) (mNil))) (mNil))) (.tp [.nm 4, .nm 5]) (mIfS (mTest (mOp (Cp.o .eq) (mLc (mIter (mVar 2)) (.nm 8) (mTest (mChain (Cp.o .lt) (Cp.o .le) (mOp oIx (mVar 8) (mC (.int 0))) (mVar 4) (mOp oIx (mVar 8) (mC (.int 1))))) (mVar 8) [8]) (mLst (mNil)))) (mSeq (mSet 6 (mC (.int 0))) (mFor (mIter (mCall m_cut (mCons (mVar 5) (mCons (mVar 1) (mNil))))) (.nm 7) (mSeq (mDrop (mMeth "list" fAppend (mVar 3) (mCons (mTup (mCons (mVar 4) (mCons (mVar 6) (mCons (mVar 7) (mNil))))) (mNil)))) (mAug 6 oAug (mCall cLen (mCons (mVar 7) (mNil))))))) (mNext))) (mRet (mVar 3)))
noncomputable abbrev m_rows_of : List Val → M Val := mFn 3 9 b_rows_of
noncomputable def b_screen : MS := mSeq (mDrop (mCall m_check_text (mCons (mVar 0) (mNil)))) (mSeq (mDrop (mCall m_check_least (mCons (mVar 1) (mCons (mC (.int 1)) (mNil))))) (mSeq (mIfS (mAnd (mTest (mOp (Cp.o .notN) (mVar 2) (mC .non))) (mNot (mTest (mCall m_are_folds (mCons (mVar 2) (mCons (mCall cLen (mCons (mMeth "str" fSplit (mVar 0) (mCons (mC (.str "\n")) (mNil))) (mNil))) (mNil))))))) (mNever) (mNext)) (mRet (mCall m_rows_of (mCons (mVar 0) (mCons (mVar 1) (mCons (mIf (mTest (mOp (Cp.o .isN) (mVar 2) (mC .non))) (mLst (mNil)) (mVar 2)) (mNil))))))))
noncomputable abbrev m_screen : List Val → M Val := mFn 3 3 b_screen
noncomputable def b_is_line : MS := mRet (mAndV (mIsi "str" (mVar 0)) (mOp (Cp.o .eq) (mLc (mIter (mVar 0)) (.nm 1) (mTest (mOp (Cp.o .notIn) (mVar 1) (mC (.str " abcdefghijklmnopqrstuvwxyz")))) (mVar 1) [1]) (mLst (mNil))))
noncomputable abbrev m_is_line : List Val → M Val := mFn 1 2 b_is_line
noncomputable def b_check_line : MS := mIfS (mNot (mTest (mCall m_is_line (mCons (mVar 0) (mNil))))) (mNever) (mNext)
noncomputable abbrev m_check_line : List Val → M Val := mFn 1 1 b_check_line
noncomputable def b_pieces : MS := mSeq (mDrop (mCall m_check_line (mCons (mVar 0) (mNil)))) (mSeq (mDrop (mCall m_check_least (mCons (mVar 1) (mCons (mC (.int 1)) (mNil))))) (mRet (mCall m_cut (mCons (mVar 0) (mCons (mVar 1) (mNil))))))
noncomputable abbrev m_pieces : List Val → M Val := mFn 2 2 b_pieces
noncomputable def b__law_cut_right : MS := mSeq (mSet 3 (mCall (fun xs => m_screen (xs ++ [.non])) (mCons (mVar 0) (mCons (mVar 1) (mNil))))) (mSeq (mIfS (mOr (mNot (mTest (mIsi "list" (mVar 3)))) (mTest (mOp (Cp.o .ne) (mVar 3) (mVar 2)))) (mRet (mC (.bl false))) (mNext)) (mSeq (mDrop (mMeth "list" fAppend (mVar 3) (mCons (mC .non) (mNil)))) (mSeq (mFor (mIter (mMeth "str" fSplit (mVar 0) (mCons (mC (.str "\n")) (mNil)))) (.nm 4) (mSeq (mSet 5 (mCall m_pieces (mCons (mVar 4) (mCons (mVar 1) (mNil))))) (mSeq (mIfS (mOr (mTest (mOp (Cp.o .ne) (mVar 5) (mCall m__law_pieces (mCons (mVar 4) (mCons (mVar 1) (mNil)))))) (mTest (mOp (Cp.o .ne) (mMeth "str" fJoin (mC (.str "")) (mCons (mVar 5) (mNil))) (mVar 4)))) (mRet (mC (.bl false))) (mNext)) (mSeq (mDrop (mMeth "list" fAppend (mVar 5) (mCons (mC (.str "later")) (mNil)))) (mIfS (mTest (mOp (Cp.o .ne) (mCall m_pieces (mCons (mVar 4) (mCons (mVar 1) (mNil)))) (mCall m__law_pieces (mCons (mVar 4) (mCons (mVar 1) (mNil)))))) (mRet (mC (.bl false))) (mNext)))))) (mRet (mOp (Cp.o .eq) (mCall m_screen (mCons (mVar 0) (mCons (mVar 1) (mCons (mC .non) (mNil))))) (mVar 2))))))
noncomputable abbrev m__law_cut_right : List Val → M Val := mFn 3 6 b__law_cut_right
noncomputable def b__law_starts : MS := mSeq (mPar 2 3 (mCons (mLst (mNil)) (mCons (mC (.int 0)) (mNil)))) (mSeq (mFor (mIter (mMeth "str" fSplit (mVar 0) (mCons (mC (.str "\n")) (mNil)))) (.nm 1) (mSeq (mDrop (mMeth "list" fAppend (mVar 2) (mCons (mVar 3) (mNil)))) (mSet 3 (mOp oAdd (mOp oAdd (mVar 3) (mCall cLen (mCons (mVar 1) (mNil)))) (mC (.int 1)))))) (mRet (mVar 2)))
noncomputable abbrev m__law_starts : List Val → M Val := mFn 1 4 b__law_starts
noncomputable def b__law_places : MS := mSeq (mAsg (.tp [.nm 5, .nm 6, .nm 7]) (mOp oIx (mVar 1) (mVar 2))) (mSeq (mSet 3 (mOrV (mOp (Cp.o .eq) (mOp oAdd (mVar 2) (mC (.int 1))) (mCall cLen (mCons (mVar 1) (mNil)))) (mOp (Cp.o .ne) (mOp oIx (mOp oIx (mVar 1) (mOp oAdd (mVar 2) (mC (.int 1)))) (mC (.int 0))) (mVar 5)))) (mSeq (mSet 4 (mOp oAdd (mOp oIx (mCall m__law_starts (mCons (mVar 0) (mNil))) (mVar 5)) (mVar 6))) (mRet (mLc (mRng1 (mCons (mOp oAdd (mCall cLen (mCons (mVar 7) (mNil))) (mCall cInt (mCons (mVar 3) (mNil)))) (mNil))) (.nm 8) (mYes) (mOp oAdd (mVar 4) (mVar 8)) [8]))))
noncomputable abbrev m__law_places : List Val → M Val := mFn 3 9 b__law_places
noncomputable def b__law_spots : MS := mSeq (mSet 2 (mLst (mNil))) (mSeq (mFor (mRng1 (mCons (mCall cLen (mCons (mVar 1) (mNil))) (mNil))) (.nm 3) (mSet 2 (mOp oAdd (mVar 2) (mLc (mRng1 (mCons (mCall cLen (mCons (mCall m__law_places (mCons (mVar 0) (mCons (mVar 1) (mCons (mVar 3) (mNil))))) (mNil))) (mNil))) (.nm 4) (mYes) (mTup (mCons (mVar 3) (mCons (mVar 4) (mNil)))) [4])))) (mRet (mVar 2)))
noncomputable abbrev m__law_spots : List Val → M Val := mFn 2 5 b__law_spots
noncomputable def b_check_within : MS := mIfS (mOr (mNot (mTest (mCall m_is_whole (mCons (mVar 0) (mNil))))) (mNot (mTest (mChain (Cp.o .le) (Cp.o .le) (mVar 1) (mVar 0) (mVar 2))))) (mNever) (mNext)
noncomputable abbrev m_check_within : List Val → M Val := mFn 3 3 b_check_within
noncomputable def b_begins : MS := mSeq (mSet 1 (mLst (mCons (mC (.int 0)) (mNil)))) (mSeq (mFor (mIter (mSl (mMeth "str" fSplit (mVar 0) (mCons (mC (.str "\n")) (mNil))) (mNoPart) (mPart (mUn uNeg (mC (.int 1)))))) (.nm 2) (mDrop (mMeth "list" fAppend (mVar 1) (mCons (mOp oAdd (mOp oAdd (mOp oIx (mVar 1) (mUn uNeg (mC (.int 1)))) (mCall cLen (mCons (mVar 2) (mNil)))) (mC (.int 1))) (mNil))))) (mRet (mVar 1)))
noncomputable abbrev m_begins : List Val → M Val := mFn 1 3 b_begins
noncomputable def b_seen_at : MS := mSeq (mSet 3 (mCall m_begins (mCons (mVar 0) (mNil)))) (mSeq (mSet 4 (mOp oSub (mCall cLen (mCons (mLc (mIter (mVar 3)) (.nm 8) (mTest (mOp (Cp.o .le) (mVar 8) (mVar 2))) (mVar 8) [8]) (mNil))) (mC (.int 1)))) (mSeq (mSet 5 (mOp oSub (mVar 2) (mOp oIx (mVar 3) (mVar 4)))) (mSeq (mSet 6 (mCall m_rows_of (mCons (mVar 0) (mCons (mVar 1) (mCons (mLst (mNil)) (mNil)))))) (mSeq (mSet 7 (mOp oIx (mLc (mEnum (mCons (mVar 6) (mNil))) (.tp [.nm 9, .tp [.nm 10, .nm 8, .nm 11]]) (mAnd (mTest (mOp (Cp.o .eq) (mVar 10) (mVar 4))) (mTest (mOp (Cp.o .le) (mVar 8) (mVar 5)))) (mVar 9) [9, 10, 8, 11]) (mUn uNeg (mC (.int 1))))) (mRet (mTup (mCons (mVar 7) (mCons (mOp oSub (mVar 5) (mOp oIx (mOp oIx (mVar 6) (mVar 7)) (mC (.int 1)))) (mNil)))))))))
noncomputable abbrev m_seen_at : List Val → M Val := mFn 3 12 b_seen_at
noncomputable def b_spot : MS := mSeq (mDrop (mCall m_check_text (mCons (mVar 0) (mNil)))) (mSeq (mDrop (mCall m_check_least (mCons (mVar 1) (mCons (mC (.int 1)) (mNil))))) (mSeq (mDrop (mCall m_check_within (mCons (mVar 2) (mCons (mC (.int 0)) (mCons (mCall cLen (mCons (mVar 0) (mNil))) (mNil)))))) (mRet (mCall m_seen_at (mCons (mVar 0) (mCons (mVar 1) (mCons (mVar 2) (mNil))))))))
noncomputable abbrev m_spot : List Val → M Val := mFn 3 3 b_spot
noncomputable def b_place_in : MS := mSeq (mSet 4 (mCall m_rows_of (mCons (mVar 0) (mCons (mVar 1) (mCons (mLst (mNil)) (mNil)))))) (mSeq (mAsg (.tp [.nm 7, .nm 8, .nm 9]) (mOp oIx (mVar 4) (mVar 2))) (mSeq (mSet 5 (mOrV (mOp (Cp.o .eq) (mOp oAdd (mVar 2) (mC (.int 1))) (mCall cLen (mCons (mVar 4) (mNil)))) (mOp (Cp.o .ne) (mOp oIx (mOp oIx (mVar 4) (mOp oAdd (mVar 2) (mC (.int 1)))) (mC (.int 0))) (mVar 7)))) (mSeq (mSet 6 (mIf (mTest (mVar 5)) (mCall cLen (mCons (mVar 9) (mNil))) (mOp oSub (mCall cLen (mCons (mVar 9) (mNil))) (mC (.int 1))))) (mRet (mOp oAdd (mOp oAdd (mOp oIx (mCall m_begins (mCons (mVar 0) (mNil))) (mVar 7)) (mVar 8)) (mCall cMin2 (mCons (mVar 3) (mCons (mVar 6) (mNil)))))))))
noncomputable abbrev m_place_in : List Val → M Val := mFn 4 10 b_place_in
noncomputable def b_place_at : MS := mSeq (mDrop (mCall m_check_text (mCons (mVar 0) (mNil)))) (mSeq (mDrop (mCall m_check_least (mCons (mVar 1) (mCons (mC (.int 1)) (mNil))))) (mSeq (mDrop (mCall m_check_within (mCons (mVar 2) (mCons (mC (.int 0)) (mCons (mOp oSub (mCall cLen (mCons (mCall m_rows_of (mCons (mVar 0) (mCons (mVar 1) (mCons (mLst (mNil)) (mNil))))) (mNil))) (mC (.int 1))) (mNil)))))) (mSeq (mDrop (mCall m_check_least (mCons (mVar 3) (mCons (mC (.int 0)) (mNil))))) (mRet (mCall m_place_in (mCons (mVar 0) (mCons (mVar 1) (mCons (mVar 2) (mCons (mVar 3) (mNil))))))))))
noncomputable abbrev m_place_at : List Val → M Val := mFn 4 4 b_place_at
noncomputable def b__law_places_right : MS := mSeq (mSet 3 (mCall m__law_spots (mCons (mVar 0) (mCons (mVar 2) (mNil))))) (mSeq (mFor (mRng1 (mCons (mOp oAdd (mCall cLen (mCons (mVar 0) (mNil))) (mC (.int 1))) (mNil))) (.nm 4) (mSeq (mAsg (.tp [.nm 5, .nm 7]) (mOp oIx (mVar 3) (mVar 4))) (mIfS (mOr (mTest (mOp (Cp.o .ne) (mCall m_spot (mCons (mVar 0) (mCons (mVar 1) (mCons (mVar 4) (mNil))))) (mTup (mCons (mVar 5) (mCons (mVar 7) (mNil)))))) (mTest (mOp (Cp.o .ne) (mCall m_place_at (mCons (mVar 0) (mCons (mVar 1) (mCons (mVar 5) (mCons (mVar 7) (mNil)))))) (mVar 4)))) (mRet (mC (.bl false))) (mNext)))) (mSeq (mSet 5 (mOp oDiv (mCall cLen (mCons (mVar 2) (mNil))) (mC (.int 2)))) (mSeq (mSet 6 (mCall m__law_places (mCons (mVar 0) (mCons (mVar 2) (mCons (mVar 5) (mNil)))))) (mSeq (mFor (mIter (mLst (mCons (mC (.int 0)) (mCons (mOp oSub (mCall cLen (mCons (mVar 6) (mNil))) (mC (.int 1))) (mCons (mCall cLen (mCons (mVar 6) (mNil))) (mCons (mOp oAdd (mVar 1) (mC (.int 2))) (mCons (mOp oPow (mC (.int 10)) (mC (.int 39))) (mNil)))))))) (.nm 7) (mIfS (mTest (mOp (Cp.o .ne) (mCall m_place_at (mCons (mVar 0) (mCons (mVar 1) (mCons (mVar 5) (mCons (mVar 7) (mNil)))))) (mOp oIx (mVar 6) (mCall cMin2 (mCons (mVar 7) (mCons (mOp oSub (mCall cLen (mCons (mVar 6) (mNil))) (mC (.int 1))) (mNil))))))) (mRet (mC (.bl false))) (mNext))) (mRet (mOp (Cp.o .eq) (mCall cLen (mCons (mVar 3) (mNil))) (mOp oAdd (mCall cLen (mCons (mVar 0) (mNil))) (mC (.int 1)))))))))
noncomputable abbrev m__law_places_right : List Val → M Val := mFn 3 8 b__law_places_right
noncomputable def b_stepped : MS := mSeq (mDrop (mCall m_check_text (mCons (mVar 0) (mNil)))) (mSeq (mDrop (mCall m_check_least (mCons (mVar 1) (mCons (mC (.int 1)) (mNil))))) (mSeq (mDrop (mCall m_check_within (mCons (mVar 2) (mCons (mC (.int 0)) (mCons (mCall cLen (mCons (mVar 0) (mNil))) (mNil)))))) (mSeq (mIfS (mNot (mTest (mCall m_is_whole (mCons (mVar 3) (mNil))))) (mNever) (mNext)) (mSeq (mDrop (mCall m_check_least (mCons (mVar 4) (mCons (mC (.int 0)) (mNil))))) (mSeq (mSet 5 (mOp oAdd (mOp oIx (mCall m_seen_at (mCons (mVar 0) (mCons (mVar 1) (mCons (mVar 2) (mNil))))) (mC (.int 0))) (mVar 3))) (mSeq (mSet 6 (mOp oSub (mCall cLen (mCons (mCall m_rows_of (mCons (mVar 0) (mCons (mVar 1) (mCons (mLst (mNil)) (mNil))))) (mNil))) (mC (.int 1)))) (mRet (mCall m_place_in (mCons (mVar 0) (mCons (mVar 1) (mCons (mCall cMin2 (mCons (mCall cMax2 (mCons (mVar 5) (mCons (mC (.int 0)) (mNil)))) (mCons (mVar 6) (mNil)))) (mCons (mVar 4) (mNil)))))))))))))
noncomputable abbrev m_stepped : List Val → M Val := mFn 5 7 b_stepped
noncomputable def b__law_steps_right : MS := mSeq (mSet 4 (mCall m__law_spots (mCons (mVar 1) (mCons (mVar 3) (mNil))))) (mSeq (mFor (mRng1 (mCons (mC (.int 5)) (mNil))) (.nm 5) (mSeq (mPar 9 10 (mCons (mCall m__law_cup (mCons (mVar 0) (mCons (mOp oAdd (mCall cLen (mCons (mVar 1) (mNil))) (mC (.int 1))) (mNil)))) (mCons (mOp oIx (mLst (mCons (mOp oSub (mCall m__law_cup (mCons (mVar 0) (mCons (mC (.int 7)) (mNil)))) (mC (.int 3))) (mCons (mOp oPow (mC (.int 10)) (mC (.int 39))) (mCons (mOp oSub (mC (.int 0)) (mOp oPow (mC (.int 10)) (mC (.int 39)))) (mNil))))) (mOp oMod (mCall m__law_cup (mCons (mVar 0) (mCons (mC (.int 5)) (mNil)))) (mC (.int 3)))) (mNil)))) (mSeq (mSet 6 (mOp oIx (mLst (mCons (mCall m__law_cup (mCons (mVar 0) (mCons (mOp oAdd (mCall cMin2 (mCons (mVar 2) (mCons (mC (.int 30)) (mNil)))) (mC (.int 3))) (mNil)))) (mCons (mOp oIx (mOp oIx (mVar 4) (mVar 9)) (mC (.int 1))) (mNil)))) (mCall m__law_cup (mCons (mVar 0) (mCons (mC (.int 2)) (mNil)))))) (mSeq (mSet 7 (mCall cMin2 (mCons (mCall cMax2 (mCons (mOp oAdd (mOp oIx (mOp oIx (mVar 4) (mVar 9)) (mC (.int 0))) (mVar 10)) (mCons (mC (.int 0)) (mNil)))) (mCons (mOp oSub (mCall cLen (mCons (mVar 3) (mNil))) (mC (.int 1))) (mNil))))) (mSeq (mSet 8 (mCall m__law_places (mCons (mVar 1) (mCons (mVar 3) (mCons (mVar 7) (mNil)))))) (mIfS (mTest (mOp (Cp.o .ne) (mCall m_stepped (mCons (mVar 1) (mCons (mVar 2) (mCons (mVar 9) (mCons (mVar 10) (mCons (mVar 6) (mNil))))))) (mOp oIx (mVar 8) (mCall cMin2 (mCons (mVar 6) (mCons (mOp oSub (mCall cLen (mCons (mVar 8) (mNil))) (mC (.int 1))) (mNil))))))) (mRet (mC (.bl false))) (mNext))))))) (mRet (mC (.bl true))))
noncomputable abbrev m__law_steps_right : List Val → M Val := mFn 4 11 b__law_steps_right
noncomputable def b_law : MS := mSeq (mSet 1 (mCall m__law_pump (mCons (mVar 0) (mCons (mC (.int 0)) (mNil))))) (mSeq (mSet 2 (mCall m__law_text (mCons (mVar 1) (mCons (mC (.int 4)) (mCons (mOp oIx (mLst (mCons (mC (.int 14)) (mCons (mC (.int 14)) (mCons (mC (.int 40)) (mNil))))) (mCall m__law_cup (mCons (mVar 1) (mCons (mC (.int 3)) (mNil))))) (mNil)))))) (mSeq (mFor (mIter (mLst (mCons (mOp oAdd (mC (.int 1)) (mCall m__law_cup (mCons (mVar 1) (mCons (mC (.int 3)) (mNil))))) (mCons (mOp oAdd (mC (.int 2)) (mCall m__law_cup (mCons (mVar 1) (mCons (mC (.int 9)) (mNil))))) (mCons (mOp oPow (mC (.int 10)) (mC (.int 39))) (mNil)))))) (.nm 3) (mSeq (mSet 4 (mCall m__law_screen (mCons (mVar 2) (mCons (mVar 3) (mNil))))) (mSeq (mIfS (mOr (mNot (mTest (mCall m__law_cut_right (mCons (mVar 2) (mCons (mVar 3) (mCons (mVar 4) (mNil))))))) (mNot (mTest (mCall m__law_places_right (mCons (mVar 2) (mCons (mVar 3) (mCons (mVar 4) (mNil)))))))) (mRet (mC (.bl false))) (mNext)) (mIfS (mNot (mTest (mCall m__law_steps_right (mCons (mVar 1) (mCons (mVar 2) (mCons (mVar 3) (mCons (mVar 4) (mNil)))))))) (mRet (mC (.bl false))) (mNext))))) (mSeq (mIfS (mOr (mTest (mOp (Cp.o .ne) (mCall m_pieces (mCons (mC (.str "ab   c")) (mCons (mC (.int 4)) (mNil)))) (mLst (mCons (mC (.str "ab  ")) (mCons (mC (.str " c")) (mNil)))))) (mTest (mOp (Cp.o .ne) (mCall m_pieces (mCons (mC (.str "   a")) (mCons (mC (.int 2)) (mNil)))) (mLst (mCons (mC (.str "  ")) (mCons (mC (.str " a")) (mNil))))))) (mRet (mC (.bl false))) (mNext)) (mSeq (mIfS (mOr (mTest (mOp (Cp.o .ne) (mCall m_pieces (mCons (mC (.str "")) (mCons (mC (.int 1)) (mNil)))) (mLst (mCons (mC (.str "")) (mNil))))) (mOr (mTest (mOp (Cp.o .ne) (mCall m_pieces (mCons (mC (.str " ")) (mCons (mC (.int 1)) (mNil)))) (mLst (mCons (mC (.str " ")) (mNil))))) (mTest (mOp (Cp.o .ne) (mCall m_pieces (mCons (mC (.str "ab  cd ")) (mCons (mC (.int 3)) (mNil)))) (mLst (mCons (mC (.str "ab ")) (mCons (mC (.str " ")) (mCons (mC (.str "cd ")) (mNil))))))))) (mRet (mC (.bl false))) (mNext)) (mRet (mAndV (mOp (Cp.o .eq) (mCall m_spot (mCons (mC (.str "")) (mCons (mC (.int 3)) (mCons (mC (.int 0)) (mNil))))) (mTup (mCons (mC (.int 0)) (mCons (mC (.int 0)) (mNil))))) (mAndV (mOp (Cp.o .eq) (mCall m_place_at (mCons (mC (.str "\n")) (mCons (mC (.int 1)) (mCons (mC (.int 1)) (mCons (mC (.int 5)) (mNil)))))) (mC (.int 1))) (mOp (Cp.o .eq) (mCall m_stepped (mCons (mC (.str "ab\nc")) (mCons (mC (.int 9)) (mCons (mC (.int 2)) (mCons (mC (.int 1)) (mCons (mC (.int 2)) (mNil))))))) (mC (.int 4))))))))))
noncomputable abbrev m_law : List Val → M Val := mFn 1 5 b_law
section
variable {P : Program} {w : World} {K : PySem.W.Frag} {mg : Str → Option Value} {base : Heap}
theorem sc__law_pump : FnScope ["_law_script", "_law_at", "_law_cell", "_law_full", "_law_turn", "_law_deep", "_law_near", "_law_far"] ["_law_script", "_law_at"] (defScope (top 33)) := ⟨rfl, rfl, rfl, by decide +kernel, rfl, by decide +kernel, by decide +kernel⟩
theorem ok__law_pump {f : Addr} {fd : FuncData} (T : Tx mg) (D : Df K mg "_law_pump" (top 33) ["_law_script", "_law_at"] [] f fd) : FnOk P w K mg base CX0 1 f fd ["_law_script", "_law_at"] (spM K m__law_pump 2) :=
  fn_ok D.F sc__law_pump rfl fun cdv A outer s H E hr => by
    exact sss_cons (ss_set (i := 2) sc__law_pump.nd (se_add (se_mul (se_int) (se_var (i := 1))) (se_int))) (sss_cons (ss_if (st_cp .lt hr (se_var (i := 1)) (se_len T.f_len (sa_cons (se_var (i := 0)) (sa_nil)))) (sss_one (ss_set (i := 2) sc__law_pump.nd (se_ix (se_var (i := 0)) (se_var (i := 1))))) (sss_nil)) (sss_cons (ss_if (st_cp .ge hr (se_var (i := 2)) (se_pow (se_int) (se_int))) (sss_cons (ss_set (i := 5) sc__law_pump.nd (se_mul (se_mul (se_mul (se_pow (se_int) (se_int)) (se_pow (se_int) (se_int))) (se_pow (se_int) (se_int))) (se_pow (se_int) (se_int)))) (sss_one (ss_ret (se_lst (sa_cons (se_mod (se_cint T.f_int (sa_cons (se_sub (se_var (i := 2)) (se_pow (se_int) (se_int))) (sa_nil))) (se_mul (se_mul (se_var (i := 5)) (se_var (i := 5))) (se_var (i := 5)))) (sa_nil)))))) (sss_nil)) (sss_cons (ss_par (i := 6) (j := 7) rfl sc__law_pump.nd (sa_cons (se_mod (se_cint T.f_int (sa_cons (se_add (se_var (i := 2)) (se_mul (se_int) (se_var (i := 1)))) (sa_nil))) (se_int)) (sa_cons (se_mod (se_cint T.f_int (sa_cons (se_var (i := 2)) (sa_nil))) (se_int)) (sa_nil)))) (sss_cons (ss_set (i := 3) sc__law_pump.nd (se_int)) (sss_cons (ss_for PassesOwn.never rfl (si_rng1 T.f_range (sa_cons (se_int) (sa_nil))) (sg_nm (i := 4) sc__law_pump.nd) (sss_cons (ss_set (i := 6) sc__law_pump.nd (se_mod (se_cint T.f_int (sa_cons (se_add (se_add (se_add (se_mul (se_var (i := 6)) (se_int)) (se_mul (se_var (i := 4)) (se_int))) (se_mul (se_int) (se_var (i := 1)))) (se_int)) (sa_nil))) (se_int))) (sss_cons (ss_set (i := 7) sc__law_pump.nd (se_mod (se_cint T.f_int (sa_cons (se_add (se_add (se_mul (se_var (i := 7)) (se_var (i := 7))) (se_mul (se_int) (se_var (i := 4)))) (se_int)) (sa_nil))) (se_int))) (sss_one (ss_set (i := 3) sc__law_pump.nd (se_add (se_mul (se_var (i := 3)) (se_int)) (se_mod (se_cint T.f_int (sa_cons (se_add (se_mul (se_var (i := 6)) (se_var (i := 7))) (se_mul (se_int) (se_var (i := 4)))) (sa_nil))) (se_int)))))))) (sss_one (ss_ret (se_lst (sa_cons (se_var (i := 3)) (sa_nil))))))))))
theorem sc__law_cup : FnScope ["_law_pump_here", "_law_many", "_law_digit"] ["_law_pump_here", "_law_many"] (defScope (top 34)) := ⟨rfl, rfl, rfl, by decide +kernel, rfl, by decide +kernel, by decide +kernel⟩
theorem ok__law_cup {f : Addr} {fd : FuncData} (T : Tx mg) (D : Df K mg "_law_cup" (top 34) ["_law_pump_here", "_law_many"] [] f fd) : FnOk P w K mg base CX0 1 f fd ["_law_pump_here", "_law_many"] (spM K m__law_cup 2) :=
  fn_ok D.F sc__law_cup rfl fun cdv A outer s H E hr => by
    exact sss_cons (ss_set (i := 2) sc__law_cup.nd (se_mod (se_cint T.f_int (sa_cons (se_ix (se_var (i := 0)) (se_int)) (sa_nil))) (se_var (i := 1)))) (sss_cons (ss_sub (se_var (i := 0)) (se_int) (se_div (se_ix (se_var (i := 0)) (se_int)) (se_var (i := 1)))) (sss_one (ss_ret (se_var (i := 2)))))
theorem sc__law_line : FnScope ["_law_pump_here", "_law_most", "_law_found", "_law_turn", "_law_word"] ["_law_pump_here", "_law_most"] (defScope (top 36)) := ⟨rfl, rfl, rfl, by decide +kernel, rfl, by decide +kernel, by decide +kernel⟩
theorem ok__law_line {f : Addr} {fd : FuncData} (T : Tx mg) (D : Df K mg "_law_line" (top 36) ["_law_pump_here", "_law_most"] [] f fd) {f__law_cup : Addr} {fd__law_cup : FuncData} (D__law_cup : Df K mg "_law_cup" (top 34) ["_law_pump_here", "_law_many"] [] f__law_cup fd__law_cup) (G__law_cup : FnOk P w K mg base CX0 1 f__law_cup fd__law_cup ["_law_pump_here", "_law_many"] (spM K m__law_cup 2)) : FnOk P w K mg base CX0 2 f fd ["_law_pump_here", "_law_most"] (spM K m__law_line 2) :=
  fn_ok D.F sc__law_line rfl fun cdv A outer s H E hr => by
    exact sss_cons (ss_set (i := 2) sc__law_line.nd (se_str)) (sss_cons (ss_for PassesOwn.never rfl (si_rng1 T.f_range (sa_cons (se_call G__law_cup (hr.mono (by decide)) D__law_cup.gm D__law_cup.F.kp D__law_cup.bd (sa_cons (se_var (i := 0)) (sa_cons (se_int) (sa_nil)))) (sa_nil))) (sg_nm (i := 3) sc__law_line.nd) (sss_cons (ss_set (i := 4) sc__law_line.nd (se_ix (se_lst (sa_cons (se_str) (sa_cons (se_str) (sa_cons (se_str) (sa_cons (se_str) (sa_cons (se_str) (sa_nil))))))) (se_call G__law_cup (hr.mono (by decide)) D__law_cup.gm D__law_cup.F.kp D__law_cup.bd (sa_cons (se_var (i := 0)) (sa_cons (se_int) (sa_nil)))))) (sss_one (ss_set (i := 2) sc__law_line.nd (se_add (se_add (se_var (i := 2)) (se_var (i := 4))) (se_ix (se_lst (sa_cons (se_str) (sa_cons (se_str) (sa_cons (se_str) (sa_cons (se_str) (sa_cons (se_str) (sa_nil))))))) (se_call G__law_cup (hr.mono (by decide)) D__law_cup.gm D__law_cup.F.kp D__law_cup.bd (sa_cons (se_var (i := 0)) (sa_cons (se_int) (sa_nil)))))))))) (sss_one (ss_ret (se_sl (se_add (se_ix (se_lst (sa_cons (se_str) (sa_cons (se_str) (sa_cons (se_str) (sa_cons (se_str) (sa_cons (se_str) (sa_cons (se_str) (sa_nil)))))))) (se_call G__law_cup (hr.mono (by decide)) D__law_cup.gm D__law_cup.F.kp D__law_cup.bd (sa_cons (se_var (i := 0)) (sa_cons (se_int) (sa_nil))))) (se_var (i := 2))) (so_none) (so_some (se_var (i := 1)))))))
theorem sc__law_text : FnScope ["_law_pump_here", "_law_lines", "_law_most", "_law_found", "_law_turn"] ["_law_pump_here", "_law_lines", "_law_most"] (defScope (top 37)) := ⟨rfl, rfl, rfl, by decide +kernel, rfl, by decide +kernel, by decide +kernel⟩
theorem ok__law_text {f : Addr} {fd : FuncData} (T : Tx mg) (D : Df K mg "_law_text" (top 37) ["_law_pump_here", "_law_lines", "_law_most"] [] f fd) {f__law_cup : Addr} {fd__law_cup : FuncData} (D__law_cup : Df K mg "_law_cup" (top 34) ["_law_pump_here", "_law_many"] [] f__law_cup fd__law_cup) (G__law_cup : FnOk P w K mg base CX0 1 f__law_cup fd__law_cup ["_law_pump_here", "_law_many"] (spM K m__law_cup 2)) {f__law_line : Addr} {fd__law_line : FuncData} (D__law_line : Df K mg "_law_line" (top 36) ["_law_pump_here", "_law_most"] [] f__law_line fd__law_line) (G__law_line : FnOk P w K mg base CX0 2 f__law_line fd__law_line ["_law_pump_here", "_law_most"] (spM K m__law_line 2)) : FnOk P w K mg base CX0 3 f fd ["_law_pump_here", "_law_lines", "_law_most"] (spM K m__law_text 3) :=
  fn_ok D.F sc__law_text rfl fun cdv A outer s H E hr => by
    exact sss_cons (ss_set (i := 3) sc__law_text.nd (se_lst (sa_nil))) (sss_cons (ss_for PassesOwn.never rfl (si_rng1 T.f_range (sa_cons (se_add (se_int) (se_call G__law_cup (hr.mono (by decide)) D__law_cup.gm D__law_cup.F.kp D__law_cup.bd (sa_cons (se_var (i := 0)) (sa_cons (se_var (i := 1)) (sa_nil))))) (sa_nil))) (sg_nm (i := 4) sc__law_text.nd) (sss_one (ss_expr (se_append (se_var (i := 3)) (sa_cons (se_call G__law_line (hr.mono (by decide)) D__law_line.gm D__law_line.F.kp D__law_line.bd (sa_cons (se_var (i := 0)) (sa_cons (se_ix (se_lst (sa_cons (se_int) (sa_cons (se_int) (sa_cons (se_var (i := 2)) (sa_cons (se_var (i := 2)) (sa_nil)))))) (se_call G__law_cup (hr.mono (by decide)) D__law_cup.gm D__law_cup.F.kp D__law_cup.bd (sa_cons (se_var (i := 0)) (sa_cons (se_int) (sa_nil))))) (sa_nil)))) (sa_nil)))))) (sss_one (ss_ret (se_join (se_str) (sa_cons (se_var (i := 3)) (sa_nil))))))
theorem sc__law_borders : FnScope ["_law_line_here", "_law_k"] ["_law_line_here"] (defScope (top 38)) := ⟨rfl, rfl, rfl, by decide +kernel, rfl, by decide +kernel, by decide +kernel⟩
theorem ok__law_borders {f : Addr} {fd : FuncData} (T : Tx mg) (D : Df K mg "_law_borders" (top 38) ["_law_line_here"] [] f fd) : FnOk P w K mg base CX0 1 f fd ["_law_line_here"] (spM K m__law_borders 1) :=
  fn_ok D.F sc__law_borders rfl fun cdv A outer s H E hr => by
    exact sss_one (ss_ret (se_lc (own := [("_law_k", 1)]) rfl sc__law_borders.nd (si_rng1 T.f_range (sa_cons (se_len T.f_len (sa_cons (se_var (i := 0)) (sa_nil))) (sa_nil))) (blkOk_by (by kernel_rfl)) (fun _ _ _ _ _ => sg_nm (i := 1) sc__law_borders.nd) (fun _ _ _ _ _ => sts_one (PW.pt (sw_or (st_cp .eq hr (se_ix (se_var (i := 0)) (se_var (i := 1))) (se_str)) (sw_or1 (st_cp .eq hr (se_add (se_var (i := 1)) (se_int)) (se_len T.f_len (sa_cons (se_var (i := 0)) (sa_nil)))))))) (fun _ _ _ _ _ => se_add (se_var (i := 1)) (se_int))))
theorem sc__law_pieces : FnScope ["_law_line_here", "_law_width", "_law_end", "_law_found", "_law_begin", "_law_last"] ["_law_line_here", "_law_width"] (defScope (top 39)) := ⟨rfl, rfl, rfl, by decide +kernel, rfl, by decide +kernel, by decide +kernel⟩
theorem ok__law_pieces {f : Addr} {fd : FuncData} (T : Tx mg) (D : Df K mg "_law_pieces" (top 39) ["_law_line_here", "_law_width"] [] f fd) {f__law_borders : Addr} {fd__law_borders : FuncData} (D__law_borders : Df K mg "_law_borders" (top 38) ["_law_line_here"] [] f__law_borders fd__law_borders) (G__law_borders : FnOk P w K mg base CX0 1 f__law_borders fd__law_borders ["_law_line_here"] (spM K m__law_borders 1)) : FnOk P w K mg base CX0 2 f fd ["_law_line_here", "_law_width"] (spM K m__law_pieces 2) :=
  fn_ok D.F sc__law_pieces rfl fun cdv A outer s H E hr => by
    exact sss_cons (ss_par3 (i := 3) (j := 4) (l := 5) rfl sc__law_pieces.nd (sa_cons (se_lst (sa_cons (se_str) (sa_nil))) (sa_cons (se_int) (sa_cons (se_int) (sa_nil))))) (sss_cons (ss_for PassesOwn.never rfl (si_any (se_call G__law_borders (hr.mono (by decide)) D__law_borders.gm D__law_borders.F.kp D__law_borders.bd (sa_cons (se_var (i := 0)) (sa_nil)))) (sg_nm (i := 2) sc__law_pieces.nd) (sss_cons (ss_if (PW.pt (sw_and (st_cp .gt hr (se_var (i := 5)) (se_var (i := 4))) (sw_and1 (st_cp .gt hr (se_sub (se_var (i := 2)) (se_var (i := 4))) (se_var (i := 1)))))) (sss_cons (ss_expr (se_append (se_var (i := 3)) (sa_cons (se_str) (sa_nil)))) (sss_one (ss_set (i := 4) sc__law_pieces.nd (se_var (i := 5))))) (sss_nil)) (sss_cons (ss_sub (se_var (i := 3)) (se_neg (se_int)) (se_sl (se_var (i := 0)) (so_some (se_var (i := 4))) (so_some (se_var (i := 2))))) (sss_one (ss_set (i := 5) sc__law_pieces.nd (se_var (i := 2))))))) (sss_one (ss_ret (se_var (i := 3)))))
theorem sc__law_screen : FnScope ["_law_text_here", "_law_width", "_law_found", "_law_k", "_law_line_here", "_law_start", "_law_piece"] ["_law_text_here", "_law_width"] (defScope (top 40)) := ⟨rfl, rfl, rfl, by decide +kernel, rfl, by decide +kernel, by decide +kernel⟩
theorem ok__law_screen {f : Addr} {fd : FuncData} (T : Tx mg) (D : Df K mg "_law_screen" (top 40) ["_law_text_here", "_law_width"] [] f fd) {f__law_pieces : Addr} {fd__law_pieces : FuncData} (D__law_pieces : Df K mg "_law_pieces" (top 39) ["_law_line_here", "_law_width"] [] f__law_pieces fd__law_pieces) (G__law_pieces : FnOk P w K mg base CX0 2 f__law_pieces fd__law_pieces ["_law_line_here", "_law_width"] (spM K m__law_pieces 2)) : FnOk P w K mg base CX0 3 f fd ["_law_text_here", "_law_width"] (spM K m__law_screen 2) :=
  fn_ok D.F sc__law_screen rfl fun cdv A outer s H E hr => by
    exact sss_cons (ss_set (i := 2) sc__law_screen.nd (se_lst (sa_nil))) (sss_cons (ss_for PassesOwn.never rfl (si_enum T.f_enumerate (sa_cons (se_split (se_var (i := 0)) (sa_cons (se_str) (sa_nil))) (sa_nil))) (sg_tp rfl (sgs_cons (sg_nm (i := 3) sc__law_screen.nd) (sgs_cons (sg_nm (i := 4) sc__law_screen.nd) (sgs_nil)))) (sss_cons (ss_set (i := 5) sc__law_screen.nd (se_int)) (sss_one (ss_for PassesOwn.never rfl (si_any (se_call G__law_pieces (hr.mono (by decide)) D__law_pieces.gm D__law_pieces.F.kp D__law_pieces.bd (sa_cons (se_var (i := 4)) (sa_cons (se_var (i := 1)) (sa_nil))))) (sg_nm (i := 6) sc__law_screen.nd) (sss_cons (ss_expr (se_append (se_var (i := 2)) (sa_cons (se_tup (sa_cons (se_var (i := 3)) (sa_cons (se_var (i := 5)) (sa_cons (se_var (i := 6)) (sa_nil))))) (sa_nil)))) (sss_one (ss_set (i := 5) sc__law_screen.nd (se_add (se_var (i := 5)) (se_len T.f_len (sa_cons (se_var (i := 6)) (sa_nil))))))))))) (sss_one (ss_ret (se_var (i := 2)))))
theorem sc_is_text : FnScope ["value", "sign"] ["value"] (defScope (top 9)) := ⟨rfl, rfl, rfl, by decide +kernel, rfl, by decide +kernel, by decide +kernel⟩
theorem ok_is_text {f : Addr} {fd : FuncData} (T : Tx mg) (D : Df K mg "is_text" (top 9) ["value"] [] f fd) : FnOk P w K mg base CX0 1 f fd ["value"] (spM K m_is_text 1) :=
  fn_ok D.F sc_is_text rfl fun cdv A outer s H E hr => by
    exact sss_one (ss_ret (se_and (se_isi (T := "str") T.f_isinstance T.f_str (by decide +kernel) (se_var (i := 0))) (se_one (se_cp .eq hr (se_lc (own := [("sign", 1)]) rfl sc_is_text.nd (si_any (se_var (i := 0))) (blkOk_by (by kernel_rfl)) (fun _ _ _ _ _ => sg_nm (i := 1) sc_is_text.nd) (fun _ _ _ _ _ => sts_one (st_cp .notIn hr (se_var (i := 1)) (se_gstr T.c_SIGNS))) (fun _ _ _ _ _ => se_var (i := 1))) (se_lst (sa_nil))))))
theorem sc_check_text : FnScope ["value"] ["value"] (defScope (top 20)) := ⟨rfl, rfl, rfl, by decide +kernel, rfl, by decide +kernel, by decide +kernel⟩
theorem ok_check_text {f : Addr} {fd : FuncData} (T : Tx mg) (D : Df K mg "check_text" (top 20) ["value"] [] f fd) {f_is_text : Addr} {fd_is_text : FuncData} (D_is_text : Df K mg "is_text" (top 9) ["value"] [] f_is_text fd_is_text) (G_is_text : FnOk P w K mg base CX0 1 f_is_text fd_is_text ["value"] (spM K m_is_text 1)) : FnOk P w K mg base CX0 2 f fd ["value"] (spM K m_check_text 1) :=
  fn_ok D.F sc_check_text rfl fun cdv A outer s H E hr => by
    exact sss_one (ss_if (st_not (st_val (se_call G_is_text (hr.mono (by decide)) D_is_text.gm D_is_text.F.kp D_is_text.bd (sa_cons (se_var (i := 0)) (sa_nil))))) (sss_one (ss_never)) (sss_nil))
theorem sc_is_whole : FnScope ["value"] ["value"] (defScope (top 8)) := ⟨rfl, rfl, rfl, by decide +kernel, rfl, by decide +kernel, by decide +kernel⟩
theorem ok_is_whole {f : Addr} {fd : FuncData} (T : Tx mg) (D : Df K mg "is_whole" (top 8) ["value"] [] f fd) : FnOk P w K mg base CX0 1 f fd ["value"] (spM K m_is_whole 1) :=
  fn_ok D.F sc_is_whole rfl fun cdv A outer s H E hr => by
    exact sss_one (ss_ret (se_and (se_isi (T := "int") T.f_isinstance T.f_int (by decide +kernel) (se_var (i := 0))) (se_one (se_not (se_isi (T := "bool") T.f_isinstance T.f_bool (by decide +kernel) (se_var (i := 0)))))))
theorem sc_check_least : FnScope ["value", "least"] ["value", "least"] (defScope (top 15)) := ⟨rfl, rfl, rfl, by decide +kernel, rfl, by decide +kernel, by decide +kernel⟩
theorem ok_check_least {f : Addr} {fd : FuncData} (T : Tx mg) (D : Df K mg "check_least" (top 15) ["value", "least"] [] f fd) {f_is_whole : Addr} {fd_is_whole : FuncData} (D_is_whole : Df K mg "is_whole" (top 8) ["value"] [] f_is_whole fd_is_whole) (G_is_whole : FnOk P w K mg base CX0 1 f_is_whole fd_is_whole ["value"] (spM K m_is_whole 1)) : FnOk P w K mg base CX0 2 f fd ["value", "least"] (spM K m_check_least 2) :=
  fn_ok D.F sc_check_least rfl fun cdv A outer s H E hr => by
    exact sss_one (ss_if (PW.pt (sw_or (st_not (st_val (se_call G_is_whole (hr.mono (by decide)) D_is_whole.gm D_is_whole.F.kp D_is_whole.bd (sa_cons (se_var (i := 0)) (sa_nil))))) (sw_or1 (st_cp .lt hr (se_var (i := 0)) (se_var (i := 1)))))) (sss_one (ss_never)) (sss_nil))
theorem sc_are_folds : FnScope ["value", "many", "k", "fold", "one"] ["value", "many"] (defScope (top 23)) := ⟨rfl, rfl, rfl, by decide +kernel, rfl, by decide +kernel, by decide +kernel⟩
theorem ok_are_folds {f : Addr} {fd : FuncData} (T : Tx mg) (D : Df K mg "are_folds" (top 23) ["value", "many"] [] f fd) : FnOk P w K mg base CX0 1 f fd ["value", "many"] (spM K m_are_folds 2) :=
  fn_ok D.F sc_are_folds rfl fun cdv A outer s H E hr => by
    exact sss_never
theorem sc_chunks : FnScope ["line", "found", "held", "sign"] ["line"] (defScope (top 17)) := ⟨rfl, rfl, rfl, by decide +kernel, rfl, by decide +kernel, by decide +kernel⟩
theorem ok_chunks {f : Addr} {fd : FuncData} (T : Tx mg) (D : Df K mg "chunks" (top 17) ["line"] [] f fd) : FnOk P w K mg base CX0 1 f fd ["line"] (spM K m_chunks 1) :=
  fn_ok D.F sc_chunks rfl fun cdv A outer s H E hr => by
    exact sss_cons (ss_set (i := 1) sc_chunks.nd (se_lst (sa_nil))) (sss_cons (ss_set (i := 2) sc_chunks.nd (se_str)) (sss_cons (ss_for PassesOwn.never rfl (si_any (se_var (i := 0))) (sg_nm (i := 3) sc_chunks.nd) (sss_cons (ss_augadd (i := 2) sc_chunks.nd (se_var (i := 3))) (sss_one (ss_if (st_cp .eq hr (se_var (i := 3)) (se_str)) (sss_cons (ss_expr (se_append (se_var (i := 1)) (sa_cons (se_var (i := 2)) (sa_nil)))) (sss_one (ss_set (i := 2) sc_chunks.nd (se_str)))) (sss_nil))))) (sss_one (ss_ret (se_if (st_cp .ne hr (se_var (i := 2)) (se_str)) (se_add (se_var (i := 1)) (se_lst (sa_cons (se_var (i := 2)) (sa_nil)))) (se_var (i := 1)))))))
theorem sc_cut : FnScope ["line", "width", "found", "chunk"] ["line", "width"] (defScope (top 18)) := ⟨rfl, rfl, rfl, by decide +kernel, rfl, by decide +kernel, by decide +kernel⟩
theorem ok_cut {f : Addr} {fd : FuncData} (T : Tx mg) (D : Df K mg "cut" (top 18) ["line", "width"] [] f fd) {f_chunks : Addr} {fd_chunks : FuncData} (D_chunks : Df K mg "chunks" (top 17) ["line"] [] f_chunks fd_chunks) (G_chunks : FnOk P w K mg base CX0 1 f_chunks fd_chunks ["line"] (spM K m_chunks 1)) : FnOk P w K mg base CX0 2 f fd ["line", "width"] (spM K m_cut 2) :=
  fn_ok D.F sc_cut rfl fun cdv A outer s H E hr => by
    exact sss_cons (ss_set (i := 2) sc_cut.nd (se_lst (sa_cons (se_str) (sa_nil)))) (sss_cons (ss_for PassesOwn.never rfl (si_any (se_call G_chunks (hr.mono (by decide)) D_chunks.gm D_chunks.F.kp D_chunks.bd (sa_cons (se_var (i := 0)) (sa_nil)))) (sg_nm (i := 3) sc_cut.nd) (sss_one (ss_if (PW.pt (sw_or (st_cp .eq hr (se_ix (se_var (i := 2)) (se_neg (se_int))) (se_str)) (sw_or1 (st_cp .le hr (se_add (se_len T.f_len (sa_cons (se_ix (se_var (i := 2)) (se_neg (se_int))) (sa_nil))) (se_len T.f_len (sa_cons (se_var (i := 3)) (sa_nil)))) (se_var (i := 1)))))) (sss_one (ss_sub (se_var (i := 2)) (se_neg (se_int)) (se_add (se_ix (se_var (i := 2)) (se_neg (se_int))) (se_var (i := 3))))) (sss_one (ss_expr (se_append (se_var (i := 2)) (sa_cons (se_var (i := 3)) (sa_nil)))))))) (sss_one (ss_ret (se_var (i := 2)))))
theorem sc_rows_of : FnScope ["text", "width", "folds", "found", "k", "line", "start", "piece", "fold"] ["text", "width", "folds"] (defScope (top 24)) := ⟨rfl, rfl, rfl, by decide +kernel, rfl, by decide +kernel, by decide +kernel⟩
theorem ok_rows_of {f : Addr} {fd : FuncData} (T : Tx mg) (D : Df K mg "rows_of" (top 24) ["text", "width", "folds"] [] f fd) {f_cut : Addr} {fd_cut : FuncData} (D_cut : Df K mg "cut" (top 18) ["line", "width"] [] f_cut fd_cut) (G_cut : FnOk P w K mg base CX0 2 f_cut fd_cut ["line", "width"] (spM K m_cut 2)) : FnOk P w K mg base CX0 3 f fd ["text", "width", "folds"] (spM K m_rows_of 3) :=
  fn_ok D.F sc_rows_of rfl fun cdv A outer s H E hr => by
    exact sss_cons (ss_set (i := 3) sc_rows_of.nd (se_lst (sa_nil))) (sss_cons (ss_for PassesOwn.never rfl (si_enum T.f_enumerate (sa_cons (se_split (se_var (i := 0)) (sa_cons (se_str) (sa_nil))) (sa_nil))) (sg_tp rfl (sgs_cons (sg_nm (i := 4) sc_rows_of.nd) (sgs_cons (sg_nm (i := 5) sc_rows_of.nd) (sgs_nil)))) (sss_one (ss_if (st_cp .eq hr (se_lc (own := [("fold", 8)]) rfl sc_rows_of.nd (si_any (se_var (i := 2))) (blkOk_by (by kernel_rfl)) (fun _ _ _ _ _ => sg_nm (i := 8) sc_rows_of.nd) (fun _ _ _ _ _ => sts_one (st_chain .lt .le hr (se_ix (se_var (i := 8)) (se_int)) (se_var (i := 4)) (se_ix (se_var (i := 8)) (se_int)))) (fun _ _ _ _ _ => se_var (i := 8))) (se_lst (sa_nil))) (sss_cons (ss_set (i := 6) sc_rows_of.nd (se_int)) (sss_one (ss_for PassesOwn.never rfl (si_any (se_call G_cut (hr.mono (by decide)) D_cut.gm D_cut.F.kp D_cut.bd (sa_cons (se_var (i := 5)) (sa_cons (se_var (i := 1)) (sa_nil))))) (sg_nm (i := 7) sc_rows_of.nd) (sss_cons (ss_expr (se_append (se_var (i := 3)) (sa_cons (se_tup (sa_cons (se_var (i := 4)) (sa_cons (se_var (i := 6)) (sa_cons (se_var (i := 7)) (sa_nil))))) (sa_nil)))) (sss_one (ss_augadd (i := 6) sc_rows_of.nd (se_len T.f_len (sa_cons (se_var (i := 7)) (sa_nil))))))))) (sss_nil)))) (sss_one (ss_ret (se_var (i := 3)))))
theorem sc_screen : FnScope ["text", "width", "folds"] ["text", "width", "folds"] (defScope (top 25)) := ⟨rfl, rfl, rfl, by decide +kernel, rfl, by decide +kernel, by decide +kernel⟩
theorem ok_screen {f : Addr} {fd : FuncData} (T : Tx mg) (D : Df K mg "screen" (top 25) ["text", "width", "folds"] [V.non] f fd) {f_check_text : Addr} {fd_check_text : FuncData} (D_check_text : Df K mg "check_text" (top 20) ["value"] [] f_check_text fd_check_text) (G_check_text : FnOk P w K mg base CX0 2 f_check_text fd_check_text ["value"] (spM K m_check_text 1)) {f_check_least : Addr} {fd_check_least : FuncData} (D_check_least : Df K mg "check_least" (top 15) ["value", "least"] [] f_check_least fd_check_least) (G_check_least : FnOk P w K mg base CX0 2 f_check_least fd_check_least ["value", "least"] (spM K m_check_least 2)) {f_are_folds : Addr} {fd_are_folds : FuncData} (D_are_folds : Df K mg "are_folds" (top 23) ["value", "many"] [] f_are_folds fd_are_folds) (G_are_folds : FnOk P w K mg base CX0 1 f_are_folds fd_are_folds ["value", "many"] (spM K m_are_folds 2)) {f_rows_of : Addr} {fd_rows_of : FuncData} (D_rows_of : Df K mg "rows_of" (top 24) ["text", "width", "folds"] [] f_rows_of fd_rows_of) (G_rows_of : FnOk P w K mg base CX0 3 f_rows_of fd_rows_of ["text", "width", "folds"] (spM K m_rows_of 3)) : FnOk P w K mg base CX0 4 f fd ["text", "width", "folds"] (spM K m_screen 3) :=
  fn_ok D.F sc_screen rfl fun cdv A outer s H E hr => by
    exact sss_cons (ss_expr (se_call G_check_text (hr.mono (by decide)) D_check_text.gm D_check_text.F.kp D_check_text.bd (sa_cons (se_var (i := 0)) (sa_nil)))) (sss_cons (ss_expr (se_call G_check_least (hr.mono (by decide)) D_check_least.gm D_check_least.F.kp D_check_least.bd (sa_cons (se_var (i := 1)) (sa_cons (se_int) (sa_nil))))) (sss_cons (ss_if (PW.pt (sw_and (st_cp .notN hr (se_var (i := 2)) (se_non)) (sw_and1 (st_not (st_val (se_call G_are_folds (hr.mono (by decide)) D_are_folds.gm D_are_folds.F.kp D_are_folds.bd (sa_cons (se_var (i := 2)) (sa_cons (se_len T.f_len (sa_cons (se_split (se_var (i := 0)) (sa_cons (se_str) (sa_nil))) (sa_nil))) (sa_nil))))))))) (sss_one (ss_never)) (sss_nil)) (sss_one (ss_ret (se_call G_rows_of (hr.mono (by decide)) D_rows_of.gm D_rows_of.F.kp D_rows_of.bd (sa_cons (se_var (i := 0)) (sa_cons (se_var (i := 1)) (sa_cons (se_if (st_cp .isN hr (se_var (i := 2)) (se_non)) (se_lst (sa_nil)) (se_var (i := 2))) (sa_nil)))))))))
theorem sc_is_line : FnScope ["value", "sign"] ["value"] (defScope (top 12)) := ⟨rfl, rfl, rfl, by decide +kernel, rfl, by decide +kernel, by decide +kernel⟩
theorem ok_is_line {f : Addr} {fd : FuncData} (T : Tx mg) (D : Df K mg "is_line" (top 12) ["value"] [] f fd) : FnOk P w K mg base CX0 1 f fd ["value"] (spM K m_is_line 1) :=
  fn_ok D.F sc_is_line rfl fun cdv A outer s H E hr => by
    exact sss_one (ss_ret (se_and (se_isi (T := "str") T.f_isinstance T.f_str (by decide +kernel) (se_var (i := 0))) (se_one (se_cp .eq hr (se_lc (own := [("sign", 1)]) rfl sc_is_line.nd (si_any (se_var (i := 0))) (blkOk_by (by kernel_rfl)) (fun _ _ _ _ _ => sg_nm (i := 1) sc_is_line.nd) (fun _ _ _ _ _ => sts_one (st_cp .notIn hr (se_var (i := 1)) (se_gstr T.c_LINE_SIGNS))) (fun _ _ _ _ _ => se_var (i := 1))) (se_lst (sa_nil))))))
theorem sc_check_line : FnScope ["value"] ["value"] (defScope (top 13)) := ⟨rfl, rfl, rfl, by decide +kernel, rfl, by decide +kernel, by decide +kernel⟩
theorem ok_check_line {f : Addr} {fd : FuncData} (T : Tx mg) (D : Df K mg "check_line" (top 13) ["value"] [] f fd) {f_is_line : Addr} {fd_is_line : FuncData} (D_is_line : Df K mg "is_line" (top 12) ["value"] [] f_is_line fd_is_line) (G_is_line : FnOk P w K mg base CX0 1 f_is_line fd_is_line ["value"] (spM K m_is_line 1)) : FnOk P w K mg base CX0 2 f fd ["value"] (spM K m_check_line 1) :=
  fn_ok D.F sc_check_line rfl fun cdv A outer s H E hr => by
    exact sss_one (ss_if (st_not (st_val (se_call G_is_line (hr.mono (by decide)) D_is_line.gm D_is_line.F.kp D_is_line.bd (sa_cons (se_var (i := 0)) (sa_nil))))) (sss_one (ss_never)) (sss_nil))
theorem sc_pieces : FnScope ["line", "width"] ["line", "width"] (defScope (top 19)) := ⟨rfl, rfl, rfl, by decide +kernel, rfl, by decide +kernel, by decide +kernel⟩
theorem ok_pieces {f : Addr} {fd : FuncData} (T : Tx mg) (D : Df K mg "pieces" (top 19) ["line", "width"] [] f fd) {f_check_line : Addr} {fd_check_line : FuncData} (D_check_line : Df K mg "check_line" (top 13) ["value"] [] f_check_line fd_check_line) (G_check_line : FnOk P w K mg base CX0 2 f_check_line fd_check_line ["value"] (spM K m_check_line 1)) {f_check_least : Addr} {fd_check_least : FuncData} (D_check_least : Df K mg "check_least" (top 15) ["value", "least"] [] f_check_least fd_check_least) (G_check_least : FnOk P w K mg base CX0 2 f_check_least fd_check_least ["value", "least"] (spM K m_check_least 2)) {f_cut : Addr} {fd_cut : FuncData} (D_cut : Df K mg "cut" (top 18) ["line", "width"] [] f_cut fd_cut) (G_cut : FnOk P w K mg base CX0 2 f_cut fd_cut ["line", "width"] (spM K m_cut 2)) : FnOk P w K mg base CX0 3 f fd ["line", "width"] (spM K m_pieces 2) :=
  fn_ok D.F sc_pieces rfl fun cdv A outer s H E hr => by
    exact sss_cons (ss_expr (se_call G_check_line (hr.mono (by decide)) D_check_line.gm D_check_line.F.kp D_check_line.bd (sa_cons (se_var (i := 0)) (sa_nil)))) (sss_cons (ss_expr (se_call G_check_least (hr.mono (by decide)) D_check_least.gm D_check_least.F.kp D_check_least.bd (sa_cons (se_var (i := 1)) (sa_cons (se_int) (sa_nil))))) (sss_one (ss_ret (se_call G_cut (hr.mono (by decide)) D_cut.gm D_cut.F.kp D_cut.bd (sa_cons (se_var (i := 0)) (sa_cons (se_var (i := 1)) (sa_nil)))))))
theorem sc__law_cut_right : FnScope ["_law_text_here", "_law_width", "_law_rows", "_law_told", "_law_line_here", "_law_found"] ["_law_text_here", "_law_width", "_law_rows"] (defScope (top 44)) := ⟨rfl, rfl, rfl, by decide +kernel, rfl, by decide +kernel, by decide +kernel⟩
theorem ok__law_cut_right {f : Addr} {fd : FuncData} (T : Tx mg) (D : Df K mg "_law_cut_right" (top 44) ["_law_text_here", "_law_width", "_law_rows"] [] f fd) {f_screen : Addr} {fd_screen : FuncData} (D_screen : Df K mg "screen" (top 25) ["text", "width", "folds"] [V.non] f_screen fd_screen) (G_screen : FnOk P w K mg base CX0 4 f_screen fd_screen ["text", "width", "folds"] (spM K m_screen 3)) {f_pieces : Addr} {fd_pieces : FuncData} (D_pieces : Df K mg "pieces" (top 19) ["line", "width"] [] f_pieces fd_pieces) (G_pieces : FnOk P w K mg base CX0 3 f_pieces fd_pieces ["line", "width"] (spM K m_pieces 2)) {f__law_pieces : Addr} {fd__law_pieces : FuncData} (D__law_pieces : Df K mg "_law_pieces" (top 39) ["_law_line_here", "_law_width"] [] f__law_pieces fd__law_pieces) (G__law_pieces : FnOk P w K mg base CX0 2 f__law_pieces fd__law_pieces ["_law_line_here", "_law_width"] (spM K m__law_pieces 2)) : FnOk P w K mg base CX0 5 f fd ["_law_text_here", "_law_width", "_law_rows"] (spM K m__law_cut_right 3) :=
  fn_ok D.F sc__law_cut_right rfl fun cdv A outer s H E hr => by
    exact sss_cons (ss_set (i := 3) sc__law_cut_right.nd (se_callm G_screen (hr.mono (by decide)) D_screen.gm D_screen.F.kp (D_screen.b 0 (by decide)) (dvs := [V.non]) (fun _ _ => .cons (.non) (.nil)) (sa_cons (se_var (i := 0)) (sa_cons (se_var (i := 1)) (sa_nil))))) (sss_cons (ss_if (PW.pt (sw_or (st_not (st_val (se_isi (T := "list") T.f_isinstance T.f_list (by decide +kernel) (se_var (i := 3))))) (sw_or1 (st_cp .ne hr (se_var (i := 3)) (se_var (i := 2)))))) (sss_one (ss_ret (se_bl))) (sss_nil)) (sss_cons (ss_expr (se_append (se_var (i := 3)) (sa_cons (se_non) (sa_nil)))) (sss_cons (ss_for PassesOwn.never rfl (si_any (se_split (se_var (i := 0)) (sa_cons (se_str) (sa_nil)))) (sg_nm (i := 4) sc__law_cut_right.nd) (sss_cons (ss_set (i := 5) sc__law_cut_right.nd (se_call G_pieces (hr.mono (by decide)) D_pieces.gm D_pieces.F.kp D_pieces.bd (sa_cons (se_var (i := 4)) (sa_cons (se_var (i := 1)) (sa_nil))))) (sss_cons (ss_if (PW.pt (sw_or (st_cp .ne hr (se_var (i := 5)) (se_call G__law_pieces (hr.mono (by decide)) D__law_pieces.gm D__law_pieces.F.kp D__law_pieces.bd (sa_cons (se_var (i := 4)) (sa_cons (se_var (i := 1)) (sa_nil))))) (sw_or1 (st_cp .ne hr (se_join (se_str) (sa_cons (se_var (i := 5)) (sa_nil))) (se_var (i := 4)))))) (sss_one (ss_ret (se_bl))) (sss_nil)) (sss_cons (ss_expr (se_append (se_var (i := 5)) (sa_cons (se_str) (sa_nil)))) (sss_one (ss_if (st_cp .ne hr (se_call G_pieces (hr.mono (by decide)) D_pieces.gm D_pieces.F.kp D_pieces.bd (sa_cons (se_var (i := 4)) (sa_cons (se_var (i := 1)) (sa_nil)))) (se_call G__law_pieces (hr.mono (by decide)) D__law_pieces.gm D__law_pieces.F.kp D__law_pieces.bd (sa_cons (se_var (i := 4)) (sa_cons (se_var (i := 1)) (sa_nil))))) (sss_one (ss_ret (se_bl))) (sss_nil))))))) (sss_one (ss_ret (se_cp .eq hr (se_call G_screen (hr.mono (by decide)) D_screen.gm D_screen.F.kp D_screen.bd (sa_cons (se_var (i := 0)) (sa_cons (se_var (i := 1)) (sa_cons (se_non) (sa_nil))))) (se_var (i := 2))))))))
theorem sc__law_starts : FnScope ["_law_text_here", "_law_line_here", "_law_found", "_law_start"] ["_law_text_here"] (defScope (top 41)) := ⟨rfl, rfl, rfl, by decide +kernel, rfl, by decide +kernel, by decide +kernel⟩
theorem ok__law_starts {f : Addr} {fd : FuncData} (T : Tx mg) (D : Df K mg "_law_starts" (top 41) ["_law_text_here"] [] f fd) : FnOk P w K mg base CX0 1 f fd ["_law_text_here"] (spM K m__law_starts 1) :=
  fn_ok D.F sc__law_starts rfl fun cdv A outer s H E hr => by
    exact sss_cons (ss_par (i := 2) (j := 3) rfl sc__law_starts.nd (sa_cons (se_lst (sa_nil)) (sa_cons (se_int) (sa_nil)))) (sss_cons (ss_for PassesOwn.never rfl (si_any (se_split (se_var (i := 0)) (sa_cons (se_str) (sa_nil)))) (sg_nm (i := 1) sc__law_starts.nd) (sss_cons (ss_expr (se_append (se_var (i := 2)) (sa_cons (se_var (i := 3)) (sa_nil)))) (sss_one (ss_set (i := 3) sc__law_starts.nd (se_add (se_add (se_var (i := 3)) (se_len T.f_len (sa_cons (se_var (i := 1)) (sa_nil)))) (se_int)))))) (sss_one (ss_ret (se_var (i := 2)))))
theorem sc__law_places : FnScope ["_law_text_here", "_law_rows", "_law_row", "_law_last", "_law_begin", "_law_line_here", "_law_start", "_law_piece", "_law_k"] ["_law_text_here", "_law_rows", "_law_row"] (defScope (top 42)) := ⟨rfl, rfl, rfl, by decide +kernel, rfl, by decide +kernel, by decide +kernel⟩
theorem ok__law_places {f : Addr} {fd : FuncData} (T : Tx mg) (D : Df K mg "_law_places" (top 42) ["_law_text_here", "_law_rows", "_law_row"] [] f fd) {f__law_starts : Addr} {fd__law_starts : FuncData} (D__law_starts : Df K mg "_law_starts" (top 41) ["_law_text_here"] [] f__law_starts fd__law_starts) (G__law_starts : FnOk P w K mg base CX0 1 f__law_starts fd__law_starts ["_law_text_here"] (spM K m__law_starts 1)) : FnOk P w K mg base CX0 2 f fd ["_law_text_here", "_law_rows", "_law_row"] (spM K m__law_places 3) :=
  fn_ok D.F sc__law_places rfl fun cdv A outer s H E hr => by
    exact sss_cons (ss_asg (se_ix (se_var (i := 1)) (se_var (i := 2))) (sg_tp rfl (sgs_cons (sg_nm (i := 5) sc__law_places.nd) (sgs_cons (sg_nm (i := 6) sc__law_places.nd) (sgs_cons (sg_nm (i := 7) sc__law_places.nd) (sgs_nil)))))) (sss_cons (ss_set (i := 3) sc__law_places.nd (se_or (se_cp .eq hr (se_add (se_var (i := 2)) (se_int)) (se_len T.f_len (sa_cons (se_var (i := 1)) (sa_nil)))) (se_one (se_cp .ne hr (se_ix (se_ix (se_var (i := 1)) (se_add (se_var (i := 2)) (se_int))) (se_int)) (se_var (i := 5)))))) (sss_cons (ss_set (i := 4) sc__law_places.nd (se_add (se_ix (se_call G__law_starts (hr.mono (by decide)) D__law_starts.gm D__law_starts.F.kp D__law_starts.bd (sa_cons (se_var (i := 0)) (sa_nil))) (se_var (i := 5))) (se_var (i := 6)))) (sss_one (ss_ret (se_lc (own := [("_law_k", 8)]) rfl sc__law_places.nd (si_rng1 T.f_range (sa_cons (se_add (se_len T.f_len (sa_cons (se_var (i := 7)) (sa_nil))) (se_cint T.f_int (sa_cons (se_var (i := 3)) (sa_nil)))) (sa_nil))) (blkOk_by (by kernel_rfl)) (fun _ _ _ _ _ => sg_nm (i := 8) sc__law_places.nd) (fun _ _ _ _ _ => sts_nil) (fun _ _ _ _ _ => se_add (se_var (i := 4)) (se_var (i := 8))))))))
theorem sc__law_spots : FnScope ["_law_text_here", "_law_rows", "_law_found", "_law_row", "_law_k"] ["_law_text_here", "_law_rows"] (defScope (top 43)) := ⟨rfl, rfl, rfl, by decide +kernel, rfl, by decide +kernel, by decide +kernel⟩
theorem ok__law_spots {f : Addr} {fd : FuncData} (T : Tx mg) (D : Df K mg "_law_spots" (top 43) ["_law_text_here", "_law_rows"] [] f fd) {f__law_places : Addr} {fd__law_places : FuncData} (D__law_places : Df K mg "_law_places" (top 42) ["_law_text_here", "_law_rows", "_law_row"] [] f__law_places fd__law_places) (G__law_places : FnOk P w K mg base CX0 2 f__law_places fd__law_places ["_law_text_here", "_law_rows", "_law_row"] (spM K m__law_places 3)) : FnOk P w K mg base CX0 3 f fd ["_law_text_here", "_law_rows"] (spM K m__law_spots 2) :=
  fn_ok D.F sc__law_spots rfl fun cdv A outer s H E hr => by
    exact sss_cons (ss_set (i := 2) sc__law_spots.nd (se_lst (sa_nil))) (sss_cons (ss_for PassesOwn.never rfl (si_rng1 T.f_range (sa_cons (se_len T.f_len (sa_cons (se_var (i := 1)) (sa_nil))) (sa_nil))) (sg_nm (i := 3) sc__law_spots.nd) (sss_one (ss_set (i := 2) sc__law_spots.nd (se_add (se_var (i := 2)) (se_lc (own := [("_law_k", 4)]) rfl sc__law_spots.nd (si_rng1 T.f_range (sa_cons (se_len T.f_len (sa_cons (se_call G__law_places (hr.mono (by decide)) D__law_places.gm D__law_places.F.kp D__law_places.bd (sa_cons (se_var (i := 0)) (sa_cons (se_var (i := 1)) (sa_cons (se_var (i := 3)) (sa_nil))))) (sa_nil))) (sa_nil))) (blkOk_by (by kernel_rfl)) (fun _ _ _ _ _ => sg_nm (i := 4) sc__law_spots.nd) (fun _ _ _ _ _ => sts_nil) (fun _ _ _ _ _ => se_tup (sa_cons (se_var (i := 3)) (sa_cons (se_var (i := 4)) (sa_nil))))))))) (sss_one (ss_ret (se_var (i := 2)))))
theorem sc_check_within : FnScope ["value", "least", "most"] ["value", "least", "most"] (defScope (top 16)) := ⟨rfl, rfl, rfl, by decide +kernel, rfl, by decide +kernel, by decide +kernel⟩
theorem ok_check_within {f : Addr} {fd : FuncData} (T : Tx mg) (D : Df K mg "check_within" (top 16) ["value", "least", "most"] [] f fd) {f_is_whole : Addr} {fd_is_whole : FuncData} (D_is_whole : Df K mg "is_whole" (top 8) ["value"] [] f_is_whole fd_is_whole) (G_is_whole : FnOk P w K mg base CX0 1 f_is_whole fd_is_whole ["value"] (spM K m_is_whole 1)) : FnOk P w K mg base CX0 2 f fd ["value", "least", "most"] (spM K m_check_within 3) :=
  fn_ok D.F sc_check_within rfl fun cdv A outer s H E hr => by
    exact sss_one (ss_if (PW.pt (sw_or (st_not (st_val (se_call G_is_whole (hr.mono (by decide)) D_is_whole.gm D_is_whole.F.kp D_is_whole.bd (sa_cons (se_var (i := 0)) (sa_nil))))) (sw_or1 (st_not (st_chain .le .le hr (se_var (i := 1)) (se_var (i := 0)) (se_var (i := 2))))))) (sss_one (ss_never)) (sss_nil))
theorem sc_begins : FnScope ["text", "found", "line"] ["text"] (defScope (top 26)) := ⟨rfl, rfl, rfl, by decide +kernel, rfl, by decide +kernel, by decide +kernel⟩
theorem ok_begins {f : Addr} {fd : FuncData} (T : Tx mg) (D : Df K mg "begins" (top 26) ["text"] [] f fd) : FnOk P w K mg base CX0 1 f fd ["text"] (spM K m_begins 1) :=
  fn_ok D.F sc_begins rfl fun cdv A outer s H E hr => by
    exact sss_cons (ss_set (i := 1) sc_begins.nd (se_lst (sa_cons (se_int) (sa_nil)))) (sss_cons (ss_for PassesOwn.never rfl (si_any (se_sl (se_split (se_var (i := 0)) (sa_cons (se_str) (sa_nil))) (so_none) (so_some (se_neg (se_int))))) (sg_nm (i := 2) sc_begins.nd) (sss_one (ss_expr (se_append (se_var (i := 1)) (sa_cons (se_add (se_add (se_ix (se_var (i := 1)) (se_neg (se_int))) (se_len T.f_len (sa_cons (se_var (i := 2)) (sa_nil)))) (se_int)) (sa_nil)))))) (sss_one (ss_ret (se_var (i := 1)))))
theorem sc_seen_at : FnScope ["text", "width", "place", "starts", "line", "offset", "rows", "row", "start", "k", "own", "piece"] ["text", "width", "place"] (defScope (top 27)) := ⟨rfl, rfl, rfl, by decide +kernel, rfl, by decide +kernel, by decide +kernel⟩
theorem ok_seen_at {f : Addr} {fd : FuncData} (T : Tx mg) (D : Df K mg "seen_at" (top 27) ["text", "width", "place"] [] f fd) {f_begins : Addr} {fd_begins : FuncData} (D_begins : Df K mg "begins" (top 26) ["text"] [] f_begins fd_begins) (G_begins : FnOk P w K mg base CX0 1 f_begins fd_begins ["text"] (spM K m_begins 1)) {f_rows_of : Addr} {fd_rows_of : FuncData} (D_rows_of : Df K mg "rows_of" (top 24) ["text", "width", "folds"] [] f_rows_of fd_rows_of) (G_rows_of : FnOk P w K mg base CX0 3 f_rows_of fd_rows_of ["text", "width", "folds"] (spM K m_rows_of 3)) : FnOk P w K mg base CX0 4 f fd ["text", "width", "place"] (spM K m_seen_at 3) :=
  fn_ok D.F sc_seen_at rfl fun cdv A outer s H E hr => by
    exact sss_cons (ss_set (i := 3) sc_seen_at.nd (se_call G_begins (hr.mono (by decide)) D_begins.gm D_begins.F.kp D_begins.bd (sa_cons (se_var (i := 0)) (sa_nil)))) (sss_cons (ss_set (i := 4) sc_seen_at.nd (se_sub (se_len T.f_len (sa_cons (se_lc (own := [("start", 8)]) rfl sc_seen_at.nd (si_any (se_var (i := 3))) (blkOk_by (by kernel_rfl)) (fun _ _ _ _ _ => sg_nm (i := 8) sc_seen_at.nd) (fun _ _ _ _ _ => sts_one (st_cp .le hr (se_var (i := 8)) (se_var (i := 2)))) (fun _ _ _ _ _ => se_var (i := 8))) (sa_nil))) (se_int))) (sss_cons (ss_set (i := 5) sc_seen_at.nd (se_sub (se_var (i := 2)) (se_ix (se_var (i := 3)) (se_var (i := 4))))) (sss_cons (ss_set (i := 6) sc_seen_at.nd (se_call G_rows_of (hr.mono (by decide)) D_rows_of.gm D_rows_of.F.kp D_rows_of.bd (sa_cons (se_var (i := 0)) (sa_cons (se_var (i := 1)) (sa_cons (se_lst (sa_nil)) (sa_nil)))))) (sss_cons (ss_set (i := 7) sc_seen_at.nd (se_ix (se_lc (own := [("k", 9), ("own", 10), ("start", 8), ("piece", 11)]) rfl sc_seen_at.nd (si_enum T.f_enumerate (sa_cons (se_var (i := 6)) (sa_nil))) (blkOk_by (by kernel_rfl)) (fun _ _ _ _ _ => sg_tp rfl (sgs_cons (sg_nm (i := 9) sc_seen_at.nd) (sgs_cons (sg_tp rfl (sgs_cons (sg_nm (i := 10) sc_seen_at.nd) (sgs_cons (sg_nm (i := 8) sc_seen_at.nd) (sgs_cons (sg_nm (i := 11) sc_seen_at.nd) (sgs_nil))))) (sgs_nil)))) (fun _ _ _ _ _ => sts_one (PW.pt (sw_and (st_cp .eq hr (se_var (i := 10)) (se_var (i := 4))) (sw_and1 (st_cp .le hr (se_var (i := 8)) (se_var (i := 5))))))) (fun _ _ _ _ _ => se_var (i := 9))) (se_neg (se_int)))) (sss_one (ss_ret (se_tup (sa_cons (se_var (i := 7)) (sa_cons (se_sub (se_var (i := 5)) (se_ix (se_ix (se_var (i := 6)) (se_var (i := 7))) (se_int))) (sa_nil))))))))))
theorem sc_spot : FnScope ["text", "width", "place"] ["text", "width", "place"] (defScope (top 28)) := ⟨rfl, rfl, rfl, by decide +kernel, rfl, by decide +kernel, by decide +kernel⟩
theorem ok_spot {f : Addr} {fd : FuncData} (T : Tx mg) (D : Df K mg "spot" (top 28) ["text", "width", "place"] [] f fd) {f_check_text : Addr} {fd_check_text : FuncData} (D_check_text : Df K mg "check_text" (top 20) ["value"] [] f_check_text fd_check_text) (G_check_text : FnOk P w K mg base CX0 2 f_check_text fd_check_text ["value"] (spM K m_check_text 1)) {f_check_least : Addr} {fd_check_least : FuncData} (D_check_least : Df K mg "check_least" (top 15) ["value", "least"] [] f_check_least fd_check_least) (G_check_least : FnOk P w K mg base CX0 2 f_check_least fd_check_least ["value", "least"] (spM K m_check_least 2)) {f_check_within : Addr} {fd_check_within : FuncData} (D_check_within : Df K mg "check_within" (top 16) ["value", "least", "most"] [] f_check_within fd_check_within) (G_check_within : FnOk P w K mg base CX0 2 f_check_within fd_check_within ["value", "least", "most"] (spM K m_check_within 3)) {f_seen_at : Addr} {fd_seen_at : FuncData} (D_seen_at : Df K mg "seen_at" (top 27) ["text", "width", "place"] [] f_seen_at fd_seen_at) (G_seen_at : FnOk P w K mg base CX0 4 f_seen_at fd_seen_at ["text", "width", "place"] (spM K m_seen_at 3)) : FnOk P w K mg base CX0 5 f fd ["text", "width", "place"] (spM K m_spot 3) :=
  fn_ok D.F sc_spot rfl fun cdv A outer s H E hr => by
    exact sss_cons (ss_expr (se_call G_check_text (hr.mono (by decide)) D_check_text.gm D_check_text.F.kp D_check_text.bd (sa_cons (se_var (i := 0)) (sa_nil)))) (sss_cons (ss_expr (se_call G_check_least (hr.mono (by decide)) D_check_least.gm D_check_least.F.kp D_check_least.bd (sa_cons (se_var (i := 1)) (sa_cons (se_int) (sa_nil))))) (sss_cons (ss_expr (se_call G_check_within (hr.mono (by decide)) D_check_within.gm D_check_within.F.kp D_check_within.bd (sa_cons (se_var (i := 2)) (sa_cons (se_int) (sa_cons (se_len T.f_len (sa_cons (se_var (i := 0)) (sa_nil))) (sa_nil)))))) (sss_one (ss_ret (se_call G_seen_at (hr.mono (by decide)) D_seen_at.gm D_seen_at.F.kp D_seen_at.bd (sa_cons (se_var (i := 0)) (sa_cons (se_var (i := 1)) (sa_cons (se_var (i := 2)) (sa_nil)))))))))
theorem sc_place_in : FnScope ["text", "width", "row", "column", "rows", "last", "most", "line", "start", "piece"] ["text", "width", "row", "column"] (defScope (top 29)) := ⟨rfl, rfl, rfl, by decide +kernel, rfl, by decide +kernel, by decide +kernel⟩
theorem ok_place_in {f : Addr} {fd : FuncData} (T : Tx mg) (D : Df K mg "place_in" (top 29) ["text", "width", "row", "column"] [] f fd) {f_rows_of : Addr} {fd_rows_of : FuncData} (D_rows_of : Df K mg "rows_of" (top 24) ["text", "width", "folds"] [] f_rows_of fd_rows_of) (G_rows_of : FnOk P w K mg base CX0 3 f_rows_of fd_rows_of ["text", "width", "folds"] (spM K m_rows_of 3)) {f_begins : Addr} {fd_begins : FuncData} (D_begins : Df K mg "begins" (top 26) ["text"] [] f_begins fd_begins) (G_begins : FnOk P w K mg base CX0 1 f_begins fd_begins ["text"] (spM K m_begins 1)) : FnOk P w K mg base CX0 4 f fd ["text", "width", "row", "column"] (spM K m_place_in 4) :=
  fn_ok D.F sc_place_in rfl fun cdv A outer s H E hr => by
    exact sss_cons (ss_set (i := 4) sc_place_in.nd (se_call G_rows_of (hr.mono (by decide)) D_rows_of.gm D_rows_of.F.kp D_rows_of.bd (sa_cons (se_var (i := 0)) (sa_cons (se_var (i := 1)) (sa_cons (se_lst (sa_nil)) (sa_nil)))))) (sss_cons (ss_asg (se_ix (se_var (i := 4)) (se_var (i := 2))) (sg_tp rfl (sgs_cons (sg_nm (i := 7) sc_place_in.nd) (sgs_cons (sg_nm (i := 8) sc_place_in.nd) (sgs_cons (sg_nm (i := 9) sc_place_in.nd) (sgs_nil)))))) (sss_cons (ss_set (i := 5) sc_place_in.nd (se_or (se_cp .eq hr (se_add (se_var (i := 2)) (se_int)) (se_len T.f_len (sa_cons (se_var (i := 4)) (sa_nil)))) (se_one (se_cp .ne hr (se_ix (se_ix (se_var (i := 4)) (se_add (se_var (i := 2)) (se_int))) (se_int)) (se_var (i := 7)))))) (sss_cons (ss_set (i := 6) sc_place_in.nd (se_if (st_val (se_var (i := 5))) (se_len T.f_len (sa_cons (se_var (i := 9)) (sa_nil))) (se_sub (se_len T.f_len (sa_cons (se_var (i := 9)) (sa_nil))) (se_int)))) (sss_one (ss_ret (se_add (se_add (se_ix (se_call G_begins (hr.mono (by decide)) D_begins.gm D_begins.F.kp D_begins.bd (sa_cons (se_var (i := 0)) (sa_nil))) (se_var (i := 7))) (se_var (i := 8))) (se_min2 rfl T.f_min (sa_cons (se_var (i := 3)) (sa_cons (se_var (i := 6)) (sa_nil))))))))))
theorem sc_place_at : FnScope ["text", "width", "row", "column"] ["text", "width", "row", "column"] (defScope (top 30)) := ⟨rfl, rfl, rfl, by decide +kernel, rfl, by decide +kernel, by decide +kernel⟩
theorem ok_place_at {f : Addr} {fd : FuncData} (T : Tx mg) (D : Df K mg "place_at" (top 30) ["text", "width", "row", "column"] [] f fd) {f_check_text : Addr} {fd_check_text : FuncData} (D_check_text : Df K mg "check_text" (top 20) ["value"] [] f_check_text fd_check_text) (G_check_text : FnOk P w K mg base CX0 2 f_check_text fd_check_text ["value"] (spM K m_check_text 1)) {f_check_least : Addr} {fd_check_least : FuncData} (D_check_least : Df K mg "check_least" (top 15) ["value", "least"] [] f_check_least fd_check_least) (G_check_least : FnOk P w K mg base CX0 2 f_check_least fd_check_least ["value", "least"] (spM K m_check_least 2)) {f_check_within : Addr} {fd_check_within : FuncData} (D_check_within : Df K mg "check_within" (top 16) ["value", "least", "most"] [] f_check_within fd_check_within) (G_check_within : FnOk P w K mg base CX0 2 f_check_within fd_check_within ["value", "least", "most"] (spM K m_check_within 3)) {f_rows_of : Addr} {fd_rows_of : FuncData} (D_rows_of : Df K mg "rows_of" (top 24) ["text", "width", "folds"] [] f_rows_of fd_rows_of) (G_rows_of : FnOk P w K mg base CX0 3 f_rows_of fd_rows_of ["text", "width", "folds"] (spM K m_rows_of 3)) {f_place_in : Addr} {fd_place_in : FuncData} (D_place_in : Df K mg "place_in" (top 29) ["text", "width", "row", "column"] [] f_place_in fd_place_in) (G_place_in : FnOk P w K mg base CX0 4 f_place_in fd_place_in ["text", "width", "row", "column"] (spM K m_place_in 4)) : FnOk P w K mg base CX0 5 f fd ["text", "width", "row", "column"] (spM K m_place_at 4) :=
  fn_ok D.F sc_place_at rfl fun cdv A outer s H E hr => by
    exact sss_cons (ss_expr (se_call G_check_text (hr.mono (by decide)) D_check_text.gm D_check_text.F.kp D_check_text.bd (sa_cons (se_var (i := 0)) (sa_nil)))) (sss_cons (ss_expr (se_call G_check_least (hr.mono (by decide)) D_check_least.gm D_check_least.F.kp D_check_least.bd (sa_cons (se_var (i := 1)) (sa_cons (se_int) (sa_nil))))) (sss_cons (ss_expr (se_call G_check_within (hr.mono (by decide)) D_check_within.gm D_check_within.F.kp D_check_within.bd (sa_cons (se_var (i := 2)) (sa_cons (se_int) (sa_cons (se_sub (se_len T.f_len (sa_cons (se_call G_rows_of (hr.mono (by decide)) D_rows_of.gm D_rows_of.F.kp D_rows_of.bd (sa_cons (se_var (i := 0)) (sa_cons (se_var (i := 1)) (sa_cons (se_lst (sa_nil)) (sa_nil))))) (sa_nil))) (se_int)) (sa_nil)))))) (sss_cons (ss_expr (se_call G_check_least (hr.mono (by decide)) D_check_least.gm D_check_least.F.kp D_check_least.bd (sa_cons (se_var (i := 3)) (sa_cons (se_int) (sa_nil))))) (sss_one (ss_ret (se_call G_place_in (hr.mono (by decide)) D_place_in.gm D_place_in.F.kp D_place_in.bd (sa_cons (se_var (i := 0)) (sa_cons (se_var (i := 1)) (sa_cons (se_var (i := 2)) (sa_cons (se_var (i := 3)) (sa_nil)))))))))))
theorem sc__law_places_right : FnScope ["_law_text_here", "_law_width", "_law_rows", "_law_spots_here", "_law_place", "_law_row", "_law_places_here", "_law_column"] ["_law_text_here", "_law_width", "_law_rows"] (defScope (top 45)) := ⟨rfl, rfl, rfl, by decide +kernel, rfl, by decide +kernel, by decide +kernel⟩
theorem ok__law_places_right {f : Addr} {fd : FuncData} (T : Tx mg) (D : Df K mg "_law_places_right" (top 45) ["_law_text_here", "_law_width", "_law_rows"] [] f fd) {f__law_spots : Addr} {fd__law_spots : FuncData} (D__law_spots : Df K mg "_law_spots" (top 43) ["_law_text_here", "_law_rows"] [] f__law_spots fd__law_spots) (G__law_spots : FnOk P w K mg base CX0 3 f__law_spots fd__law_spots ["_law_text_here", "_law_rows"] (spM K m__law_spots 2)) {f_spot : Addr} {fd_spot : FuncData} (D_spot : Df K mg "spot" (top 28) ["text", "width", "place"] [] f_spot fd_spot) (G_spot : FnOk P w K mg base CX0 5 f_spot fd_spot ["text", "width", "place"] (spM K m_spot 3)) {f_place_at : Addr} {fd_place_at : FuncData} (D_place_at : Df K mg "place_at" (top 30) ["text", "width", "row", "column"] [] f_place_at fd_place_at) (G_place_at : FnOk P w K mg base CX0 5 f_place_at fd_place_at ["text", "width", "row", "column"] (spM K m_place_at 4)) {f__law_places : Addr} {fd__law_places : FuncData} (D__law_places : Df K mg "_law_places" (top 42) ["_law_text_here", "_law_rows", "_law_row"] [] f__law_places fd__law_places) (G__law_places : FnOk P w K mg base CX0 2 f__law_places fd__law_places ["_law_text_here", "_law_rows", "_law_row"] (spM K m__law_places 3)) : FnOk P w K mg base CX0 6 f fd ["_law_text_here", "_law_width", "_law_rows"] (spM K m__law_places_right 3) :=
  fn_ok D.F sc__law_places_right rfl fun cdv A outer s H E hr => by
    exact sss_cons (ss_set (i := 3) sc__law_places_right.nd (se_call G__law_spots (hr.mono (by decide)) D__law_spots.gm D__law_spots.F.kp D__law_spots.bd (sa_cons (se_var (i := 0)) (sa_cons (se_var (i := 2)) (sa_nil))))) (sss_cons (ss_for PassesOwn.never rfl (si_rng1 T.f_range (sa_cons (se_add (se_len T.f_len (sa_cons (se_var (i := 0)) (sa_nil))) (se_int)) (sa_nil))) (sg_nm (i := 4) sc__law_places_right.nd) (sss_cons (ss_asg (se_ix (se_var (i := 3)) (se_var (i := 4))) (sg_tp rfl (sgs_cons (sg_nm (i := 5) sc__law_places_right.nd) (sgs_cons (sg_nm (i := 7) sc__law_places_right.nd) (sgs_nil))))) (sss_one (ss_if (PW.pt (sw_or (st_cp .ne hr (se_call G_spot (hr.mono (by decide)) D_spot.gm D_spot.F.kp D_spot.bd (sa_cons (se_var (i := 0)) (sa_cons (se_var (i := 1)) (sa_cons (se_var (i := 4)) (sa_nil))))) (se_tup (sa_cons (se_var (i := 5)) (sa_cons (se_var (i := 7)) (sa_nil))))) (sw_or1 (st_cp .ne hr (se_call G_place_at (hr.mono (by decide)) D_place_at.gm D_place_at.F.kp D_place_at.bd (sa_cons (se_var (i := 0)) (sa_cons (se_var (i := 1)) (sa_cons (se_var (i := 5)) (sa_cons (se_var (i := 7)) (sa_nil)))))) (se_var (i := 4)))))) (sss_one (ss_ret (se_bl))) (sss_nil))))) (sss_cons (ss_set (i := 5) sc__law_places_right.nd (se_div (se_len T.f_len (sa_cons (se_var (i := 2)) (sa_nil))) (se_int))) (sss_cons (ss_set (i := 6) sc__law_places_right.nd (se_call G__law_places (hr.mono (by decide)) D__law_places.gm D__law_places.F.kp D__law_places.bd (sa_cons (se_var (i := 0)) (sa_cons (se_var (i := 2)) (sa_cons (se_var (i := 5)) (sa_nil)))))) (sss_cons (ss_for PassesOwn.never rfl (si_any (se_lst (sa_cons (se_int) (sa_cons (se_sub (se_len T.f_len (sa_cons (se_var (i := 6)) (sa_nil))) (se_int)) (sa_cons (se_len T.f_len (sa_cons (se_var (i := 6)) (sa_nil))) (sa_cons (se_add (se_var (i := 1)) (se_int)) (sa_cons (se_pow (se_int) (se_int)) (sa_nil)))))))) (sg_nm (i := 7) sc__law_places_right.nd) (sss_one (ss_if (st_cp .ne hr (se_call G_place_at (hr.mono (by decide)) D_place_at.gm D_place_at.F.kp D_place_at.bd (sa_cons (se_var (i := 0)) (sa_cons (se_var (i := 1)) (sa_cons (se_var (i := 5)) (sa_cons (se_var (i := 7)) (sa_nil)))))) (se_ix (se_var (i := 6)) (se_min2 rfl T.f_min (sa_cons (se_var (i := 7)) (sa_cons (se_sub (se_len T.f_len (sa_cons (se_var (i := 6)) (sa_nil))) (se_int)) (sa_nil)))))) (sss_one (ss_ret (se_bl))) (sss_nil)))) (sss_one (ss_ret (se_cp .eq hr (se_len T.f_len (sa_cons (se_var (i := 3)) (sa_nil))) (se_add (se_len T.f_len (sa_cons (se_var (i := 0)) (sa_nil))) (se_int)))))))))
theorem sc_stepped : FnScope ["text", "width", "place", "rows", "column", "row", "last"] ["text", "width", "place", "rows", "column"] (defScope (top 31)) := ⟨rfl, rfl, rfl, by decide +kernel, rfl, by decide +kernel, by decide +kernel⟩
theorem ok_stepped {f : Addr} {fd : FuncData} (T : Tx mg) (D : Df K mg "stepped" (top 31) ["text", "width", "place", "rows", "column"] [] f fd) {f_check_text : Addr} {fd_check_text : FuncData} (D_check_text : Df K mg "check_text" (top 20) ["value"] [] f_check_text fd_check_text) (G_check_text : FnOk P w K mg base CX0 2 f_check_text fd_check_text ["value"] (spM K m_check_text 1)) {f_check_least : Addr} {fd_check_least : FuncData} (D_check_least : Df K mg "check_least" (top 15) ["value", "least"] [] f_check_least fd_check_least) (G_check_least : FnOk P w K mg base CX0 2 f_check_least fd_check_least ["value", "least"] (spM K m_check_least 2)) {f_check_within : Addr} {fd_check_within : FuncData} (D_check_within : Df K mg "check_within" (top 16) ["value", "least", "most"] [] f_check_within fd_check_within) (G_check_within : FnOk P w K mg base CX0 2 f_check_within fd_check_within ["value", "least", "most"] (spM K m_check_within 3)) {f_is_whole : Addr} {fd_is_whole : FuncData} (D_is_whole : Df K mg "is_whole" (top 8) ["value"] [] f_is_whole fd_is_whole) (G_is_whole : FnOk P w K mg base CX0 1 f_is_whole fd_is_whole ["value"] (spM K m_is_whole 1)) {f_seen_at : Addr} {fd_seen_at : FuncData} (D_seen_at : Df K mg "seen_at" (top 27) ["text", "width", "place"] [] f_seen_at fd_seen_at) (G_seen_at : FnOk P w K mg base CX0 4 f_seen_at fd_seen_at ["text", "width", "place"] (spM K m_seen_at 3)) {f_rows_of : Addr} {fd_rows_of : FuncData} (D_rows_of : Df K mg "rows_of" (top 24) ["text", "width", "folds"] [] f_rows_of fd_rows_of) (G_rows_of : FnOk P w K mg base CX0 3 f_rows_of fd_rows_of ["text", "width", "folds"] (spM K m_rows_of 3)) {f_place_in : Addr} {fd_place_in : FuncData} (D_place_in : Df K mg "place_in" (top 29) ["text", "width", "row", "column"] [] f_place_in fd_place_in) (G_place_in : FnOk P w K mg base CX0 4 f_place_in fd_place_in ["text", "width", "row", "column"] (spM K m_place_in 4)) : FnOk P w K mg base CX0 5 f fd ["text", "width", "place", "rows", "column"] (spM K m_stepped 5) :=
  fn_ok D.F sc_stepped rfl fun cdv A outer s H E hr => by
    exact sss_cons (ss_expr (se_call G_check_text (hr.mono (by decide)) D_check_text.gm D_check_text.F.kp D_check_text.bd (sa_cons (se_var (i := 0)) (sa_nil)))) (sss_cons (ss_expr (se_call G_check_least (hr.mono (by decide)) D_check_least.gm D_check_least.F.kp D_check_least.bd (sa_cons (se_var (i := 1)) (sa_cons (se_int) (sa_nil))))) (sss_cons (ss_expr (se_call G_check_within (hr.mono (by decide)) D_check_within.gm D_check_within.F.kp D_check_within.bd (sa_cons (se_var (i := 2)) (sa_cons (se_int) (sa_cons (se_len T.f_len (sa_cons (se_var (i := 0)) (sa_nil))) (sa_nil)))))) (sss_cons (ss_if (st_not (st_val (se_call G_is_whole (hr.mono (by decide)) D_is_whole.gm D_is_whole.F.kp D_is_whole.bd (sa_cons (se_var (i := 3)) (sa_nil))))) (sss_one (ss_never)) (sss_nil)) (sss_cons (ss_expr (se_call G_check_least (hr.mono (by decide)) D_check_least.gm D_check_least.F.kp D_check_least.bd (sa_cons (se_var (i := 4)) (sa_cons (se_int) (sa_nil))))) (sss_cons (ss_set (i := 5) sc_stepped.nd (se_add (se_ix (se_call G_seen_at (hr.mono (by decide)) D_seen_at.gm D_seen_at.F.kp D_seen_at.bd (sa_cons (se_var (i := 0)) (sa_cons (se_var (i := 1)) (sa_cons (se_var (i := 2)) (sa_nil))))) (se_int)) (se_var (i := 3)))) (sss_cons (ss_set (i := 6) sc_stepped.nd (se_sub (se_len T.f_len (sa_cons (se_call G_rows_of (hr.mono (by decide)) D_rows_of.gm D_rows_of.F.kp D_rows_of.bd (sa_cons (se_var (i := 0)) (sa_cons (se_var (i := 1)) (sa_cons (se_lst (sa_nil)) (sa_nil))))) (sa_nil))) (se_int))) (sss_one (ss_ret (se_call G_place_in (hr.mono (by decide)) D_place_in.gm D_place_in.F.kp D_place_in.bd (sa_cons (se_var (i := 0)) (sa_cons (se_var (i := 1)) (sa_cons (se_min2 rfl T.f_min (sa_cons (se_max2 rfl T.f_max (sa_cons (se_var (i := 5)) (sa_cons (se_int) (sa_nil)))) (sa_cons (se_var (i := 6)) (sa_nil)))) (sa_cons (se_var (i := 4)) (sa_nil))))))))))))))
theorem sc__law_steps_right : FnScope ["_law_pump_here", "_law_text_here", "_law_width", "_law_rows", "_law_spots_here", "_law_turn", "_law_column", "_law_row", "_law_places_here", "_law_place", "_law_by"] ["_law_pump_here", "_law_text_here", "_law_width", "_law_rows"] (defScope (top 46)) := ⟨rfl, rfl, rfl, by decide +kernel, rfl, by decide +kernel, by decide +kernel⟩
theorem ok__law_steps_right {f : Addr} {fd : FuncData} (T : Tx mg) (D : Df K mg "_law_steps_right" (top 46) ["_law_pump_here", "_law_text_here", "_law_width", "_law_rows"] [] f fd) {f__law_spots : Addr} {fd__law_spots : FuncData} (D__law_spots : Df K mg "_law_spots" (top 43) ["_law_text_here", "_law_rows"] [] f__law_spots fd__law_spots) (G__law_spots : FnOk P w K mg base CX0 3 f__law_spots fd__law_spots ["_law_text_here", "_law_rows"] (spM K m__law_spots 2)) {f__law_cup : Addr} {fd__law_cup : FuncData} (D__law_cup : Df K mg "_law_cup" (top 34) ["_law_pump_here", "_law_many"] [] f__law_cup fd__law_cup) (G__law_cup : FnOk P w K mg base CX0 1 f__law_cup fd__law_cup ["_law_pump_here", "_law_many"] (spM K m__law_cup 2)) {f__law_places : Addr} {fd__law_places : FuncData} (D__law_places : Df K mg "_law_places" (top 42) ["_law_text_here", "_law_rows", "_law_row"] [] f__law_places fd__law_places) (G__law_places : FnOk P w K mg base CX0 2 f__law_places fd__law_places ["_law_text_here", "_law_rows", "_law_row"] (spM K m__law_places 3)) {f_stepped : Addr} {fd_stepped : FuncData} (D_stepped : Df K mg "stepped" (top 31) ["text", "width", "place", "rows", "column"] [] f_stepped fd_stepped) (G_stepped : FnOk P w K mg base CX0 5 f_stepped fd_stepped ["text", "width", "place", "rows", "column"] (spM K m_stepped 5)) : FnOk P w K mg base CX0 6 f fd ["_law_pump_here", "_law_text_here", "_law_width", "_law_rows"] (spM K m__law_steps_right 4) :=
  fn_ok D.F sc__law_steps_right rfl fun cdv A outer s H E hr => by
    exact sss_cons (ss_set (i := 4) sc__law_steps_right.nd (se_call G__law_spots (hr.mono (by decide)) D__law_spots.gm D__law_spots.F.kp D__law_spots.bd (sa_cons (se_var (i := 1)) (sa_cons (se_var (i := 3)) (sa_nil))))) (sss_cons (ss_for PassesOwn.never rfl (si_rng1 T.f_range (sa_cons (se_int) (sa_nil))) (sg_nm (i := 5) sc__law_steps_right.nd) (sss_cons (ss_par (i := 9) (j := 10) rfl sc__law_steps_right.nd (sa_cons (se_call G__law_cup (hr.mono (by decide)) D__law_cup.gm D__law_cup.F.kp D__law_cup.bd (sa_cons (se_var (i := 0)) (sa_cons (se_add (se_len T.f_len (sa_cons (se_var (i := 1)) (sa_nil))) (se_int)) (sa_nil)))) (sa_cons (se_ix (se_lst (sa_cons (se_sub (se_call G__law_cup (hr.mono (by decide)) D__law_cup.gm D__law_cup.F.kp D__law_cup.bd (sa_cons (se_var (i := 0)) (sa_cons (se_int) (sa_nil)))) (se_int)) (sa_cons (se_pow (se_int) (se_int)) (sa_cons (se_sub (se_int) (se_pow (se_int) (se_int))) (sa_nil))))) (se_mod (se_call G__law_cup (hr.mono (by decide)) D__law_cup.gm D__law_cup.F.kp D__law_cup.bd (sa_cons (se_var (i := 0)) (sa_cons (se_int) (sa_nil)))) (se_int))) (sa_nil)))) (sss_cons (ss_set (i := 6) sc__law_steps_right.nd (se_ix (se_lst (sa_cons (se_call G__law_cup (hr.mono (by decide)) D__law_cup.gm D__law_cup.F.kp D__law_cup.bd (sa_cons (se_var (i := 0)) (sa_cons (se_add (se_min2 rfl T.f_min (sa_cons (se_var (i := 2)) (sa_cons (se_int) (sa_nil)))) (se_int)) (sa_nil)))) (sa_cons (se_ix (se_ix (se_var (i := 4)) (se_var (i := 9))) (se_int)) (sa_nil)))) (se_call G__law_cup (hr.mono (by decide)) D__law_cup.gm D__law_cup.F.kp D__law_cup.bd (sa_cons (se_var (i := 0)) (sa_cons (se_int) (sa_nil)))))) (sss_cons (ss_set (i := 7) sc__law_steps_right.nd (se_min2 rfl T.f_min (sa_cons (se_max2 rfl T.f_max (sa_cons (se_add (se_ix (se_ix (se_var (i := 4)) (se_var (i := 9))) (se_int)) (se_var (i := 10))) (sa_cons (se_int) (sa_nil)))) (sa_cons (se_sub (se_len T.f_len (sa_cons (se_var (i := 3)) (sa_nil))) (se_int)) (sa_nil))))) (sss_cons (ss_set (i := 8) sc__law_steps_right.nd (se_call G__law_places (hr.mono (by decide)) D__law_places.gm D__law_places.F.kp D__law_places.bd (sa_cons (se_var (i := 1)) (sa_cons (se_var (i := 3)) (sa_cons (se_var (i := 7)) (sa_nil)))))) (sss_one (ss_if (st_cp .ne hr (se_call G_stepped (hr.mono (by decide)) D_stepped.gm D_stepped.F.kp D_stepped.bd (sa_cons (se_var (i := 1)) (sa_cons (se_var (i := 2)) (sa_cons (se_var (i := 9)) (sa_cons (se_var (i := 10)) (sa_cons (se_var (i := 6)) (sa_nil))))))) (se_ix (se_var (i := 8)) (se_min2 rfl T.f_min (sa_cons (se_var (i := 6)) (sa_cons (se_sub (se_len T.f_len (sa_cons (se_var (i := 8)) (sa_nil))) (se_int)) (sa_nil)))))) (sss_one (ss_ret (se_bl))) (sss_nil)))))))) (sss_one (ss_ret (se_bl))))
theorem sc_law : FnScope ["_law_script", "_law_pump_here", "_law_text_here", "_law_width", "_law_rows"] ["_law_script"] (defScope (top 47)) := ⟨rfl, rfl, rfl, by decide +kernel, rfl, by decide +kernel, by decide +kernel⟩
theorem ok_law {f : Addr} {fd : FuncData} (T : Tx mg) (D : Df K mg "law" (top 47) ["_law_script"] [] f fd) {f__law_pump : Addr} {fd__law_pump : FuncData} (D__law_pump : Df K mg "_law_pump" (top 33) ["_law_script", "_law_at"] [] f__law_pump fd__law_pump) (G__law_pump : FnOk P w K mg base CX0 1 f__law_pump fd__law_pump ["_law_script", "_law_at"] (spM K m__law_pump 2)) {f__law_text : Addr} {fd__law_text : FuncData} (D__law_text : Df K mg "_law_text" (top 37) ["_law_pump_here", "_law_lines", "_law_most"] [] f__law_text fd__law_text) (G__law_text : FnOk P w K mg base CX0 3 f__law_text fd__law_text ["_law_pump_here", "_law_lines", "_law_most"] (spM K m__law_text 3)) {f__law_cup : Addr} {fd__law_cup : FuncData} (D__law_cup : Df K mg "_law_cup" (top 34) ["_law_pump_here", "_law_many"] [] f__law_cup fd__law_cup) (G__law_cup : FnOk P w K mg base CX0 1 f__law_cup fd__law_cup ["_law_pump_here", "_law_many"] (spM K m__law_cup 2)) {f__law_screen : Addr} {fd__law_screen : FuncData} (D__law_screen : Df K mg "_law_screen" (top 40) ["_law_text_here", "_law_width"] [] f__law_screen fd__law_screen) (G__law_screen : FnOk P w K mg base CX0 3 f__law_screen fd__law_screen ["_law_text_here", "_law_width"] (spM K m__law_screen 2)) {f__law_cut_right : Addr} {fd__law_cut_right : FuncData} (D__law_cut_right : Df K mg "_law_cut_right" (top 44) ["_law_text_here", "_law_width", "_law_rows"] [] f__law_cut_right fd__law_cut_right) (G__law_cut_right : FnOk P w K mg base CX0 5 f__law_cut_right fd__law_cut_right ["_law_text_here", "_law_width", "_law_rows"] (spM K m__law_cut_right 3)) {f__law_places_right : Addr} {fd__law_places_right : FuncData} (D__law_places_right : Df K mg "_law_places_right" (top 45) ["_law_text_here", "_law_width", "_law_rows"] [] f__law_places_right fd__law_places_right) (G__law_places_right : FnOk P w K mg base CX0 6 f__law_places_right fd__law_places_right ["_law_text_here", "_law_width", "_law_rows"] (spM K m__law_places_right 3)) {f__law_steps_right : Addr} {fd__law_steps_right : FuncData} (D__law_steps_right : Df K mg "_law_steps_right" (top 46) ["_law_pump_here", "_law_text_here", "_law_width", "_law_rows"] [] f__law_steps_right fd__law_steps_right) (G__law_steps_right : FnOk P w K mg base CX0 6 f__law_steps_right fd__law_steps_right ["_law_pump_here", "_law_text_here", "_law_width", "_law_rows"] (spM K m__law_steps_right 4)) {f_pieces : Addr} {fd_pieces : FuncData} (D_pieces : Df K mg "pieces" (top 19) ["line", "width"] [] f_pieces fd_pieces) (G_pieces : FnOk P w K mg base CX0 3 f_pieces fd_pieces ["line", "width"] (spM K m_pieces 2)) {f_spot : Addr} {fd_spot : FuncData} (D_spot : Df K mg "spot" (top 28) ["text", "width", "place"] [] f_spot fd_spot) (G_spot : FnOk P w K mg base CX0 5 f_spot fd_spot ["text", "width", "place"] (spM K m_spot 3)) {f_place_at : Addr} {fd_place_at : FuncData} (D_place_at : Df K mg "place_at" (top 30) ["text", "width", "row", "column"] [] f_place_at fd_place_at) (G_place_at : FnOk P w K mg base CX0 5 f_place_at fd_place_at ["text", "width", "row", "column"] (spM K m_place_at 4)) {f_stepped : Addr} {fd_stepped : FuncData} (D_stepped : Df K mg "stepped" (top 31) ["text", "width", "place", "rows", "column"] [] f_stepped fd_stepped) (G_stepped : FnOk P w K mg base CX0 5 f_stepped fd_stepped ["text", "width", "place", "rows", "column"] (spM K m_stepped 5)) : FnOk P w K mg base CX0 7 f fd ["_law_script"] (spM K m_law 1) :=
  fn_ok D.F sc_law rfl fun cdv A outer s H E hr => by
    exact sss_cons (ss_set (i := 1) sc_law.nd (se_call G__law_pump (hr.mono (by decide)) D__law_pump.gm D__law_pump.F.kp D__law_pump.bd (sa_cons (se_var (i := 0)) (sa_cons (se_int) (sa_nil))))) (sss_cons (ss_set (i := 2) sc_law.nd (se_call G__law_text (hr.mono (by decide)) D__law_text.gm D__law_text.F.kp D__law_text.bd (sa_cons (se_var (i := 1)) (sa_cons (se_int) (sa_cons (se_ix (se_lst (sa_cons (se_int) (sa_cons (se_int) (sa_cons (se_int) (sa_nil))))) (se_call G__law_cup (hr.mono (by decide)) D__law_cup.gm D__law_cup.F.kp D__law_cup.bd (sa_cons (se_var (i := 1)) (sa_cons (se_int) (sa_nil))))) (sa_nil)))))) (sss_cons (ss_for PassesOwn.never rfl (si_any (se_lst (sa_cons (se_add (se_int) (se_call G__law_cup (hr.mono (by decide)) D__law_cup.gm D__law_cup.F.kp D__law_cup.bd (sa_cons (se_var (i := 1)) (sa_cons (se_int) (sa_nil))))) (sa_cons (se_add (se_int) (se_call G__law_cup (hr.mono (by decide)) D__law_cup.gm D__law_cup.F.kp D__law_cup.bd (sa_cons (se_var (i := 1)) (sa_cons (se_int) (sa_nil))))) (sa_cons (se_pow (se_int) (se_int)) (sa_nil)))))) (sg_nm (i := 3) sc_law.nd) (sss_cons (ss_set (i := 4) sc_law.nd (se_call G__law_screen (hr.mono (by decide)) D__law_screen.gm D__law_screen.F.kp D__law_screen.bd (sa_cons (se_var (i := 2)) (sa_cons (se_var (i := 3)) (sa_nil))))) (sss_cons (ss_if (PW.pt (sw_or (st_not (st_val (se_call G__law_cut_right (hr.mono (by decide)) D__law_cut_right.gm D__law_cut_right.F.kp D__law_cut_right.bd (sa_cons (se_var (i := 2)) (sa_cons (se_var (i := 3)) (sa_cons (se_var (i := 4)) (sa_nil))))))) (sw_or1 (st_not (st_val (se_call G__law_places_right (hr.mono (by decide)) D__law_places_right.gm D__law_places_right.F.kp D__law_places_right.bd (sa_cons (se_var (i := 2)) (sa_cons (se_var (i := 3)) (sa_cons (se_var (i := 4)) (sa_nil)))))))))) (sss_one (ss_ret (se_bl))) (sss_nil)) (sss_one (ss_if (st_not (st_val (se_call G__law_steps_right (hr.mono (by decide)) D__law_steps_right.gm D__law_steps_right.F.kp D__law_steps_right.bd (sa_cons (se_var (i := 1)) (sa_cons (se_var (i := 2)) (sa_cons (se_var (i := 3)) (sa_cons (se_var (i := 4)) (sa_nil)))))))) (sss_one (ss_ret (se_bl))) (sss_nil)))))) (sss_cons (ss_if (PW.pt (sw_or (st_cp .ne hr (se_call G_pieces (hr.mono (by decide)) D_pieces.gm D_pieces.F.kp D_pieces.bd (sa_cons (se_str) (sa_cons (se_int) (sa_nil)))) (se_lst (sa_cons (se_str) (sa_cons (se_str) (sa_nil))))) (sw_or1 (st_cp .ne hr (se_call G_pieces (hr.mono (by decide)) D_pieces.gm D_pieces.F.kp D_pieces.bd (sa_cons (se_str) (sa_cons (se_int) (sa_nil)))) (se_lst (sa_cons (se_str) (sa_cons (se_str) (sa_nil)))))))) (sss_one (ss_ret (se_bl))) (sss_nil)) (sss_cons (ss_if (PW.pt (sw_or (st_cp .ne hr (se_call G_pieces (hr.mono (by decide)) D_pieces.gm D_pieces.F.kp D_pieces.bd (sa_cons (se_str) (sa_cons (se_int) (sa_nil)))) (se_lst (sa_cons (se_str) (sa_nil)))) (sw_or (st_cp .ne hr (se_call G_pieces (hr.mono (by decide)) D_pieces.gm D_pieces.F.kp D_pieces.bd (sa_cons (se_str) (sa_cons (se_int) (sa_nil)))) (se_lst (sa_cons (se_str) (sa_nil)))) (sw_or1 (st_cp .ne hr (se_call G_pieces (hr.mono (by decide)) D_pieces.gm D_pieces.F.kp D_pieces.bd (sa_cons (se_str) (sa_cons (se_int) (sa_nil)))) (se_lst (sa_cons (se_str) (sa_cons (se_str) (sa_cons (se_str) (sa_nil)))))))))) (sss_one (ss_ret (se_bl))) (sss_nil)) (sss_one (ss_ret (se_and (se_cp .eq hr (se_call G_spot (hr.mono (by decide)) D_spot.gm D_spot.F.kp D_spot.bd (sa_cons (se_str) (sa_cons (se_int) (sa_cons (se_int) (sa_nil))))) (se_tup (sa_cons (se_int) (sa_cons (se_int) (sa_nil))))) (se_and (se_cp .eq hr (se_call G_place_at (hr.mono (by decide)) D_place_at.gm D_place_at.F.kp D_place_at.bd (sa_cons (se_str) (sa_cons (se_int) (sa_cons (se_int) (sa_cons (se_int) (sa_nil)))))) (se_int)) (se_one (se_cp .eq hr (se_call G_stepped (hr.mono (by decide)) D_stepped.gm D_stepped.F.kp D_stepped.bd (sa_cons (se_str) (sa_cons (se_int) (sa_cons (se_int) (sa_cons (se_int) (sa_cons (se_int) (sa_nil))))))) (se_int)))))))))))
end
def d__law_pump : He.DefD := ⟨("_law_pump", none), "_law_pump", "_law_pump", defArgs (top 33), defBody (top 33), defScope (top 33), [], []⟩
def d__law_cup : He.DefD := ⟨("_law_cup", none), "_law_cup", "_law_cup", defArgs (top 34), defBody (top 34), defScope (top 34), [], []⟩
def d__law_line : He.DefD := ⟨("_law_line", none), "_law_line", "_law_line", defArgs (top 36), defBody (top 36), defScope (top 36), [], []⟩
def d__law_text : He.DefD := ⟨("_law_text", none), "_law_text", "_law_text", defArgs (top 37), defBody (top 37), defScope (top 37), [], []⟩
def d__law_borders : He.DefD := ⟨("_law_borders", none), "_law_borders", "_law_borders", defArgs (top 38), defBody (top 38), defScope (top 38), [], []⟩
def d__law_pieces : He.DefD := ⟨("_law_pieces", none), "_law_pieces", "_law_pieces", defArgs (top 39), defBody (top 39), defScope (top 39), [], []⟩
def d__law_screen : He.DefD := ⟨("_law_screen", none), "_law_screen", "_law_screen", defArgs (top 40), defBody (top 40), defScope (top 40), [], []⟩
def d_is_text : He.DefD := ⟨("is_text", none), "is_text", "is_text", defArgs (top 9), defBody (top 9), defScope (top 9), [], []⟩
def d_check_text : He.DefD := ⟨("check_text", none), "check_text", "check_text", defArgs (top 20), defBody (top 20), defScope (top 20), [], []⟩
def d_is_whole : He.DefD := ⟨("is_whole", none), "is_whole", "is_whole", defArgs (top 8), defBody (top 8), defScope (top 8), [], []⟩
def d_check_least : He.DefD := ⟨("check_least", none), "check_least", "check_least", defArgs (top 15), defBody (top 15), defScope (top 15), [], []⟩
def d_are_folds : He.DefD := ⟨("are_folds", none), "are_folds", "are_folds", defArgs (top 23), defBody (top 23), defScope (top 23), [], []⟩
def d_chunks : He.DefD := ⟨("chunks", none), "chunks", "chunks", defArgs (top 17), defBody (top 17), defScope (top 17), [], []⟩
def d_cut : He.DefD := ⟨("cut", none), "cut", "cut", defArgs (top 18), defBody (top 18), defScope (top 18), [], []⟩
def d_rows_of : He.DefD := ⟨("rows_of", none), "rows_of", "rows_of", defArgs (top 24), defBody (top 24), defScope (top 24), [], []⟩
def d_screen : He.DefD := ⟨("screen", none), "screen", "screen", defArgs (top 25), defBody (top 25), defScope (top 25), [.non], []⟩
def d_is_line : He.DefD := ⟨("is_line", none), "is_line", "is_line", defArgs (top 12), defBody (top 12), defScope (top 12), [], []⟩
def d_check_line : He.DefD := ⟨("check_line", none), "check_line", "check_line", defArgs (top 13), defBody (top 13), defScope (top 13), [], []⟩
def d_pieces : He.DefD := ⟨("pieces", none), "pieces", "pieces", defArgs (top 19), defBody (top 19), defScope (top 19), [], []⟩
def d__law_cut_right : He.DefD := ⟨("_law_cut_right", none), "_law_cut_right", "_law_cut_right", defArgs (top 44), defBody (top 44), defScope (top 44), [], []⟩
def d__law_starts : He.DefD := ⟨("_law_starts", none), "_law_starts", "_law_starts", defArgs (top 41), defBody (top 41), defScope (top 41), [], []⟩
def d__law_places : He.DefD := ⟨("_law_places", none), "_law_places", "_law_places", defArgs (top 42), defBody (top 42), defScope (top 42), [], []⟩
def d__law_spots : He.DefD := ⟨("_law_spots", none), "_law_spots", "_law_spots", defArgs (top 43), defBody (top 43), defScope (top 43), [], []⟩
def d_check_within : He.DefD := ⟨("check_within", none), "check_within", "check_within", defArgs (top 16), defBody (top 16), defScope (top 16), [], []⟩
def d_begins : He.DefD := ⟨("begins", none), "begins", "begins", defArgs (top 26), defBody (top 26), defScope (top 26), [], []⟩
def d_seen_at : He.DefD := ⟨("seen_at", none), "seen_at", "seen_at", defArgs (top 27), defBody (top 27), defScope (top 27), [], []⟩
def d_spot : He.DefD := ⟨("spot", none), "spot", "spot", defArgs (top 28), defBody (top 28), defScope (top 28), [], []⟩
def d_place_in : He.DefD := ⟨("place_in", none), "place_in", "place_in", defArgs (top 29), defBody (top 29), defScope (top 29), [], []⟩
def d_place_at : He.DefD := ⟨("place_at", none), "place_at", "place_at", defArgs (top 30), defBody (top 30), defScope (top 30), [], []⟩
def d__law_places_right : He.DefD := ⟨("_law_places_right", none), "_law_places_right", "_law_places_right", defArgs (top 45), defBody (top 45), defScope (top 45), [], []⟩
def d_stepped : He.DefD := ⟨("stepped", none), "stepped", "stepped", defArgs (top 31), defBody (top 31), defScope (top 31), [], []⟩
def d__law_steps_right : He.DefD := ⟨("_law_steps_right", none), "_law_steps_right", "_law_steps_right", defArgs (top 46), defBody (top 46), defScope (top 46), [], []⟩
def d_law : He.DefD := ⟨("law", none), "law", "law", defArgs (top 47), defBody (top 47), defScope (top 47), [], []⟩
def fn : List He.DefD := [d__law_pump, d__law_cup, d__law_line, d__law_text, d__law_borders, d__law_pieces, d__law_screen, d_is_text, d_check_text, d_is_whole, d_check_least, d_are_folds, d_chunks, d_cut, d_rows_of, d_screen, d_is_line, d_check_line, d_pieces, d__law_cut_right, d__law_starts, d__law_places, d__law_spots, d_check_within, d_begins, d_seen_at, d_spot, d_place_in, d_place_at, d__law_places_right, d_stepped, d__law_steps_right, d_law]
def fa : List He.Fa := [.glo "_law_pump", .glo "_law_cup", .glo "_law_line", .glo "_law_text", .glo "_law_borders", .glo "_law_pieces", .glo "_law_screen", .glo "is_text", .glo "check_text", .glo "is_whole", .glo "check_least", .glo "are_folds", .glo "chunks", .glo "cut", .glo "rows_of", .glo "screen", .glo "is_line", .glo "check_line", .glo "pieces", .glo "_law_cut_right", .glo "_law_starts", .glo "_law_places", .glo "_law_spots", .glo "check_within", .glo "begins", .glo "seen_at", .glo "spot", .glo "place_in", .glo "place_at", .glo "_law_places_right", .glo "stepped", .glo "_law_steps_right", .glo "law", .free "bool", .free "enumerate", .free "int", .free "isinstance", .free "len", .free "list", .free "max", .free "min", .free "range", .free "str", .free "tuple", .str "LETTERS" "abcdefghijklmnopqrstuvwxyz", .str "SIGNS" "abcdefghijklmnopqrstuvwxyz \n", .str "LINE_SIGNS" " abcdefghijklmnopqrstuvwxyz"]
abbrev R : PySem.W.OpenRow := PySem.W.OpenLaw.row PySem.Challenge.rw_everrow_k46_pieces_and_places
abbrev hk : PySem.W.Hook := He.hookD 4 fa fn
def ob (s : PySem.W.SharedT) : He.AlD := He.obsDG 4 fa fn (HandSHeadRun.getT s)
theorem ob_eq (s : PySem.W.SharedT) : ob s = hk.obs s.abs := He.obsDG_eq (HandSHeadRun.getT_eq s)
def loose_0 : List Str := ["RowError", "InvalidList", "InvalidNumber", "InvalidText", "LETTERS", "SIGNS", "is_whole", "is_text", "LINE_SIGNS", "is_line", "check_line", "check_least", "check_within", "chunks", "cut", "pieces", "check_text", "is_fold", "go_together", "are_folds", "rows_of", "screen", "begins", "seen_at", "spot"]
def loose_25 : List Str := ["place_in", "place_at", "stepped", "_law_pump", "_law_cup", "_law_one_of", "_law_line", "_law_text", "_law_borders", "_law_pieces", "_law_screen", "_law_starts", "_law_places", "_law_spots", "_law_cut_right", "_law_places_right", "_law_steps_right"]
def loose : List Str := loose_0 ++ loose_25
theorem run (w : World) : HandSHeadRun.RunEq R (PySem.W.view R.prog [47]) hk ob 3000 loose w := by
  intro os
  kernel_rfl
theorem facts {P : Program} {w : World} {K : PySem.W.Frag} {h : Heap} {mg : Str → Option Value} {f : Addr} (X : K.In h) (G : h.Ns mainGlobals mg) (hfa : mg ("law" : Str) = some (.ref f)) (c : He.SaysD fa fn K) :
    ∃ fd : FuncData, (∀ (s : Shared) (v : Value), BindsTo s fd ⟨[v], []⟩ [("_law_script", v)]) ∧ ∀ base : Heap, K.In base → base.Ns mainGlobals mg → FnOk P w K mg base CX0 7 f fd ["_law_script"] (spM K m_law 1) := by
  have T : Tx mg := ⟨He.free_ok X G (c.fact 33 (f := .free "bool") rfl), He.free_ok X G (c.fact 34 (f := .free "enumerate") rfl), He.free_ok X G (c.fact 35 (f := .free "int") rfl), He.free_ok X G (c.fact 36 (f := .free "isinstance") rfl), He.free_ok X G (c.fact 37 (f := .free "len") rfl), He.free_ok X G (c.fact 38 (f := .free "list") rfl), He.free_ok X G (c.fact 39 (f := .free "max") rfl), He.free_ok X G (c.fact 40 (f := .free "min") rfl), He.free_ok X G (c.fact 41 (f := .free "range") rfl), He.free_ok X G (c.fact 42 (f := .free "str") rfl), He.free_ok X G (c.fact 43 (f := .free "tuple") rfl), He.str_ok X G (c.fact 44 (f := .str "LETTERS" "abcdefghijklmnopqrstuvwxyz") rfl), He.str_ok X G (c.fact 45 (f := .str "SIGNS" "abcdefghijklmnopqrstuvwxyz \n") rfl), He.str_ok X G (c.fact 46 (f := .str "LINE_SIGNS" " abcdefghijklmnopqrstuvwxyz") rfl)⟩
  obtain ⟨fd__law_pump, F__law_pump⟩ := c.def_ 0 (d := d__law_pump) rfl
  have D__law_pump : Df K mg "_law_pump" (top 33) ["_law_script", "_law_at"] [] _ fd__law_pump := Df.mk0 F__law_pump (He.glo_ok X G (c.fact 0 (f := .glo "_law_pump") rfl)) fun _ _ _ _ _ _ us hl => match us, hl with | [_, _], _ => rfl
  obtain ⟨fd__law_cup, F__law_cup⟩ := c.def_ 1 (d := d__law_cup) rfl
  have D__law_cup : Df K mg "_law_cup" (top 34) ["_law_pump_here", "_law_many"] [] _ fd__law_cup := Df.mk0 F__law_cup (He.glo_ok X G (c.fact 1 (f := .glo "_law_cup") rfl)) fun _ _ _ _ _ _ us hl => match us, hl with | [_, _], _ => rfl
  obtain ⟨fd__law_line, F__law_line⟩ := c.def_ 2 (d := d__law_line) rfl
  have D__law_line : Df K mg "_law_line" (top 36) ["_law_pump_here", "_law_most"] [] _ fd__law_line := Df.mk0 F__law_line (He.glo_ok X G (c.fact 2 (f := .glo "_law_line") rfl)) fun _ _ _ _ _ _ us hl => match us, hl with | [_, _], _ => rfl
  obtain ⟨fd__law_text, F__law_text⟩ := c.def_ 3 (d := d__law_text) rfl
  have D__law_text : Df K mg "_law_text" (top 37) ["_law_pump_here", "_law_lines", "_law_most"] [] _ fd__law_text := Df.mk0 F__law_text (He.glo_ok X G (c.fact 3 (f := .glo "_law_text") rfl)) fun _ _ _ _ _ _ us hl => match us, hl with | [_, _, _], _ => rfl
  obtain ⟨fd__law_borders, F__law_borders⟩ := c.def_ 4 (d := d__law_borders) rfl
  have D__law_borders : Df K mg "_law_borders" (top 38) ["_law_line_here"] [] _ fd__law_borders := Df.mk0 F__law_borders (He.glo_ok X G (c.fact 4 (f := .glo "_law_borders") rfl)) fun _ _ _ _ _ _ us hl => match us, hl with | [_], _ => rfl
  obtain ⟨fd__law_pieces, F__law_pieces⟩ := c.def_ 5 (d := d__law_pieces) rfl
  have D__law_pieces : Df K mg "_law_pieces" (top 39) ["_law_line_here", "_law_width"] [] _ fd__law_pieces := Df.mk0 F__law_pieces (He.glo_ok X G (c.fact 5 (f := .glo "_law_pieces") rfl)) fun _ _ _ _ _ _ us hl => match us, hl with | [_, _], _ => rfl
  obtain ⟨fd__law_screen, F__law_screen⟩ := c.def_ 6 (d := d__law_screen) rfl
  have D__law_screen : Df K mg "_law_screen" (top 40) ["_law_text_here", "_law_width"] [] _ fd__law_screen := Df.mk0 F__law_screen (He.glo_ok X G (c.fact 6 (f := .glo "_law_screen") rfl)) fun _ _ _ _ _ _ us hl => match us, hl with | [_, _], _ => rfl
  obtain ⟨fd_is_text, F_is_text⟩ := c.def_ 7 (d := d_is_text) rfl
  have D_is_text : Df K mg "is_text" (top 9) ["value"] [] _ fd_is_text := Df.mk0 F_is_text (He.glo_ok X G (c.fact 7 (f := .glo "is_text") rfl)) fun _ _ _ _ _ _ us hl => match us, hl with | [_], _ => rfl
  obtain ⟨fd_check_text, F_check_text⟩ := c.def_ 8 (d := d_check_text) rfl
  have D_check_text : Df K mg "check_text" (top 20) ["value"] [] _ fd_check_text := Df.mk0 F_check_text (He.glo_ok X G (c.fact 8 (f := .glo "check_text") rfl)) fun _ _ _ _ _ _ us hl => match us, hl with | [_], _ => rfl
  obtain ⟨fd_is_whole, F_is_whole⟩ := c.def_ 9 (d := d_is_whole) rfl
  have D_is_whole : Df K mg "is_whole" (top 8) ["value"] [] _ fd_is_whole := Df.mk0 F_is_whole (He.glo_ok X G (c.fact 9 (f := .glo "is_whole") rfl)) fun _ _ _ _ _ _ us hl => match us, hl with | [_], _ => rfl
  obtain ⟨fd_check_least, F_check_least⟩ := c.def_ 10 (d := d_check_least) rfl
  have D_check_least : Df K mg "check_least" (top 15) ["value", "least"] [] _ fd_check_least := Df.mk0 F_check_least (He.glo_ok X G (c.fact 10 (f := .glo "check_least") rfl)) fun _ _ _ _ _ _ us hl => match us, hl with | [_, _], _ => rfl
  obtain ⟨fd_are_folds, F_are_folds⟩ := c.def_ 11 (d := d_are_folds) rfl
  have D_are_folds : Df K mg "are_folds" (top 23) ["value", "many"] [] _ fd_are_folds := Df.mk0 F_are_folds (He.glo_ok X G (c.fact 11 (f := .glo "are_folds") rfl)) fun _ _ _ _ _ _ us hl => match us, hl with | [_, _], _ => rfl
  obtain ⟨fd_chunks, F_chunks⟩ := c.def_ 12 (d := d_chunks) rfl
  have D_chunks : Df K mg "chunks" (top 17) ["line"] [] _ fd_chunks := Df.mk0 F_chunks (He.glo_ok X G (c.fact 12 (f := .glo "chunks") rfl)) fun _ _ _ _ _ _ us hl => match us, hl with | [_], _ => rfl
  obtain ⟨fd_cut, F_cut⟩ := c.def_ 13 (d := d_cut) rfl
  have D_cut : Df K mg "cut" (top 18) ["line", "width"] [] _ fd_cut := Df.mk0 F_cut (He.glo_ok X G (c.fact 13 (f := .glo "cut") rfl)) fun _ _ _ _ _ _ us hl => match us, hl with | [_, _], _ => rfl
  obtain ⟨fd_rows_of, F_rows_of⟩ := c.def_ 14 (d := d_rows_of) rfl
  have D_rows_of : Df K mg "rows_of" (top 24) ["text", "width", "folds"] [] _ fd_rows_of := Df.mk0 F_rows_of (He.glo_ok X G (c.fact 14 (f := .glo "rows_of") rfl)) fun _ _ _ _ _ _ us hl => match us, hl with | [_, _, _], _ => rfl
  obtain ⟨fd_screen, F_screen⟩ := c.def_ 15 (d := d_screen) rfl
  have D_screen : Df K mg "screen" (top 25) ["text", "width", "folds"] [V.non] _ fd_screen := Df.mk1 (m := 2) F_screen (He.glo_ok X G (c.fact 15 (f := .glo "screen") rfl)) rfl (fun _ _ _ _ _ _ _ us its h1 h2 => match us, its, h1, h2 with | [_, _], [_], _, _ => ⟨_, rfl, rfl⟩) (fun _ _ _ _ _ _ _ us its h1 h2 => match us, its, h1, h2 with | [_, _, _], [_], _, _ => ⟨_, rfl, rfl⟩)
  obtain ⟨fd_is_line, F_is_line⟩ := c.def_ 16 (d := d_is_line) rfl
  have D_is_line : Df K mg "is_line" (top 12) ["value"] [] _ fd_is_line := Df.mk0 F_is_line (He.glo_ok X G (c.fact 16 (f := .glo "is_line") rfl)) fun _ _ _ _ _ _ us hl => match us, hl with | [_], _ => rfl
  obtain ⟨fd_check_line, F_check_line⟩ := c.def_ 17 (d := d_check_line) rfl
  have D_check_line : Df K mg "check_line" (top 13) ["value"] [] _ fd_check_line := Df.mk0 F_check_line (He.glo_ok X G (c.fact 17 (f := .glo "check_line") rfl)) fun _ _ _ _ _ _ us hl => match us, hl with | [_], _ => rfl
  obtain ⟨fd_pieces, F_pieces⟩ := c.def_ 18 (d := d_pieces) rfl
  have D_pieces : Df K mg "pieces" (top 19) ["line", "width"] [] _ fd_pieces := Df.mk0 F_pieces (He.glo_ok X G (c.fact 18 (f := .glo "pieces") rfl)) fun _ _ _ _ _ _ us hl => match us, hl with | [_, _], _ => rfl
  obtain ⟨fd__law_cut_right, F__law_cut_right⟩ := c.def_ 19 (d := d__law_cut_right) rfl
  have D__law_cut_right : Df K mg "_law_cut_right" (top 44) ["_law_text_here", "_law_width", "_law_rows"] [] _ fd__law_cut_right := Df.mk0 F__law_cut_right (He.glo_ok X G (c.fact 19 (f := .glo "_law_cut_right") rfl)) fun _ _ _ _ _ _ us hl => match us, hl with | [_, _, _], _ => rfl
  obtain ⟨fd__law_starts, F__law_starts⟩ := c.def_ 20 (d := d__law_starts) rfl
  have D__law_starts : Df K mg "_law_starts" (top 41) ["_law_text_here"] [] _ fd__law_starts := Df.mk0 F__law_starts (He.glo_ok X G (c.fact 20 (f := .glo "_law_starts") rfl)) fun _ _ _ _ _ _ us hl => match us, hl with | [_], _ => rfl
  obtain ⟨fd__law_places, F__law_places⟩ := c.def_ 21 (d := d__law_places) rfl
  have D__law_places : Df K mg "_law_places" (top 42) ["_law_text_here", "_law_rows", "_law_row"] [] _ fd__law_places := Df.mk0 F__law_places (He.glo_ok X G (c.fact 21 (f := .glo "_law_places") rfl)) fun _ _ _ _ _ _ us hl => match us, hl with | [_, _, _], _ => rfl
  obtain ⟨fd__law_spots, F__law_spots⟩ := c.def_ 22 (d := d__law_spots) rfl
  have D__law_spots : Df K mg "_law_spots" (top 43) ["_law_text_here", "_law_rows"] [] _ fd__law_spots := Df.mk0 F__law_spots (He.glo_ok X G (c.fact 22 (f := .glo "_law_spots") rfl)) fun _ _ _ _ _ _ us hl => match us, hl with | [_, _], _ => rfl
  obtain ⟨fd_check_within, F_check_within⟩ := c.def_ 23 (d := d_check_within) rfl
  have D_check_within : Df K mg "check_within" (top 16) ["value", "least", "most"] [] _ fd_check_within := Df.mk0 F_check_within (He.glo_ok X G (c.fact 23 (f := .glo "check_within") rfl)) fun _ _ _ _ _ _ us hl => match us, hl with | [_, _, _], _ => rfl
  obtain ⟨fd_begins, F_begins⟩ := c.def_ 24 (d := d_begins) rfl
  have D_begins : Df K mg "begins" (top 26) ["text"] [] _ fd_begins := Df.mk0 F_begins (He.glo_ok X G (c.fact 24 (f := .glo "begins") rfl)) fun _ _ _ _ _ _ us hl => match us, hl with | [_], _ => rfl
  obtain ⟨fd_seen_at, F_seen_at⟩ := c.def_ 25 (d := d_seen_at) rfl
  have D_seen_at : Df K mg "seen_at" (top 27) ["text", "width", "place"] [] _ fd_seen_at := Df.mk0 F_seen_at (He.glo_ok X G (c.fact 25 (f := .glo "seen_at") rfl)) fun _ _ _ _ _ _ us hl => match us, hl with | [_, _, _], _ => rfl
  obtain ⟨fd_spot, F_spot⟩ := c.def_ 26 (d := d_spot) rfl
  have D_spot : Df K mg "spot" (top 28) ["text", "width", "place"] [] _ fd_spot := Df.mk0 F_spot (He.glo_ok X G (c.fact 26 (f := .glo "spot") rfl)) fun _ _ _ _ _ _ us hl => match us, hl with | [_, _, _], _ => rfl
  obtain ⟨fd_place_in, F_place_in⟩ := c.def_ 27 (d := d_place_in) rfl
  have D_place_in : Df K mg "place_in" (top 29) ["text", "width", "row", "column"] [] _ fd_place_in := Df.mk0 F_place_in (He.glo_ok X G (c.fact 27 (f := .glo "place_in") rfl)) fun _ _ _ _ _ _ us hl => match us, hl with | [_, _, _, _], _ => rfl
  obtain ⟨fd_place_at, F_place_at⟩ := c.def_ 28 (d := d_place_at) rfl
  have D_place_at : Df K mg "place_at" (top 30) ["text", "width", "row", "column"] [] _ fd_place_at := Df.mk0 F_place_at (He.glo_ok X G (c.fact 28 (f := .glo "place_at") rfl)) fun _ _ _ _ _ _ us hl => match us, hl with | [_, _, _, _], _ => rfl
  obtain ⟨fd__law_places_right, F__law_places_right⟩ := c.def_ 29 (d := d__law_places_right) rfl
  have D__law_places_right : Df K mg "_law_places_right" (top 45) ["_law_text_here", "_law_width", "_law_rows"] [] _ fd__law_places_right := Df.mk0 F__law_places_right (He.glo_ok X G (c.fact 29 (f := .glo "_law_places_right") rfl)) fun _ _ _ _ _ _ us hl => match us, hl with | [_, _, _], _ => rfl
  obtain ⟨fd_stepped, F_stepped⟩ := c.def_ 30 (d := d_stepped) rfl
  have D_stepped : Df K mg "stepped" (top 31) ["text", "width", "place", "rows", "column"] [] _ fd_stepped := Df.mk0 F_stepped (He.glo_ok X G (c.fact 30 (f := .glo "stepped") rfl)) fun _ _ _ _ _ _ us hl => match us, hl with | [_, _, _, _, _], _ => rfl
  obtain ⟨fd__law_steps_right, F__law_steps_right⟩ := c.def_ 31 (d := d__law_steps_right) rfl
  have D__law_steps_right : Df K mg "_law_steps_right" (top 46) ["_law_pump_here", "_law_text_here", "_law_width", "_law_rows"] [] _ fd__law_steps_right := Df.mk0 F__law_steps_right (He.glo_ok X G (c.fact 31 (f := .glo "_law_steps_right") rfl)) fun _ _ _ _ _ _ us hl => match us, hl with | [_, _, _, _], _ => rfl
  obtain ⟨fd_law, F_law⟩ := c.def_ 32 (d := d_law) rfl
  have D_law : Df K mg "law" (top 47) ["_law_script"] [] _ fd_law := Df.mk0 F_law (He.glo_ok X G (c.fact 32 (f := .glo "law") rfl)) fun _ _ _ _ _ _ us hl => match us, hl with | [_], _ => rfl
  have e := hfa.symm.trans D_law.gm
  cases e
  have b := FunD.bindsA (ps := ["_law_script"]) F_law fun _ _ _ _ _ _ us hl => match us, hl with | [_], _ => rfl
  refine ⟨fd_law, fun s v => b s [v] rfl, fun base _ _ => ?_⟩
  have G__law_pump : FnOk P w K mg base CX0 1 _ fd__law_pump ["_law_script", "_law_at"] (spM K m__law_pump 2) := ok__law_pump T D__law_pump
  have G__law_cup : FnOk P w K mg base CX0 1 _ fd__law_cup ["_law_pump_here", "_law_many"] (spM K m__law_cup 2) := ok__law_cup T D__law_cup
  have G__law_line : FnOk P w K mg base CX0 2 _ fd__law_line ["_law_pump_here", "_law_most"] (spM K m__law_line 2) := ok__law_line T D__law_line D__law_cup G__law_cup
  have G__law_text : FnOk P w K mg base CX0 3 _ fd__law_text ["_law_pump_here", "_law_lines", "_law_most"] (spM K m__law_text 3) := ok__law_text T D__law_text D__law_cup G__law_cup D__law_line G__law_line
  have G__law_borders : FnOk P w K mg base CX0 1 _ fd__law_borders ["_law_line_here"] (spM K m__law_borders 1) := ok__law_borders T D__law_borders
  have G__law_pieces : FnOk P w K mg base CX0 2 _ fd__law_pieces ["_law_line_here", "_law_width"] (spM K m__law_pieces 2) := ok__law_pieces T D__law_pieces D__law_borders G__law_borders
  have G__law_screen : FnOk P w K mg base CX0 3 _ fd__law_screen ["_law_text_here", "_law_width"] (spM K m__law_screen 2) := ok__law_screen T D__law_screen D__law_pieces G__law_pieces
  have G_is_text : FnOk P w K mg base CX0 1 _ fd_is_text ["value"] (spM K m_is_text 1) := ok_is_text T D_is_text
  have G_check_text : FnOk P w K mg base CX0 2 _ fd_check_text ["value"] (spM K m_check_text 1) := ok_check_text T D_check_text D_is_text G_is_text
  have G_is_whole : FnOk P w K mg base CX0 1 _ fd_is_whole ["value"] (spM K m_is_whole 1) := ok_is_whole T D_is_whole
  have G_check_least : FnOk P w K mg base CX0 2 _ fd_check_least ["value", "least"] (spM K m_check_least 2) := ok_check_least T D_check_least D_is_whole G_is_whole
  have G_are_folds : FnOk P w K mg base CX0 1 _ fd_are_folds ["value", "many"] (spM K m_are_folds 2) := ok_are_folds T D_are_folds
  have G_chunks : FnOk P w K mg base CX0 1 _ fd_chunks ["line"] (spM K m_chunks 1) := ok_chunks T D_chunks
  have G_cut : FnOk P w K mg base CX0 2 _ fd_cut ["line", "width"] (spM K m_cut 2) := ok_cut T D_cut D_chunks G_chunks
  have G_rows_of : FnOk P w K mg base CX0 3 _ fd_rows_of ["text", "width", "folds"] (spM K m_rows_of 3) := ok_rows_of T D_rows_of D_cut G_cut
  have G_screen : FnOk P w K mg base CX0 4 _ fd_screen ["text", "width", "folds"] (spM K m_screen 3) := ok_screen T D_screen D_check_text G_check_text D_check_least G_check_least D_are_folds G_are_folds D_rows_of G_rows_of
  have G_is_line : FnOk P w K mg base CX0 1 _ fd_is_line ["value"] (spM K m_is_line 1) := ok_is_line T D_is_line
  have G_check_line : FnOk P w K mg base CX0 2 _ fd_check_line ["value"] (spM K m_check_line 1) := ok_check_line T D_check_line D_is_line G_is_line
  have G_pieces : FnOk P w K mg base CX0 3 _ fd_pieces ["line", "width"] (spM K m_pieces 2) := ok_pieces T D_pieces D_check_line G_check_line D_check_least G_check_least D_cut G_cut
  have G__law_cut_right : FnOk P w K mg base CX0 5 _ fd__law_cut_right ["_law_text_here", "_law_width", "_law_rows"] (spM K m__law_cut_right 3) := ok__law_cut_right T D__law_cut_right D_screen G_screen D_pieces G_pieces D__law_pieces G__law_pieces
  have G__law_starts : FnOk P w K mg base CX0 1 _ fd__law_starts ["_law_text_here"] (spM K m__law_starts 1) := ok__law_starts T D__law_starts
  have G__law_places : FnOk P w K mg base CX0 2 _ fd__law_places ["_law_text_here", "_law_rows", "_law_row"] (spM K m__law_places 3) := ok__law_places T D__law_places D__law_starts G__law_starts
  have G__law_spots : FnOk P w K mg base CX0 3 _ fd__law_spots ["_law_text_here", "_law_rows"] (spM K m__law_spots 2) := ok__law_spots T D__law_spots D__law_places G__law_places
  have G_check_within : FnOk P w K mg base CX0 2 _ fd_check_within ["value", "least", "most"] (spM K m_check_within 3) := ok_check_within T D_check_within D_is_whole G_is_whole
  have G_begins : FnOk P w K mg base CX0 1 _ fd_begins ["text"] (spM K m_begins 1) := ok_begins T D_begins
  have G_seen_at : FnOk P w K mg base CX0 4 _ fd_seen_at ["text", "width", "place"] (spM K m_seen_at 3) := ok_seen_at T D_seen_at D_begins G_begins D_rows_of G_rows_of
  have G_spot : FnOk P w K mg base CX0 5 _ fd_spot ["text", "width", "place"] (spM K m_spot 3) := ok_spot T D_spot D_check_text G_check_text D_check_least G_check_least D_check_within G_check_within D_seen_at G_seen_at
  have G_place_in : FnOk P w K mg base CX0 4 _ fd_place_in ["text", "width", "row", "column"] (spM K m_place_in 4) := ok_place_in T D_place_in D_rows_of G_rows_of D_begins G_begins
  have G_place_at : FnOk P w K mg base CX0 5 _ fd_place_at ["text", "width", "row", "column"] (spM K m_place_at 4) := ok_place_at T D_place_at D_check_text G_check_text D_check_least G_check_least D_check_within G_check_within D_rows_of G_rows_of D_place_in G_place_in
  have G__law_places_right : FnOk P w K mg base CX0 6 _ fd__law_places_right ["_law_text_here", "_law_width", "_law_rows"] (spM K m__law_places_right 3) := ok__law_places_right T D__law_places_right D__law_spots G__law_spots D_spot G_spot D_place_at G_place_at D__law_places G__law_places
  have G_stepped : FnOk P w K mg base CX0 5 _ fd_stepped ["text", "width", "place", "rows", "column"] (spM K m_stepped 5) := ok_stepped T D_stepped D_check_text G_check_text D_check_least G_check_least D_check_within G_check_within D_is_whole G_is_whole D_seen_at G_seen_at D_rows_of G_rows_of D_place_in G_place_in
  have G__law_steps_right : FnOk P w K mg base CX0 6 _ fd__law_steps_right ["_law_pump_here", "_law_text_here", "_law_width", "_law_rows"] (spM K m__law_steps_right 4) := ok__law_steps_right T D__law_steps_right D__law_spots G__law_spots D__law_cup G__law_cup D__law_places G__law_places D_stepped G_stepped
  have G_law : FnOk P w K mg base CX0 7 _ fd_law ["_law_script"] (spM K m_law 1) := ok_law T D_law D__law_pump G__law_pump D__law_text G__law_text D__law_cup G__law_cup D__law_screen G__law_screen D__law_cut_right G__law_cut_right D__law_places_right G__law_places_right D__law_steps_right G__law_steps_right D_pieces G_pieces D_spot G_spot D_place_at G_place_at D_stepped G_stepped
  exact G_law
theorem holds_of (hm : ∀ ns : List Int, ns.length ≤ 63 → ∃ h', m_law [.ref 0] [.frz (ns.map Val.int)] = .ok (.bl true) h') : PySem.Challenge.rw_everrow_k46_pieces_and_places.Holds := by
  w_on; o_law
  refine HandSHeadRun.head_any (r := PySem.W.OpenLaw.row PySem.Challenge.rw_everrow_k46_pieces_and_places) (q := PySem.W.view (PySem.W.OpenLaw.row PySem.Challenge.rw_everrow_k46_pieces_and_places).prog [47]) (H := hk) (ob := ob) (M := 3000) (loose := loose) (d := HandSHeadRun.topDef (PySem.W.OpenLaw.row PySem.Challenge.rw_everrow_k46_pieces_and_places).prog 47) (kwd := []) ob_eq
    (by kernel_rfl) (fun s => by kernel_rfl) run (by kernel_rfl) (by kernel_rfl) (by kernel_rfl) (by rfl) (by first | assumption | decide +kernel) (by decide +kernel) ⟨rfl, rfl, rfl, rfl, rfl, by decide +kernel⟩ ?hw ?hc
  case hw => w_witness2
  case hc =>
    refine L2.walk_ofE (l := PySem.Challenge.rw_everrow_k46_pieces_and_places) (n := 63) (k := 7) (x := "_law_script") (CX := L2.CX0) rfl (by decide) (by kernel_rfl) ⟨rfl, by decide, by decide⟩ ?F (fun _ _ _ _ z => z)
    intro w mg fa h Y G hmg0
    obtain ⟨K, KX, c⟩ := Y
    have hmg : mg ("law" : PySem.Str) = some (.ref fa) := by
      have e : (HandSHeadRun.topDef (PySem.W.OpenLaw.row PySem.Challenge.rw_everrow_k46_pieces_and_places).prog 47).name = ("law" : PySem.Str) := by kernel_rfl
      rw [← e]
      exact hmg0
    obtain ⟨fd, hb, hF⟩ := facts (P := (PySem.Challenge.rw_everrow_k46_pieces_and_places).prog) (w := w) KX G hmg c
    exact ⟨K, fd, spM K m_law 1, KX, hb, fun H a ns hl hO hS => law_sp hO hS (hm ns hl), hF⟩
end W

set_option Elab.async false
set_option linter.all false
set_option maxRecDepth 100000
set_option maxHeartbeats 4000000
namespace W
open PySem L2 Mr
theorem a__law_pump (x0 x1 : Val) (h : AH) : m__law_pump [x0, x1] h = fin (b__law_pump [some x0, some x1, none, none, none, none, none, none] h) := by
  simp only [mFn, fin]
  rfl
theorem a__law_cup (x0 x1 : Val) (h : AH) : m__law_cup [x0, x1] h = fin (b__law_cup [some x0, some x1, none] h) := by
  simp only [mFn, fin]
  rfl
theorem a__law_line (x0 x1 : Val) (h : AH) : m__law_line [x0, x1] h = fin (b__law_line [some x0, some x1, none, none, none] h) := by
  simp only [mFn, fin]
  rfl
theorem a__law_text (x0 x1 x2 : Val) (h : AH) : m__law_text [x0, x1, x2] h = fin (b__law_text [some x0, some x1, some x2, none, none] h) := by
  simp only [mFn, fin]
  rfl
theorem a__law_borders (x0 : Val) (h : AH) : m__law_borders [x0] h = fin (b__law_borders [some x0, none] h) := by
  simp only [mFn, fin]
  rfl
theorem a__law_pieces (x0 x1 : Val) (h : AH) : m__law_pieces [x0, x1] h = fin (b__law_pieces [some x0, some x1, none, none, none, none] h) := by
  simp only [mFn, fin]
  rfl
theorem a__law_screen (x0 x1 : Val) (h : AH) : m__law_screen [x0, x1] h = fin (b__law_screen [some x0, some x1, none, none, none, none, none] h) := by
  simp only [mFn, fin]
  rfl
theorem a_is_text (x0 : Val) (h : AH) : m_is_text [x0] h = fin (b_is_text [some x0, none] h) := by
  simp only [mFn, fin]
  rfl
theorem a_check_text (x0 : Val) (h : AH) : m_check_text [x0] h = fin (b_check_text [some x0] h) := by
  simp only [mFn, fin]
  rfl
theorem a_is_whole (x0 : Val) (h : AH) : m_is_whole [x0] h = fin (b_is_whole [some x0] h) := by
  simp only [mFn, fin]
  rfl
theorem a_check_least (x0 x1 : Val) (h : AH) : m_check_least [x0, x1] h = fin (b_check_least [some x0, some x1] h) := by
  simp only [mFn, fin]
  rfl
theorem a_are_folds (x0 x1 : Val) (h : AH) : m_are_folds [x0, x1] h = fin (b_are_folds [some x0, some x1, none, none, none] h) := by
  simp only [mFn, fin]
  rfl
theorem a_chunks (x0 : Val) (h : AH) : m_chunks [x0] h = fin (b_chunks [some x0, none, none, none] h) := by
  simp only [mFn, fin]
  rfl
theorem a_cut (x0 x1 : Val) (h : AH) : m_cut [x0, x1] h = fin (b_cut [some x0, some x1, none, none] h) := by
  simp only [mFn, fin]
  rfl
theorem a_rows_of (x0 x1 x2 : Val) (h : AH) : m_rows_of [x0, x1, x2] h = fin (b_rows_of [some x0, some x1, some x2, none, none, none, none, none, none] h) := by
  simp only [mFn, fin]
  rfl
theorem a_screen (x0 x1 x2 : Val) (h : AH) : m_screen [x0, x1, x2] h = fin (b_screen [some x0, some x1, some x2] h) := by
  simp only [mFn, fin]
  rfl
theorem a_is_line (x0 : Val) (h : AH) : m_is_line [x0] h = fin (b_is_line [some x0, none] h) := by
  simp only [mFn, fin]
  rfl
theorem a_check_line (x0 : Val) (h : AH) : m_check_line [x0] h = fin (b_check_line [some x0] h) := by
  simp only [mFn, fin]
  rfl
theorem a_pieces (x0 x1 : Val) (h : AH) : m_pieces [x0, x1] h = fin (b_pieces [some x0, some x1] h) := by
  simp only [mFn, fin]
  rfl
theorem a__law_cut_right (x0 x1 x2 : Val) (h : AH) : m__law_cut_right [x0, x1, x2] h = fin (b__law_cut_right [some x0, some x1, some x2, none, none, none] h) := by
  simp only [mFn, fin]
  rfl
theorem a__law_starts (x0 : Val) (h : AH) : m__law_starts [x0] h = fin (b__law_starts [some x0, none, none, none] h) := by
  simp only [mFn, fin]
  rfl
theorem a__law_places (x0 x1 x2 : Val) (h : AH) : m__law_places [x0, x1, x2] h = fin (b__law_places [some x0, some x1, some x2, none, none, none, none, none, none] h) := by
  simp only [mFn, fin]
  rfl
theorem a__law_spots (x0 x1 : Val) (h : AH) : m__law_spots [x0, x1] h = fin (b__law_spots [some x0, some x1, none, none, none] h) := by
  simp only [mFn, fin]
  rfl
theorem a_check_within (x0 x1 x2 : Val) (h : AH) : m_check_within [x0, x1, x2] h = fin (b_check_within [some x0, some x1, some x2] h) := by
  simp only [mFn, fin]
  rfl
theorem a_begins (x0 : Val) (h : AH) : m_begins [x0] h = fin (b_begins [some x0, none, none] h) := by
  simp only [mFn, fin]
  rfl
theorem a_seen_at (x0 x1 x2 : Val) (h : AH) : m_seen_at [x0, x1, x2] h = fin (b_seen_at [some x0, some x1, some x2, none, none, none, none, none, none, none, none, none] h) := by
  simp only [mFn, fin]
  rfl
theorem a_spot (x0 x1 x2 : Val) (h : AH) : m_spot [x0, x1, x2] h = fin (b_spot [some x0, some x1, some x2] h) := by
  simp only [mFn, fin]
  rfl
theorem a_place_in (x0 x1 x2 x3 : Val) (h : AH) : m_place_in [x0, x1, x2, x3] h = fin (b_place_in [some x0, some x1, some x2, some x3, none, none, none, none, none, none] h) := by
  simp only [mFn, fin]
  rfl
theorem a_place_at (x0 x1 x2 x3 : Val) (h : AH) : m_place_at [x0, x1, x2, x3] h = fin (b_place_at [some x0, some x1, some x2, some x3] h) := by
  simp only [mFn, fin]
  rfl
theorem a__law_places_right (x0 x1 x2 : Val) (h : AH) : m__law_places_right [x0, x1, x2] h = fin (b__law_places_right [some x0, some x1, some x2, none, none, none, none, none] h) := by
  simp only [mFn, fin]
  rfl
theorem a_stepped (x0 x1 x2 x3 x4 : Val) (h : AH) : m_stepped [x0, x1, x2, x3, x4] h = fin (b_stepped [some x0, some x1, some x2, some x3, some x4, none, none] h) := by
  simp only [mFn, fin]
  rfl
theorem a__law_steps_right (x0 x1 x2 x3 : Val) (h : AH) : m__law_steps_right [x0, x1, x2, x3] h = fin (b__law_steps_right [some x0, some x1, some x2, some x3, none, none, none, none, none, none, none] h) := by
  simp only [mFn, fin]
  rfl
theorem a_law (x0 : Val) (h : AH) : m_law [x0] h = fin (b_law [some x0, none, none, none, none] h) := by
  simp only [mFn, fin]
  rfl
end W

set_option Elab.async false
set_option linter.all false
set_option maxRecDepth 100000
set_option maxHeartbeats 4000000
namespace W
open PySem L2 Mr
/-! ### texts as lists of codes -/
abbrev sS (l : List Nat) : Str := ⟨l.toArray⟩
abbrev sV (l : List Nat) : Val := .str (sS l)
@[simp] theorem sS_len (l : List Nat) : (sS l).length = l.length := by simp [Str.length]
@[simp] theorem sS_app (a b : List Nat) : sS a ++ sS b = sS (a ++ b) := TL.ext_tl (by rw [TL.tl_append])
theorem sS_inj {a b : List Nat} (h : sS a = sS b) : a = b := by
  have := congrArg TL.tl h
  exact this
@[simp] theorem sS_eq {a b : List Nat} : (sS a = sS b) = (a = b) := propext ⟨sS_inj, fun h => by rw [h]⟩
theorem s_nil : (("" : String) : Str) = sS [] := by decide +kernel
theorem s_blank : ((" " : String) : Str) = sS [32] := by decide +kernel
theorem s_nl : (("\n" : String) : Str) = sS [10] := by decide +kernel
theorem strVals_sS (l : List Nat) : strVals (sS l) = l.map fun c => sV [c] := rfl
theorem sz {n : Nat} (h : n ≤ 16777216) : Mr.sizeOk n = true := decide_eq_true h
@[simp] theorem sz0 : Mr.sizeOk 0 = true := rfl
@[simp] theorem sz1 : Mr.sizeOk 1 = true := rfl
@[simp] theorem sz2 : Mr.sizeOk 2 = true := rfl
@[simp] theorem sz3 : Mr.sizeOk 3 = true := rfl
theorem add_mut {h : AH} {n m : Nat} {xs ys : List Val} (e1 : mutAt h n = some xs) (e2 : mutAt h m = some ys) (hl : xs.length + ys.length ≤ 16777216) : oAdd (.ref n) (.ref m) h = .ok (.ref h.length) (h ++ [.lst (xs ++ ys)]) := by
  unfold oAdd
  dsimp only
  rw [e1, e2]
  dsimp only
  rw [if_pos (sz hl)]
  rfl
theorem drop_at {l : List Nat} {k c : Nat} (hc : l[k]? = some c) : l.drop k = c :: l.drop (k + 1) := by
  have hk : k < l.length := (List.getElem?_eq_some_iff.mp hc).1
  rw [List.drop_eq_getElem_cons hk]
  rw [List.getElem?_eq_getElem hk] at hc
  rw [Option.some.inj hc]
/-! ### chunks -/
def chunksF : List Nat → List Nat → List (List Nat)
  | held, [] => if held = [] then [] else [held]
  | held, c :: r => if c = 32 then (held ++ [c]) :: chunksF [] r else chunksF (held ++ [c]) r
theorem chunks_len : ∀ (l held : List Nat), (chunksF held l).length ≤ l.length + 1
  | [], held => by unfold chunksF; split <;> simp
  | c :: r, held => by
    unfold chunksF
    split
    · have := chunks_len r []
      simp only [List.length_cons]
      omega
    · have := chunks_len r (held ++ [c])
      simp only [List.length_cons]
      omega
theorem spec_chunks (l : List Nat) (h : AH) (hl : l.length ≤ 100000) : RL (m_chunks [sV l] h) h ((chunksF [] l).map sV) := by
  rw [a_chunks]
  simp [b_chunks]
  refine for_bd (strVals (sS l)) (fun k sl h' => ∃ (v : Option Val) (acc : List (List Nat)) (held : List Nat), sl = [some (sV l), some (.ref h.length), some (sV held), v] ∧ Xt h h' ∧ mutAt h' h.length = some (acc.map sV) ∧ acc ++ chunksF held (l.drop k) = chunksF [] l ∧ held.length ≤ k ∧ acc.length ≤ k)
    (fun r => RL (fin r) h _) ⟨none, [], [], by rw [s_nil], Xt.new h _, mut_new h [], rfl, Nat.le_refl _, Nat.le_refl _⟩ (by rw [strVals_len, sS_len]; omega) (fun k sl h' _ _ => nStr_at _ k h') ?_ ?_
  · rintro k x sl h' hx ⟨v, acc, held, rfl, x1, x2, x3, x4, x5⟩
    rw [strVals_sS, List.getElem?_map] at hx
    cases hc : l[k]? with
    | none => rw [hc] at hx; cases hx
    | some c =>
      rw [hc] at hx
      cases hx
      have hk : k < l.length := (List.getElem?_eq_some_iff.mp hc).1
      rw [drop_at hc] at x3
      by_cases hb : c = 32
      · subst hb
        simp [s_blank, s_nil, sz (show held.length + 1 ≤ 16777216 by omega), isTy_mut x2, x2, show acc.length < 16777216 by omega]
        refine ⟨_, acc ++ [held ++ [32]], [], ⟨rfl, rfl⟩, x1.set (Nat.le_refl _), ?_, ?_, ?_, ?_⟩
        · rw [mut_set x2, List.map_append]; rfl
        · rw [← x3]; simp [chunksF]
        · exact Nat.zero_le _
        · rw [List.length_append]; simp only [List.length_cons, List.length_nil]; omega
      · simp [s_blank, s_nil, sz (show held.length + 1 ≤ 16777216 by omega), hb]
        refine ⟨_, acc, held ++ [c], ⟨rfl, rfl⟩, x1, x2, ?_, ?_, by omega⟩
        · rw [← x3]; simp [chunksF, hb]
        · rw [List.length_append]; simp only [List.length_cons, List.length_nil]; omega
  · rintro sl h' ⟨v, acc, held, rfl, x1, x2, x3, x4, x5⟩
    rw [strVals_len, sS_len] at x3 x4 x5
    rw [List.drop_length] at x3
    by_cases hh : held = []
    · subst hh
      simp [s_nil]
      refine ⟨x1, ?_⟩
      rw [x2, ← x3]
      simp [chunksF]
    · have m1 : mutAt (h' ++ [.lst [sV held]]) h.length = some (acc.map sV) := (Xt.new h' _).mut x2
      have m2 : mutAt (h' ++ [.lst [sV held]]) h'.length = some [sV held] := mut_new _ _
      simp [s_nil, hh, add_mut m1 m2 (show (acc.map sV).length + [sV held].length ≤ 16777216 by rw [List.length_map, List.length_cons, List.length_nil]; omega)]
      refine ⟨x1.trans ⟨_, rfl⟩, ?_, ?_⟩
      · have := x1.len
        omega
      · rw [← x3]
        simp [chunksF, hh, mutAt]
theorem chunks_flat : ∀ (l held : List Nat), (chunksF held l).flatten = held ++ l
  | [], held => by
    unfold chunksF
    split
    · rename_i h; subst h; rfl
    · simp
  | c :: r, held => by
    unfold chunksF
    split
    · rw [List.flatten_cons, chunks_flat r []]; simp
    · rw [chunks_flat r (held ++ [c])]; simp
theorem chunks_ne : ∀ (l held : List Nat), ∀ ch ∈ chunksF held l, ch ≠ []
  | [], held, ch, h => by
    unfold chunksF at h
    split at h
    · cases h
    · rename_i hh
      rw [List.mem_singleton] at h
      rw [h]; exact hh
  | c :: r, held, ch, h => by
    unfold chunksF at h
    split at h
    · rcases List.mem_cons.mp h with e | e
      · rw [e]; simp
      · exact chunks_ne r [] ch e
    · exact chunks_ne r (held ++ [c]) ch h
/-! ### cut -/
def cutGo (w : Int) : List (List Nat) → List Nat → List (List Nat) → List (List Nat)
  | ini, last, [] => ini ++ [last]
  | ini, last, ch :: r => if last = [] ∨ ((last.length : Int) + (ch.length : Int) ≤ w) then cutGo w ini (last ++ ch) r else cutGo w (ini ++ [last]) ch r
def cutF (w : Int) (l : List Nat) : List (List Nat) := cutGo w [] [] (chunksF [] l)
theorem ixN_last (n : Nat) : ixN (n + 1) (-1) = some n := by
  unfold ixN
  rw [if_neg (by decide), if_pos (by omega)]
  congr 1
  omega
theorem atI_last' {α : Type} (xs : List α) (v : α) : L2.atI (xs ++ [v]) (-1) = some v := L2.atI_last xs v
theorem set_last {α : Type} (xs : List α) (v u : α) : (xs ++ [v]).set xs.length u = xs ++ [u] := by
  rw [List.set_append_right _ _ (Nat.le_refl _), Nat.sub_self]; rfl
theorem flat_take_le {l : List (List Nat)} (k : Nat) : (l.take k).flatten.length ≤ l.flatten.length := by
  conv => rhs; rw [← List.take_append_drop k l, List.flatten_append, List.length_append]
  exact Nat.le_add_right _ _
theorem mem_flat_le {l : List (List Nat)} {x : List Nat} (h : x ∈ l) : x.length ≤ l.flatten.length := by
  induction l with
  | nil => cases h
  | cons y l ih =>
    rw [List.flatten_cons, List.length_append]
    rcases List.mem_cons.mp h with e | e
    · rw [e]; omega
    · have := ih e; omega
theorem spec_cut (l : List Nat) (w : Int) (h : AH) (hl : l.length ≤ 100000) : RL (m_cut [sV l, .int w] h) h ((cutF w l).map sV) := by
  rw [a_cut]
  obtain ⟨dc, hc, ec, xc, lc, mc⟩ := (spec_chunks l (h ++ [.lst [sV []]]) hl).ex
  have fl := chunks_flat l []
  have cl := chunks_len l []
  have ln : lstAt hc dc = some ((chunksF [] l).map sV) := mut_lst mc
  rw [List.length_append, List.length_singleton] at lc
  simp [b_cut, s_nil, ec, iterR_ref ln]
  refine for_bd ((chunksF [] l).map sV) (fun k sl h' => ∃ (v : Option Val) (ini : List (List Nat)) (last : List Nat), sl = [some (sV l), some (.int w), some (.ref h.length), v] ∧ Xt h h' ∧ mutAt h' h.length = some (ini.map sV ++ [sV last]) ∧ lstAt h' dc = some ((chunksF [] l).map sV) ∧
      cutGo w ini last ((chunksF [] l).drop k) = cutF w l ∧ last.length ≤ 100000 ∧ ini.length ≤ k ∧ ini.flatten ++ last = ((chunksF [] l).take k).flatten)
    (fun r => RL (fin r) h _) ⟨none, [], [], rfl, (Xt.new h _).trans xc, xt_mut xc, ln, rfl, by simp, Nat.le_refl _, rfl⟩ (by rw [List.length_map]; omega) (fun k sl h' _ ⟨_, _, _, _, _, _, z, _⟩ => nList_at k z) ?_ ?_
  · rintro k x sl h' hx ⟨v, ini, last, rfl, x1, x2, x3, x4, x5, x6, x7⟩
    rw [List.getElem?_map] at hx
    cases hq : (chunksF [] l)[k]? with
    | none => rw [hq] at hx; cases hx
    | some ch =>
      rw [hq] at hx
      cases hx
      have hk : k < (chunksF [] l).length := (List.getElem?_eq_some_iff.mp hq).1
      have hdr : (chunksF [] l).drop k = ch :: (chunksF [] l).drop (k + 1) := by
        rw [List.drop_eq_getElem_cons hk]
        rw [List.getElem?_eq_getElem hk] at hq
        rw [Option.some.inj hq]
      have htk : (chunksF [] l).take (k + 1) = (chunksF [] l).take k ++ [ch] := by rw [List.take_add_one, hq]; rfl
      have tot : ((chunksF [] l).take (k + 1)).flatten.length ≤ l.length := by
        have := flat_take_le (l := chunksF [] l) (k + 1)
        rw [fl] at this
        simpa using this
      have tl2 : last.length + ch.length ≤ l.length := by
        rw [htk, List.flatten_append, ← x7] at tot
        simp at tot
        omega
      rw [hdr] at x4
      have hne : dc ≠ h.length := by omega
      by_cases hb : last = [] ∨ ((last.length : Int) + (ch.length : Int) ≤ w)
      · have x4' : cutGo w ini (last ++ ch) ((chunksF [] l).drop (k + 1)) = cutF w l := by rw [← x4]; simp [cutGo, hb]
        have goal : Nx (Res.ok (Fl.nx [some (sV l), some (Val.int w), some (Val.ref h.length), some (sV ch)]) (h'.set h.length (.lst (ini.map sV ++ [sV (last ++ ch)])))) (fun sl h' => ∃ (v : Option Val) (ini : List (List Nat)) (last : List Nat), sl = [some (sV l), some (.int w), some (.ref h.length), v] ∧ Xt h h' ∧ mutAt h' h.length = some (ini.map sV ++ [sV last]) ∧ lstAt h' dc = some ((chunksF [] l).map sV) ∧
            cutGo w ini last ((chunksF [] l).drop (k + 1)) = cutF w l ∧ last.length ≤ 100000 ∧ ini.length ≤ k + 1 ∧ ini.flatten ++ last = ((chunksF [] l).take (k + 1)).flatten) := by
          refine ⟨_, ini, last ++ ch, rfl, x1.set (Nat.le_refl _), mut_set x2, lst_set_ne hne x3, x4', ?_, by omega, ?_⟩
          · rw [List.length_append]; omega
          · rw [htk, List.flatten_append, ← x7]; simp
        have lt : lstAt h' h.length = some (ini.map sV ++ [sV last]) := mut_lst x2
        have si : ixN (ini.map sV ++ [sV last]).length (-1) = some ini.length := by
          rw [List.length_append, List.length_map, List.length_singleton]; exact ixN_last _
        have se : (ini.map sV ++ [sV last]).set ini.length (sV (last ++ ch)) = ini.map sV ++ [sV (last ++ ch)] := by
          have := set_last (ini.map sV) (sV last) (sV (last ++ ch))
          rwa [List.length_map] at this
        have ev : mSub (mVar 2) (mUn uNeg (mC (.int 1))) (mOp oAdd (mOp oIx (mVar 2) (mUn uNeg (mC (.int 1)))) (mVar 3)) [some (sV l), some (Val.int w), some (Val.ref h.length), some (sV ch)] h' = Res.ok (Fl.nx [some (sV l), some (Val.int w), some (Val.ref h.length), some (sV ch)]) (h'.set h.length (.lst (ini.map sV ++ [sV (last ++ ch)]))) := by
          simp only [mSub_app, mOp_app, mVar_app, List.getElem?_cons_succ, List.getElem?_cons_zero, varR_some, bd_ok, mUn_app, mC_app, uNeg_i, oIx_ref, lt, ixR_some, atI_last', atR_some, oAdd_ss, sS_len, if_pos (sz (show last.length + ch.length ≤ 16777216 by omega)), sS_app, stL_ref, x2, stR_some, si, se]
        rcases hb with hb | hb
        · subst hb
          simp only [bd_nm, Bd_some, List.set_cons_succ, List.set_cons_zero, mIfS_app, mOr_app, mTest_app, mOp_app, mVar_app, List.getElem?_cons_succ, List.getElem?_cons_zero, varR_some, bd_ok, mUn_app, mC_app, uNeg_i, oIx_ref, lt, ixR_some, atI_last', atR_some, cpo_eq, s_nil, oEq_ss, decide_true, truR_bl, if_true, ev]
          exact goal
        · by_cases hn : last = []
          · subst hn
            simp only [bd_nm, Bd_some, List.set_cons_succ, List.set_cons_zero, mIfS_app, mOr_app, mTest_app, mOp_app, mVar_app, List.getElem?_cons_succ, List.getElem?_cons_zero, varR_some, bd_ok, mUn_app, mC_app, uNeg_i, oIx_ref, lt, ixR_some, atI_last', atR_some, cpo_eq, s_nil, oEq_ss, decide_true, truR_bl, if_true, ev]
            exact goal
          · have hn' : ¬ sS last = sS [] := fun z => hn (sS_inj z)
            simp only [bd_nm, Bd_some, List.set_cons_succ, List.set_cons_zero, mIfS_app, mOr_app, mTest_app, mOp_app, mVar_app, List.getElem?_cons_succ, List.getElem?_cons_zero, varR_some, bd_ok, mUn_app, mC_app, uNeg_i, oIx_ref, lt, ixR_some, atI_last', atR_some, cpo_eq, s_nil, oEq_ss, decide_eq_false hn', truR_bl, Bool.false_eq_true, if_false, cpo_le, mCall_app, mCons_app, mNil_app, cLen_one, lenB_str, sS_len,
              if_pos (sz (show last.length ≤ 16777216 by omega)), if_pos (sz (show ch.length ≤ 16777216 by omega)), lenR_some, oAdd_ii, oLe_ii, decide_eq_true hb, if_true, ev]
            exact goal
      · have hn : ¬ last = [] := fun z => hb (.inl z)
        have hw : ¬ ((last.length : Int) + (ch.length : Int) ≤ w) := fun z => hb (.inr z)
        have hn' : ¬ sS last = sS [] := fun z => hn (sS_inj z)
        have x4' : cutGo w (ini ++ [last]) ch ((chunksF [] l).drop (k + 1)) = cutF w l := by rw [← x4]; simp [cutGo, hn, hw]
        have lt : lstAt h' h.length = some (ini.map sV ++ [sV last]) := mut_lst x2
        simp only [bd_nm, Bd_some, List.set_cons_succ, List.set_cons_zero, mIfS_app, mOr_app, mTest_app, mOp_app, mVar_app, List.getElem?_cons_succ, List.getElem?_cons_zero, varR_some, bd_ok, mUn_app, mC_app, uNeg_i, oIx_ref, lt, ixR_some, atI_last', atR_some, cpo_eq, s_nil, oEq_ss, decide_eq_false hn', truR_bl, Bool.false_eq_true, if_false, cpo_le, mCall_app, mCons_app, mNil_app, cLen_one, lenB_str, sS_len,
          if_pos (sz (show last.length ≤ 16777216 by omega)), if_pos (sz (show ch.length ≤ 16777216 by omega)), lenR_some, oAdd_ii, oLe_ii, decide_eq_false hw, mDrop_app, mMeth_app, isTy_mut x2, if_true,
          append_mut (sV ch) x2 (show (ini.map sV ++ [sV last]).length < 16777216 by rw [List.length_append, List.length_map, List.length_singleton]; omega), Nx_ok]
        refine ⟨_, ini ++ [last], ch, rfl, x1.set (Nat.le_refl _), ?_, lst_set_ne hne x3, x4', by omega, ?_, ?_⟩
        · rw [mut_set x2, List.map_append]; rfl
        · rw [List.length_append, List.length_singleton]; omega
        · rw [htk, List.flatten_append, List.flatten_append, ← x7]; simp
  · rintro sl h' ⟨v, ini, last, rfl, x1, x2, x3, x4, x5, x6, x7⟩
    rw [List.length_map, List.drop_length] at x4
    simp
    refine ⟨x1, ?_⟩
    rw [x2, ← x4]
    simp [cutGo]
end W

set_option Elab.async false
set_option linter.all false
set_option maxRecDepth 100000
set_option maxHeartbeats 4000000
namespace W
open PySem L2 Mr
/-! ### borders -/
def cums : Nat → List (List Nat) → List Nat
  | _, [] => []
  | s, ch :: r => (s + ch.length) :: cums (s + ch.length) r
def bordR : Nat → List Nat → List Nat
  | _, [] => []
  | p, c :: r => if c = 32 ∨ r = [] then (p + 1) :: bordR (p + 1) r else bordR (p + 1) r
theorem cums_bord : ∀ (r held : List Nat) (s : Nat), (r ≠ [] ∨ held = []) → cums s (chunksF held r) = bordR (s + held.length) r
  | [], held, s, h => by
    rcases h with h | h
    · exact absurd rfl h
    · subst h; rfl
  | c :: r, held, s, _ => by
    unfold chunksF bordR
    by_cases hc : c = 32
    · rw [if_pos hc, if_pos (.inl hc)]
      show (s + (held ++ [c]).length) :: cums (s + (held ++ [c]).length) (chunksF [] r) = _
      rw [cums_bord r [] _ (.inr rfl), List.length_append, List.length_singleton, List.length_nil]
      rfl
    · rw [if_neg hc]
      by_cases hr : r = []
      · subst hr
        rw [if_pos (.inr rfl)]
        simp [chunksF, cums, bordR]
        omega
      · rw [if_neg (by rintro (h | h); exact hc h; exact hr h), cums_bord r (held ++ [c]) s (.inl hr), List.length_append, List.length_singleton]
        rfl
def bordT (l : List Nat) (k : Nat) : Bool := decide (l[k]? = some 32) || decide (k + 1 = l.length)
theorem bord_filter (l : List Nat) : ∀ (r : List Nat) (p : Nat), l.drop p = r → p + r.length = l.length → ((List.range' p r.length).filter (bordT l)).map (· + 1) = bordR p r
  | [], p, _, _ => rfl
  | c :: r, p, h, hl => by
    have hp : p < l.length := by rw [List.length_cons] at hl; omega
    have e0 : l[p]? = some c := by
      rw [List.drop_eq_getElem_cons hp] at h
      rw [List.getElem?_eq_getElem hp, (List.cons.inj h).1]
    have h1 : l.drop (p + 1) = r := by
      rw [List.drop_eq_getElem_cons hp] at h
      exact (List.cons.inj h).2
    have ih := bord_filter l r (p + 1) h1 (by rw [List.length_cons] at hl; omega)
    rw [List.length_cons, List.range'_succ, List.filter_cons]
    have er : (p + 1 = l.length) ↔ r = [] := by
      rw [List.length_cons] at hl
      constructor
      · intro z; exact List.eq_nil_of_length_eq_zero (by omega)
      · intro z; subst z; simp at hl; omega
    unfold bordR
    by_cases hc : c = 32 ∨ r = []
    · have tb : bordT l p = true := by
        unfold bordT
        rw [e0]
        rcases hc with hc | hc
        · simp [hc]
        · simp [er.mpr hc]
      rw [if_pos tb, if_pos hc, List.map_cons, ih]
    · have tb : bordT l p = false := by
        unfold bordT
        rw [e0]
        have h1 : c ≠ 32 := fun z => hc (.inl z)
        have h2 : ¬ (p + 1 = l.length) := fun z => hc (.inr (er.mp z))
        simp [h1, h2]
      rw [tb, if_neg hc]
      simp only [Bool.false_eq_true, if_false]
      exact ih
theorem bord_eq (l : List Nat) : ((List.range l.length).filter (bordT l)).map (· + 1) = cums 0 (chunksF [] l) := by
  rw [cums_bord l [] 0 (.inr rfl), List.range_eq_range', List.length_nil, Nat.add_zero]
  exact bord_filter l l 0 rfl (Nat.zero_add _)
theorem rng_ok {i : Int} (h0 : -1000000000 ≤ i) (h1 : i ≤ 1000000000) : rngOk i = true := by
  unfold rngOk
  rw [Bool.and_eq_true]
  exact ⟨decide_eq_true (by omega), decide_eq_true (by omega)⟩
theorem rngVals0 (n : Nat) : rngVals 0 n = (List.range n).map fun (k : Nat) => Val.int (k : Int) := by
  unfold rngVals
  simp
theorem atI_nat' {α : Type} {xs : List α} {j : Nat} : L2.atI xs (j : Int) = xs[j]? := by
  cases h : xs[j]? with
  | some v => exact L2.atI_nat h
  | none =>
    unfold L2.atI ixN
    have : xs.length ≤ j := List.getElem?_eq_none_iff.mp h
    rw [if_pos (by omega), if_neg (by omega)]
    rfl
theorem len_str (l : List Nat) (sl : Sl) (i : Nat) (h : AH) (hs : sl[i]? = some (some (sV l))) (hl : l.length ≤ 100000) : mCall cLen (mCons (mVar i) mNil) sl h = .ok (.int (l.length : Int)) h := by
  simp only [mCons_app, mCall_app, mVar_app, hs, varR_some, bd_ok, mNil_app, cLen_one, lenB_str, sS_len, if_pos (sz (show l.length ≤ 16777216 by omega)), lenR_some]
theorem rng_nat (n : Nat) (h : AH) (hn : n ≤ 1000000) : rngR [.int (n : Int)] h = .ok (nRange 0 n) h := by
  rw [rngR_one, if_pos (rng_ok (i := (n : Int)) (by omega) (by omega)), Int.toNat_natCast]
theorem spec_borders (l : List Nat) (h : AH) (hl : l.length ≤ 100000) : m__law_borders [sV l] h = .ok (.ref h.length) (h ++ [.lst ((cums 0 (chunksF [] l)).map fun (k : Nat) => Val.int (k : Int))]) := by
  rw [a__law_borders]
  unfold b__law_borders
  rw [mRet_app, mLc_app, mRng1_app, mCons_app, len_str l _ 0 h rfl hl, bd_ok, mNil_app, bd_ok, bd_ok, rng_nat _ _ (by omega), bd_ok]
  rw [lc_pure (List.range l.length) (fun (k : Nat) => Val.int (k : Int)) (bordT l) (fun (k : Nat) => Val.int ((k : Int) + 1)) (by rw [List.length_range]; omega) (fun k h' _ _ => by rw [nRange_at, rngVals0]) ?_]
  · rw [bd_ok, fin_rt, ← bord_eq, List.map_map]
    congr 4
  · intro k h' hk _
    rw [List.mem_range] at hk
    have e0 : l[k]? = some l[k] := List.getElem?_eq_getElem hk
    have lb : ((k : Int) + 1 = (l.length : Int)) ↔ k + 1 = l.length := by omega
    simp only [bd_nm, Bd_some, wipeM, List.set_cons_succ, List.set_cons_zero, mOr_app, mTest_app, mOp_app, mVar_app, List.getElem?_cons_succ, List.getElem?_cons_zero, varR_some, bd_ok, mC_app, oIx_str, atI_nat', e0, sxR_some, sS_len, if_pos (sz (show l.length ≤ 16777216 by omega)), cpo_eq, s_blank, oEq_ss, truR_bl,
      oAdd_ii, mCall_app, mCons_app, mNil_app, cLen_one, lenB_str, lenR_some, oEq_ii]
    refine ⟨?_, fun _ => trivial⟩
    have es : decide ((⟨#[l[k]]⟩ : Str) = sS [32]) = decide (l[k] = 32) := by
      have : ((⟨#[l[k]]⟩ : Str) = sS [32]) ↔ l[k] = 32 := by
        constructor
        · intro z
          have z2 : sS [l[k]] = sS [32] := z
          exact (List.cons.inj (sS_inj z2)).1
        · intro z; rw [z]
      simp [this]
    rw [es]
    unfold bordT
    rw [e0]
    by_cases h1 : l[k] = 32
    · simp [h1]
    · by_cases h2 : k + 1 = l.length
      · simp [h1, h2, lb.mpr h2]
      · have h3 : ¬ ((k : Int) + 1 = (l.length : Int)) := fun z => h2 (lb.mp z)
        simp [h1, h2, h3]
/-! ### the law's pieces -/
theorem cutS_nat {l : List Nat} {b e : Nat} (h1 : b ≤ e) (h2 : e ≤ l.length) : cutS (sS l) (some (b : Int)) (some (e : Int)) = sS ((l.drop b).take (e - b)) := by
  unfold cutS
  rw [HT.sIx_nat, HT.sIx_nat, sS_len, Nat.min_eq_left h2, Nat.min_eq_left (Nat.le_trans h1 h2)]
theorem spec_lpieces (l : List Nat) (w : Int) (h : AH) (hl : l.length ≤ 100000) : RL (m__law_pieces [sV l, .int w] h) h ((cutF w l).map sV) := by
  rw [a__law_pieces]
  have fl := chunks_flat l []
  have cl := chunks_len l []
  have lb : lstAt ((h ++ [.lst [sV []]]) ++ [.lst ((cums 0 (chunksF [] l)).map fun (k : Nat) => Val.int (k : Int))]) (h ++ [AO.lst [sV []]]).length = some ((cums 0 (chunksF [] l)).map fun (k : Nat) => Val.int (k : Int)) := lst_new _ _
  have cumlen : ∀ (chs : List (List Nat)) (s : Nat), (cums s chs).length = chs.length := by
    intro chs
    induction chs with
    | nil => intro s; rfl
    | cons c r ih => intro s; simp [cums, ih]
  have cumat : ∀ (chs : List (List Nat)) (s k : Nat) (e : Nat), (cums s chs)[k]? = some e → e = s + (chs.take (k + 1)).flatten.length := by
    intro chs
    induction chs with
    | nil => intro s k e h; simp [cums] at h
    | cons c r ih =>
      intro s k e h
      cases k with
      | zero => simp [cums] at h; simp [h]
      | succ k =>
        simp [cums] at h
        have := ih _ _ _ h
        rw [this]
        simp
        omega
  simp only [b__law_pieces, mSeq_app, mPar3_app, mCons_app, mLst_app, mC_app, mNil_app, bd_ok, List.length_cons, List.length_nil, sz1, if_true, par3R_three, seqR_nx, Nat.zero_add, List.set_cons_succ, List.set_cons_zero, mFor_app, mIter_app, mCall_app, mVar_app, List.getElem?_cons_zero, varR_some, s_nil, spec_borders l _ hl, iterR_ref lb]
  generalize hdc : (h ++ [AO.lst [sV []]]).length = dc at lb
  have hdc2 : dc = h.length + 1 := by rw [← hdc, List.length_append]; rfl
  refine for_bd ((cums 0 (chunksF [] l)).map fun (k : Nat) => Val.int (k : Int)) (fun k sl h' => ∃ (v : Option Val) (ini : List (List Nat)) (cur : List Nat) (b e : Nat), sl = [some (sV l), some (.int w), v, some (.ref h.length), some (.int (b : Int)), some (.int (e : Int))] ∧ Xt h h' ∧ mutAt h' h.length = some (ini.map sV ++ [sV cur]) ∧
      lstAt h' dc = some ((cums 0 (chunksF [] l)).map fun (k : Nat) => Val.int (k : Int)) ∧ cutGo w ini cur ((chunksF [] l).drop k) = cutF w l ∧ ini.length ≤ k ∧ ini.flatten ++ cur = ((chunksF [] l).take k).flatten ∧ b = ini.flatten.length ∧ e = b + cur.length)
    (fun r => RL (fin r) h _) ⟨none, [], [], 0, 0, rfl, (Xt.new h _).trans (Xt.new _ _), xt_mut (Xt.new _ _), by rw [← hdc]; exact lst_new _ _, rfl, Nat.le_refl _, rfl, rfl, rfl⟩ (by rw [List.length_map, cumlen]; omega) (fun k sl h' _ ⟨_, _, _, _, _, _, _, _, z, _⟩ => nList_at k z) ?_ ?_
  · rintro k x sl h' hx ⟨v, ini, cur, b, e, rfl, x1, x2, x3, x4, x5, x6, x7, x8⟩
    rw [List.getElem?_map] at hx
    cases hq : (cums 0 (chunksF [] l))[k]? with
    | none => rw [hq] at hx; cases hx
    | some en =>
      rw [hq] at hx
      cases hx
      have hen := cumat _ _ _ _ hq
      have hk : k < (chunksF [] l).length := by
        have := (List.getElem?_eq_some_iff.mp hq).1
        rwa [cumlen] at this
      obtain ⟨ch, hch⟩ : ∃ ch, (chunksF [] l)[k]? = some ch := ⟨_, List.getElem?_eq_getElem hk⟩
      have hdr : (chunksF [] l).drop k = ch :: (chunksF [] l).drop (k + 1) := by
        rw [List.drop_eq_getElem_cons hk]
        rw [List.getElem?_eq_getElem hk] at hch
        rw [Option.some.inj hch]
      have htk : (chunksF [] l).take (k + 1) = (chunksF [] l).take k ++ [ch] := by rw [List.take_add_one, hch]; rfl
      have hchne : ch ≠ [] := chunks_ne l [] ch (List.mem_of_getElem? hch)
      have hl2 : l = ini.flatten ++ (cur ++ (ch ++ ((chunksF [] l).drop (k + 1)).flatten)) := by
        have : (chunksF [] l).flatten = l := by rw [fl]; rfl
        rw [← List.take_append_drop (k + 1) (chunksF [] l), List.flatten_append, htk, List.flatten_append, ← x6] at this
        conv => lhs; rw [← this]
        simp
      have hen2 : en = e + ch.length := by
        rw [hen, htk, List.flatten_append, ← x6, x8, x7]
        simp
        omega
      have hle : en ≤ l.length := by
        rw [hl2, hen2, x8, x7]
        simp only [List.length_append]
        omega
      rw [hdr] at x4
      have hne : dc ≠ h.length := by omega
      have lt : lstAt h' h.length = some (ini.map sV ++ [sV cur]) := mut_lst x2
      by_cases hb : cur = [] ∨ ((cur.length : Int) + (ch.length : Int) ≤ w)
      · -- no new piece
        have x4' : cutGo w ini (cur ++ ch) ((chunksF [] l).drop (k + 1)) = cutF w l := by rw [← x4]; simp [cutGo, hb]
        have cond : ((decide ((b : Int) < (e : Int))) && decide (w < (en : Int) - (b : Int))) = false := by
          rw [Bool.and_eq_false_iff]
          rcases hb with hb | hb
          · left; rw [decide_eq_false]; rw [x8, hb]; simp
          · right; rw [decide_eq_false]; rw [hen2, x8]; omega
        have sl1 : cutS (sS l) (some (b : Int)) (some (en : Int)) = sS (cur ++ ch) := by
          rw [cutS_nat (by omega) hle]
          congr 2
          have hlen : en - b = (cur ++ ch).length := by rw [List.length_append]; omega
          rw [hlen, x7]
          conv => lhs; rw [hl2]
          rw [List.drop_left, ← List.append_assoc, List.take_left]
        have si : ixN (ini.map sV ++ [sV cur]).length (-1) = some ini.length := by
          rw [List.length_append, List.length_map, List.length_singleton]; exact ixN_last _
        have se : (ini.map sV ++ [sV cur]).set ini.length (sV (cur ++ ch)) = ini.map sV ++ [sV (cur ++ ch)] := by
          have := set_last (ini.map sV) (sV cur) (sV (cur ++ ch))
          rwa [List.length_map] at this
        have cond2 : Res.bd (Res.ok (decide ((b : Int) < (e : Int))) h') (fun c h1 => if c = true then Res.ok (decide (w < (en : Int) - (b : Int))) h1 else Res.ok false h1) = Res.ok false h' := by
          rw [bd_ok]
          by_cases hq : (b : Int) < (e : Int)
          · rw [decide_eq_true hq, if_pos rfl]
            rw [decide_eq_true hq, Bool.true_and] at cond
            rw [cond]
          · rw [decide_eq_false hq, if_neg (by decide)]
        simp only [bd_nm, Bd_some, List.set_cons_succ, List.set_cons_zero, mSeq_app, mIfS_app, mAnd_app, mTest_app, mOp_app, mVar_app, List.getElem?_cons_succ, List.getElem?_cons_zero, varR_some, bd_ok, cpo_gt, oGt_ii, truR_bl, oSub_ii]
        simp only [bd_ok] at cond2
        rw [cond2]
        simp only [bd_ok, Bool.false_eq_true, if_false, mNext_app, seqR_nx, mSub_app, mSl_app, mPart_app, mVar_app, List.getElem?_cons_succ, List.getElem?_cons_zero, varR_some, partR_int, oSl_str, sS_len, if_pos (sz (show l.length ≤ 16777216 by omega)), sl1, mUn_app, mC_app, uNeg_i, stL_ref, x2, stR_some, si, se, mSet_app, List.set_cons_succ, List.set_cons_zero, mSeq_app, Nx_ok]
        refine ⟨_, ini, cur ++ ch, b, en, rfl, x1.set (Nat.le_refl _), mut_set x2, lst_set_ne hne x3, x4', by omega, ?_, x7, ?_⟩
        · rw [htk, List.flatten_append, ← x6]; simp
        · rw [List.length_append]; omega
      · have hn : ¬ cur = [] := fun z => hb (.inl z)
        have hw : ¬ ((cur.length : Int) + (ch.length : Int) ≤ w) := fun z => hb (.inr z)
        have hcl : 0 < cur.length := List.length_pos_iff.mpr hn
        have x4' : cutGo w (ini ++ [cur]) ch ((chunksF [] l).drop (k + 1)) = cutF w l := by rw [← x4]; simp [cutGo, hn, hw]
        have c1 : decide ((b : Int) < (e : Int)) = true := decide_eq_true (by omega)
        have c2 : decide (w < (en : Int) - (b : Int)) = true := decide_eq_true (by omega)
        have sl1 : cutS (sS l) (some (e : Int)) (some (en : Int)) = sS ch := by
          rw [cutS_nat (by omega) hle]
          congr 2
          have hlen : en - e = ch.length := by omega
          have hee : e = (ini.flatten ++ cur).length := by rw [List.length_append]; omega
          rw [hlen, hee]
          conv => lhs; rw [hl2]
          rw [← List.append_assoc, List.drop_left, List.take_left]
        have m2 : mutAt (h'.set h.length (.lst (ini.map sV ++ [sV cur] ++ [sV []]))) h.length = some (ini.map sV ++ [sV cur] ++ [sV []]) := mut_set x2
        have si : ixN (ini.map sV ++ [sV cur] ++ [sV []]).length (-1) = some (ini.length + 1) := by
          rw [List.length_append, List.length_append, List.length_map, List.length_singleton, List.length_singleton]; exact ixN_last _
        have se : (ini.map sV ++ [sV cur] ++ [sV []]).set (ini.length + 1) (sV ch) = ini.map sV ++ [sV cur] ++ [sV ch] := by
          have := set_last (ini.map sV ++ [sV cur]) (sV []) (sV ch)
          rwa [List.length_append, List.length_map, List.length_singleton] at this
        simp only [bd_nm, Bd_some, List.set_cons_succ, List.set_cons_zero, mSeq_app, mIfS_app, mAnd_app, mTest_app, mOp_app, mVar_app, List.getElem?_cons_succ, List.getElem?_cons_zero, varR_some, bd_ok, cpo_gt, oGt_ii, truR_bl, oSub_ii, c1, c2, if_true, mDrop_app, mMeth_app, isTy_mut x2, mCons_app, mC_app, mNil_app, s_nil,
          append_mut (sV []) x2 (show (ini.map sV ++ [sV cur]).length < 16777216 by rw [List.length_append, List.length_map, List.length_singleton]; omega), seqR_nx, mSet_app, mSub_app, mSl_app, mPart_app, partR_int, oSl_str, sS_len, if_pos (sz (show l.length ≤ 16777216 by omega)), sl1, mUn_app, uNeg_i, stL_ref, m2, stR_some, si, se, Nx_ok]
        refine ⟨_, ini ++ [cur], ch, e, en, rfl, (x1.set (Nat.le_refl _)).set (Nat.le_refl _), ?_, lst_set_ne hne (lst_set_ne hne x3), x4', ?_, ?_, ?_, by omega⟩
        · rw [mut_set m2, List.map_append]; rfl
        · rw [List.length_append, List.length_singleton]; omega
        · rw [htk, List.flatten_append, List.flatten_append, ← x6]; simp
        · rw [x8, x7]; simp
  · rintro sl h' ⟨v, ini, cur, b, e, rfl, x1, x2, x3, x4, x5, x6, x7, x8⟩
    rw [List.length_map, cumlen, List.drop_length] at x4
    simp
    refine ⟨x1, ?_⟩
    rw [x2, ← x4]
    simp [cutGo]
end W

set_option Elab.async false
set_option linter.all false
set_option maxRecDepth 100000
set_option maxHeartbeats 4000000
namespace W
open PySem L2 Mr
/-! ### data -/
theorem dat_int (h : AH) (n : Nat) (i : Int) : dat h (n + 1) (.int i) = some (.int i) := by rw [dat]
theorem dat_str (h : AH) (n : Nat) (x : Str) (hx : PyData.strOk x = true) : dat h (n + 1) (.str x) = some (.str x) := by rw [dat, if_pos hx]
theorem datL_nil (h : AH) (n : Nat) : datL h n [] = some [] := by rw [datL]
theorem datL_cons {h : AH} {n : Nat} {x : Val} {xs : List Val} {d : PyData} {ds : List PyData} (e1 : dat h n x = some d) (e2 : datL h n xs = some ds) : datL h n (x :: xs) = some (d :: ds) := by
  rw [datL, e1]; dsimp only; rw [e2]; rfl
theorem dat_tup {h : AH} {n : Nat} {xs : List Val} {ds : List PyData} (e : datL h n xs = some ds) : dat h (n + 1) (.tup xs) = some (.tuple ds) := by rw [dat, e]; rfl
/-- every item is plain data -/
def Plain (n : Nat) (v : Val) : Prop := ∃ d, ∀ h, dat h n v = some d
theorem datL_plain {n : Nat} {xs : List Val} (hp : ∀ v ∈ xs, Plain n v) : ∃ ds, ∀ h, datL h n xs = some ds := by
  induction xs with
  | nil => exact ⟨[], fun h => datL_nil h n⟩
  | cons x xs ih =>
    obtain ⟨d, e1⟩ := hp x List.mem_cons_self
    obtain ⟨ds, e2⟩ := ih fun v hv => hp v (List.mem_cons_of_mem _ hv)
    exact ⟨d :: ds, fun h => datL_cons (e1 h) (e2 h)⟩
mutual
theorem eqv_self : ∀ d : PyData, d.canLay0 = true → PyData.eqv d d = true
  | .none, _ => by simp [PyData.eqv]
  | .bool b, _ => by simp [PyData.eqv]
  | .int i, _ => by simp [PyData.eqv]
  | .str x, _ => by simp [PyData.eqv]
  | .list xs, h => by
    rw [PyData.eqv]
    exact eqvAll_self xs (by simpa [PyData.canLay0] using h)
  | .tuple xs, h => by
    rw [PyData.eqv]
    exact eqvAll_self xs (by simpa [PyData.canLay0] using h)
  | .dict _, h => by simp [PyData.canLay0] at h
theorem eqvAll_self : ∀ ds : List PyData, PyData.canLayAll0 ds = true → PyData.eqvAll ds ds = true
  | [], _ => by simp [PyData.eqvAll]
  | d :: ds, h => by
    simp only [PyData.canLayAll0, Bool.and_eq_true] at h
    rw [PyData.eqvAll, eqv_self d h.1, eqvAll_self ds h.2]
    rfl
end
mutual
theorem dat_lay (h : AH) : ∀ (n : Nat) (v : Val) (d : PyData), dat h n v = some d → d.canLay0 = true
  | 0, v, d, e => by rw [dat] at e; cases e
  | n + 1, .non, d, e => by rw [dat] at e; cases e; simp [PyData.canLay0]
  | n + 1, .bl b, d, e => by rw [dat] at e; cases e; simp [PyData.canLay0]
  | n + 1, .int i, d, e => by rw [dat] at e; cases e; simp [PyData.canLay0]
  | n + 1, .str x, d, e => by
    rw [dat] at e
    split at e
    · rename_i hs
      cases e
      simp [PyData.canLay0, hs]
    · cases e
  | n + 1, .tup xs, d, e => by
    rw [dat] at e
    cases q : datL h n xs with
    | none => rw [q] at e; cases e
    | some ds => rw [q] at e; cases e; simp [PyData.canLay0, datL_lay h n xs ds q]
  | n + 1, .ref i, d, e => by
    rw [dat] at e
    cases q1 : lstAt h i with
    | none => rw [q1] at e; cases e
    | some xs =>
      rw [q1] at e
      dsimp only at e
      cases q : datL h n xs with
      | none => rw [q] at e; cases e
      | some ds => rw [q] at e; cases e; simp [PyData.canLay0, datL_lay h n xs ds q]
termination_by n v => (n, 0)
theorem datL_lay (h : AH) : ∀ (n : Nat) (xs : List Val) (ds : List PyData), datL h n xs = some ds → PyData.canLayAll0 ds = true
  | n, [], ds, e => by rw [datL] at e; cases e; simp [PyData.canLayAll0]
  | n, x :: xs, ds, e => by
    rw [datL] at e
    cases q1 : dat h n x with
    | none => rw [q1] at e; cases e
    | some d =>
      rw [q1] at e
      dsimp only at e
      cases q2 : datL h n xs with
      | none => rw [q2] at e; cases e
      | some es =>
        rw [q2] at e
        cases e
        simp [PyData.canLayAll0, dat_lay h n x d q1, datL_lay h n xs es q2]
termination_by n xs => (n, xs.length + 1)
end
theorem eqB_refs {h : AH} {a b : Nat} {xs : List Val} (e1 : lstAt h a = some xs) (e2 : lstAt h b = some xs) (hp : ∀ v ∈ xs, Plain 29 v) : eqB (.ref a) (.ref b) h = some true := by
  obtain ⟨ds, e⟩ := datL_plain hp
  have d1 : ∀ c, lstAt h c = some xs → dat h 30 (.ref c) = some (.list ds) := fun c ec => by
    rw [dat, ec]; dsimp only; rw [e h]; rfl
  unfold eqB
  show (match dat h 30 (.ref a), dat h 30 (.ref b) with
    | some d, some e => some (PyData.eqv d e)
    | _, _ => none) = some true
  rw [d1 a e1, d1 b e2]
  dsimp only
  rw [PyData.eqv, eqvAll_self ds (datL_lay h 29 xs ds (e h))]
theorem oEq_refs {h : AH} {a b : Nat} {xs : List Val} (e1 : lstAt h a = some xs) (e2 : lstAt h b = some xs) (hp : ∀ v ∈ xs, Plain 29 v) : oEq (.ref a) (.ref b) h = .ok (.bl true) h := by
  unfold oEq; rw [eqB_refs e1 e2 hp]
theorem oNe_refs {h : AH} {a b : Nat} {xs : List Val} (e1 : lstAt h a = some xs) (e2 : lstAt h b = some xs) (hp : ∀ v ∈ xs, Plain 29 v) : oNe (.ref a) (.ref b) h = .ok (.bl false) h := by
  unfold oNe; rw [eqB_refs e1 e2 hp]; rfl
theorem eqB_tups {h : AH} {xs : List Val} (hp : ∀ v ∈ xs, Plain 29 v) : eqB (.tup xs) (.tup xs) h = some true := by
  obtain ⟨ds, e⟩ := datL_plain hp
  unfold eqB
  show (match dat h 30 (.tup xs), dat h 30 (.tup xs) with
    | some d, some e => some (PyData.eqv d e)
    | _, _ => none) = some true
  rw [dat_tup (e h)]
  dsimp only
  rw [PyData.eqv, eqvAll_self ds (datL_lay h 29 xs ds (e h))]
theorem plain_int (n : Nat) (i : Int) : Plain (n + 1) (.int i) := ⟨_, fun h => dat_int h n i⟩
theorem plain_str (n : Nat) (x : Str) (hx : PyData.strOk x = true) : Plain (n + 1) (.str x) := ⟨_, fun h => dat_str h n x hx⟩
theorem plain_tup {n : Nat} {xs : List Val} (hp : ∀ v ∈ xs, Plain n v) : Plain (n + 1) (.tup xs) := by
  obtain ⟨ds, e⟩ := datL_plain hp
  exact ⟨_, fun h => dat_tup (e h)⟩
/-! ### the signs of a line -/
def okc (c : Nat) : Prop := c = 32 ∨ (97 ≤ c ∧ c ≤ 122)
def okl (l : List Nat) : Prop := ∀ c ∈ l, okc c
theorem strOk_okl {l : List Nat} (h : okl l) : PyData.strOk (sS l) = true := by
  unfold PyData.strOk
  rw [List.all_toArray] <;> try rfl
  rw [List.all_eq_true]
  intro c hc
  rcases h c hc with e | e
  · simp [e]
  · simp; omega
theorem signs_line : ∀ c : Nat, c < 123 → (c = 32 ∨ (97 ≤ c ∧ c ≤ 122)) → c ∈ (((" abcdefghijklmnopqrstuvwxyz" : String) : Str)).cps.toList := by decide +kernel
theorem signs_text : ∀ c : Nat, c < 123 → (c = 10 ∨ c = 32 ∨ (97 ≤ c ∧ c ≤ 122)) → c ∈ ((("abcdefghijklmnopqrstuvwxyz \n" : String) : Str)).cps.toList := by decide +kernel
theorem oNotIn_sign (c : Nat) (z : Str) (h : AH) : oNotIn (sV [c]) (.str z) h = .ok (.bl (!decide (c ∈ z.cps.toList))) h := rfl
theorem spec_is_line (l : List Nat) (h : AH) (hl : l.length ≤ 100000) (ho : okl l) : RS (m_is_line [sV l] h) h (.bl true) := by
  rw [a_is_line]
  unfold b_is_line
  rw [mRet_app, mAndV_app, mIsi_app, mVar_app]
  simp only [List.getElem?_cons_zero, varR_some, bd_ok, tyName_str, tyR_some, kit_ss, kitR_some, andR_bl, if_true, mOp_app, mLc_app, mIter_app, mVar_app, iterR_str]
  rw [lc_pure l (fun c => sV [c]) (fun _ => false) (fun c => sV [c]) (by omega) (fun k h' _ _ => by rw [nStr_at, strVals_sS]) ?_]
  · have e1 : lstAt ((h ++ [.lst []]) ++ [.lst []]) h.length = some [] := (Xt.new _ _).lst (lst_new h [])
    have e2 : lstAt ((h ++ [.lst []]) ++ [.lst []]) (h ++ [AO.lst []]).length = some [] := lst_new _ []
    have ef : (l.filter fun _ => false) = [] := by simp
    simp only [ef, List.map_nil, bd_ok, mLst_app, mNil_app, List.length_nil, sz0, if_true, cpo_eq, oEq_refs e1 e2 (fun v hv => by cases hv), fin_rt]
    exact ⟨rfl, (Xt.new _ _).trans (Xt.new _ _)⟩
  · intro c h' hc _
    have hm : c ∈ (((" abcdefghijklmnopqrstuvwxyz" : String) : Str)).cps.toList := by
      have := ho c hc
      refine signs_line c ?_ this
      rcases this with e | e <;> omega
    simp only [bd_nm, Bd_some, wipeM, List.set_cons_succ, List.set_cons_zero, mTest_app, mOp_app, mVar_app, List.getElem?_cons_succ, List.getElem?_cons_zero, varR_some, bd_ok, mC_app, cpo_notin, oNotIn_sign, decide_eq_true hm, Bool.not_true, truR_bl]
    first | exact ⟨rfl, fun z => absurd z (by decide)⟩ | exact ⟨trivial, fun z => absurd z (by decide)⟩ | simp
theorem spec_is_text (l : List Nat) (h : AH) (hl : l.length ≤ 100000) (ho : ∀ c ∈ l, c = 10 ∨ okc c) : RS (m_is_text [sV l] h) h (.bl true) := by
  rw [a_is_text]
  unfold b_is_text
  rw [mRet_app, mAndV_app, mIsi_app, mVar_app]
  simp only [List.getElem?_cons_zero, varR_some, bd_ok, tyName_str, tyR_some, kit_ss, kitR_some, andR_bl, if_true, mOp_app, mLc_app, mIter_app, mVar_app, iterR_str]
  rw [lc_pure l (fun c => sV [c]) (fun _ => false) (fun c => sV [c]) (by omega) (fun k h' _ _ => by rw [nStr_at, strVals_sS]) ?_]
  · have e1 : lstAt ((h ++ [.lst []]) ++ [.lst []]) h.length = some [] := (Xt.new _ _).lst (lst_new h [])
    have e2 : lstAt ((h ++ [.lst []]) ++ [.lst []]) (h ++ [AO.lst []]).length = some [] := lst_new _ []
    have ef : (l.filter fun _ => false) = [] := by simp
    simp only [ef, List.map_nil, bd_ok, mLst_app, mNil_app, List.length_nil, sz0, if_true, cpo_eq, oEq_refs e1 e2 (fun v hv => by cases hv), fin_rt]
    exact ⟨rfl, (Xt.new _ _).trans (Xt.new _ _)⟩
  · intro c h' hc _
    have hm : c ∈ ((("abcdefghijklmnopqrstuvwxyz \n" : String) : Str)).cps.toList := by
      have := ho c hc
      refine signs_text c ?_ this
      rcases this with e | e | e <;> omega
    simp only [bd_nm, Bd_some, wipeM, List.set_cons_succ, List.set_cons_zero, mTest_app, mOp_app, mVar_app, List.getElem?_cons_succ, List.getElem?_cons_zero, varR_some, bd_ok, mC_app, cpo_notin, oNotIn_sign, decide_eq_true hm, Bool.not_true, truR_bl]
    first | exact ⟨rfl, fun z => absurd z (by decide)⟩ | exact ⟨trivial, fun z => absurd z (by decide)⟩ | simp
theorem spec_check_line (l : List Nat) (h : AH) (hl : l.length ≤ 100000) (ho : okl l) : RS (m_check_line [sV l] h) h .non := by
  obtain ⟨h', e, x⟩ := (spec_is_line l h hl ho).ex
  rw [a_check_line]
  simp only [b_check_line, mIfS_app, mNot_app, mTest_app, mCall_app, mCons_app, mVar_app, List.getElem?_cons_zero, varR_some, bd_ok, mNil_app, e, truR_bl, Bool.not_true, Bool.false_eq_true, if_false, mNext_app, fin_nx]
  exact ⟨rfl, x⟩
theorem spec_check_text (l : List Nat) (h : AH) (hl : l.length ≤ 100000) (ho : ∀ c ∈ l, c = 10 ∨ okc c) : RS (m_check_text [sV l] h) h .non := by
  obtain ⟨h', e, x⟩ := (spec_is_text l h hl ho).ex
  rw [a_check_text]
  simp only [b_check_text, mIfS_app, mNot_app, mTest_app, mCall_app, mCons_app, mVar_app, List.getElem?_cons_zero, varR_some, bd_ok, mNil_app, e, truR_bl, Bool.not_true, Bool.false_eq_true, if_false, mNext_app, fin_nx]
  exact ⟨rfl, x⟩
theorem is_whole_int (i : Int) (h : AH) : m_is_whole [.int i] h = .ok (.bl true) h := by
  rw [a_is_whole]
  simp [b_is_whole]
theorem check_least_ok (i j : Int) (h : AH) (hij : j ≤ i) : m_check_least [.int i, .int j] h = .ok .non h := by
  rw [a_check_least]
  have hn : ¬ i < j := by omega
  simp [b_check_least, is_whole_int, hn]
theorem check_within_ok (i a b : Int) (h : AH) (h1 : a ≤ i) (h2 : i ≤ b) : m_check_within [.int i, .int a, .int b] h = .ok .non h := by
  rw [a_check_within]
  simp [b_check_within, is_whole_int, h1, h2]
theorem spec_pieces (l : List Nat) (w : Int) (h : AH) (hl : l.length ≤ 100000) (ho : okl l) (hw : 1 ≤ w) : RL (m_pieces [sV l, .int w] h) h ((cutF w l).map sV) := by
  obtain ⟨h1, e1, x1⟩ := (spec_check_line l h hl ho).ex
  obtain ⟨d, h2, e2, x2, l2, m2⟩ := (spec_cut l w h1 hl).ex
  rw [a_pieces]
  simp only [b_pieces, mSeq_app, mDrop_app, mCall_app, mCons_app, mVar_app, List.getElem?_cons_zero, List.getElem?_cons_succ, varR_some, bd_ok, mNil_app, e1, seqR_nx, mC_app, check_least_ok w 1 h1 hw, mRet_app, e2, fin_rt]
  exact ⟨x1.trans x2, Nat.le_trans x1.len l2, m2⟩
end W

set_option Elab.async false
set_option linter.all false
set_option maxRecDepth 100000
set_option maxHeartbeats 4000000
namespace W
open PySem L2 Mr
/-! ### the text and its lines -/
abbrev jn (ls : List (List Nat)) : List Nat := TL.joinL [10] ls
theorem jn_len : ∀ {ls : List (List Nat)}, ls ≠ [] → (jn ls).length + 1 = (ls.map fun l => l.length + 1).sum
  | [], h => absurd rfl h
  | [l], _ => by simp [jn, TL.joinL]
  | l :: m :: r, _ => by
    have ih := jn_len (ls := m :: r) (by simp)
    show (l ++ ([10] ++ TL.joinL [10] (m :: r))).length + 1 = _
    rw [List.map_cons, List.sum_cons, ← ih]
    simp only [List.length_append, List.length_singleton, jn]
    omega
theorem map_sS_tl (ls : List (List Nat)) : (ls.map sS).map TL.tl = ls := by
  rw [List.map_map]
  conv => rhs; rw [← List.map_id ls]
  exact List.map_congr_left fun l _ => rfl
theorem jn_str (ls : List (List Nat)) : Txt.join (sS [10]) (ls.map sS) = sS (jn ls) := TL.ext_tl (by
  rw [TL.join_eq, TL.tl_join, map_sS_tl])
theorem split_jn {ls : List (List Nat)} (hne : ls ≠ []) (h10 : ∀ l ∈ ls, 10 ∉ l) : Txt.split (sS (jn ls)) (sS [10]) = ls.map sS := by
  rw [← jn_str]
  refine TL.split_join (s := 10) (S := []) rfl (by decide +kernel) (fun e => hne (List.map_eq_nil_iff.mp e)) fun p hp => ?_
  obtain ⟨l, hl, rfl⟩ := List.mem_map.mp hp
  exact h10 l hl
structure TxOk (ls : List (List Nat)) : Prop where
  ne : ls ≠ []
  ok : ∀ l ∈ ls, okl l
  sm : (jn ls).length ≤ 10000
theorem okl_ten {l : List Nat} (h : okl l) : 10 ∉ l := fun hm => by
  rcases h 10 hm with e | e
  · cases e
  · omega
theorem TxOk.mem_len {ls : List (List Nat)} (t : TxOk ls) {l : List Nat} (hl : l ∈ ls) : l.length ≤ 10000 := by
  have h1 := jn_len t.ne
  have h2 := t.sm
  have h3 : l.length + 1 ≤ (ls.map fun l => l.length + 1).sum := by
    clear h1 h2 t
    induction ls with
    | nil => cases hl
    | cons m r ih =>
      rw [List.map_cons, List.sum_cons]
      rcases List.mem_cons.mp hl with e | e
      · rw [e]; omega
      · have := ih e; omega
  omega
theorem TxOk.lines_len {ls : List (List Nat)} (t : TxOk ls) : ls.length ≤ 10001 := by
  have h1 := jn_len t.ne
  have h2 := t.sm
  have h3 : ls.length ≤ (ls.map fun l => l.length + 1).sum := by
    clear h1 h2 t
    induction ls with
    | nil => exact Nat.zero_le _
    | cons m r ih => rw [List.map_cons, List.sum_cons, List.length_cons]; omega
  omega
theorem split_tx {ls : List (List Nat)} (t : TxOk ls) (h : AH) : fSplit (sV (jn ls)) [.str "\n"] h = .ok (.ref h.length) (h ++ [.lst (ls.map sV)]) := by
  unfold fSplit
  dsimp only
  have h2 := t.sm
  have hl : Mr.sizeOk ((sS (jn ls)).length + 2) = true := sz (by rw [sS_len]; omega)
  rw [hl, s_nl, split_jn t.ne fun l hl => okl_ten (t.ok l hl)]
  show Res.ok _ _ = _
  rw [List.map_map]
  rfl
theorem meth_split {ls : List (List Nat)} (t : TxOk ls) (h : AH) (sl : Sl) (i : Nat) (hs : sl[i]? = some (some (sV (jn ls)))) : mMeth "str" fSplit (mVar i) (mCons (mC (.str "\n")) mNil) sl h = .ok (.ref h.length) (h ++ [.lst (ls.map sV)]) := by
  rw [mMeth_app, mVar_app, hs, varR_some, bd_ok]
  simp only [isTy_str, beq_self_eq_true, if_true, mCons_app, mC_app, bd_ok, mNil_app, split_tx t]
/-! ### rows -/
abbrev Rw := Nat × Nat × List Nat
def rV (r : Rw) : Val := .tup [.int (r.1 : Int), .int (r.2.1 : Int), sV r.2.2]
def rowsP (i : Nat) : Nat → List (List Nat) → List Rw
  | _, [] => []
  | s, p :: r => (i, s, p) :: rowsP i (s + p.length) r
def rowsA (w : Int) : Nat → List (List Nat) → List Rw
  | _, [] => []
  | i, l :: r => rowsP i 0 (cutF w l) ++ rowsA w (i + 1) r
theorem rowsP_snoc (i : Nat) (p : List Nat) : ∀ (ps : List (List Nat)) (s : Nat), rowsP i s (ps ++ [p]) = rowsP i s ps ++ [(i, s + ps.flatten.length, p)]
  | [], s => by simp [rowsP]
  | q :: r, s => by
    show (i, s, q) :: rowsP i (s + q.length) (r ++ [p]) = _
    rw [rowsP_snoc i p r]
    simp [rowsP]
    omega
theorem rowsA_snoc (w : Int) (l : List Nat) : ∀ (ls : List (List Nat)) (i : Nat), rowsA w i (ls ++ [l]) = rowsA w i ls ++ rowsP (i + ls.length) 0 (cutF w l)
  | [], i => by simp [rowsA]
  | q :: r, i => by
    show rowsP i 0 (cutF w q) ++ rowsA w (i + 1) (r ++ [l]) = _
    rw [rowsA_snoc w l r]
    simp [rowsA]
    rw [show i + 1 + r.length = i + (r.length + 1) by omega]
theorem rowsP_len (i : Nat) : ∀ (ps : List (List Nat)) (s : Nat), (rowsP i s ps).length = ps.length
  | [], s => rfl
  | p :: r, s => by show (rowsP i (s + p.length) r).length + 1 = _; rw [rowsP_len i r]; rfl
theorem cutGo_len (w : Int) : ∀ (cs ini : List (List Nat)) (last : List Nat), (cutGo w ini last cs).length ≤ ini.length + 1 + cs.length
  | [], ini, last => by simp [cutGo]
  | c :: r, ini, last => by
    unfold cutGo
    split
    · have := cutGo_len w r ini (last ++ c)
      rw [List.length_cons]; omega
    · have := cutGo_len w r (ini ++ [last]) c
      rw [List.length_append, List.length_singleton] at this
      rw [List.length_cons]; omega
theorem cut_len (w : Int) (l : List Nat) : (cutF w l).length ≤ l.length + 2 := by
  have := cutGo_len w (chunksF [] l) [] []
  have := chunks_len l []
  unfold cutF
  simp only [List.length_nil] at *
  omega
theorem cutGo_flat (w : Int) : ∀ (cs ini : List (List Nat)) (last : List Nat), (cutGo w ini last cs).flatten = ini.flatten ++ last ++ cs.flatten
  | [], ini, last => by simp [cutGo]
  | c :: r, ini, last => by
    unfold cutGo
    split
    · rw [cutGo_flat w r]; simp
    · rw [cutGo_flat w r]; simp
theorem cut_flat (w : Int) (l : List Nat) : (cutF w l).flatten = l := by
  unfold cutF
  rw [cutGo_flat, chunks_flat]
  simp
theorem cutGo_ne (w : Int) : ∀ (cs ini : List (List Nat)) (last : List Nat), (∀ c ∈ cs, c ≠ []) → (∀ c ∈ ini, c ≠ []) → (last ≠ [] ∨ cs ≠ []) → ∀ p ∈ cutGo w ini last cs, p ≠ []
  | [], ini, last, _, h2, h3, p, hp => by
    rcases h3 with h3 | h3
    · rcases List.mem_append.mp hp with e | e
      · exact h2 p e
      · rw [List.mem_singleton.mp e]; exact h3
    · exact absurd rfl h3
  | c :: r, ini, last, h1, h2, h3, p, hp => by
    have hc := h1 c List.mem_cons_self
    have hr : ∀ x ∈ r, x ≠ [] := fun x hx => h1 x (List.mem_cons_of_mem _ hx)
    unfold cutGo at hp
    split at hp
    · exact cutGo_ne w r ini (last ++ c) hr h2 (.inl fun z => hc (List.append_eq_nil_iff.mp z).2) p hp
    · rename_i hn
      refine cutGo_ne w r (ini ++ [last]) c hr (fun x hx => ?_) (.inl hc) p hp
      rcases List.mem_append.mp hx with e | e
      · exact h2 x e
      · rw [List.mem_singleton.mp e]; exact fun z => hn (.inl z)
theorem cut_ne {w : Int} {l : List Nat} (hl : l ≠ []) : ∀ p ∈ cutF w l, p ≠ [] := by
  refine cutGo_ne w (chunksF [] l) [] [] (chunks_ne l []) (fun _ h => by cases h) (.inr fun z => ?_)
  have := chunks_flat l []
  rw [z] at this
  exact hl (by simpa using this.symm)
theorem cut_nil (w : Int) : cutF w [] = [[]] := by simp [cutF, chunksF, cutGo]
theorem cut_pos (w : Int) (l : List Nat) : cutF w l ≠ [] := by
  by_cases hl : l = []
  · rw [hl, cut_nil]; simp
  · intro z
    have := cut_flat w l
    rw [z] at this
    exact hl this.symm
theorem rowsA_len (w : Int) : ∀ (ls : List (List Nat)) (i : Nat), (rowsA w i ls).length ≤ (ls.map fun l => l.length + 2).sum
  | [], i => Nat.le_refl _
  | l :: r, i => by
    have h1 := rowsA_len w r (i + 1)
    have h2 := cut_len w l
    show (rowsP i 0 (cutF w l) ++ rowsA w (i + 1) r).length ≤ _
    rw [List.length_append, rowsP_len, List.map_cons, List.sum_cons]
    omega
theorem TxOk.sum2 {ls : List (List Nat)} (t : TxOk ls) : (ls.map fun l => l.length + 2).sum ≤ 30000 := by
  have h1 := jn_len t.ne
  have h2 := t.sm
  have h4 := t.lines_len
  have h3 : (ls.map fun l => l.length + 2).sum = (ls.map fun l => l.length + 1).sum + ls.length := by
    clear h1 h2 h4 t
    induction ls with
    | nil => rfl
    | cons m r ih => rw [List.map_cons, List.sum_cons, List.map_cons, List.sum_cons, ih, List.length_cons]; omega
  omega
theorem sum_take (ls : List (List Nat)) (k : Nat) : ((ls.take k).map fun l => l.length + 2).sum ≤ (ls.map fun l => l.length + 2).sum := by
  induction ls generalizing k with
  | nil => simp
  | cons m r ih =>
    cases k with
    | zero => simp
    | succ k =>
      have := ih k
      rw [List.take_succ_cons, List.map_cons, List.sum_cons, List.map_cons, List.sum_cons]
      omega
theorem rows_take_len {ls : List (List Nat)} (t : TxOk ls) (w : Int) (k : Nat) : (rowsA w 0 (ls.take k)).length ≤ 30000 := by
  have h1 := rowsA_len w (ls.take k) 0
  have h2 := sum_take ls k
  have h3 := t.sum2
  omega
theorem enum_at {xs : List Val} {k : Nat} {x : Val} (h : (enumVals xs)[k]? = some x) : ∃ v, xs[k]? = some v ∧ x = .tup [.int (k : Int), v] := by
  unfold enumVals at h
  rw [List.getElem?_map, List.getElem?_zipIdx] at h
  cases q : xs[k]? with
  | none => rw [q] at h; cases h
  | some v =>
    rw [q] at h
    cases h
    exact ⟨v, rfl, by simp⟩
theorem map_at {α β : Type} {xs : List α} {f : α → β} {k : Nat} {x : β} (h : (xs.map f)[k]? = some x) : ∃ v, xs[k]? = some v ∧ x = f v := by
  rw [List.getElem?_map] at h
  cases q : xs[k]? with
  | none => rw [q] at h; cases h
  | some v => rw [q] at h; cases h; exact ⟨v, rfl, rfl⟩
theorem take_snoc {α : Type} {xs : List α} {k : Nat} {v : α} (h : xs[k]? = some v) : xs.take (k + 1) = xs.take k ++ [v] := by rw [List.take_add_one, h]; rfl
theorem set_same {h : AH} {n : Nat} {o : AO} (e : h[n]? = some o) : h.set n o = h := by
  obtain ⟨hn, e2⟩ := List.getElem?_eq_some_iff.mp e
  rw [← e2]
  exact List.set_getElem_self hn
theorem _root_.Mr.Nx.mono {r : Res Fl} {J J' : Sl → AH → Prop} (x : Nx r J) (f : ∀ s h, J s h → J' s h) : Nx r J' := by
  obtain ⟨s, h, e, j⟩ := x.ex
  rw [e]
  exact f s h j
/-- the inner loop of the law's screen -/
theorem lscreen_in (tx wv : Val) (f i : Nat) (l : List Nat) (w : Int) (h0 : AH) (c : Nat) (base : List Rw) (ps : List (List Nat)) (vp : Option Val)
    (hf : mutAt h0 f = some (base.map rV)) (hc : lstAt h0 c = some (ps.map sV)) (hfc : c ≠ f) (hb : base.length ≤ 30000) (hp : ps.length ≤ 20000) (hps : ps.flatten.length ≤ 20000) :
    Nx (forL (nList c) (.nm 6) (mSeq (mDrop (mMeth "list" fAppend (mVar 2) (mCons (mTup (mCons (mVar 3) (mCons (mVar 5) (mCons (mVar 6) (mNil))))) (mNil)))) (mSet 5 (mOp oAdd (mVar 5) (mCall cLen (mCons (mVar 6) (mNil)))))) FUEL 0 [some tx, some wv, some (.ref f), some (.int (i : Int)), some (sV l), some (.int 0), vp] h0)
      fun sl h' => ∃ v5 v6, sl = [some tx, some wv, some (.ref f), some (.int (i : Int)), some (sV l), v5, v6] ∧ h' = h0.set f (.lst ((base ++ rowsP i 0 ps).map rV)) := by
  have key := forL_inv (nx := nList c) (p := .nm 6) (body := mSeq (mDrop (mMeth "list" fAppend (mVar 2) (mCons (mTup (mCons (mVar 3) (mCons (mVar 5) (mCons (mVar 6) (mNil))))) (mNil)))) (mSet 5 (mOp oAdd (mVar 5) (mCall cLen (mCons (mVar 6) (mNil)))))) (ps.map sV)
    (fun j sl h' => ∃ v6, sl = [some tx, some wv, some (.ref f), some (.int (i : Int)), some (sV l), some (.int ((ps.take j).flatten.length : Int)), v6] ∧ h' = h0.set f (.lst ((base ++ rowsP i 0 (ps.take j)).map rV)))
    (fun j sl h' _ ⟨_, _, e⟩ => by rw [e]; exact nList_at j (lst_set_ne hfc hc))
    (by
      rintro j x sl h' hx ⟨v6, rfl, rfl⟩
      obtain ⟨p, hp1, rfl⟩ := map_at hx
      have tk := take_snoc hp1
      have mu : mutAt (h0.set f (.lst ((base ++ rowsP i 0 (ps.take j)).map rV))) f = some ((base ++ rowsP i 0 (ps.take j)).map rV) := mut_set hf
      have hj : j < ps.length := (List.getElem?_eq_some_iff.mp hp1).1
      have lp : p.length ≤ 20000 := Nat.le_trans (mem_flat_le (List.mem_of_getElem? hp1)) hps
      have ln : ((base ++ rowsP i 0 (ps.take j)).map rV).length < 16777216 := by
        rw [List.length_map, List.length_append, rowsP_len, List.length_take]; omega
      simp only [bd_ok, fin_rt, fin_nx, ret_app, mC_app, varR_some, mVar_app, mOp_app, mUn_app, truR_bl, mTest_app, mAnd_app, mOr_app, mNot_app, andR_bl, orR_bl, notR_bl, mAndV_app, mOrV_app, mNotV_app, mIf_app, mNil_app, mCons_app, mTup_app, mNewL_app, mLst_app, mCall_app, mNoPart_app, partR_int, mPart_app, mSl_app, chainR_bl, mChain_app, kitR_some, tyR_some, mIsi_app, mMeth_app, mNext_app, seqR_nx, seqR_rt, seqR_bk, seqR_ct, mSeq_app, mBreak_app, mCont_app, mDrop_app, mRet_app, mIfS_app, mSet_app, asgR_some, mAsg_app, parR_two, mPar_app, par3R_three, mPar3_app, mSub_app, augR'_some, mAug_app, mFor_app, bd_nm, bd_tp, bds_nil, bdsR_some, bds_cons, oAdd_ii, oAdd_ss, oSub_ii, oMul_ii, oDiv_ii, oMod_ii, oPow_ii, cpo_eq, cpo_ne, cpo_lt, cpo_le, cpo_gt, cpo_ge, cpo_in, cpo_notin, cpo_isN, cpo_notN, oEq_ii, oEq_ss, oNe_ii, oNe_ss, oLt_ii, oLe_ii, oGt_ii, oGe_ii, oIsN_non, oIsN_ref, oIsN_tup, oNotN_non, oNotN_ref, oNotN_tup, atR_some, oIx_tup, ixR_some, oIx_ref, sxR_some, oIx_str, newR_some, oSl_str, oSl_ref, lenR_some, cLen_one, lenB_str, lenB_ref, lenB_tup, cInt_i, cInt_b, cMin2_ii, cMax2_ii, cList_ref, stR_some, stL_ref, appR_some, fAppend_ref, oAug_ii, oAug_ss, uNeg_i, isTy_str, tyName_int, tyName_str, tyName_bl, tyName_non, tyName_tup, kit_ii, kit_ib, kit_bb, kit_bi, kit_ss, kit_is, kit_ll, kit_tt, kit_tl, kit_lt, mIter_app, iterR_str, iterR_tup, rngR_one, mRng1_app, rng2R_two, mRng2_app, mEnum_app, mZip_app, Bd_some, Nx_ok, Fx_nx, Fx_rt, mYes_app, wipeM, List.set_cons_succ, List.set_cons_zero, List.getElem?_cons_succ, List.getElem?_cons_zero, if_true, Bool.false_eq_true, if_false, List.length_cons, List.length_nil, Nat.zero_add, Nat.reduceAdd, sz0, sz1, sz2, sz3, beq_self_eq_true, Bool.not_true, Bool.not_false, List.cons_append, List.nil_append, isTy_mut mu, append_mut _ mu ln, sS_len, if_pos (sz (show p.length ≤ 16777216 by omega))]
      refine ⟨some (sV p), ?_, ?_⟩
      · rw [tk, List.flatten_append, List.length_append]
        simp
      · rw [List.set_set, tk, rowsP_snoc, ← List.append_assoc, List.map_append (l₂ := [_])]
        simp [rV])
    FUEL 0 _ h0 (by have := FUEL_le; rw [List.length_map]; omega) (Nat.zero_le _) ⟨vp, rfl, by
      rw [List.take_zero]
      show h0 = h0.set f (.lst ((base ++ []).map rV))
      rw [List.append_nil]
      exact (set_same (mut_get hf)).symm⟩
  refine key.mono ?_
  rintro sl h' ⟨v6, e1, e2⟩
  refine ⟨_, v6, e1, ?_⟩
  rw [e2, List.length_map, List.take_length]
theorem spec_lscreen {ls : List (List Nat)} (t : TxOk ls) (w : Int) (h : AH) : RL (m__law_screen [sV (jn ls), .int w] h) h ((rowsA w 0 ls).map rV) := by
  rw [a__law_screen]
  unfold b__law_screen
  have sp := fun (h : AH) sl hs => meth_split t h sl 0 hs
  have l2 : lstAt ((h ++ [.lst []]) ++ [.lst (ls.map sV)]) (h ++ [AO.lst []]).length = some (ls.map sV) := lst_new _ _
  have m2 : mutAt ((h ++ [.lst []]) ++ [.lst (ls.map sV)]) h.length = some [] := (Xt.new _ _).mut (mut_new h [])
  have ll := t.lines_len
  rw [mSeq_app, mSet_app]
  simp only [mLst_app, mNil_app, bd_ok, List.length_nil, sz0, if_true, seqR_nx, List.set_cons_succ, List.set_cons_zero]
  rw [mSeq_app, mFor_app, mEnum_app, mCons_app, sp _ _ rfl, bd_ok, mNil_app, bd_ok, bd_ok, enumR_ref l2, bd_ok]
  refine for_bd (enumVals (ls.map sV)) (fun k sl h' => ∃ v3 v4 v5 v6, sl = [some (sV (jn ls)), some (.int w), some (.ref h.length), v3, v4, v5, v6] ∧ Xt h h' ∧ mutAt h' h.length = some ((rowsA w 0 (ls.take k)).map rV) ∧ lstAt h' (h ++ [AO.lst []]).length = some (ls.map sV))
    (fun r => RL (fin r) h _) ⟨none, none, none, none, rfl, (Xt.new _ _).trans (Xt.new _ _), m2, l2⟩ (by rw [enumVals_len, List.length_map]; omega) (fun k sl h' _ ⟨_, _, _, _, _, _, _, z⟩ => nEnum_at k z) ?_ ?_
  · rintro k x sl h' hx ⟨v3, v4, v5, v6, rfl, x1, x2, x3⟩
    obtain ⟨v, hv, rfl⟩ := enum_at hx
    obtain ⟨l, hl, rfl⟩ := map_at hv
    have lm := List.mem_of_getElem? hl
    have lk : k < ls.length := (List.getElem?_eq_some_iff.mp hl).1
    have l1 := t.mem_len lm
    obtain ⟨d, h1, e1, y1, y2, y3⟩ := (spec_lpieces l w h' (by omega)).ex
    have z1 := x1.len
    have x2' := y1.mut x2
    have hd : h.length < h'.length := mut_lt x2
    have cl := cut_len w l
    have cf := cut_flat w l
    have inn := lscreen_in (sV (jn ls)) (.int w) h.length k l w h1 d (rowsA w 0 (ls.take k)) (cutF w l) v6 x2' (mut_lst y3) (by omega) (rows_take_len t w k) (by omega) (by rw [cf]; omega)
    obtain ⟨sl2, h2, e2, v5', v6', e3, e4⟩ := inn.ex
    simp only [bd_tp, List.length_cons, List.length_nil, if_true, bds_cons, bd_nm, bdsR_some, bds_nil, Bd_some, List.set_cons_succ, List.set_cons_zero, mSeq_app, mSet_app, mC_app, bd_ok, seqR_nx, mFor_app, mIter_app, mCall_app, mCons_app, mVar_app, List.getElem?_cons_succ, List.getElem?_cons_zero, varR_some, mNil_app, e1, iterR_ref (mut_lst y3)]
    rw [e2, Nx_ok, e3, e4]
    refine ⟨_, _, v5', v6', rfl, (x1.trans y1).set (Nat.le_refl _), ?_, lst_set_ne (by rw [List.length_append, List.length_singleton]; omega) (y1.lst x3)⟩
    rw [mut_set x2', take_snoc hl, rowsA_snoc, Nat.zero_add, List.length_take, Nat.min_eq_left (Nat.le_of_lt lk)]
  · rintro sl h' ⟨v3, v4, v5, v6, rfl, x1, x2, x3⟩
    rw [enumVals_len, List.length_map, List.take_length] at x2
    simp only [seqR_nx, mRet_app, mVar_app, List.getElem?_cons_succ, List.getElem?_cons_zero, varR_some, bd_ok, fin_rt]
    exact ⟨x1, Nat.le_refl _, x2⟩
/-- the inner loop of the screen -/
theorem rows_in (tx wv fo : Val) (f i : Nat) (l : List Nat) (w : Int) (h0 : AH) (c : Nat) (base : List Rw) (ps : List (List Nat)) (vp v8 : Option Val)
    (hf : mutAt h0 f = some (base.map rV)) (hc : lstAt h0 c = some (ps.map sV)) (hfc : c ≠ f) (hb : base.length ≤ 30000) (hp : ps.length ≤ 20000) (hps : ps.flatten.length ≤ 20000) :
    Nx (forL (nList c) (.nm 7) (mSeq (mDrop (mMeth "list" fAppend (mVar 3) (mCons (mTup (mCons (mVar 4) (mCons (mVar 6) (mCons (mVar 7) (mNil))))) (mNil)))) (mAug 6 oAug (mCall cLen (mCons (mVar 7) (mNil))))) FUEL 0 [some tx, some wv, some fo, some (.ref f), some (.int (i : Int)), some (sV l), some (.int 0), vp, v8] h0)
      fun sl h' => ∃ v5 v6, sl = [some tx, some wv, some fo, some (.ref f), some (.int (i : Int)), some (sV l), v5, v6, v8] ∧ h' = h0.set f (.lst ((base ++ rowsP i 0 ps).map rV)) := by
  have key := forL_inv (nx := nList c) (p := .nm 7) (body := mSeq (mDrop (mMeth "list" fAppend (mVar 3) (mCons (mTup (mCons (mVar 4) (mCons (mVar 6) (mCons (mVar 7) (mNil))))) (mNil)))) (mAug 6 oAug (mCall cLen (mCons (mVar 7) (mNil))))) (ps.map sV)
    (fun j sl h' => ∃ v6, sl = [some tx, some wv, some fo, some (.ref f), some (.int (i : Int)), some (sV l), some (.int ((ps.take j).flatten.length : Int)), v6, v8] ∧ h' = h0.set f (.lst ((base ++ rowsP i 0 (ps.take j)).map rV)))
    (fun j sl h' _ ⟨_, _, e⟩ => by rw [e]; exact nList_at j (lst_set_ne hfc hc))
    (by
      rintro j x sl h' hx ⟨v6, rfl, rfl⟩
      obtain ⟨p, hp1, rfl⟩ := map_at hx
      have tk := take_snoc hp1
      have mu : mutAt (h0.set f (.lst ((base ++ rowsP i 0 (ps.take j)).map rV))) f = some ((base ++ rowsP i 0 (ps.take j)).map rV) := mut_set hf
      have hj : j < ps.length := (List.getElem?_eq_some_iff.mp hp1).1
      have lp : p.length ≤ 20000 := Nat.le_trans (mem_flat_le (List.mem_of_getElem? hp1)) hps
      have ln : ((base ++ rowsP i 0 (ps.take j)).map rV).length < 16777216 := by
        rw [List.length_map, List.length_append, rowsP_len, List.length_take]; omega
      simp only [bd_ok, fin_rt, fin_nx, ret_app, mC_app, varR_some, mVar_app, mOp_app, mUn_app, truR_bl, mTest_app, mAnd_app, mOr_app, mNot_app, andR_bl, orR_bl, notR_bl, mAndV_app, mOrV_app, mNotV_app, mIf_app, mNil_app, mCons_app, mTup_app, mNewL_app, mLst_app, mCall_app, mNoPart_app, partR_int, mPart_app, mSl_app, chainR_bl, mChain_app, kitR_some, tyR_some, mIsi_app, mMeth_app, mNext_app, seqR_nx, seqR_rt, seqR_bk, seqR_ct, mSeq_app, mBreak_app, mCont_app, mDrop_app, mRet_app, mIfS_app, mSet_app, asgR_some, mAsg_app, parR_two, mPar_app, par3R_three, mPar3_app, mSub_app, augR'_some, mAug_app, mFor_app, bd_nm, bd_tp, bds_nil, bdsR_some, bds_cons, oAdd_ii, oAdd_ss, oSub_ii, oMul_ii, oDiv_ii, oMod_ii, oPow_ii, cpo_eq, cpo_ne, cpo_lt, cpo_le, cpo_gt, cpo_ge, cpo_in, cpo_notin, cpo_isN, cpo_notN, oEq_ii, oEq_ss, oNe_ii, oNe_ss, oLt_ii, oLe_ii, oGt_ii, oGe_ii, oIsN_non, oIsN_ref, oIsN_tup, oNotN_non, oNotN_ref, oNotN_tup, atR_some, oIx_tup, ixR_some, oIx_ref, sxR_some, oIx_str, newR_some, oSl_str, oSl_ref, lenR_some, cLen_one, lenB_str, lenB_ref, lenB_tup, cInt_i, cInt_b, cMin2_ii, cMax2_ii, cList_ref, stR_some, stL_ref, appR_some, fAppend_ref, oAug_ii, oAug_ss, uNeg_i, isTy_str, tyName_int, tyName_str, tyName_bl, tyName_non, tyName_tup, kit_ii, kit_ib, kit_bb, kit_bi, kit_ss, kit_is, kit_ll, kit_tt, kit_tl, kit_lt, mIter_app, iterR_str, iterR_tup, rngR_one, mRng1_app, rng2R_two, mRng2_app, mEnum_app, mZip_app, Bd_some, Nx_ok, Fx_nx, Fx_rt, mYes_app, wipeM, List.set_cons_succ, List.set_cons_zero, List.getElem?_cons_succ, List.getElem?_cons_zero, if_true, Bool.false_eq_true, if_false, List.length_cons, List.length_nil, Nat.zero_add, Nat.reduceAdd, sz0, sz1, sz2, sz3, beq_self_eq_true, Bool.not_true, Bool.not_false, List.cons_append, List.nil_append, isTy_mut mu, append_mut _ mu ln, sS_len, if_pos (sz (show p.length ≤ 16777216 by omega))]
      refine ⟨some (sV p), ?_, ?_⟩
      · rw [tk, List.flatten_append, List.length_append]
        simp
      · rw [List.set_set, tk, rowsP_snoc, ← List.append_assoc, List.map_append (l₂ := [_])]
        simp [rV])
    FUEL 0 _ h0 (by have := FUEL_le; rw [List.length_map]; omega) (Nat.zero_le _) ⟨vp, rfl, by
      rw [List.take_zero]
      show h0 = h0.set f (.lst ((base ++ []).map rV))
      rw [List.append_nil]
      exact (set_same (mut_get hf)).symm⟩
  refine key.mono ?_
  rintro sl h' ⟨v6, e1, e2⟩
  refine ⟨_, v6, e1, ?_⟩
  rw [e2, List.length_map, List.take_length]
theorem spec_rows {ls : List (List Nat)} (t : TxOk ls) (w : Int) (h : AH) (fo : Nat) (hfo : lstAt h fo = some []) : RL (m_rows_of [sV (jn ls), .int w, .ref fo] h) h ((rowsA w 0 ls).map rV) := by
  rw [a_rows_of]
  unfold b_rows_of
  have sp := fun (h : AH) sl hs => meth_split t h sl 0 hs
  have l2 : lstAt ((h ++ [.lst []]) ++ [.lst (ls.map sV)]) (h ++ [AO.lst []]).length = some (ls.map sV) := lst_new _ _
  have m2 : mutAt ((h ++ [.lst []]) ++ [.lst (ls.map sV)]) h.length = some [] := (Xt.new _ _).mut (mut_new h [])
  have ll := t.lines_len
  have fl := lst_lt hfo
  rw [mSeq_app, mSet_app]
  simp only [mLst_app, mNil_app, bd_ok, List.length_nil, sz0, if_true, seqR_nx, List.set_cons_succ, List.set_cons_zero]
  rw [mSeq_app, mFor_app, mEnum_app, mCons_app, sp _ _ rfl, bd_ok, mNil_app, bd_ok, bd_ok, enumR_ref l2, bd_ok]
  refine for_bd (enumVals (ls.map sV)) (fun k sl h' => ∃ v3 v4 v5 v6, sl = [some (sV (jn ls)), some (.int w), some (.ref fo), some (.ref h.length), v3, v4, v5, v6, none] ∧ Xt h h' ∧ mutAt h' h.length = some ((rowsA w 0 (ls.take k)).map rV) ∧ lstAt h' (h ++ [AO.lst []]).length = some (ls.map sV))
    (fun r => RL (fin r) h _) ⟨none, none, none, none, rfl, (Xt.new _ _).trans (Xt.new _ _), m2, l2⟩ (by rw [enumVals_len, List.length_map]; omega) (fun k sl h' _ ⟨_, _, _, _, _, _, _, z⟩ => nEnum_at k z) ?_ ?_
  · rintro k x sl h' hx ⟨v3, v4, v5, v6, rfl, x1, x2, x3⟩
    obtain ⟨v, hv, rfl⟩ := enum_at hx
    obtain ⟨l, hl, rfl⟩ := map_at hv
    have lm := List.mem_of_getElem? hl
    have lk : k < ls.length := (List.getElem?_eq_some_iff.mp hl).1
    have l1 := t.mem_len lm
    have q1 : lstAt ((h' ++ [AO.lst []]) ++ [AO.lst []]) h'.length = some [] := (Xt.new _ _).lst (lst_new h' [])
    have q2 : lstAt ((h' ++ [AO.lst []]) ++ [AO.lst []]) (h' ++ [AO.lst []]).length = some [] := lst_new _ []
    obtain ⟨d, h1, e1, y1', y2, y3⟩ := (spec_cut l w ((h' ++ [AO.lst []]) ++ [AO.lst []]) (by omega)).ex
    have y1 : Xt h' h1 := ((Xt.new _ _).trans (Xt.new _ _)).trans y1'
    have z1 := x1.len
    have x2' := y1.mut x2
    have hd : h.length < h'.length := mut_lt x2
    rw [List.length_append, List.length_append] at y2
    have cl := cut_len w l
    have cf := cut_flat w l
    have inn := rows_in (sV (jn ls)) (.int w) (.ref fo) h.length k l w h1 d (rowsA w 0 (ls.take k)) (cutF w l) v6 none x2' (mut_lst y3) (by omega) (rows_take_len t w k) (by omega) (by rw [cf]; omega)
    obtain ⟨sl2, h2, e2, v5', v6', e3, e4⟩ := inn.ex
    have lcE : lcR (.nm 8) (mTest (mChain (Cp.o .lt) (Cp.o .le) (mOp oIx (mVar 8) (mC (.int 0))) (mVar 4) (mOp oIx (mVar 8) (mC (.int 1))))) (mVar 8) [some (sV (jn ls)), some (.int w), some (.ref fo), some (.ref h.length), some (.int (k : Int)), some (sV l), v5, v6, none] [8] (nList fo) h' = .ok (.ref h'.length) (h' ++ [.lst []]) := by
      rw [lc_pure ([] : List Nat) (fun _ => Val.non) (fun _ => true) (fun _ => Val.non) (by decide) (fun j h2 _ xx => by rw [nList_at j ((x1.trans xx).lst hfo)]; rfl) (fun y h2 hy => by cases hy)]
      rfl
    simp only [bd_tp, List.length_cons, List.length_nil, if_true, bds_cons, bd_nm, bdsR_some, bds_nil, Bd_some, List.set_cons_succ, List.set_cons_zero, mIfS_app, mTest_app, mOp_app, mLc_app, mIter_app, mVar_app, List.getElem?_cons_succ, List.getElem?_cons_zero, varR_some, bd_ok, iterR_ref (x1.lst hfo)]
    rw [lcE]
    simp only [bd_ok, mLst_app, mNil_app, List.length_nil, sz0, if_true, cpo_eq, oEq_refs q1 q2 (fun v hv => by cases hv), truR_bl, mSeq_app, mSet_app, mC_app, seqR_nx, List.set_cons_succ, List.set_cons_zero, mFor_app, mIter_app, mCall_app, mCons_app, mVar_app, List.getElem?_cons_succ, List.getElem?_cons_zero, varR_some, e1, iterR_ref (mut_lst y3)]
    rw [e2, Nx_ok, e3, e4]
    refine ⟨_, _, v5', v6', rfl, (x1.trans y1).set (Nat.le_refl _), ?_, lst_set_ne (by rw [List.length_append, List.length_singleton]; omega) (y1.lst x3)⟩
    rw [mut_set x2', take_snoc hl, rowsA_snoc, Nat.zero_add, List.length_take, Nat.min_eq_left (Nat.le_of_lt lk)]
  · rintro sl h' ⟨v3, v4, v5, v6, rfl, x1, x2, x3⟩
    rw [enumVals_len, List.length_map, List.take_length] at x2
    simp only [seqR_nx, mRet_app, mVar_app, List.getElem?_cons_succ, List.getElem?_cons_zero, varR_some, bd_ok, fin_rt]
    exact ⟨x1, Nat.le_refl _, x2⟩
end W

set_option Elab.async false
set_option linter.all false
set_option maxRecDepth 100000
set_option maxHeartbeats 4000000
namespace W
open PySem L2 Mr
theorem jn_signs : ∀ {ls : List (List Nat)}, (∀ l ∈ ls, okl l) → ∀ c ∈ jn ls, c = 10 ∨ okc c
  | [], _, c, hc => by cases hc
  | [l], h, c, hc => .inr (h l (List.mem_singleton.mpr rfl) c hc)
  | l :: m :: r, h, c, hc => by
    have hc : c ∈ l ++ ([10] ++ TL.joinL [10] (m :: r)) := hc
    rcases List.mem_append.mp hc with e | e
    · exact .inr (h l List.mem_cons_self c e)
    · rcases List.mem_append.mp e with e | e
      · exact .inl (List.mem_singleton.mp e)
      · exact jn_signs (fun x hx => h x (List.mem_cons_of_mem _ hx)) c e
theorem spec_screen {ls : List (List Nat)} (t : TxOk ls) (w : Int) (hw : 1 ≤ w) (h : AH) : RL (m_screen [sV (jn ls), .int w, .non] h) h ((rowsA w 0 ls).map rV) := by
  have sm := t.sm
  obtain ⟨h1, e1, x1⟩ := (spec_check_text (jn ls) h (by omega) (jn_signs t.ok)).ex
  obtain ⟨d, h2, e2, x2, l2, m2⟩ := (spec_rows t w (h1 ++ [.lst []]) h1.length (lst_new h1 [])).ex
  rw [a_screen]
  simp only [b_screen, bd_ok, fin_rt, fin_nx, ret_app, mC_app, varR_some, mVar_app, mOp_app, mUn_app, truR_bl, mTest_app, mAnd_app, mOr_app, mNot_app, andR_bl, orR_bl, notR_bl, mAndV_app, mOrV_app, mNotV_app, mIf_app, mNil_app, mCons_app, mTup_app, mNewL_app, mLst_app, mCall_app, mNoPart_app, partR_int, mPart_app, mSl_app, chainR_bl, mChain_app, kitR_some, tyR_some, mIsi_app, mMeth_app, mNext_app, seqR_nx, seqR_rt, seqR_bk, seqR_ct, mSeq_app, mBreak_app, mCont_app, mDrop_app, mRet_app, mIfS_app, mSet_app, asgR_some, mAsg_app, parR_two, mPar_app, par3R_three, mPar3_app, mSub_app, augR'_some, mAug_app, mFor_app, bd_nm, bd_tp, bds_nil, bdsR_some, bds_cons, oAdd_ii, oAdd_ss, oSub_ii, oMul_ii, oDiv_ii, oMod_ii, oPow_ii, cpo_eq, cpo_ne, cpo_lt, cpo_le, cpo_gt, cpo_ge, cpo_in, cpo_notin, cpo_isN, cpo_notN, oEq_ii, oEq_ss, oNe_ii, oNe_ss, oLt_ii, oLe_ii, oGt_ii, oGe_ii, oIsN_non, oIsN_ref, oIsN_tup, oNotN_non, oNotN_ref, oNotN_tup, atR_some, oIx_tup, ixR_some, oIx_ref, sxR_some, oIx_str, newR_some, oSl_str, oSl_ref, lenR_some, cLen_one, lenB_str, lenB_ref, lenB_tup, cInt_i, cInt_b, cMin2_ii, cMax2_ii, cList_ref, stR_some, stL_ref, appR_some, fAppend_ref, oAug_ii, oAug_ss, uNeg_i, isTy_str, tyName_int, tyName_str, tyName_bl, tyName_non, tyName_tup, kit_ii, kit_ib, kit_bb, kit_bi, kit_ss, kit_is, kit_ll, kit_tt, kit_tl, kit_lt, mIter_app, iterR_str, iterR_tup, rngR_one, mRng1_app, rng2R_two, mRng2_app, mEnum_app, mZip_app, Bd_some, Nx_ok, Fx_nx, Fx_rt, mYes_app, wipeM, List.set_cons_succ, List.set_cons_zero, List.getElem?_cons_succ, List.getElem?_cons_zero, if_true, Bool.false_eq_true, if_false, List.length_cons, List.length_nil, Nat.zero_add, Nat.reduceAdd, sz0, sz1, sz2, sz3, beq_self_eq_true, Bool.not_true, Bool.not_false, List.cons_append, List.nil_append, e1, check_least_ok w 1 h1 hw, e2]
  rw [List.length_append] at l2
  have := x1.len
  exact ⟨(x1.trans (Xt.new _ _)).trans x2, by omega, m2⟩
/-! ### where the lines begin -/
def stF (ls : List (List Nat)) (k : Nat) : Nat := ((ls.take k).map fun l => l.length + 1).sum
theorem stF_succ {ls : List (List Nat)} {k : Nat} {l : List Nat} (h : ls[k]? = some l) : stF ls (k + 1) = stF ls k + (l.length + 1) := by
  unfold stF
  rw [take_snoc h, List.map_append, List.sum_append]
  rfl
theorem stF_zero (ls : List (List Nat)) : stF ls 0 = 0 := rfl
theorem stF_all (ls : List (List Nat)) : stF ls ls.length = (ls.map fun l => l.length + 1).sum := by unfold stF; rw [List.take_length]
def stV (ls : List (List Nat)) (n : Nat) : List Val := (List.range n).map fun k => Val.int (stF ls k : Int)
theorem stV_snoc (ls : List (List Nat)) (n : Nat) : stV ls (n + 1) = stV ls n ++ [.int (stF ls n : Int)] := by
  unfold stV
  rw [List.range_succ, List.map_append]
  rfl
theorem stV_len (ls : List (List Nat)) (n : Nat) : (stV ls n).length = n := by unfold stV; rw [List.length_map, List.length_range]
theorem stV_at {ls : List (List Nat)} {n k : Nat} (h : k < n) : (stV ls n)[k]? = some (.int (stF ls k : Int)) := by
  unfold stV
  rw [List.getElem?_map, List.getElem?_range h]
  rfl
theorem cutL_butlast {α : Type} (xs : List α) : cutL xs none (some (-1)) = xs.take (xs.length - 1) := by
  unfold cutL
  have e1 : HT.sIx xs.length 0 none = 0 := rfl
  have e2 : HT.sIx xs.length xs.length (some (-1)) = xs.length - 1 := by
    unfold HT.sIx
    simp
    omega
  rw [e1, e2]
  rfl
theorem spec_starts {ls : List (List Nat)} (t : TxOk ls) (h : AH) : RL (m__law_starts [sV (jn ls)] h) h (stV ls ls.length) := by
  rw [a__law_starts]
  unfold b__law_starts
  have sp := fun (h : AH) sl hs => meth_split t h sl 0 hs
  have l2 : lstAt ((h ++ [.lst []]) ++ [.lst (ls.map sV)]) (h ++ [AO.lst []]).length = some (ls.map sV) := lst_new _ _
  have m2 : mutAt ((h ++ [.lst []]) ++ [.lst (ls.map sV)]) h.length = some [] := (Xt.new _ _).mut (mut_new h [])
  have ll := t.lines_len
  rw [mSeq_app, mPar_app]
  simp only [mLst_app, mCons_app, mC_app, parR_two, mNil_app, bd_ok, List.length_nil, sz0, if_true, seqR_nx, List.set_cons_succ, List.set_cons_zero]
  rw [mSeq_app, mFor_app, mIter_app, sp _ _ rfl, bd_ok, iterR_ref l2, bd_ok]
  refine for_bd (ls.map sV) (fun k sl h' => ∃ v1, sl = [some (sV (jn ls)), v1, some (.ref h.length), some (.int (stF ls k : Int))] ∧ Xt h h' ∧ mutAt h' h.length = some (stV ls k) ∧ lstAt h' (h ++ [AO.lst []]).length = some (ls.map sV))
    (fun r => RL (fin r) h _) ⟨none, rfl, (Xt.new _ _).trans (Xt.new _ _), m2, l2⟩ (by rw [List.length_map]; omega) (fun k sl h' _ ⟨_, _, _, _, z⟩ => nList_at k z) ?_ ?_
  · rintro k x sl h' hx ⟨v1, rfl, x1, x2, x3⟩
    obtain ⟨l, hl, rfl⟩ := map_at hx
    have l1 := t.mem_len (List.mem_of_getElem? hl)
    have lk : k < ls.length := (List.getElem?_eq_some_iff.mp hl).1
    simp only [bd_ok, fin_rt, fin_nx, ret_app, mC_app, varR_some, mVar_app, mOp_app, mUn_app, truR_bl, mTest_app, mAnd_app, mOr_app, mNot_app, andR_bl, orR_bl, notR_bl, mAndV_app, mOrV_app, mNotV_app, mIf_app, mNil_app, mCons_app, mTup_app, mNewL_app, mLst_app, mCall_app, mNoPart_app, partR_int, mPart_app, mSl_app, chainR_bl, mChain_app, kitR_some, tyR_some, mIsi_app, mMeth_app, mNext_app, seqR_nx, seqR_rt, seqR_bk, seqR_ct, mSeq_app, mBreak_app, mCont_app, mDrop_app, mRet_app, mIfS_app, mSet_app, asgR_some, mAsg_app, parR_two, mPar_app, par3R_three, mPar3_app, mSub_app, augR'_some, mAug_app, mFor_app, bd_nm, bd_tp, bds_nil, bdsR_some, bds_cons, oAdd_ii, oAdd_ss, oSub_ii, oMul_ii, oDiv_ii, oMod_ii, oPow_ii, cpo_eq, cpo_ne, cpo_lt, cpo_le, cpo_gt, cpo_ge, cpo_in, cpo_notin, cpo_isN, cpo_notN, oEq_ii, oEq_ss, oNe_ii, oNe_ss, oLt_ii, oLe_ii, oGt_ii, oGe_ii, oIsN_non, oIsN_ref, oIsN_tup, oNotN_non, oNotN_ref, oNotN_tup, atR_some, oIx_tup, ixR_some, oIx_ref, sxR_some, oIx_str, newR_some, oSl_str, oSl_ref, lenR_some, cLen_one, lenB_str, lenB_ref, lenB_tup, cInt_i, cInt_b, cMin2_ii, cMax2_ii, cList_ref, stR_some, stL_ref, appR_some, fAppend_ref, oAug_ii, oAug_ss, uNeg_i, isTy_str, tyName_int, tyName_str, tyName_bl, tyName_non, tyName_tup, kit_ii, kit_ib, kit_bb, kit_bi, kit_ss, kit_is, kit_ll, kit_tt, kit_tl, kit_lt, mIter_app, iterR_str, iterR_tup, rngR_one, mRng1_app, rng2R_two, mRng2_app, mEnum_app, mZip_app, Bd_some, Nx_ok, Fx_nx, Fx_rt, mYes_app, wipeM, List.set_cons_succ, List.set_cons_zero, List.getElem?_cons_succ, List.getElem?_cons_zero, if_true, Bool.false_eq_true, if_false, List.length_cons, List.length_nil, Nat.zero_add, Nat.reduceAdd, sz0, sz1, sz2, sz3, beq_self_eq_true, Bool.not_true, Bool.not_false, List.cons_append, List.nil_append, isTy_mut x2, append_mut _ x2 (show (stV ls k).length < 16777216 by rw [stV_len]; omega), sS_len, if_pos (sz (show l.length ≤ 16777216 by omega))]
    refine ⟨some (sV l), ?_, x1.set (Nat.le_refl _), ?_, lst_set_ne (by rw [List.length_append, List.length_singleton]; omega) x3⟩
    · rw [stF_succ hl]
      simp [Int.add_assoc]
    · rw [mut_set x2, stV_snoc]
  · rintro sl h' ⟨v1, rfl, x1, x2, x3⟩
    rw [List.length_map] at x2
    simp only [seqR_nx, mRet_app, mVar_app, List.getElem?_cons_succ, List.getElem?_cons_zero, varR_some, bd_ok, fin_rt]
    exact ⟨x1, Nat.le_refl _, x2⟩
theorem spec_begins {ls : List (List Nat)} (t : TxOk ls) (h : AH) : RL (m_begins [sV (jn ls)] h) h (stV ls ls.length) := by
  rw [a_begins]
  unfold b_begins
  have sp := fun (h : AH) sl hs => meth_split t h sl 0 hs
  have ll := t.lines_len
  have lp : 0 < ls.length := List.length_pos_iff.mpr t.ne
  rw [mSeq_app, mSet_app]
  simp only [mLst_app, mCons_app, mC_app, mNil_app, bd_ok, List.length_cons, List.length_nil, Nat.zero_add, sz1, if_true, seqR_nx, List.set_cons_succ, List.set_cons_zero]
  have l1 : lstAt ((h ++ [.lst [.int 0]]) ++ [.lst (ls.map sV)]) (h ++ [AO.lst [.int 0]]).length = some (ls.map sV) := lst_new _ _
  have l2 : lstAt (((h ++ [.lst [.int 0]]) ++ [.lst (ls.map sV)]) ++ [.lst ((ls.map sV).take (ls.length - 1))]) ((h ++ [AO.lst [.int 0]]) ++ [AO.lst (ls.map sV)]).length = some ((ls.map sV).take (ls.length - 1)) := lst_new _ _
  have m2 : mutAt (((h ++ [.lst [.int 0]]) ++ [.lst (ls.map sV)]) ++ [.lst ((ls.map sV).take (ls.length - 1))]) h.length = some [.int 0] := ((Xt.new _ _).trans (Xt.new _ _)).mut (mut_new h [.int 0])
  rw [mSeq_app, mFor_app, mIter_app, mSl_app, sp _ _ rfl, bd_ok, mNoPart_app, bd_ok]
  simp only [mPart_app, mUn_app, mC_app, bd_ok, uNeg_i, partR_int, oSl_ref, l1, Option.map_some, newR_some, cutL_butlast, List.length_map]
  rw [iterR_ref l2, bd_ok]
  refine for_bd ((ls.map sV).take (ls.length - 1)) (fun k sl h' => ∃ v2, sl = [some (sV (jn ls)), some (.ref h.length), v2] ∧ Xt h h' ∧ mutAt h' h.length = some (stV ls (k + 1)) ∧ lstAt h' ((h ++ [AO.lst [.int 0]]) ++ [AO.lst (ls.map sV)]).length = some ((ls.map sV).take (ls.length - 1)))
    (fun r => RL (fin r) h _) ⟨none, rfl, ((Xt.new _ _).trans (Xt.new _ _)).trans (Xt.new _ _), m2, l2⟩ (by rw [List.length_take, List.length_map]; omega) (fun k sl h' _ ⟨_, _, _, _, z⟩ => nList_at k z) ?_ ?_
  · rintro k x sl h' hx ⟨v2, rfl, x1, x2, x3⟩
    have hk : k < ls.length - 1 := by
      have := (List.getElem?_eq_some_iff.mp hx).1
      rw [List.length_take, List.length_map] at this
      omega
    rw [List.getElem?_take_of_lt hk] at hx
    obtain ⟨l, hl, rfl⟩ := map_at hx
    have l1 := t.mem_len (List.mem_of_getElem? hl)
    have la : L2.atI (stV ls (k + 1)) (-1) = some (.int (stF ls k : Int)) := by rw [stV_snoc]; exact atI_last' _ _
    simp only [bd_ok, fin_rt, fin_nx, ret_app, mC_app, varR_some, mVar_app, mOp_app, mUn_app, truR_bl, mTest_app, mAnd_app, mOr_app, mNot_app, andR_bl, orR_bl, notR_bl, mAndV_app, mOrV_app, mNotV_app, mIf_app, mNil_app, mCons_app, mTup_app, mNewL_app, mLst_app, mCall_app, mNoPart_app, partR_int, mPart_app, mSl_app, chainR_bl, mChain_app, kitR_some, tyR_some, mIsi_app, mMeth_app, mNext_app, seqR_nx, seqR_rt, seqR_bk, seqR_ct, mSeq_app, mBreak_app, mCont_app, mDrop_app, mRet_app, mIfS_app, mSet_app, asgR_some, mAsg_app, parR_two, mPar_app, par3R_three, mPar3_app, mSub_app, augR'_some, mAug_app, mFor_app, bd_nm, bd_tp, bds_nil, bdsR_some, bds_cons, oAdd_ii, oAdd_ss, oSub_ii, oMul_ii, oDiv_ii, oMod_ii, oPow_ii, cpo_eq, cpo_ne, cpo_lt, cpo_le, cpo_gt, cpo_ge, cpo_in, cpo_notin, cpo_isN, cpo_notN, oEq_ii, oEq_ss, oNe_ii, oNe_ss, oLt_ii, oLe_ii, oGt_ii, oGe_ii, oIsN_non, oIsN_ref, oIsN_tup, oNotN_non, oNotN_ref, oNotN_tup, atR_some, oIx_tup, ixR_some, oIx_ref, sxR_some, oIx_str, newR_some, oSl_str, oSl_ref, lenR_some, cLen_one, lenB_str, lenB_ref, lenB_tup, cInt_i, cInt_b, cMin2_ii, cMax2_ii, cList_ref, stR_some, stL_ref, appR_some, fAppend_ref, oAug_ii, oAug_ss, uNeg_i, isTy_str, tyName_int, tyName_str, tyName_bl, tyName_non, tyName_tup, kit_ii, kit_ib, kit_bb, kit_bi, kit_ss, kit_is, kit_ll, kit_tt, kit_tl, kit_lt, mIter_app, iterR_str, iterR_tup, rngR_one, mRng1_app, rng2R_two, mRng2_app, mEnum_app, mZip_app, Bd_some, Nx_ok, Fx_nx, Fx_rt, mYes_app, wipeM, List.set_cons_succ, List.set_cons_zero, List.getElem?_cons_succ, List.getElem?_cons_zero, if_true, Bool.false_eq_true, if_false, List.length_cons, List.length_nil, Nat.zero_add, Nat.reduceAdd, sz0, sz1, sz2, sz3, beq_self_eq_true, Bool.not_true, Bool.not_false, List.cons_append, List.nil_append, isTy_mut x2, mut_lst x2, la, append_mut _ x2 (show (stV ls (k + 1)).length < 16777216 by rw [stV_len]; omega), sS_len, if_pos (sz (show l.length ≤ 16777216 by omega))]
    refine ⟨some (sV l), rfl, x1.set (Nat.le_refl _), ?_, lst_set_ne (by rw [List.length_append, List.length_append, List.length_singleton]; omega) x3⟩
    rw [mut_set x2, stV_snoc ls (k + 1), stF_succ hl]
    simp [Int.add_assoc]
  · rintro sl h' ⟨v1, rfl, x1, x2, x3⟩
    rw [List.length_take, List.length_map, show min (ls.length - 1) ls.length + 1 = ls.length by omega] at x2
    simp only [seqR_nx, mRet_app, mVar_app, List.getElem?_cons_succ, List.getElem?_cons_zero, varR_some, bd_ok, fin_rt]
    exact ⟨x1, Nat.le_refl _, x2⟩
end W

set_option Elab.async false
set_option linter.all false
set_option maxRecDepth 100000
set_option maxHeartbeats 4000000
namespace W
open PySem L2 Mr
/-! ### the plain law of rows and places -/
def bg (st : Nat → Nat) (r : Rw) : Nat := st r.1 + r.2.1
def Chn (st : Nat → Nat) (e : Nat) : List Rw → Prop
  | [] => True
  | [r] => bg st r + r.2.2.length + 1 = e
  | r :: r' :: rest => ((r'.1 ≠ r.1 ∧ bg st r' = bg st r + r.2.2.length + 1) ∨ (r'.1 = r.1 ∧ bg st r' = bg st r + r.2.2.length ∧ 1 ≤ r.2.2.length)) ∧ Chn st e (r' :: rest)
theorem chnP (st : Nat → Nat) (e i : Nat) (rest : List Rw) : ∀ (ps : List (List Nat)) (s : Nat), ps ≠ [] → ((∀ p ∈ ps, p ≠ []) ∨ ps.length = 1) → Chn st e rest →
    (rest = [] → st i + (s + ps.flatten.length) + 1 = e) → (∀ r' r2, rest = r' :: r2 → r'.1 ≠ i ∧ bg st r' = st i + (s + ps.flatten.length) + 1) → Chn st e (rowsP i s ps ++ rest)
  | [], s, h, _, _, _, _ => absurd rfl h
  | [p], s, _, _, hc, h1, h2 => by
    show Chn st e ((i, s, p) :: rest)
    cases rest with
    | nil =>
      have := h1 rfl
      simp at this
      show st i + s + p.length + 1 = e
      omega
    | cons r' r2 =>
      obtain ⟨a, b⟩ := h2 r' r2 rfl
      simp at b
      refine ⟨.inl ⟨a, ?_⟩, hc⟩
      show bg st r' = st i + s + p.length + 1
      omega
  | p :: q :: r, s, _, hn, hc, h1, h2 => by
    have hall : ∀ x ∈ p :: q :: r, x ≠ [] := by
      rcases hn with hn | hn
      · exact hn
      · simp at hn
    have ih := chnP st e i rest (q :: r) (s + p.length) (by simp) (.inl fun x hx => hall x (List.mem_cons_of_mem _ hx)) hc
      (fun hr => by have := h1 hr; rw [List.flatten_cons, List.length_append] at this; omega)
      (fun r' r2 hr => by have := h2 r' r2 hr; rw [List.flatten_cons, List.length_append] at this; exact ⟨this.1, by omega⟩)
    have hp : p ≠ [] := hall p List.mem_cons_self
    have hp1 : 1 ≤ p.length := List.length_pos_iff.mpr hp
    refine ⟨.inr ⟨rfl, ?_, hp1⟩, ih⟩
    show st i + (s + p.length) = st i + s + p.length
    omega
theorem chnA (w : Int) (st : Nat → Nat) (e : Nat) : ∀ (ls : List (List Nat)) (i : Nat), (∀ j l, ls[j]? = some l → st (i + j + 1) = st (i + j) + (l.length + 1)) → st (i + ls.length) = e → Chn st e (rowsA w i ls)
  | [], i, _, _ => trivial
  | l :: r, i, h, he => by
    have ih := chnA w st e r (i + 1) (fun j m hm => by
      have := h (j + 1) m (by simpa using hm)
      rw [show i + 1 + j + 1 = i + (j + 1) + 1 by omega, show i + 1 + j = i + (j + 1) by omega]
      exact this) (by rw [← he, List.length_cons]; congr 1; omega)
    have h0 : st (i + 1) = st i + (l.length + 1) := h 0 l rfl
    show Chn st e (rowsP i 0 (cutF w l) ++ rowsA w (i + 1) r)
    refine chnP st e i _ (cutF w l) 0 (cut_pos w l) ?_ ih ?_ ?_
    · by_cases hl : l = []
      · right; rw [hl, cut_nil]; rfl
      · exact .inl (cut_ne hl)
    · intro hr
      have : r = [] := by
        cases r with
        | nil => rfl
        | cons m r2 =>
          have z : rowsP (i + 1) 0 (cutF w m) ++ rowsA w (i + 1 + 1) r2 = [] := hr
          have z2 := congrArg List.length (List.append_eq_nil_iff.mp z).1
          rw [rowsP_len] at z2
          exact absurd (List.eq_nil_of_length_eq_zero z2) (cut_pos w m)
      subst this
      rw [cut_flat]
      rw [List.length_singleton] at he
      omega
    · intro r' r2 hr
      cases r with
      | nil => cases hr
      | cons m r3 =>
        have z : rowsP (i + 1) 0 (cutF w m) ++ rowsA w (i + 1 + 1) r3 = r' :: r2 := hr
        cases q : cutF w m with
        | nil => exact absurd q (cut_pos w m)
        | cons p ps =>
          rw [q] at z
          have z3 : ((i + 1, 0, p) : Rw) = r' := (List.cons.inj z).1
          rw [← z3, cut_flat]
          refine ⟨?_, ?_⟩
          · show i + 1 ≠ i; omega
          · show st (i + 1) + 0 = st i + (0 + l.length) + 1; omega
def lastB (R : List Rw) (k i : Nat) : Bool := decide (k + 1 = R.length) || (match R[k + 1]? with
  | some r => decide (r.1 ≠ i)
  | none => false)
def bF (st : Nat → Nat) (e : Nat) (R : List Rw) (k : Nat) : Nat := match R[k]? with
  | some r => bg st r
  | none => e
theorem chn_at (st : Nat → Nat) (e : Nat) : ∀ (R : List Rw) (k : Nat) (r : Rw), Chn st e R → R[k]? = some r →
    bF st e R (k + 1) = bg st r + r.2.2.length + (if lastB R k r.1 = true then 1 else 0) ∧ bg st r < bF st e R (k + 1)
  | [], k, r, _, h => by cases h
  | [a], 0, r, c, h => by
    cases h
    have c : bg st a + a.2.2.length + 1 = e := c
    have e1 : bF st e [a] (0 + 1) = e := rfl
    have e2 : lastB [a] 0 a.1 = true := rfl
    rw [e1, e2, if_pos rfl]
    omega
  | [a], k + 1, r, c, h => by cases h
  | a :: b :: rest, 0, r, c, h => by
    cases h
    obtain ⟨c, -⟩ := c
    have e1 : bF st e (a :: b :: rest) (0 + 1) = bg st b := rfl
    have e2 : lastB (a :: b :: rest) 0 a.1 = decide (b.1 ≠ a.1) := by
      unfold lastB
      simp
    rw [e1, e2]
    rcases c with ⟨c1, c2⟩ | ⟨c1, c2, c3⟩
    · rw [decide_eq_true c1, if_pos rfl]; omega
    · rw [decide_eq_false (fun z => z c1)]; simp; omega
  | a :: b :: rest, k + 1, r, c, h => by
    have ih := chn_at st e (b :: rest) k r c.2 h
    have e1 : bF st e (a :: b :: rest) (k + 1 + 1) = bF st e (b :: rest) (k + 1) := rfl
    have e2 : lastB (a :: b :: rest) (k + 1) r.1 = lastB (b :: rest) k r.1 := by
      unfold lastB
      simp
    rw [e1, e2]
    exact ih
/-- what a row of a line says -/
theorem rowP_in (i : Nat) : ∀ (ps : List (List Nat)) (s : Nat) (r : Rw), r ∈ rowsP i s ps → r.1 = i ∧ s ≤ r.2.1 ∧ r.2.1 + r.2.2.length ≤ s + ps.flatten.length ∧ r.2.2 ∈ ps
  | [], s, r, h => by cases h
  | p :: ps, s, r, h => by
    have h : r ∈ (i, s, p) :: rowsP i (s + p.length) ps := h
    rw [List.flatten_cons, List.length_append]
    rcases List.mem_cons.mp h with e | e
    · subst e
      refine ⟨rfl, Nat.le_refl _, ?_, List.mem_cons_self⟩
      show s + p.length ≤ s + (p.length + ps.flatten.length)
      omega
    · obtain ⟨a, b, c, d⟩ := rowP_in i ps (s + p.length) r e
      exact ⟨a, by omega, by omega, List.mem_cons_of_mem _ d⟩
theorem rowA_in (w : Int) : ∀ (ls : List (List Nat)) (i : Nat) (r : Rw), r ∈ rowsA w i ls → ∃ j l, ls[j]? = some l ∧ r.1 = i + j ∧ r.2.1 + r.2.2.length ≤ l.length ∧ r.2.2 ∈ cutF w l
  | [], i, r, h => by cases h
  | l :: ls, i, r, h => by
    have h : r ∈ rowsP i 0 (cutF w l) ++ rowsA w (i + 1) ls := h
    rcases List.mem_append.mp h with e | e
    · obtain ⟨a, b, c, d⟩ := rowP_in i (cutF w l) 0 r e
      rw [cut_flat] at c
      exact ⟨0, l, rfl, a, by omega, d⟩
    · obtain ⟨j, m, a, b, c, d⟩ := rowA_in w ls (i + 1) r e
      exact ⟨j + 1, m, by simpa using a, by omega, c, d⟩
/-- all that is to be known of the rows R of a text ls -/
structure Lay (ls : List (List Nat)) (R : List Rw) (b : Nat → Nat) : Prop where
  pos : 0 < R.length
  b0 : b 0 = 0
  bN : b R.length = (jn ls).length + 1
  mono : ∀ k, k < R.length → b k < b (k + 1)
  row : ∀ k r, R[k]? = some r → b k = stF ls r.1 + r.2.1 ∧ b (k + 1) = b k + r.2.2.length + (if lastB R k r.1 = true then 1 else 0) ∧ r.1 < ls.length ∧ b (k + 1) ≤ stF ls (r.1 + 1) ∧ r.2.2.length ≤ 10000
theorem lay {ls : List (List Nat)} (t : TxOk ls) (w : Int) : Lay ls (rowsA w 0 ls) (bF (stF ls) ((jn ls).length + 1) (rowsA w 0 ls)) := by
  have jl := jn_len t.ne
  have e : stF ls ls.length = (jn ls).length + 1 := by rw [stF_all, jl]
  have ch := chnA w (stF ls) ((jn ls).length + 1) ls 0 (fun j l hl => by rw [Nat.zero_add]; exact stF_succ hl) (by rw [Nat.zero_add]; exact e)
  obtain ⟨p, ps, hps⟩ : ∃ p ps, rowsA w 0 ls = (0, 0, p) :: ps := by
    cases q : ls with
    | nil => exact absurd q t.ne
    | cons l r =>
      cases q2 : cutF w l with
      | nil => exact absurd q2 (cut_pos w l)
      | cons p ps =>
        refine ⟨p, rowsP 0 (0 + p.length) ps ++ rowsA w 1 r, ?_⟩
        show rowsP 0 0 (cutF w l) ++ rowsA w 1 r = _
        rw [q2]
        rfl
  have at' : ∀ k r, (rowsA w 0 ls)[k]? = some r → bF (stF ls) ((jn ls).length + 1) (rowsA w 0 ls) k = bg (stF ls) r := fun k r hr => by unfold bF; rw [hr]
  refine ⟨by rw [hps]; simp, ?_, ?_, ?_, ?_⟩
  · rw [at' 0 (0, 0, p) (by rw [hps]; rfl)]; rfl
  · unfold bF; rw [List.getElem?_eq_none (Nat.le_refl _)]
  · intro k hk
    rw [at' k _ (List.getElem?_eq_getElem hk)]
    exact (chn_at (stF ls) _ _ k _ ch (List.getElem?_eq_getElem hk)).2
  · intro k r hr
    obtain ⟨a, c⟩ := chn_at (stF ls) _ _ k _ ch hr
    obtain ⟨j, l, x1, x2, x3, x4⟩ := rowA_in w ls 0 r (List.mem_of_getElem? hr)
    rw [Nat.zero_add] at x2
    rw [at' k r hr]
    have hl := t.mem_len (List.mem_of_getElem? x1)
    refine ⟨rfl, a, by rw [x2]; exact (List.getElem?_eq_some_iff.mp x1).1, ?_, by omega⟩
    rw [a, x2, stF_succ x1]
    show stF ls r.1 + r.2.1 + _ + _ ≤ _
    rw [x2]
    split <;> omega
theorem Lay.le {ls : List (List Nat)} {R : List Rw} {b : Nat → Nat} (L : Lay ls R b) {i j : Nat} (h : i ≤ j) (hj : j ≤ R.length) : b i ≤ b j := by
  induction j with
  | zero => rw [Nat.le_zero.mp h]; exact Nat.le_refl _
  | succ j ih =>
    rcases Nat.lt_or_ge i (j + 1) with h1 | h1
    · have := ih (by omega) (by omega)
      have := L.mono j (by omega)
      omega
    · have : i = j + 1 := by omega
      rw [this]; exact Nat.le_refl _
theorem Lay.find {ls : List (List Nat)} {R : List Rw} {b : Nat → Nat} (L : Lay ls R b) {P : Nat} : ∀ m, m ≤ R.length → P < b m → ∃ k, k < m ∧ b k ≤ P ∧ P < b (k + 1)
  | 0, _, h => by rw [L.b0] at h; omega
  | m + 1, hm, h => by
    by_cases hp : P < b m
    · obtain ⟨k, a, c⟩ := L.find m (by omega) hp
      exact ⟨k, by omega, c⟩
    · exact ⟨m, by omega, by omega, h⟩
theorem stF_mono {ls : List (List Nat)} {i j : Nat} (h : i ≤ j) : stF ls i ≤ stF ls j := by
  induction j with
  | zero => rw [Nat.le_zero.mp h]; exact Nat.le_refl _
  | succ j ih =>
    rcases Nat.lt_or_ge i (j + 1) with h1 | h1
    · refine Nat.le_trans (ih (by omega)) ?_
      cases q : ls[j]? with
      | none =>
        have := List.getElem?_eq_none_iff.mp q
        unfold stF
        rw [List.take_of_length_le (by omega), List.take_of_length_le (by omega)]
        exact Nat.le_refl _
      | some l => rw [stF_succ q]; omega
    · have : i = j + 1 := by omega
      rw [this]; exact Nat.le_refl _
/-- how many lines begin at or before P -/
theorem count_le {f : Nat → Nat} {n i P : Nat} (hi : i < n) (h1 : ∀ j, j ≤ i → f j ≤ P) (h2 : ∀ j, i < j → P < f j) : ((List.range n).filter fun k => decide (f k ≤ P)).length = i + 1 := by
  have e : (List.range n).filter (fun k => decide (f k ≤ P)) = (List.range n).filter (fun k => decide (k ≤ i)) := by
    refine List.filter_congr fun k _ => ?_
    by_cases hk : k ≤ i
    · simp [hk, h1 k hk]
    · have := h2 k (by omega)
      simp [hk]; omega
  rw [e]
  clear h1 h2 e
  induction n with
  | zero => omega
  | succ n ih =>
    rw [List.range_succ, List.filter_append, List.length_append]
    by_cases hn : i < n
    · rw [ih hn]
      have : ¬ n ≤ i := by omega
      simp [this]
    · have : i = n := by omega
      subst this
      have : (List.range i).filter (fun k => decide (k ≤ i)) = List.range i := List.filter_eq_self.mpr fun k hk => by
        have := List.mem_range.mp hk
        simp; omega
      rw [this]
      simp
/-- the last of the rows that pass is k, when k passes and none behind it does -/
theorem filter_last {n k : Nat} {t : Nat → Bool} (hk : k < n) (h1 : t k = true) (h2 : ∀ j, k < j → j < n → t j = false) : ∃ xs, (List.range n).filter t = xs ++ [k] := by
  induction n with
  | zero => omega
  | succ n ih =>
    rw [List.range_succ, List.filter_append]
    by_cases hn : k < n
    · obtain ⟨xs, e⟩ := ih hn fun j a c => h2 j a (by omega)
      have := h2 n hn (by omega)
      exact ⟨xs, by rw [e]; simp [this]⟩
    · have : k = n := by omega
      subst this
      exact ⟨(List.range k).filter t, by simp [h1]⟩
/-! ### spots -/
def nF (b : Nat → Nat) (k : Nat) : Nat := b (k + 1) - b k
def spV (k c : Nat) : Val := .tup [.int (k : Int), .int (c : Int)]
def spotsF (b : Nat → Nat) : Nat → List Val
  | 0 => []
  | m + 1 => spotsF b m ++ (List.range (nF b m)).map (spV m)
theorem spots_len {ls : List (List Nat)} {R : List Rw} {b : Nat → Nat} (L : Lay ls R b) : ∀ m, m ≤ R.length → (spotsF b m).length = b m
  | 0, _ => by rw [L.b0]; rfl
  | m + 1, hm => by
    have := L.mono m (by omega)
    show (spotsF b m ++ _).length = _
    rw [List.length_append, spots_len L m (by omega), List.length_map, List.length_range]
    unfold nF
    omega
theorem spots_at {ls : List (List Nat)} {R : List Rw} {b : Nat → Nat} (L : Lay ls R b) {k P : Nat} (h1 : b k ≤ P) (h2 : P < b (k + 1)) : ∀ m, k < m → m ≤ R.length → (spotsF b m)[P]? = some (spV k (P - b k))
  | 0, h, _ => by omega
  | m + 1, h, hm => by
    have sl := spots_len L m (by omega)
    show (spotsF b m ++ _)[P]? = _
    by_cases hk : k < m
    · have := L.le (i := k + 1) (j := m) hk (by omega)
      rw [List.getElem?_append_left (by omega)]
      exact spots_at L h1 h2 m hk (by omega)
    · have : k = m := by omega
      subst this
      rw [List.getElem?_append_right (by omega), sl, List.getElem?_map, List.getElem?_range (by unfold nF; omega)]
      rfl
end W

set_option Elab.async false
set_option linter.all false
set_option maxRecDepth 100000
set_option maxHeartbeats 4000000
namespace W
open PySem L2 Mr
theorem filter_true {α : Type} (xs : List α) : xs.filter (fun _ => true) = xs := List.filter_eq_self.mpr fun _ _ => rfl
theorem ixv {α : Type} (xs : List α) (k : Nat) : L2.atI xs (k : Int) = xs[k]? := atI_nat'
theorem ixv1 {α : Type} (xs : List α) (k : Nat) : L2.atI xs ((k : Int) + 1) = xs[k + 1]? := atI_nat' (j := k + 1)
theorem ixz {α : Type} (x : α) (xs : List α) : L2.atI (x :: xs) 0 = some x := atI_nat' (j := 0)
theorem ixo {α : Type} (x y : α) (xs : List α) : L2.atI (x :: y :: xs) 1 = some y := atI_nat' (j := 1)
theorem last_val {R : List Rw} {k rf : Nat} {r : Rw} {i1 i2 i3 : Nat} {sl : Sl} {h : AH} (hr : R[k]? = some r) (hl : lstAt h rf = some (R.map rV))
    (s1 : sl[i1]? = some (some (.ref rf))) (s2 : sl[i2]? = some (some (.int (k : Int)))) (s3 : sl[i3]? = some (some (.int (r.1 : Int)))) :
    mOrV (mOp (Cp.o .eq) (mOp oAdd (mVar i2) (mC (.int 1))) (mCall cLen (mCons (mVar i1) (mNil)))) (mOp (Cp.o .ne) (mOp oIx (mOp oIx (mVar i1) (mOp oAdd (mVar i2) (mC (.int 1)))) (mC (.int 0))) (mVar i3)) sl h = .ok (.bl (lastB R k r.1)) h := by
  have hk : k < R.length := (List.getElem?_eq_some_iff.mp hr).1
  simp -implicitDefEqProofs only [bd_ok, fin_rt, fin_nx, ret_app, mC_app, varR_some, mVar_app, mOp_app, mUn_app, truR_bl, mTest_app, mAnd_app, mOr_app, mNot_app, andR_bl, orR_bl, notR_bl, mAndV_app, mOrV_app, mNotV_app, mIf_app, mNil_app, mCons_app, mTup_app, mNewL_app, mLst_app, mCall_app, mNoPart_app, partR_int, mPart_app, mSl_app, chainR_bl, mChain_app, kitR_some, tyR_some, mIsi_app, mMeth_app, mNext_app, seqR_nx, seqR_rt, seqR_bk, seqR_ct, mSeq_app, mBreak_app, mCont_app, mDrop_app, mRet_app, mIfS_app, mSet_app, asgR_some, mAsg_app, parR_two, mPar_app, par3R_three, mPar3_app, mSub_app, augR'_some, mAug_app, mFor_app, bd_nm, bd_tp, bds_nil, bdsR_some, bds_cons, oAdd_ii, oAdd_ss, oSub_ii, oMul_ii, oDiv_ii, oMod_ii, oPow_ii, cpo_eq, cpo_ne, cpo_lt, cpo_le, cpo_gt, cpo_ge, cpo_in, cpo_notin, cpo_isN, cpo_notN, oEq_ii, oEq_ss, oNe_ii, oNe_ss, oLt_ii, oLe_ii, oGt_ii, oGe_ii, oIsN_non, oIsN_ref, oIsN_tup, oNotN_non, oNotN_ref, oNotN_tup, atR_some, oIx_tup, ixR_some, oIx_ref, sxR_some, oIx_str, newR_some, oSl_str, oSl_ref, lenR_some, cLen_one, lenB_str, lenB_ref, lenB_tup, cInt_i, cInt_b, cMin2_ii, cMax2_ii, cList_ref, stR_some, stL_ref, appR_some, fAppend_ref, oAug_ii, oAug_ss, uNeg_i, isTy_str, tyName_int, tyName_str, tyName_bl, tyName_non, tyName_tup, kit_ii, kit_ib, kit_bb, kit_bi, kit_ss, kit_is, kit_ll, kit_tt, kit_tl, kit_lt, mIter_app, iterR_str, iterR_tup, rngR_one, mRng1_app, rng2R_two, mRng2_app, mEnum_app, mZip_app, Bd_some, Nx_ok, Fx_nx, Fx_rt, mYes_app, wipeM, List.set_cons_succ, List.set_cons_zero, List.getElem?_cons_succ, List.getElem?_cons_zero, if_true, Bool.false_eq_true, if_false, List.length_cons, List.length_nil, Nat.zero_add, Nat.reduceAdd, sz0, sz1, sz2, sz3, beq_self_eq_true, Bool.not_true, Bool.not_false, List.cons_append, List.nil_append, s1, s2, s3, hl, Option.map_some, List.length_map, ixv1]
  by_cases h1 : k + 1 = R.length
  · have : ((k : Int) + 1 = (R.length : Int)) := by omega
    simp -implicitDefEqProofs only [this, decide_true, if_true, lastB, h1, Bool.true_or]
  · have n1 : ¬ ((k : Int) + 1 = (R.length : Int)) := by omega
    have h2 : k + 1 < R.length := by omega
    simp -implicitDefEqProofs only [decide_eq_false n1, Bool.false_eq_true, if_false, List.getElem?_map, List.getElem?_eq_getElem h2, Option.map_some, atR_some, bd_ok, rV, oIx_tup, ixz, oNe_ii, lastB, decide_eq_false h1, Bool.false_or]
    congr 2
    by_cases h3 : R[k + 1].1 = r.1
    · simp [h3]
    · have : ¬ ((R[k + 1].1 : Int) = (r.1 : Int)) := by omega
      simp [h3, this]
section
variable {ls : List (List Nat)} {w : Int} {R : List Rw} {b : Nat → Nat}
def plV (b : Nat → Nat) (k : Nat) : List Val := (List.range (nF b k)).map fun (c : Nat) => Val.int ((b k : Int) + (c : Int))
theorem spec_places (t : TxOk ls) (L : Lay ls R b) (h : AH) {k rf : Nat} (hk : k < R.length) (hl : lstAt h rf = some (R.map rV)) : RL (m__law_places [sV (jn ls), .ref rf, .int (k : Int)] h) h (plV b k) := by
  obtain ⟨r, hr⟩ : ∃ r, R[k]? = some r := ⟨_, List.getElem?_eq_getElem hk⟩
  obtain ⟨c1, c2, c3, c4, c5⟩ := L.row k r hr
  obtain ⟨d, h1, e1, x1, l1, m1⟩ := (spec_starts t h).ex
  rw [a__law_places]
  unfold b__law_places
  have ix : L2.atI (R.map rV) (k : Int) = some (rV r) := by rw [ixv, List.getElem?_map, hr]; rfl
  rw [mSeq_app, mAsg_app]
  simp -implicitDefEqProofs only [mOp_app, mVar_app, List.getElem?_cons_succ, List.getElem?_cons_zero, varR_some, bd_ok, oIx_ref, hl, ixR_some, ix, atR_some, rV, bd_tp, List.length_cons, List.length_nil, if_true, bds_cons, bd_nm, bdsR_some, bds_nil, List.set_cons_succ, List.set_cons_zero, asgR_some, seqR_nx]
  rw [mSeq_app, mSet_app, last_val (i1 := 1) (i2 := 2) (i3 := 5) hr hl rfl rfl rfl]
  have st : L2.atI (stV ls ls.length) (r.1 : Int) = some (.int (stF ls r.1 : Int)) := by rw [ixv]; exact stV_at c3
  simp -implicitDefEqProofs only [bd_ok, seqR_nx, List.set_cons_succ, List.set_cons_zero]
  rw [mSeq_app, mSet_app]
  simp -implicitDefEqProofs only [mOp_app, mCall_app, mCons_app, mVar_app, List.getElem?_cons_succ, List.getElem?_cons_zero, varR_some, bd_ok, mNil_app, e1, oIx_ref, mut_lst m1, ixR_some, st, atR_some, oAdd_ii, seqR_nx, List.set_cons_succ, List.set_cons_zero]
  have nn : ((r.2.2.length : Int) + (if lastB R k r.1 = true then 1 else 0)) = ((nF b k : Nat) : Int) := by
    unfold nF
    rw [c2]
    split <;> omega
  have nb : nF b k ≤ 10001 := by
    unfold nF
    rw [c2]
    split <;> omega
  rw [mRet_app, mLc_app, mRng1_app]
  simp -implicitDefEqProofs only [mCons_app, mOp_app, mCall_app, mVar_app, List.getElem?_cons_succ, List.getElem?_cons_zero, varR_some, bd_ok, mNil_app, cLen_one, lenB_str, sS_len, if_pos (sz (show r.2.2.length ≤ 16777216 by omega)), lenR_some, cInt_b, oAdd_ii, nn]
  rw [rng_nat _ _ (by omega), bd_ok]
  rw [lc_pure (List.range (nF b k)) (fun (c : Nat) => Val.int (c : Int)) (fun _ => true) (fun (c : Nat) => Val.int ((b k : Int) + (c : Int))) (by rw [List.length_range]; omega) (fun j h' _ _ => by rw [nRange_at, rngVals0]) ?_]
  · rw [bd_ok, fin_rt]
    have := x1.len
    refine ⟨x1.trans (Xt.new _ _), this, ?_⟩
    rw [mut_new, filter_true]
    rfl
  · intro c h' _ _
    simp -implicitDefEqProofs only [bd_ok, fin_rt, fin_nx, ret_app, mC_app, varR_some, mVar_app, mOp_app, mUn_app, truR_bl, mTest_app, mAnd_app, mOr_app, mNot_app, andR_bl, orR_bl, notR_bl, mAndV_app, mOrV_app, mNotV_app, mIf_app, mNil_app, mCons_app, mTup_app, mNewL_app, mLst_app, mCall_app, mNoPart_app, partR_int, mPart_app, mSl_app, chainR_bl, mChain_app, kitR_some, tyR_some, mIsi_app, mMeth_app, mNext_app, seqR_nx, seqR_rt, seqR_bk, seqR_ct, mSeq_app, mBreak_app, mCont_app, mDrop_app, mRet_app, mIfS_app, mSet_app, asgR_some, mAsg_app, parR_two, mPar_app, par3R_three, mPar3_app, mSub_app, augR'_some, mAug_app, mFor_app, bd_nm, bd_tp, bds_nil, bdsR_some, bds_cons, oAdd_ii, oAdd_ss, oSub_ii, oMul_ii, oDiv_ii, oMod_ii, oPow_ii, cpo_eq, cpo_ne, cpo_lt, cpo_le, cpo_gt, cpo_ge, cpo_in, cpo_notin, cpo_isN, cpo_notN, oEq_ii, oEq_ss, oNe_ii, oNe_ss, oLt_ii, oLe_ii, oGt_ii, oGe_ii, oIsN_non, oIsN_ref, oIsN_tup, oNotN_non, oNotN_ref, oNotN_tup, atR_some, oIx_tup, ixR_some, oIx_ref, sxR_some, oIx_str, newR_some, oSl_str, oSl_ref, lenR_some, cLen_one, lenB_str, lenB_ref, lenB_tup, cInt_i, cInt_b, cMin2_ii, cMax2_ii, cList_ref, stR_some, stL_ref, appR_some, fAppend_ref, oAug_ii, oAug_ss, uNeg_i, isTy_str, tyName_int, tyName_str, tyName_bl, tyName_non, tyName_tup, kit_ii, kit_ib, kit_bb, kit_bi, kit_ss, kit_is, kit_ll, kit_tt, kit_tl, kit_lt, mIter_app, iterR_str, iterR_tup, rngR_one, mRng1_app, rng2R_two, mRng2_app, mEnum_app, mZip_app, Bd_some, Nx_ok, Fx_nx, Fx_rt, mYes_app, wipeM, List.set_cons_succ, List.set_cons_zero, List.getElem?_cons_succ, List.getElem?_cons_zero, if_true, Bool.false_eq_true, if_false, List.length_cons, List.length_nil, Nat.zero_add, Nat.reduceAdd, sz0, sz1, sz2, sz3, beq_self_eq_true, Bool.not_true, Bool.not_false, List.cons_append, List.nil_append]
    refine ⟨trivial, fun _ => ?_⟩
    rw [c1]
    simp
theorem spec_spots (t : TxOk ls) (L : Lay ls R b) (nl : R.length ≤ 30000) (h : AH) {rf : Nat} (hl : lstAt h rf = some (R.map rV)) : RL (m__law_spots [sV (jn ls), .ref rf] h) h (spotsF b R.length) := by
  have sm := t.sm
  rw [a__law_spots]
  unfold b__law_spots
  rw [mSeq_app, mSet_app]
  simp -implicitDefEqProofs only [mLst_app, mNil_app, bd_ok, List.length_nil, sz0, if_true, seqR_nx, List.set_cons_succ, List.set_cons_zero]
  rw [mSeq_app, mFor_app, mRng1_app]
  have hl1 : lstAt (h ++ [.lst []]) rf = some (R.map rV) := (Xt.new _ _).lst hl
  simp -implicitDefEqProofs only [mCons_app, mCall_app, mVar_app, List.getElem?_cons_succ, List.getElem?_cons_zero, varR_some, bd_ok, mNil_app, cLen_one, lenB_ref, hl1, Option.map_some, List.length_map, lenR_some]
  rw [rng_nat _ _ (by omega), bd_ok]
  refine for_bd (rngVals 0 R.length) (fun k sl h' => ∃ v3 d, sl = [some (sV (jn ls)), some (.ref rf), some (.ref d), v3, none] ∧ Xt h h' ∧ h.length ≤ d ∧ mutAt h' d = some (spotsF b k))
    (fun r => RL (fin r) h _) ⟨none, h.length, rfl, Xt.new _ _, Nat.le_refl _, mut_new _ _⟩ (by rw [rngVals_len]; omega) (fun k sl h' _ _ => nRange_at _ _ k h') ?_ ?_
  · rintro k x sl h' hx ⟨v3, d, rfl, x1, x2, x3⟩
    rw [rngVals0] at hx
    obtain ⟨k', hk', rfl⟩ := map_at hx
    have hk : k < R.length := by
      have := (List.getElem?_eq_some_iff.mp hk').1
      rwa [List.length_range] at this
    rw [List.getElem?_range hk] at hk'
    cases hk'
    obtain ⟨d1, h1, e1, y1, l1, m1⟩ := (spec_places t L h' hk (x1.lst hl)).ex
    have ub := L.le (i := k + 1) (j := R.length) hk (Nat.le_refl _)
    rw [L.bN] at ub
    have sl1 := spots_len L k (by omega)
    have mo := L.mono k hk
    have nb : nF b k ≤ 10001 := by unfold nF; omega
    have pl : (plV b k).length = nF b k := by unfold plV; rw [List.length_map, List.length_range]
    have lcE : lcR (.nm 4) mYes (mTup (mCons (mVar 3) (mCons (mVar 4) (mNil)))) [some (sV (jn ls)), some (.ref rf), some (.ref d), some (.int (k : Int)), none] [4] (nRange 0 (nF b k)) h1 = .ok (.ref h1.length) (h1 ++ [.lst ((List.range (nF b k)).map (spV k))]) := by
      rw [lc_pure (List.range (nF b k)) (fun (c : Nat) => Val.int (c : Int)) (fun _ => true) (spV k) (by rw [List.length_range]; omega) (fun j h' _ _ => by rw [nRange_at, rngVals0]) ?_]
      · rw [filter_true]
      · intro c h' _ _
        simp -implicitDefEqProofs only [bd_ok, fin_rt, fin_nx, ret_app, mC_app, varR_some, mVar_app, mOp_app, mUn_app, truR_bl, mTest_app, mAnd_app, mOr_app, mNot_app, andR_bl, orR_bl, notR_bl, mAndV_app, mOrV_app, mNotV_app, mIf_app, mNil_app, mCons_app, mTup_app, mNewL_app, mLst_app, mCall_app, mNoPart_app, partR_int, mPart_app, mSl_app, chainR_bl, mChain_app, kitR_some, tyR_some, mIsi_app, mMeth_app, mNext_app, seqR_nx, seqR_rt, seqR_bk, seqR_ct, mSeq_app, mBreak_app, mCont_app, mDrop_app, mRet_app, mIfS_app, mSet_app, asgR_some, mAsg_app, parR_two, mPar_app, par3R_three, mPar3_app, mSub_app, augR'_some, mAug_app, mFor_app, bd_nm, bd_tp, bds_nil, bdsR_some, bds_cons, oAdd_ii, oAdd_ss, oSub_ii, oMul_ii, oDiv_ii, oMod_ii, oPow_ii, cpo_eq, cpo_ne, cpo_lt, cpo_le, cpo_gt, cpo_ge, cpo_in, cpo_notin, cpo_isN, cpo_notN, oEq_ii, oEq_ss, oNe_ii, oNe_ss, oLt_ii, oLe_ii, oGt_ii, oGe_ii, oIsN_non, oIsN_ref, oIsN_tup, oNotN_non, oNotN_ref, oNotN_tup, atR_some, oIx_tup, ixR_some, oIx_ref, sxR_some, oIx_str, newR_some, oSl_str, oSl_ref, lenR_some, cLen_one, lenB_str, lenB_ref, lenB_tup, cInt_i, cInt_b, cMin2_ii, cMax2_ii, cList_ref, stR_some, stL_ref, appR_some, fAppend_ref, oAug_ii, oAug_ss, uNeg_i, isTy_str, tyName_int, tyName_str, tyName_bl, tyName_non, tyName_tup, kit_ii, kit_ib, kit_bb, kit_bi, kit_ss, kit_is, kit_ll, kit_tt, kit_tl, kit_lt, mIter_app, iterR_str, iterR_tup, rngR_one, mRng1_app, rng2R_two, mRng2_app, mEnum_app, mZip_app, Bd_some, Nx_ok, Fx_nx, Fx_rt, mYes_app, wipeM, List.set_cons_succ, List.set_cons_zero, List.getElem?_cons_succ, List.getElem?_cons_zero, if_true, Bool.false_eq_true, if_false, List.length_cons, List.length_nil, Nat.zero_add, Nat.reduceAdd, sz0, sz1, sz2, sz3, beq_self_eq_true, Bool.not_true, Bool.not_false, List.cons_append, List.nil_append]
        exact ⟨trivial, fun _ => rfl⟩
    have f1 : mutAt (h1 ++ [.lst ((List.range (nF b k)).map (spV k))]) d = some (spotsF b k) := (Xt.new _ _).mut (y1.mut x3)
    have f2 : mutAt (h1 ++ [.lst ((List.range (nF b k)).map (spV k))]) h1.length = some ((List.range (nF b k)).map (spV k)) := mut_new _ _
    simp -implicitDefEqProofs only [bd_nm, Bd_some, List.set_cons_succ, List.set_cons_zero, mSet_app, mOp_app, mVar_app, List.getElem?_cons_succ, List.getElem?_cons_zero, varR_some, bd_ok]
    rw [mLc_app, mRng1_app]
    simp -implicitDefEqProofs only [mCons_app, mCall_app, mVar_app, List.getElem?_cons_succ, List.getElem?_cons_zero, varR_some, bd_ok, mNil_app, e1, cLen_one, lenB_ref, mut_lst m1, Option.map_some, pl, lenR_some]
    rw [rng_nat _ _ (by omega), bd_ok, lcE, bd_ok, add_mut f1 f2 (by rw [sl1, List.length_map, List.length_range]; omega), bd_ok, Nx_ok]
    have z1 := x1.len
    have z2 := y1.len
    refine ⟨_, _, rfl, ((x1.trans y1).trans (Xt.new _ _)).trans (Xt.new _ _), ?_, mut_new _ _⟩
    rw [List.length_append]
    omega
  · rintro sl h' ⟨v3, d, rfl, x1, x2, x3⟩
    rw [rngVals_len] at x3
    simp -implicitDefEqProofs only [seqR_nx, mRet_app, mVar_app, List.getElem?_cons_succ, List.getElem?_cons_zero, varR_some, bd_ok, fin_rt]
    exact ⟨x1, x2, x3⟩
end
end W

set_option Elab.async false
set_option linter.all false
set_option maxRecDepth 100000
set_option maxHeartbeats 4000000
namespace W
open PySem L2 Mr
section
variable {ls : List (List Nat)} {w : Int} {R : List Rw} {b : Nat → Nat}
def rAt (R : List Rw) (k : Nat) : Val := match R[k]? with
  | some r => rV r
  | none => .non
def rPass (R : List Rw) (i o : Nat) (k : Nat) : Bool := match R[k]? with
  | some r => decide (r.1 = i) && decide (r.2.1 ≤ o)
  | none => false
theorem enum_rows (R : List Rw) (j : Nat) : (enumVals (R.map rV))[j]? = ((List.range R.length).map fun (k : Nat) => Val.tup [.int (k : Int), rAt R k])[j]? := by
  unfold enumVals
  rw [List.getElem?_map, List.getElem?_zipIdx, List.getElem?_map, List.getElem?_map]
  by_cases hj : j < R.length
  · rw [List.getElem?_range hj, List.getElem?_eq_getElem hj]
    simp [rAt, List.getElem?_eq_getElem hj]
  · rw [List.getElem?_eq_none (l := R) (by omega), List.getElem?_eq_none (l := List.range R.length) (by rw [List.length_range]; omega)]
    rfl
theorem spec_seen (t : TxOk ls) (L : Lay ls R b) (hR : rowsA w 0 ls = R) (nl : R.length ≤ 30000) (h : AH) {P k : Nat} (hk : k < R.length) (p1 : b k ≤ P) (p2 : P < b (k + 1)) :
    RS (m_seen_at [sV (jn ls), .int w, .int (P : Int)] h) h (spV k (P - b k)) := by
  obtain ⟨r, hr⟩ : ∃ r, R[k]? = some r := ⟨_, List.getElem?_eq_getElem hk⟩
  obtain ⟨c1, c2, c3, c4, c5⟩ := L.row k r hr
  have lin := t.lines_len
  obtain ⟨d1, h1, e1, x1, l1, m1⟩ := (spec_begins t h).ex
  have cnt : ((List.range ls.length).filter fun k => decide (stF ls k ≤ P)).length = r.1 + 1 := count_le c3 (fun j hj => by have := stF_mono (ls := ls) hj; omega) (fun j hj => by have := stF_mono (ls := ls) (show r.1 + 1 ≤ j from hj); omega)
  have lc1 : lcR (.nm 8) (mTest (mOp (Cp.o .le) (mVar 8) (mVar 2))) (mVar 8) [some (sV (jn ls)), some (.int w), some (.int (P : Int)), some (.ref d1), none, none, none, none, none, none, none, none] [8] (nList d1) h1 = .ok (.ref h1.length) (h1 ++ [.lst (((List.range ls.length).filter fun k => decide (stF ls k ≤ P)).map fun k => Val.int (stF ls k : Int))]) := by
    rw [lc_pure (List.range ls.length) (fun k => Val.int (stF ls k : Int)) (fun k => decide (stF ls k ≤ P)) (fun k => Val.int (stF ls k : Int)) (by rw [List.length_range]; omega) (fun j h' _ xx => by rw [nList_at j (xx.lst (mut_lst m1))]; rfl) ?_]
    intro y h' hy _
    simp -implicitDefEqProofs only [bd_ok, fin_rt, fin_nx, ret_app, mC_app, varR_some, mVar_app, mOp_app, mUn_app, truR_bl, mTest_app, mAnd_app, mOr_app, mNot_app, andR_bl, orR_bl, notR_bl, mAndV_app, mOrV_app, mNotV_app, mIf_app, mNil_app, mCons_app, mTup_app, mNewL_app, mLst_app, mCall_app, mNoPart_app, partR_int, mPart_app, mSl_app, chainR_bl, mChain_app, kitR_some, tyR_some, mIsi_app, mMeth_app, mNext_app, seqR_nx, seqR_rt, seqR_bk, seqR_ct, mSeq_app, mBreak_app, mCont_app, mDrop_app, mRet_app, mIfS_app, mSet_app, asgR_some, mAsg_app, parR_two, mPar_app, par3R_three, mPar3_app, mSub_app, augR'_some, mAug_app, mFor_app, bd_nm, bd_tp, bds_nil, bdsR_some, bds_cons, oAdd_ii, oAdd_ss, oSub_ii, oMul_ii, oDiv_ii, oMod_ii, oPow_ii, cpo_eq, cpo_ne, cpo_lt, cpo_le, cpo_gt, cpo_ge, cpo_in, cpo_notin, cpo_isN, cpo_notN, oEq_ii, oEq_ss, oNe_ii, oNe_ss, oLt_ii, oLe_ii, oGt_ii, oGe_ii, oIsN_non, oIsN_ref, oIsN_tup, oNotN_non, oNotN_ref, oNotN_tup, atR_some, oIx_tup, ixR_some, oIx_ref, sxR_some, oIx_str, newR_some, oSl_str, oSl_ref, lenR_some, cLen_one, lenB_str, lenB_ref, lenB_tup, cInt_i, cInt_b, cMin2_ii, cMax2_ii, cList_ref, stR_some, stL_ref, appR_some, fAppend_ref, oAug_ii, oAug_ss, uNeg_i, isTy_str, tyName_int, tyName_str, tyName_bl, tyName_non, tyName_tup, kit_ii, kit_ib, kit_bb, kit_bi, kit_ss, kit_is, kit_ll, kit_tt, kit_tl, kit_lt, mIter_app, iterR_str, iterR_tup, rngR_one, mRng1_app, rng2R_two, mRng2_app, mEnum_app, mZip_app, Bd_some, Nx_ok, Fx_nx, Fx_rt, mYes_app, wipeM, List.set_cons_succ, List.set_cons_zero, List.getElem?_cons_succ, List.getElem?_cons_zero, if_true, Bool.false_eq_true, if_false, List.length_cons, List.length_nil, Nat.zero_add, Nat.reduceAdd, sz0, sz1, sz2, sz3, beq_self_eq_true, Bool.not_true, Bool.not_false, List.cons_append, List.nil_append, ]
    refine ⟨?_, fun _ => trivial⟩
    by_cases q : stF ls y ≤ P
    · have : ((stF ls y : Int) ≤ (P : Int)) := by omega
      simp [q, this]
    · have : ¬ ((stF ls y : Int) ≤ (P : Int)) := by omega
      simp [q, this]
  rw [a_seen_at]
  unfold b_seen_at
  rw [mSeq_app, mSet_app]
  simp -implicitDefEqProofs only [mCall_app, mCons_app, mVar_app, List.getElem?_cons_succ, List.getElem?_cons_zero, varR_some, bd_ok, mNil_app, e1, seqR_nx, List.set_cons_succ, List.set_cons_zero]
  rw [mSeq_app, mSet_app]
  simp -implicitDefEqProofs only [mOp_app, mCall_app, mCons_app, mLc_app, mIter_app, mVar_app, List.getElem?_cons_succ, List.getElem?_cons_zero, varR_some, bd_ok, iterR_ref (mut_lst m1)]
  rw [lc1]
  have l2 : lstAt (h1 ++ [.lst (((List.range ls.length).filter fun k => decide (stF ls k ≤ P)).map fun k => Val.int (stF ls k : Int))]) h1.length = some (((List.range ls.length).filter fun k => decide (stF ls k ≤ P)).map fun k => Val.int (stF ls k : Int)) := lst_new _ _
  generalize hg : h1 ++ [AO.lst (((List.range ls.length).filter fun k => decide (stF ls k ≤ P)).map fun k => Val.int (stF ls k : Int))] = h2 at l2
  have x2 : Xt h1 h2 := ⟨_, hg.symm⟩
  have li : (((r.1 + 1 : Nat) : Int) - 1) = (r.1 : Int) := by omega
  have st : L2.atI (stV ls ls.length) (r.1 : Int) = some (.int (stF ls r.1 : Int)) := by rw [ixv]; exact stV_at c3
  have of : ((P : Int) - (stF ls r.1 : Int)) = ((P - stF ls r.1 : Nat) : Int) := by omega
  simp -implicitDefEqProofs only [bd_ok, mNil_app, cLen_one, lenB_ref, l2, Option.map_some, List.length_map, cnt, lenR_some, mC_app, oSub_ii, li, seqR_nx, List.set_cons_succ, List.set_cons_zero]
  rw [mSeq_app, mSet_app]
  simp -implicitDefEqProofs only [mOp_app, mVar_app, List.getElem?_cons_succ, List.getElem?_cons_zero, varR_some, bd_ok, oIx_ref, x2.lst (mut_lst m1), ixR_some, st, atR_some, oSub_ii, of, seqR_nx, List.set_cons_succ, List.set_cons_zero]
  obtain ⟨d3, h3, e3, x3, l3, m3⟩ := (spec_rows t w (h2 ++ [.lst []]) h2.length (lst_new h2 [])).ex
  rw [hR] at m3
  rw [mSeq_app, mSet_app]
  simp -implicitDefEqProofs only [mCall_app, mCons_app, mVar_app, mLst_app, List.getElem?_cons_succ, List.getElem?_cons_zero, varR_some, bd_ok, mNil_app, List.length_nil, sz0, if_true, e3, seqR_nx, List.set_cons_succ, List.set_cons_zero]
  have lc2 : lcR (.tp [.nm 9, .tp [.nm 10, .nm 8, .nm 11]]) (mAnd (mTest (mOp (Cp.o .eq) (mVar 10) (mVar 4))) (mTest (mOp (Cp.o .le) (mVar 8) (mVar 5)))) (mVar 9) [some (sV (jn ls)), some (.int w), some (.int (P : Int)), some (.ref d1), some (.int (r.1 : Int)), some (.int ((P - stF ls r.1 : Nat) : Int)), some (.ref d3), none, none, none, none, none] [9, 10, 8, 11] (nEnum d3) h3 = .ok (.ref h3.length) (h3 ++ [.lst (((List.range R.length).filter (rPass R r.1 (P - stF ls r.1))).map fun (k : Nat) => Val.int (k : Int))]) := by
    rw [lc_pure (List.range R.length) (fun (k : Nat) => Val.tup [.int (k : Int), rAt R k]) (rPass R r.1 (P - stF ls r.1)) (fun (k : Nat) => Val.int (k : Int)) (by rw [List.length_range]; omega) (fun j h' _ xx => by rw [nEnum_at j (xx.lst (mut_lst m3)), enum_rows]) ?_]
    intro y h' hy _
    have hy := List.mem_range.mp hy
    have e : R[y]? = some R[y] := List.getElem?_eq_getElem hy
    have e5 : rAt R y = .tup [.int (R[y].1 : Int), .int (R[y].2.1 : Int), sV R[y].2.2] := by unfold rAt; rw [e]; rfl
    have e6 : rPass R r.1 (P - stF ls r.1) y = (decide (R[y].1 = r.1) && decide (R[y].2.1 ≤ P - stF ls r.1)) := by unfold rPass; rw [e]
    rw [e5, e6]
    simp -implicitDefEqProofs only [bd_ok, fin_rt, fin_nx, ret_app, mC_app, varR_some, mVar_app, mOp_app, mUn_app, truR_bl, mTest_app, mAnd_app, mOr_app, mNot_app, andR_bl, orR_bl, notR_bl, mAndV_app, mOrV_app, mNotV_app, mIf_app, mNil_app, mCons_app, mTup_app, mNewL_app, mLst_app, mCall_app, mNoPart_app, partR_int, mPart_app, mSl_app, chainR_bl, mChain_app, kitR_some, tyR_some, mIsi_app, mMeth_app, mNext_app, seqR_nx, seqR_rt, seqR_bk, seqR_ct, mSeq_app, mBreak_app, mCont_app, mDrop_app, mRet_app, mIfS_app, mSet_app, asgR_some, mAsg_app, parR_two, mPar_app, par3R_three, mPar3_app, mSub_app, augR'_some, mAug_app, mFor_app, bd_nm, bd_tp, bds_nil, bdsR_some, bds_cons, oAdd_ii, oAdd_ss, oSub_ii, oMul_ii, oDiv_ii, oMod_ii, oPow_ii, cpo_eq, cpo_ne, cpo_lt, cpo_le, cpo_gt, cpo_ge, cpo_in, cpo_notin, cpo_isN, cpo_notN, oEq_ii, oEq_ss, oNe_ii, oNe_ss, oLt_ii, oLe_ii, oGt_ii, oGe_ii, oIsN_non, oIsN_ref, oIsN_tup, oNotN_non, oNotN_ref, oNotN_tup, atR_some, oIx_tup, ixR_some, oIx_ref, sxR_some, oIx_str, newR_some, oSl_str, oSl_ref, lenR_some, cLen_one, lenB_str, lenB_ref, lenB_tup, cInt_i, cInt_b, cMin2_ii, cMax2_ii, cList_ref, stR_some, stL_ref, appR_some, fAppend_ref, oAug_ii, oAug_ss, uNeg_i, isTy_str, tyName_int, tyName_str, tyName_bl, tyName_non, tyName_tup, kit_ii, kit_ib, kit_bb, kit_bi, kit_ss, kit_is, kit_ll, kit_tt, kit_tl, kit_lt, mIter_app, iterR_str, iterR_tup, rngR_one, mRng1_app, rng2R_two, mRng2_app, mEnum_app, mZip_app, Bd_some, Nx_ok, Fx_nx, Fx_rt, mYes_app, wipeM, List.set_cons_succ, List.set_cons_zero, List.getElem?_cons_succ, List.getElem?_cons_zero, if_true, Bool.false_eq_true, if_false, List.length_cons, List.length_nil, Nat.zero_add, Nat.reduceAdd, sz0, sz1, sz2, sz3, beq_self_eq_true, Bool.not_true, Bool.not_false, List.cons_append, List.nil_append, ]
    refine ⟨?_, fun _ => trivial⟩
    by_cases q1 : R[y].1 = r.1
    · have q1' : ((R[y].1 : Int) = (r.1 : Int)) := by omega
      by_cases q2 : R[y].2.1 ≤ P - stF ls r.1
      · have q2' : ((R[y].2.1 : Int) ≤ ((P - stF ls r.1 : Nat) : Int)) := by omega
        simp [q1, q2, q1', q2']
      · have q2' : ¬ ((R[y].2.1 : Int) ≤ ((P - stF ls r.1 : Nat) : Int)) := by omega
        simp [q1, q2, q1', q2']
    · have q1' : ¬ ((R[y].1 : Int) = (r.1 : Int)) := by omega
      simp [q1, q1']
  obtain ⟨xs, hx⟩ := filter_last (t := rPass R r.1 (P - stF ls r.1)) hk (by unfold rPass; rw [hr]; simp; omega) (fun j a c => by
    unfold rPass
    rw [List.getElem?_eq_getElem c]
    obtain ⟨g1, -⟩ := L.row j R[j] (List.getElem?_eq_getElem c)
    have := L.le (i := k + 1) (j := j) a (by omega)
    by_cases q1 : R[j].1 = r.1
    · rw [q1] at g1
      simp [q1]; omega
    · simp [q1])
  rw [hx] at lc2
  have l4 : lstAt (h3 ++ [.lst ((xs ++ [k]).map fun (k : Nat) => Val.int (k : Int))]) h3.length = some ((xs ++ [k]).map fun (k : Nat) => Val.int (k : Int)) := lst_new _ _
  have l5 : lstAt (h3 ++ [.lst ((xs ++ [k]).map fun (k : Nat) => Val.int (k : Int))]) d3 = some (R.map rV) := (Xt.new _ _).lst (mut_lst m3)
  rw [mSeq_app, mSet_app]
  simp -implicitDefEqProofs only [mOp_app, mLc_app, mEnum_app, mCons_app, mVar_app, List.getElem?_cons_succ, List.getElem?_cons_zero, varR_some, bd_ok, mNil_app, enumR_ref (mut_lst m3)]
  rw [lc2]
  have la : L2.atI ((xs ++ [k]).map fun (k : Nat) => Val.int (k : Int)) (-1) = some (.int (k : Int)) := by rw [List.map_append]; exact atI_last' _ _
  have ix : L2.atI (R.map rV) (k : Int) = some (rV r) := by rw [ixv, List.getElem?_map, hr]; rfl
  have fi : (((P - stF ls r.1 : Nat) : Int) - (r.2.1 : Int)) = ((P - b k : Nat) : Int) := by omega
  simp -implicitDefEqProofs only [bd_ok, fin_rt, fin_nx, ret_app, mC_app, varR_some, mVar_app, mOp_app, mUn_app, truR_bl, mTest_app, mAnd_app, mOr_app, mNot_app, andR_bl, orR_bl, notR_bl, mAndV_app, mOrV_app, mNotV_app, mIf_app, mNil_app, mCons_app, mTup_app, mNewL_app, mLst_app, mCall_app, mNoPart_app, partR_int, mPart_app, mSl_app, chainR_bl, mChain_app, kitR_some, tyR_some, mIsi_app, mMeth_app, mNext_app, seqR_nx, seqR_rt, seqR_bk, seqR_ct, mSeq_app, mBreak_app, mCont_app, mDrop_app, mRet_app, mIfS_app, mSet_app, asgR_some, mAsg_app, parR_two, mPar_app, par3R_three, mPar3_app, mSub_app, augR'_some, mAug_app, mFor_app, bd_nm, bd_tp, bds_nil, bdsR_some, bds_cons, oAdd_ii, oAdd_ss, oSub_ii, oMul_ii, oDiv_ii, oMod_ii, oPow_ii, cpo_eq, cpo_ne, cpo_lt, cpo_le, cpo_gt, cpo_ge, cpo_in, cpo_notin, cpo_isN, cpo_notN, oEq_ii, oEq_ss, oNe_ii, oNe_ss, oLt_ii, oLe_ii, oGt_ii, oGe_ii, oIsN_non, oIsN_ref, oIsN_tup, oNotN_non, oNotN_ref, oNotN_tup, atR_some, oIx_tup, ixR_some, oIx_ref, sxR_some, oIx_str, newR_some, oSl_str, oSl_ref, lenR_some, cLen_one, lenB_str, lenB_ref, lenB_tup, cInt_i, cInt_b, cMin2_ii, cMax2_ii, cList_ref, stR_some, stL_ref, appR_some, fAppend_ref, oAug_ii, oAug_ss, uNeg_i, isTy_str, tyName_int, tyName_str, tyName_bl, tyName_non, tyName_tup, kit_ii, kit_ib, kit_bb, kit_bi, kit_ss, kit_is, kit_ll, kit_tt, kit_tl, kit_lt, mIter_app, iterR_str, iterR_tup, rngR_one, mRng1_app, rng2R_two, mRng2_app, mEnum_app, mZip_app, Bd_some, Nx_ok, Fx_nx, Fx_rt, mYes_app, wipeM, List.set_cons_succ, List.set_cons_zero, List.getElem?_cons_succ, List.getElem?_cons_zero, if_true, Bool.false_eq_true, if_false, List.length_cons, List.length_nil, Nat.zero_add, Nat.reduceAdd, sz0, sz1, sz2, sz3, beq_self_eq_true, Bool.not_true, Bool.not_false, List.cons_append, List.nil_append, l4, l5, la, ix, rV, ixo, fi]
  exact ⟨rfl, (x1.trans x2).trans ((Xt.new _ _).trans (x3.trans (Xt.new _ _)))⟩
theorem spec_spot (t : TxOk ls) (L : Lay ls R b) (hR : rowsA w 0 ls = R) (nl : R.length ≤ 30000) (hw : 1 ≤ w) (h : AH) {P k : Nat} (hk : k < R.length) (p1 : b k ≤ P) (p2 : P < b (k + 1)) :
    RS (m_spot [sV (jn ls), .int w, .int (P : Int)] h) h (spV k (P - b k)) := by
  have sm := t.sm
  obtain ⟨h1, e1, x1⟩ := (spec_check_text (jn ls) h (by omega) (jn_signs t.ok)).ex
  obtain ⟨h2, e2, x2⟩ := (spec_seen (w := w) t L hR nl h1 hk p1 p2).ex
  have ub := L.le (i := k + 1) (j := R.length) hk (Nat.le_refl _)
  rw [L.bN] at ub
  rw [a_spot]
  unfold b_spot
  simp -implicitDefEqProofs only [bd_ok, fin_rt, fin_nx, ret_app, mC_app, varR_some, mVar_app, mOp_app, mUn_app, truR_bl, mTest_app, mAnd_app, mOr_app, mNot_app, andR_bl, orR_bl, notR_bl, mAndV_app, mOrV_app, mNotV_app, mIf_app, mNil_app, mCons_app, mTup_app, mNewL_app, mLst_app, mCall_app, mNoPart_app, partR_int, mPart_app, mSl_app, chainR_bl, mChain_app, kitR_some, tyR_some, mIsi_app, mMeth_app, mNext_app, seqR_nx, seqR_rt, seqR_bk, seqR_ct, mSeq_app, mBreak_app, mCont_app, mDrop_app, mRet_app, mIfS_app, mSet_app, asgR_some, mAsg_app, parR_two, mPar_app, par3R_three, mPar3_app, mSub_app, augR'_some, mAug_app, mFor_app, bd_nm, bd_tp, bds_nil, bdsR_some, bds_cons, oAdd_ii, oAdd_ss, oSub_ii, oMul_ii, oDiv_ii, oMod_ii, oPow_ii, cpo_eq, cpo_ne, cpo_lt, cpo_le, cpo_gt, cpo_ge, cpo_in, cpo_notin, cpo_isN, cpo_notN, oEq_ii, oEq_ss, oNe_ii, oNe_ss, oLt_ii, oLe_ii, oGt_ii, oGe_ii, oIsN_non, oIsN_ref, oIsN_tup, oNotN_non, oNotN_ref, oNotN_tup, atR_some, oIx_tup, ixR_some, oIx_ref, sxR_some, oIx_str, newR_some, oSl_str, oSl_ref, lenR_some, cLen_one, lenB_str, lenB_ref, lenB_tup, cInt_i, cInt_b, cMin2_ii, cMax2_ii, cList_ref, stR_some, stL_ref, appR_some, fAppend_ref, oAug_ii, oAug_ss, uNeg_i, isTy_str, tyName_int, tyName_str, tyName_bl, tyName_non, tyName_tup, kit_ii, kit_ib, kit_bb, kit_bi, kit_ss, kit_is, kit_ll, kit_tt, kit_tl, kit_lt, mIter_app, iterR_str, iterR_tup, rngR_one, mRng1_app, rng2R_two, mRng2_app, mEnum_app, mZip_app, Bd_some, Nx_ok, Fx_nx, Fx_rt, mYes_app, wipeM, List.set_cons_succ, List.set_cons_zero, List.getElem?_cons_succ, List.getElem?_cons_zero, if_true, Bool.false_eq_true, if_false, List.length_cons, List.length_nil, Nat.zero_add, Nat.reduceAdd, sz0, sz1, sz2, sz3, beq_self_eq_true, Bool.not_true, Bool.not_false, List.cons_append, List.nil_append, e1, check_least_ok w 1 h1 hw, check_within_ok (P : Int) 0 ((jn ls).length : Int) h1 (by omega) (by omega), sS_len, if_pos (sz (show (jn ls).length ≤ 16777216 by omega)), e2]
  exact ⟨rfl, x1.trans x2⟩
def plI (b : Nat → Nat) (k : Nat) (c : Int) : Int := (b k : Int) + (if ((nF b k : Int) - 1 < c) then (nF b k : Int) - 1 else c)
theorem spec_place_in (t : TxOk ls) (L : Lay ls R b) (hR : rowsA w 0 ls = R) (h : AH) {k : Nat} (hk : k < R.length) (c : Int) :
    RS (m_place_in [sV (jn ls), .int w, .int (k : Int), .int c] h) h (.int (plI b k c)) := by
  obtain ⟨r, hr⟩ : ∃ r, R[k]? = some r := ⟨_, List.getElem?_eq_getElem hk⟩
  obtain ⟨c1, c2, c3, c4, c5⟩ := L.row k r hr
  obtain ⟨d1, h1, e1, x1, l1, m1⟩ := (spec_rows t w (h ++ [.lst []]) h.length (lst_new h [])).ex
  rw [hR] at m1
  obtain ⟨d2, h2, e2, x2, l2, m2⟩ := (spec_begins t h1).ex
  have ix : L2.atI (R.map rV) (k : Int) = some (rV r) := by rw [ixv, List.getElem?_map, hr]; rfl
  have st : L2.atI (stV ls ls.length) (r.1 : Int) = some (.int (stF ls r.1 : Int)) := by rw [ixv]; exact stV_at c3
  rw [a_place_in]
  unfold b_place_in
  rw [mSeq_app, mSet_app]
  simp -implicitDefEqProofs only [mCall_app, mCons_app, mVar_app, mLst_app, List.getElem?_cons_succ, List.getElem?_cons_zero, varR_some, bd_ok, mNil_app, List.length_nil, sz0, if_true, e1, seqR_nx, List.set_cons_succ, List.set_cons_zero]
  rw [mSeq_app, mAsg_app]
  simp -implicitDefEqProofs only [mOp_app, mVar_app, List.getElem?_cons_succ, List.getElem?_cons_zero, varR_some, bd_ok, oIx_ref, mut_lst m1, ixR_some, ix, atR_some, rV, bd_tp, List.length_cons, List.length_nil, if_true, bds_cons, bd_nm, bdsR_some, bds_nil, List.set_cons_succ, List.set_cons_zero, asgR_some, seqR_nx]
  rw [mSeq_app, mSet_app, last_val (i1 := 4) (i2 := 2) (i3 := 7) hr (mut_lst m1) rfl rfl rfl]
  have mo : (if lastB R k r.1 = true then Res.ok (Val.int (r.2.2.length : Int)) h1 else Res.ok (Val.int ((r.2.2.length : Int) - 1)) h1) = .ok (.int ((nF b k : Int) - 1)) h1 := by
    unfold nF
    rw [c2]
    split
    · congr 2; omega
    · congr 2; omega
  simp -implicitDefEqProofs only [bd_ok, fin_rt, fin_nx, ret_app, mC_app, varR_some, mVar_app, mOp_app, mUn_app, truR_bl, mTest_app, mAnd_app, mOr_app, mNot_app, andR_bl, orR_bl, notR_bl, mAndV_app, mOrV_app, mNotV_app, mIf_app, mNil_app, mCons_app, mTup_app, mNewL_app, mLst_app, mCall_app, mNoPart_app, partR_int, mPart_app, mSl_app, chainR_bl, mChain_app, kitR_some, tyR_some, mIsi_app, mMeth_app, mNext_app, seqR_nx, seqR_rt, seqR_bk, seqR_ct, mSeq_app, mBreak_app, mCont_app, mDrop_app, mRet_app, mIfS_app, mSet_app, asgR_some, mAsg_app, parR_two, mPar_app, par3R_three, mPar3_app, mSub_app, augR'_some, mAug_app, mFor_app, bd_nm, bd_tp, bds_nil, bdsR_some, bds_cons, oAdd_ii, oAdd_ss, oSub_ii, oMul_ii, oDiv_ii, oMod_ii, oPow_ii, cpo_eq, cpo_ne, cpo_lt, cpo_le, cpo_gt, cpo_ge, cpo_in, cpo_notin, cpo_isN, cpo_notN, oEq_ii, oEq_ss, oNe_ii, oNe_ss, oLt_ii, oLe_ii, oGt_ii, oGe_ii, oIsN_non, oIsN_ref, oIsN_tup, oNotN_non, oNotN_ref, oNotN_tup, atR_some, oIx_tup, ixR_some, oIx_ref, sxR_some, oIx_str, newR_some, oSl_str, oSl_ref, lenR_some, cLen_one, lenB_str, lenB_ref, lenB_tup, cInt_i, cInt_b, cMin2_ii, cMax2_ii, cList_ref, stR_some, stL_ref, appR_some, fAppend_ref, oAug_ii, oAug_ss, uNeg_i, isTy_str, tyName_int, tyName_str, tyName_bl, tyName_non, tyName_tup, kit_ii, kit_ib, kit_bb, kit_bi, kit_ss, kit_is, kit_ll, kit_tt, kit_tl, kit_lt, mIter_app, iterR_str, iterR_tup, rngR_one, mRng1_app, rng2R_two, mRng2_app, mEnum_app, mZip_app, Bd_some, Nx_ok, Fx_nx, Fx_rt, mYes_app, wipeM, List.set_cons_succ, List.set_cons_zero, List.getElem?_cons_succ, List.getElem?_cons_zero, if_true, Bool.false_eq_true, if_false, List.length_cons, List.length_nil, Nat.zero_add, Nat.reduceAdd, sz0, sz1, sz2, sz3, beq_self_eq_true, Bool.not_true, Bool.not_false, List.cons_append, List.nil_append, sS_len, if_pos (sz (show r.2.2.length ≤ 16777216 by omega)), mo, e2, mut_lst m2, st]
  refine ⟨?_, ((Xt.new _ _).trans x1).trans x2⟩
  unfold plI
  rw [c1]
  simp
theorem spec_place_at (t : TxOk ls) (L : Lay ls R b) (hR : rowsA w 0 ls = R) (hw : 1 ≤ w) (h : AH) {k : Nat} (hk : k < R.length) (c : Int) (hc : 0 ≤ c) :
    RS (m_place_at [sV (jn ls), .int w, .int (k : Int), .int c] h) h (.int (plI b k c)) := by
  have sm := t.sm
  obtain ⟨h1, e1, x1⟩ := (spec_check_text (jn ls) h (by omega) (jn_signs t.ok)).ex
  obtain ⟨d2, h2, e2, x2, l2, m2⟩ := (spec_rows t w (h1 ++ [.lst []]) h1.length (lst_new h1 [])).ex
  rw [hR] at m2
  obtain ⟨h3, e3, x3⟩ := (spec_place_in (w := w) t L hR h2 hk c).ex
  rw [a_place_at]
  unfold b_place_at
  simp -implicitDefEqProofs only [bd_ok, fin_rt, fin_nx, ret_app, mC_app, varR_some, mVar_app, mOp_app, mUn_app, truR_bl, mTest_app, mAnd_app, mOr_app, mNot_app, andR_bl, orR_bl, notR_bl, mAndV_app, mOrV_app, mNotV_app, mIf_app, mNil_app, mCons_app, mTup_app, mNewL_app, mLst_app, mCall_app, mNoPart_app, partR_int, mPart_app, mSl_app, chainR_bl, mChain_app, kitR_some, tyR_some, mIsi_app, mMeth_app, mNext_app, seqR_nx, seqR_rt, seqR_bk, seqR_ct, mSeq_app, mBreak_app, mCont_app, mDrop_app, mRet_app, mIfS_app, mSet_app, asgR_some, mAsg_app, parR_two, mPar_app, par3R_three, mPar3_app, mSub_app, augR'_some, mAug_app, mFor_app, bd_nm, bd_tp, bds_nil, bdsR_some, bds_cons, oAdd_ii, oAdd_ss, oSub_ii, oMul_ii, oDiv_ii, oMod_ii, oPow_ii, cpo_eq, cpo_ne, cpo_lt, cpo_le, cpo_gt, cpo_ge, cpo_in, cpo_notin, cpo_isN, cpo_notN, oEq_ii, oEq_ss, oNe_ii, oNe_ss, oLt_ii, oLe_ii, oGt_ii, oGe_ii, oIsN_non, oIsN_ref, oIsN_tup, oNotN_non, oNotN_ref, oNotN_tup, atR_some, oIx_tup, ixR_some, oIx_ref, sxR_some, oIx_str, newR_some, oSl_str, oSl_ref, lenR_some, cLen_one, lenB_str, lenB_ref, lenB_tup, cInt_i, cInt_b, cMin2_ii, cMax2_ii, cList_ref, stR_some, stL_ref, appR_some, fAppend_ref, oAug_ii, oAug_ss, uNeg_i, isTy_str, tyName_int, tyName_str, tyName_bl, tyName_non, tyName_tup, kit_ii, kit_ib, kit_bb, kit_bi, kit_ss, kit_is, kit_ll, kit_tt, kit_tl, kit_lt, mIter_app, iterR_str, iterR_tup, rngR_one, mRng1_app, rng2R_two, mRng2_app, mEnum_app, mZip_app, Bd_some, Nx_ok, Fx_nx, Fx_rt, mYes_app, wipeM, List.set_cons_succ, List.set_cons_zero, List.getElem?_cons_succ, List.getElem?_cons_zero, if_true, Bool.false_eq_true, if_false, List.length_cons, List.length_nil, Nat.zero_add, Nat.reduceAdd, sz0, sz1, sz2, sz3, beq_self_eq_true, Bool.not_true, Bool.not_false, List.cons_append, List.nil_append, e1, check_least_ok w 1 h1 hw, e2, mut_lst m2, Option.map_some, List.length_map, check_within_ok (k : Int) 0 ((R.length : Int) - 1) h2 (by omega) (by omega), check_least_ok c 0 h2 hc, e3]
  exact ⟨rfl, ((x1.trans (Xt.new _ _)).trans x2).trans x3⟩
theorem clamp_ex {N : Nat} (hN : 0 < N) (x : Int) : ∃ k : Nat, k < N ∧ (if (N : Int) - 1 < (if (0 : Int) > x then 0 else x) then (N : Int) - 1 else (if (0 : Int) > x then 0 else x)) = (k : Int) := by
  by_cases h1 : (0 : Int) > x
  · refine ⟨0, hN, ?_⟩
    rw [if_pos h1, if_neg (by omega)]; rfl
  · rw [if_neg h1]
    by_cases h2 : (N : Int) - 1 < x
    · refine ⟨N - 1, by omega, ?_⟩
      rw [if_pos h2]; omega
    · refine ⟨x.toNat, by omega, ?_⟩
      rw [if_neg h2]; omega
theorem spec_stepped (t : TxOk ls) (L : Lay ls R b) (hR : rowsA w 0 ls = R) (nl : R.length ≤ 30000) (hw : 1 ≤ w) (h : AH) {P k k' : Nat} (hk : k < R.length) (p1 : b k ≤ P) (p2 : P < b (k + 1)) (by' c : Int) (hc : 0 ≤ c)
    (hk' : k' < R.length) (ek : (if (R.length : Int) - 1 < (if (0 : Int) > (k : Int) + by' then 0 else (k : Int) + by') then (R.length : Int) - 1 else (if (0 : Int) > (k : Int) + by' then 0 else (k : Int) + by')) = (k' : Int)) :
    RS (m_stepped [sV (jn ls), .int w, .int (P : Int), .int by', .int c] h) h (.int (plI b k' c)) := by
  have sm := t.sm
  obtain ⟨h1, e1, x1⟩ := (spec_check_text (jn ls) h (by omega) (jn_signs t.ok)).ex
  obtain ⟨h2, e2, x2⟩ := (spec_seen (w := w) t L hR nl h1 hk p1 p2).ex
  obtain ⟨d3, h3, e3, x3, l3, m3⟩ := (spec_rows t w (h2 ++ [.lst []]) h2.length (lst_new h2 [])).ex
  rw [hR] at m3
  obtain ⟨h4, e4, x4⟩ := (spec_place_in (w := w) t L hR h3 hk' c).ex
  have ub := L.le (i := k + 1) (j := R.length) hk (Nat.le_refl _)
  rw [L.bN] at ub
  rw [a_stepped]
  unfold b_stepped
  simp -implicitDefEqProofs only [bd_ok, fin_rt, fin_nx, ret_app, mC_app, varR_some, mVar_app, mOp_app, mUn_app, truR_bl, mTest_app, mAnd_app, mOr_app, mNot_app, andR_bl, orR_bl, notR_bl, mAndV_app, mOrV_app, mNotV_app, mIf_app, mNil_app, mCons_app, mTup_app, mNewL_app, mLst_app, mCall_app, mNoPart_app, partR_int, mPart_app, mSl_app, chainR_bl, mChain_app, kitR_some, tyR_some, mIsi_app, mMeth_app, mNext_app, seqR_nx, seqR_rt, seqR_bk, seqR_ct, mSeq_app, mBreak_app, mCont_app, mDrop_app, mRet_app, mIfS_app, mSet_app, asgR_some, mAsg_app, parR_two, mPar_app, par3R_three, mPar3_app, mSub_app, augR'_some, mAug_app, mFor_app, bd_nm, bd_tp, bds_nil, bdsR_some, bds_cons, oAdd_ii, oAdd_ss, oSub_ii, oMul_ii, oDiv_ii, oMod_ii, oPow_ii, cpo_eq, cpo_ne, cpo_lt, cpo_le, cpo_gt, cpo_ge, cpo_in, cpo_notin, cpo_isN, cpo_notN, oEq_ii, oEq_ss, oNe_ii, oNe_ss, oLt_ii, oLe_ii, oGt_ii, oGe_ii, oIsN_non, oIsN_ref, oIsN_tup, oNotN_non, oNotN_ref, oNotN_tup, atR_some, oIx_tup, ixR_some, oIx_ref, sxR_some, oIx_str, newR_some, oSl_str, oSl_ref, lenR_some, cLen_one, lenB_str, lenB_ref, lenB_tup, cInt_i, cInt_b, cMin2_ii, cMax2_ii, cList_ref, stR_some, stL_ref, appR_some, fAppend_ref, oAug_ii, oAug_ss, uNeg_i, isTy_str, tyName_int, tyName_str, tyName_bl, tyName_non, tyName_tup, kit_ii, kit_ib, kit_bb, kit_bi, kit_ss, kit_is, kit_ll, kit_tt, kit_tl, kit_lt, mIter_app, iterR_str, iterR_tup, rngR_one, mRng1_app, rng2R_two, mRng2_app, mEnum_app, mZip_app, Bd_some, Nx_ok, Fx_nx, Fx_rt, mYes_app, wipeM, List.set_cons_succ, List.set_cons_zero, List.getElem?_cons_succ, List.getElem?_cons_zero, if_true, Bool.false_eq_true, if_false, List.length_cons, List.length_nil, Nat.zero_add, Nat.reduceAdd, sz0, sz1, sz2, sz3, beq_self_eq_true, Bool.not_true, Bool.not_false, List.cons_append, List.nil_append, e1, check_least_ok w 1 h1 hw, check_within_ok (P : Int) 0 ((jn ls).length : Int) h1 (by omega) (by omega), sS_len, if_pos (sz (show (jn ls).length ≤ 16777216 by omega)), is_whole_int, check_least_ok c 0 h1 hc, e2, spV, ixz, e3, mut_lst m3, Option.map_some, List.length_map, ek, e4]
  exact ⟨rfl, (x1.trans x2).trans ((Xt.new _ _).trans (x3.trans x4))⟩
end
end W

set_option Elab.async false
set_option linter.all false
set_option maxRecDepth 100000
set_option maxHeartbeats 4000000
namespace W
open PySem L2 Mr
/-! ### the pump -/
theorem log_lt {x : Int} {m : Nat} (h0 : 0 ≤ x) (h : x < 2 ^ m) (hm : 0 < m) : x.natAbs.log2 < m := by
  by_cases hz : x.natAbs = 0
  · rw [hz]; exact hm
  · rw [Nat.log2_lt hz]
    have e : (x.natAbs : Int) = x := Int.natAbs_of_nonneg h0
    have h2 : ((x.natAbs : Nat) : Int) < ((2 ^ m : Nat) : Int) := by rw [e]; simpa using h
    exact_mod_cast h2
theorem mul_ok {x y : Int} {m : Nat} (h0 : 0 ≤ x) (h : x < 2 ^ m) (hm : 0 < m) (h1 : 0 ≤ y) (h2 : y < 2 ^ 40) (h3 : m ≤ 100000) : mulOk x y = true := by
  unfold mulOk
  have a := log_lt h0 h hm
  have b := log_lt h1 h2 (by omega)
  exact decide_eq_true (by omega)
theorem div_ok {m : Int} (h0 : 0 < m) (h1 : m ≤ 1000000) : divOk m = true := by
  unfold divOk
  rw [Bool.and_eq_true]
  refine ⟨decide_eq_true h0, decide_eq_true ?_⟩
  have := log_lt (x := m) (m := 30) (by omega) (by omega) (by omega)
  omega
theorem p60 : powOk 10 60 = true := by decide +kernel
theorem p18 : powOk 10 18 = true := by decide +kernel
theorem p39 : powOk 10 39 = true := by decide +kernel
theorem q1 : mulOk (10 ^ (60 : Int).toNat) (10 ^ (60 : Int).toNat) = true := by decide +kernel
theorem q2 : mulOk (10 ^ (60 : Int).toNat * 10 ^ (60 : Int).toNat) (10 ^ (60 : Int).toNat) = true := by decide +kernel
theorem q3 : mulOk (10 ^ (60 : Int).toNat * 10 ^ (60 : Int).toNat * 10 ^ (60 : Int).toNat) (10 ^ (60 : Int).toNat) = true := by decide +kernel
theorem q4 : mulOk (10 ^ (60 : Int).toNat * 10 ^ (60 : Int).toNat * 10 ^ (60 : Int).toNat * 10 ^ (60 : Int).toNat) (10 ^ (60 : Int).toNat * 10 ^ (60 : Int).toNat * 10 ^ (60 : Int).toNat * 10 ^ (60 : Int).toNat) = true := by decide +kernel
theorem q5 : mulOk (10 ^ (60 : Int).toNat * 10 ^ (60 : Int).toNat * 10 ^ (60 : Int).toNat * 10 ^ (60 : Int).toNat * (10 ^ (60 : Int).toNat * 10 ^ (60 : Int).toNat * 10 ^ (60 : Int).toNat * 10 ^ (60 : Int).toNat)) (10 ^ (60 : Int).toNat * 10 ^ (60 : Int).toNat * 10 ^ (60 : Int).toNat * 10 ^ (60 : Int).toNat) = true := by decide +kernel
theorem q6 : (0 : Int) < 10 ^ (60 : Int).toNat * 10 ^ (60 : Int).toNat * 10 ^ (60 : Int).toNat * 10 ^ (60 : Int).toNat * (10 ^ (60 : Int).toNat * 10 ^ (60 : Int).toNat * 10 ^ (60 : Int).toNat * 10 ^ (60 : Int).toNat) * (10 ^ (60 : Int).toNat * 10 ^ (60 : Int).toNat * 10 ^ (60 : Int).toNat * 10 ^ (60 : Int).toNat) := by decide +kernel
theorem r1 : (0 : Int) < 2147483053 := by decide
theorem r2 : (0 : Int) < 2147483033 := by decide
theorem r3 : (0 : Int) < 2147483032 := by decide
theorem rng120 (h : AH) : rngR [.int 120] h = .ok (nRange 0 120) h := rfl
/-- the loop of the pump -/
theorem pump_loop (a : Val) (t : Int) (ht : 0 ≤ t) (ht2 : t < 100) (c n f : Int) (v5 : Option Val) (h : AH) :
    ∃ (v4 : Option Val) (x y z : Int), forL (nRange 0 120) (.nm 4) (mSeq (mSet 6 (mOp oMod (mCall cInt (mCons (mOp oAdd (mOp oAdd (mOp oAdd (mOp oMul (mVar 6) (mC (.int 44771))) (mOp oMul (mVar 4) (mC (.int 887)))) (mOp oMul (mC (.int 1301)) (mVar 1))) (mC (.int 43))) (mNil))) (mC (.int 2147483053)))) (mSeq (mSet 7 (mOp oMod (mCall cInt (mCons (mOp oAdd (mOp oAdd (mOp oMul (mVar 7) (mVar 7)) (mOp oMul (mC (.int 42073)) (mVar 4))) (mC (.int 8009))) (mNil))) (mC (.int 2147483033)))) (mSet 3 (mOp oAdd (mOp oMul (mVar 3) (mC (.int 2147483032))) (mOp oMod (mCall cInt (mCons (mOp oAdd (mOp oMul (mVar 6) (mVar 7)) (mOp oMul (mC (.int 37)) (mVar 4))) (mNil))) (mC (.int 2147483032))))))) FUEL 0
      [some a, some (.int t), some (.int c), some (.int 0), none, v5, some (.int (n % 2147483053)), some (.int (f % 2147483033))] h = .ok (.nx [some a, some (.int t), some (.int c), some (.int x), v4, v5, some (.int y), some (.int z)]) h := by
  have key := forL_inv (nx := nRange 0 120) (p := .nm 4) (body := mSeq (mSet 6 (mOp oMod (mCall cInt (mCons (mOp oAdd (mOp oAdd (mOp oAdd (mOp oMul (mVar 6) (mC (.int 44771))) (mOp oMul (mVar 4) (mC (.int 887)))) (mOp oMul (mC (.int 1301)) (mVar 1))) (mC (.int 43))) (mNil))) (mC (.int 2147483053)))) (mSeq (mSet 7 (mOp oMod (mCall cInt (mCons (mOp oAdd (mOp oAdd (mOp oMul (mVar 7) (mVar 7)) (mOp oMul (mC (.int 42073)) (mVar 4))) (mC (.int 8009))) (mNil))) (mC (.int 2147483033)))) (mSet 3 (mOp oAdd (mOp oMul (mVar 3) (mC (.int 2147483032))) (mOp oMod (mCall cInt (mCons (mOp oAdd (mOp oMul (mVar 6) (mVar 7)) (mOp oMul (mC (.int 37)) (mVar 4))) (mNil))) (mC (.int 2147483032))))))) (rngVals 0 120)
    (fun k sl h' => ∃ (v4 : Option Val) (x y z : Int), sl = [some a, some (.int t), some (.int c), some (.int x), v4, v5, some (.int y), some (.int z)] ∧ h' = h ∧ 0 ≤ y ∧ y < 2147483053 ∧ 0 ≤ z ∧ z < 2147483033 ∧ 0 ≤ x ∧ x < 2 ^ (32 * k + 1) ∧ k ≤ 120)
    (fun k sl h' _ _ => nRange_at _ _ k h')
    (by
      rintro k x sl h' hx ⟨v4, x, y, z, rfl, rfl, y0, y1, z0, z1, x0, x1, hk⟩
      have hk2 : k < 120 := by have := (List.getElem?_eq_some_iff.mp hx).1; rwa [rngVals_len] at this
      unfold rngVals at hx
      rw [List.getElem?_map, List.getElem?_range hk2] at hx
      cases hx
      have k0 : (0 : Int) + (k : Int) = (k : Int) := by omega
      have m1 : mulOk y 44771 = true := mul_ok (m := 40) y0 (by omega) (by omega) (by omega) (by omega) (by omega)
      have m2 : mulOk (k : Int) 887 = true := mul_ok (m := 40) (by omega) (by omega) (by omega) (by omega) (by omega) (by omega)
      have m3 : mulOk 1301 t = true := mul_ok (m := 40) (by omega) (by omega) (by omega) ht (by omega) (by omega)
      have m4 : mulOk z z = true := mul_ok (m := 40) z0 (by omega) (by omega) z0 (by omega) (by omega)
      have m5 : mulOk 42073 (k : Int) = true := mul_ok (m := 40) (by omega) (by omega) (by omega) (by omega) (by omega) (by omega)
      have m6 : mulOk x 2147483032 = true := mul_ok x0 x1 (by omega) (by omega) (by omega) (by omega)
      have m8 : mulOk 37 (k : Int) = true := mul_ok (m := 40) (by omega) (by omega) (by omega) (by omega) (by omega) (by omega)
      generalize ey : (y * 44771 + (k : Int) * 887 + 1301 * t + 43) % 2147483053 = y'
      generalize ez : (z * z + 42073 * (k : Int) + 8009) % 2147483033 = z'
      have a0 : 0 ≤ y' := by rw [← ey]; exact Int.emod_nonneg _ (by omega)
      have a1 : y' < 2147483053 := by rw [← ey]; exact Int.emod_lt_of_pos _ (by omega)
      have b0 : 0 ≤ z' := by rw [← ez]; exact Int.emod_nonneg _ (by omega)
      have b1 : z' < 2147483033 := by rw [← ez]; exact Int.emod_lt_of_pos _ (by omega)
      have m7 : mulOk y' z' = true := mul_ok (m := 40) a0 (by omega) (by omega) b0 (by omega) (by omega)
      simp -implicitDefEqProofs only [bd_ok, fin_rt, fin_nx, ret_app, mC_app, varR_some, mVar_app, mOp_app, mUn_app, truR_bl, mTest_app, mAnd_app, mOr_app, mNot_app, andR_bl, orR_bl, notR_bl, mAndV_app, mOrV_app, mNotV_app, mIf_app, mNil_app, mCons_app, mTup_app, mNewL_app, mLst_app, mCall_app, mNoPart_app, partR_int, mPart_app, mSl_app, chainR_bl, mChain_app, kitR_some, tyR_some, mIsi_app, mMeth_app, mNext_app, seqR_nx, seqR_rt, seqR_bk, seqR_ct, mSeq_app, mBreak_app, mCont_app, mDrop_app, mRet_app, mIfS_app, mSet_app, asgR_some, mAsg_app, parR_two, mPar_app, par3R_three, mPar3_app, mSub_app, augR'_some, mAug_app, mFor_app, bd_nm, bd_tp, bds_nil, bdsR_some, bds_cons, oAdd_ii, oAdd_ss, oSub_ii, oMul_ii, oDiv_ii, oMod_ii, oPow_ii, cpo_eq, cpo_ne, cpo_lt, cpo_le, cpo_gt, cpo_ge, cpo_in, cpo_notin, cpo_isN, cpo_notN, oEq_ii, oEq_ss, oNe_ii, oNe_ss, oLt_ii, oLe_ii, oGt_ii, oGe_ii, oIsN_non, oIsN_ref, oIsN_tup, oNotN_non, oNotN_ref, oNotN_tup, atR_some, oIx_tup, ixR_some, oIx_ref, sxR_some, oIx_str, newR_some, oSl_str, oSl_ref, lenR_some, cLen_one, lenB_str, lenB_ref, lenB_tup, cInt_i, cInt_b, cMin2_ii, cMax2_ii, cList_ref, stR_some, stL_ref, appR_some, fAppend_ref, oAug_ii, oAug_ss, uNeg_i, isTy_str, tyName_int, tyName_str, tyName_bl, tyName_non, tyName_tup, kit_ii, kit_ib, kit_bb, kit_bi, kit_ss, kit_is, kit_ll, kit_tt, kit_tl, kit_lt, mIter_app, iterR_str, iterR_tup, rngR_one, mRng1_app, rng2R_two, mRng2_app, mEnum_app, mZip_app, Bd_some, Nx_ok, Fx_nx, Fx_rt, mYes_app, wipeM, List.set_cons_succ, List.set_cons_zero, List.getElem?_cons_succ, List.getElem?_cons_zero, if_true, Bool.false_eq_true, if_false, List.length_cons, List.length_nil, Nat.zero_add, Nat.reduceAdd, sz0, sz1, sz2, sz3, beq_self_eq_true, Bool.not_true, Bool.not_false, List.cons_append, List.nil_append, k0, m1, m2, m3, m4, m5, m6, m8, if_pos r1, if_pos r2, if_pos r3, ey, ez, m7]
      refine ⟨some (.int (k : Int)), _, y', z', rfl, trivial, a0, a1, b0, b1, ?_, ?_, by omega⟩
      · have c0 : (0 : Int) ≤ (y' * z' + 37 * (k : Int)) % 2147483032 := Int.emod_nonneg _ (by omega)
        omega
      · have c1 : (y' * z' + 37 * (k : Int)) % 2147483032 < 2147483032 := Int.emod_lt_of_pos _ (by omega)
        have e : (2 : Int) ^ (32 * (k + 1) + 1) = 2 ^ (32 * k + 1) * 4294967296 := by
          rw [show 32 * (k + 1) + 1 = (32 * k + 1) + 32 by omega, Int.pow_add]
          rfl
        rw [e]
        omega) FUEL 0 [some a, some (.int t), some (.int c), some (.int 0), none, v5, some (.int (n % 2147483053)), some (.int (f % 2147483033))] h (by have := FUEL_le; rw [rngVals_len]; omega) (Nat.zero_le _)
    ⟨none, 0, _, _, rfl, rfl, Int.emod_nonneg _ (by omega), Int.emod_lt_of_pos _ (by omega), Int.emod_nonneg _ (by omega), Int.emod_lt_of_pos _ (by omega), by omega, by decide, by omega⟩
  obtain ⟨sl, h', e, v4, x, y, z, e1, e2, -⟩ := key.ex
  exact ⟨v4, x, y, z, by rw [e, e1, e2]⟩
theorem spec_pump (ns : List Int) (t : Nat) (ht : t < 100) (h : AH) (n : Nat) (hn : lstAt h n = some (ns.map Val.int)) : ∃ x, m__law_pump [.ref n, .int (t : Int)] h = .ok (.ref h.length) (h ++ [.lst [.int x]]) := by
  rw [a__law_pump]
  have m0 : mulOk 23 (t : Int) = true := mul_ok (m := 40) (by omega) (by omega) (by omega) (by omega) (by omega) (by omega)
  have m1 : mulOk 13 (t : Int) = true := mul_ok (m := 40) (by omega) (by omega) (by omega) (by omega) (by omega) (by omega)
  have first : ∃ c : Int, Res.bd (mSet 2 (mOp oAdd (mOp oMul (mC (.int 23)) (mVar 1)) (mC (.int 11))) [some (.ref n), some (.int (t : Int)), none, none, none, none, none, none] h) (seqR (mIfS (mTest (mOp (Cp.o .lt) (mVar 1) (mCall cLen (mCons (mVar 0) (mNil))))) (mSet 2 (mOp oIx (mVar 0) (mVar 1))) (mNext))) = .ok (.nx [some (.ref n), some (.int (t : Int)), some (.int c), none, none, none, none, none]) h := by
    simp -implicitDefEqProofs only [bd_ok, fin_rt, fin_nx, ret_app, mC_app, varR_some, mVar_app, mOp_app, mUn_app, truR_bl, mTest_app, mAnd_app, mOr_app, mNot_app, andR_bl, orR_bl, notR_bl, mAndV_app, mOrV_app, mNotV_app, mIf_app, mNil_app, mCons_app, mTup_app, mNewL_app, mLst_app, mCall_app, mNoPart_app, partR_int, mPart_app, mSl_app, chainR_bl, mChain_app, kitR_some, tyR_some, mIsi_app, mMeth_app, mNext_app, seqR_nx, seqR_rt, seqR_bk, seqR_ct, mSeq_app, mBreak_app, mCont_app, mDrop_app, mRet_app, mIfS_app, mSet_app, asgR_some, mAsg_app, parR_two, mPar_app, par3R_three, mPar3_app, mSub_app, augR'_some, mAug_app, mFor_app, bd_nm, bd_tp, bds_nil, bdsR_some, bds_cons, oAdd_ii, oAdd_ss, oSub_ii, oMul_ii, oDiv_ii, oMod_ii, oPow_ii, cpo_eq, cpo_ne, cpo_lt, cpo_le, cpo_gt, cpo_ge, cpo_in, cpo_notin, cpo_isN, cpo_notN, oEq_ii, oEq_ss, oNe_ii, oNe_ss, oLt_ii, oLe_ii, oGt_ii, oGe_ii, oIsN_non, oIsN_ref, oIsN_tup, oNotN_non, oNotN_ref, oNotN_tup, atR_some, oIx_tup, ixR_some, oIx_ref, sxR_some, oIx_str, newR_some, oSl_str, oSl_ref, lenR_some, cLen_one, lenB_str, lenB_ref, lenB_tup, cInt_i, cInt_b, cMin2_ii, cMax2_ii, cList_ref, stR_some, stL_ref, appR_some, fAppend_ref, oAug_ii, oAug_ss, uNeg_i, isTy_str, tyName_int, tyName_str, tyName_bl, tyName_non, tyName_tup, kit_ii, kit_ib, kit_bb, kit_bi, kit_ss, kit_is, kit_ll, kit_tt, kit_tl, kit_lt, mIter_app, iterR_str, iterR_tup, rngR_one, mRng1_app, rng2R_two, mRng2_app, mEnum_app, mZip_app, Bd_some, Nx_ok, Fx_nx, Fx_rt, mYes_app, wipeM, List.set_cons_succ, List.set_cons_zero, List.getElem?_cons_succ, List.getElem?_cons_zero, if_true, Bool.false_eq_true, if_false, List.length_cons, List.length_nil, Nat.zero_add, Nat.reduceAdd, sz0, sz1, sz2, sz3, beq_self_eq_true, Bool.not_true, Bool.not_false, List.cons_append, List.nil_append, m0, hn, Option.map_some, List.length_map]
    by_cases hl : (t : Int) < (ns.length : Int)
    · have hl2 : t < ns.length := by omega
      have e : L2.atI (ns.map Val.int) (t : Int) = some (.int ns[t]) := by
        refine L2.atI_nat ?_
        rw [List.getElem?_map, List.getElem?_eq_getElem hl2]
        rfl
      refine ⟨ns[t], ?_⟩
      rw [decide_eq_true hl, if_pos rfl, e, atR_some, bd_ok]
    · exact ⟨23 * (t : Int) + 11, by rw [decide_eq_false hl, if_neg (by decide)]⟩
  obtain ⟨c, e⟩ := first
  have as : ∀ (m1 m2 m3 : MS) sl h, mSeq m1 (mSeq m2 m3) sl h = Res.bd (Res.bd (m1 sl h) (seqR m2)) (seqR m3) := by
    intro m1 m2 m3 sl h
    rw [mSeq_app]
    cases m1 sl h with
    | bad => rfl
    | ok f h' =>
      cases f with
      | nx s => rw [bd_ok, bd_ok, seqR_nx, seqR_nx, mSeq_app]
      | rt v => rfl
      | bk s => rfl
      | ct s => rfl
  unfold b__law_pump
  rw [as, e, bd_ok, seqR_nx, mSeq_app, mIfS_app]
  by_cases hc : (10 : Int) ^ (18 : Int).toNat ≤ c
  · simp -implicitDefEqProofs only [bd_ok, fin_rt, fin_nx, ret_app, mC_app, varR_some, mVar_app, mOp_app, mUn_app, truR_bl, mTest_app, mAnd_app, mOr_app, mNot_app, andR_bl, orR_bl, notR_bl, mAndV_app, mOrV_app, mNotV_app, mIf_app, mNil_app, mCons_app, mTup_app, mNewL_app, mLst_app, mCall_app, mNoPart_app, partR_int, mPart_app, mSl_app, chainR_bl, mChain_app, kitR_some, tyR_some, mIsi_app, mMeth_app, mNext_app, seqR_nx, seqR_rt, seqR_bk, seqR_ct, mSeq_app, mBreak_app, mCont_app, mDrop_app, mRet_app, mIfS_app, mSet_app, asgR_some, mAsg_app, parR_two, mPar_app, par3R_three, mPar3_app, mSub_app, augR'_some, mAug_app, mFor_app, bd_nm, bd_tp, bds_nil, bdsR_some, bds_cons, oAdd_ii, oAdd_ss, oSub_ii, oMul_ii, oDiv_ii, oMod_ii, oPow_ii, cpo_eq, cpo_ne, cpo_lt, cpo_le, cpo_gt, cpo_ge, cpo_in, cpo_notin, cpo_isN, cpo_notN, oEq_ii, oEq_ss, oNe_ii, oNe_ss, oLt_ii, oLe_ii, oGt_ii, oGe_ii, oIsN_non, oIsN_ref, oIsN_tup, oNotN_non, oNotN_ref, oNotN_tup, atR_some, oIx_tup, ixR_some, oIx_ref, sxR_some, oIx_str, newR_some, oSl_str, oSl_ref, lenR_some, cLen_one, lenB_str, lenB_ref, lenB_tup, cInt_i, cInt_b, cMin2_ii, cMax2_ii, cList_ref, stR_some, stL_ref, appR_some, fAppend_ref, oAug_ii, oAug_ss, uNeg_i, isTy_str, tyName_int, tyName_str, tyName_bl, tyName_non, tyName_tup, kit_ii, kit_ib, kit_bb, kit_bi, kit_ss, kit_is, kit_ll, kit_tt, kit_tl, kit_lt, mIter_app, iterR_str, iterR_tup, rngR_one, mRng1_app, rng2R_two, mRng2_app, mEnum_app, mZip_app, Bd_some, Nx_ok, Fx_nx, Fx_rt, mYes_app, wipeM, List.set_cons_succ, List.set_cons_zero, List.getElem?_cons_succ, List.getElem?_cons_zero, if_true, Bool.false_eq_true, if_false, List.length_cons, List.length_nil, Nat.zero_add, Nat.reduceAdd, sz0, sz1, sz2, sz3, beq_self_eq_true, Bool.not_true, Bool.not_false, List.cons_append, List.nil_append, p18, p60, decide_eq_true hc, q1, q2, q3, q4, q5, if_pos q6]
    exact ⟨_, rfl⟩
  · simp -implicitDefEqProofs only [mTest_app, mOp_app, mVar_app, List.getElem?_cons_succ, List.getElem?_cons_zero, varR_some, bd_ok, mC_app, oPow_ii, p18, if_true, cpo_ge, oGe_ii, decide_eq_false hc, truR_bl, Bool.false_eq_true, if_false, mNext_app, seqR_nx]
    rw [mSeq_app, mPar_app]
    simp -implicitDefEqProofs only [mCons_app, mOp_app, mCall_app, mVar_app, List.getElem?_cons_succ, List.getElem?_cons_zero, varR_some, bd_ok, mC_app, oMul_ii, m1, if_true, oAdd_ii, mNil_app, cInt_i, oMod_ii, if_pos r1, if_pos r2, parR_two, seqR_nx, List.set_cons_succ, List.set_cons_zero]
    rw [mSeq_app, mSet_app, mC_app, bd_ok, bd_ok, seqR_nx, mSeq_app, mFor_app, mRng1_app]
    simp -implicitDefEqProofs only [mCons_app, mC_app, mNil_app, bd_ok, rng120, List.set_cons_succ, List.set_cons_zero]
    obtain ⟨v4, x, y, z, e2⟩ := pump_loop (.ref n) (t : Int) (by omega) (by omega) c (c + 13 * (t : Int)) c none h
    rw [e2]
    simp -implicitDefEqProofs only [bd_ok, fin_rt, fin_nx, ret_app, mC_app, varR_some, mVar_app, mOp_app, mUn_app, truR_bl, mTest_app, mAnd_app, mOr_app, mNot_app, andR_bl, orR_bl, notR_bl, mAndV_app, mOrV_app, mNotV_app, mIf_app, mNil_app, mCons_app, mTup_app, mNewL_app, mLst_app, mCall_app, mNoPart_app, partR_int, mPart_app, mSl_app, chainR_bl, mChain_app, kitR_some, tyR_some, mIsi_app, mMeth_app, mNext_app, seqR_nx, seqR_rt, seqR_bk, seqR_ct, mSeq_app, mBreak_app, mCont_app, mDrop_app, mRet_app, mIfS_app, mSet_app, asgR_some, mAsg_app, parR_two, mPar_app, par3R_three, mPar3_app, mSub_app, augR'_some, mAug_app, mFor_app, bd_nm, bd_tp, bds_nil, bdsR_some, bds_cons, oAdd_ii, oAdd_ss, oSub_ii, oMul_ii, oDiv_ii, oMod_ii, oPow_ii, cpo_eq, cpo_ne, cpo_lt, cpo_le, cpo_gt, cpo_ge, cpo_in, cpo_notin, cpo_isN, cpo_notN, oEq_ii, oEq_ss, oNe_ii, oNe_ss, oLt_ii, oLe_ii, oGt_ii, oGe_ii, oIsN_non, oIsN_ref, oIsN_tup, oNotN_non, oNotN_ref, oNotN_tup, atR_some, oIx_tup, ixR_some, oIx_ref, sxR_some, oIx_str, newR_some, oSl_str, oSl_ref, lenR_some, cLen_one, lenB_str, lenB_ref, lenB_tup, cInt_i, cInt_b, cMin2_ii, cMax2_ii, cList_ref, stR_some, stL_ref, appR_some, fAppend_ref, oAug_ii, oAug_ss, uNeg_i, isTy_str, tyName_int, tyName_str, tyName_bl, tyName_non, tyName_tup, kit_ii, kit_ib, kit_bb, kit_bi, kit_ss, kit_is, kit_ll, kit_tt, kit_tl, kit_lt, mIter_app, iterR_str, iterR_tup, rngR_one, mRng1_app, rng2R_two, mRng2_app, mEnum_app, mZip_app, Bd_some, Nx_ok, Fx_nx, Fx_rt, mYes_app, wipeM, List.set_cons_succ, List.set_cons_zero, List.getElem?_cons_succ, List.getElem?_cons_zero, if_true, Bool.false_eq_true, if_false, List.length_cons, List.length_nil, Nat.zero_add, Nat.reduceAdd, sz0, sz1, sz2, sz3, beq_self_eq_true, Bool.not_true, Bool.not_false, List.cons_append, List.nil_append, ]
    exact ⟨x, rfl⟩
/-! ### cups: all stays but the pump's own list -/
structure Pk (pn : Nat) (h h' : AH) : Prop where
  pu : ∃ x : Int, mutAt h' pn = some [.int x]
  len : h.length ≤ h'.length
  kp : ∀ m o, m ≠ pn → h[m]? = some o → h'[m]? = some o
theorem Pk.refl {pn : Nat} {h : AH} {x : Int} (e : mutAt h pn = some [.int x]) : Pk pn h h := ⟨⟨x, e⟩, Nat.le_refl _, fun _ _ _ e => e⟩
theorem Pk.trans {pn : Nat} {h h1 h2 : AH} (a : Pk pn h h1) (b : Pk pn h1 h2) : Pk pn h h2 := ⟨b.pu, Nat.le_trans a.len b.len, fun m o hm e => b.kp m o hm (a.kp m o hm e)⟩
theorem Pk.xt {pn : Nat} {h h1 h2 : AH} (a : Pk pn h h1) (b : Xt h1 h2) : Pk pn h h2 := by
  obtain ⟨x, e⟩ := a.pu
  exact ⟨⟨x, b.mut e⟩, Nat.le_trans a.len b.len, fun m o hm e => b.get (a.kp m o hm e)⟩
theorem Pk.set {pn : Nat} {h h1 : AH} {d : Nat} {o : AO} (a : Pk pn h h1) (hd : h.length ≤ d) (hp : d ≠ pn) : Pk pn h (h1.set d o) := by
  obtain ⟨x, e⟩ := a.pu
  refine ⟨⟨x, mut_set_ne (Ne.symm hp) e⟩, by rw [List.length_set]; exact a.len, fun m o' hm e' => ?_⟩
  have hm2 : m < h.length := (List.getElem?_eq_some_iff.mp e').1
  rw [List.getElem?_set_ne (by omega)]
  exact a.kp m o' hm e'
theorem Pk.mut {pn : Nat} {h h1 : AH} (a : Pk pn h h1) {m : Nat} {xs : List Val} (hm : m ≠ pn) (e : mutAt h m = some xs) : mutAt h1 m = some xs := get_mut (a.kp m _ hm (mut_get e))
theorem Pk.lst {pn : Nat} {h h1 : AH} (a : Pk pn h h1) {m : Nat} {xs : List Val} (hm : m ≠ pn) (e : lstAt h m = some xs) : lstAt h1 m = some xs := by
  unfold lstAt at e ⊢
  cases q : h[m]? with
  | none => rw [q] at e; cases e
  | some o => rw [a.kp m o hm q]; rw [q] at e; exact e
theorem spec_cup {h : AH} {pn : Nat} {m : Nat} (hp : ∃ x : Int, mutAt h pn = some [.int x]) (h0 : 0 < m) (h1 : m ≤ 1000000) : ∃ (c : Nat) (h' : AH), m__law_cup [.ref pn, .int (m : Int)] h = .ok (.int (c : Int)) h' ∧ c < m ∧ Pk pn h h' := by
  obtain ⟨x, e⟩ := hp
  have dm : divOk (m : Int) = true := div_ok (by omega) (by omega)
  have m0 : (0 : Int) < (m : Int) := by omega
  have c0 := Int.emod_nonneg x (show (m : Int) ≠ 0 by omega)
  have c1 := Int.emod_lt_of_pos x m0
  refine ⟨(x % (m : Int)).toNat, h.set pn (.lst [.int (x / (m : Int))]), ?_, by omega, ⟨⟨_, mut_set e⟩, by rw [List.length_set]; exact Nat.le_refl _, fun k o hk eo => by rw [List.getElem?_set_ne (Ne.symm hk)]; exact eo⟩⟩
  have a0 : L2.atI [Val.int x] 0 = some (.int x) := rfl
  have a1 : ixN 1 0 = some 0 := rfl
  have a2 : (((x % (m : Int)).toNat : Nat) : Int) = x % (m : Int) := by omega
  rw [a__law_cup]
  unfold b__law_cup
  simp -implicitDefEqProofs only [bd_ok, fin_rt, fin_nx, ret_app, mC_app, varR_some, mVar_app, mOp_app, mUn_app, truR_bl, mTest_app, mAnd_app, mOr_app, mNot_app, andR_bl, orR_bl, notR_bl, mAndV_app, mOrV_app, mNotV_app, mIf_app, mNil_app, mCons_app, mTup_app, mNewL_app, mLst_app, mCall_app, mNoPart_app, partR_int, mPart_app, mSl_app, chainR_bl, mChain_app, kitR_some, tyR_some, mIsi_app, mMeth_app, mNext_app, seqR_nx, seqR_rt, seqR_bk, seqR_ct, mSeq_app, mBreak_app, mCont_app, mDrop_app, mRet_app, mIfS_app, mSet_app, asgR_some, mAsg_app, parR_two, mPar_app, par3R_three, mPar3_app, mSub_app, augR'_some, mAug_app, mFor_app, bd_nm, bd_tp, bds_nil, bdsR_some, bds_cons, oAdd_ii, oAdd_ss, oSub_ii, oMul_ii, oDiv_ii, oMod_ii, oPow_ii, cpo_eq, cpo_ne, cpo_lt, cpo_le, cpo_gt, cpo_ge, cpo_in, cpo_notin, cpo_isN, cpo_notN, oEq_ii, oEq_ss, oNe_ii, oNe_ss, oLt_ii, oLe_ii, oGt_ii, oGe_ii, oIsN_non, oIsN_ref, oIsN_tup, oNotN_non, oNotN_ref, oNotN_tup, atR_some, oIx_tup, ixR_some, oIx_ref, sxR_some, oIx_str, newR_some, oSl_str, oSl_ref, lenR_some, cLen_one, lenB_str, lenB_ref, lenB_tup, cInt_i, cInt_b, cMin2_ii, cMax2_ii, cList_ref, stR_some, stL_ref, appR_some, fAppend_ref, oAug_ii, oAug_ss, uNeg_i, isTy_str, tyName_int, tyName_str, tyName_bl, tyName_non, tyName_tup, kit_ii, kit_ib, kit_bb, kit_bi, kit_ss, kit_is, kit_ll, kit_tt, kit_tl, kit_lt, mIter_app, iterR_str, iterR_tup, rngR_one, mRng1_app, rng2R_two, mRng2_app, mEnum_app, mZip_app, Bd_some, Nx_ok, Fx_nx, Fx_rt, mYes_app, wipeM, List.set_cons_succ, List.set_cons_zero, List.getElem?_cons_succ, List.getElem?_cons_zero, if_true, Bool.false_eq_true, if_false, List.length_cons, List.length_nil, Nat.zero_add, Nat.reduceAdd, sz0, sz1, sz2, sz3, beq_self_eq_true, Bool.not_true, Bool.not_false, List.cons_append, List.nil_append, mut_lst e, e, a0, a1, dm, if_pos m0, a2]
end W

set_option Elab.async false
set_option linter.all false
set_option maxRecDepth 100000
set_option maxHeartbeats 4000000
namespace W
open PySem L2 Mr
theorem tyName_mut {h : AH} {n : Nat} {xs : List Val} (e : mutAt h n = some xs) : tyName h (.ref n) = some "list" := by
  unfold tyName; dsimp only; rw [mut_get e]
section
variable {ls : List (List Nat)} {w : Int} {R : List Rw} {b : Nat → Nat}
theorem okl_piece {l p : List Nat} (h : okl l) (hp : p ∈ cutF w l) : okl p := fun c hc => h c (by
  rw [← cut_flat w l]
  exact List.mem_flatten.mpr ⟨p, hp, hc⟩)
theorem plain_cut {l : List Nat} (h : okl l) : ∀ v ∈ (cutF w l).map sV, Plain 29 v := fun v hv => by
  obtain ⟨p, hp, rfl⟩ := List.mem_map.mp hv
  exact plain_str 28 _ (strOk_okl (okl_piece h hp))
theorem plain_rows (t : TxOk ls) : ∀ v ∈ (rowsA w 0 ls).map rV, Plain 29 v := fun v hv => by
  obtain ⟨r, hr, rfl⟩ := List.mem_map.mp hv
  obtain ⟨j, l, x1, x2, x3, x4⟩ := rowA_in w ls 0 r hr
  refine plain_tup (n := 28) fun u hu => ?_
  rcases List.mem_cons.mp hu with e | hu
  · rw [e]; exact plain_int 27 _
  rcases List.mem_cons.mp hu with e | hu
  · rw [e]; exact plain_int 27 _
  rcases List.mem_cons.mp hu with e | hu
  · rw [e]; exact plain_str 27 _ (strOk_okl (okl_piece (t.ok l (List.mem_of_getElem? x1)) x4))
  · cases hu
theorem strsOf_map (ps : List (List Nat)) : strsOf (ps.map sV) = some (ps.map sS) := by
  induction ps with
  | nil => rfl
  | cons p ps ih =>
    show (strsOf (ps.map sV)).map (sS p :: ·) = _
    rw [ih]; rfl
theorem sum_len (ps : List (List Nat)) : ((ps.map sS).map (·.length)).sum = ps.flatten.length := by
  induction ps with
  | nil => rfl
  | cons p ps ih => rw [List.map_cons, List.map_cons, List.sum_cons, ih, List.flatten_cons, List.length_append, sS_len]
theorem joinL_nil : ∀ ps : List (List Nat), TL.joinL [] ps = ps.flatten
  | [] => rfl
  | [p] => by simp [TL.joinL]
  | p :: q :: r => by
    show p ++ ([] ++ TL.joinL [] (q :: r)) = _
    rw [joinL_nil (q :: r)]; simp
theorem join_empty {h : AH} {d : Nat} {ps : List (List Nat)} (e : lstAt h d = some (ps.map sV)) (hl : ps.flatten.length ≤ 16777216) : fJoin (.str "") [.ref d] h = .ok (sV ps.flatten) h := by
  unfold fJoin
  dsimp only
  have e1 : seqOf h (.ref d) = some (ps.map sV) := e
  have e2 : joinOk (("" : String) : Str) (ps.map sS) = true := by
    unfold joinOk
    rw [sum_len, s_nil, sS_len]
    exact decide_eq_true (by simpa using hl)
  rw [e1]
  dsimp only
  rw [strsOf_map]
  dsimp only
  rw [if_pos e2, s_nil]
  have e3 : Txt.join (sS []) (ps.map sS) = sS ps.flatten := TL.ext_tl (by
    rw [TL.join_eq, TL.tl_join, map_sS_tl]
    exact joinL_nil ps)
  rw [e3]
theorem spec_cut_right (t : TxOk ls) (hw : 1 ≤ w) (h : AH) {rf : Nat} (hl : lstAt h rf = some ((rowsA w 0 ls).map rV)) : RS (m__law_cut_right [sV (jn ls), .int w, .ref rf] h) h (.bl true) := by
  have ll := t.lines_len
  obtain ⟨d1, h1, e1, x1, y1, m1⟩ := (spec_screen t w hw h).ex
  have nl : ((rowsA w 0 ls).map rV).length < 16777216 := by
    have := rows_take_len t w ls.length
    rw [List.take_length] at this
    rw [List.length_map]; omega
  have rl : rf < h.length := lst_lt hl
  rw [a__law_cut_right]
  unfold b__law_cut_right
  rw [mSeq_app, mSet_app]
  simp -implicitDefEqProofs only [mCall_app, mCons_app, mVar_app, List.getElem?_cons_succ, List.getElem?_cons_zero, varR_some, bd_ok, mNil_app, List.cons_append, List.nil_append, e1, seqR_nx, List.set_cons_succ, List.set_cons_zero]
  rw [mSeq_app]
  simp -implicitDefEqProofs only [mIfS_app, mOr_app, mNot_app, mTest_app, mIsi_app, mOp_app, mVar_app, List.getElem?_cons_succ, List.getElem?_cons_zero, varR_some, bd_ok, tyName_mut m1, tyR_some, kit_ll, kitR_some, truR_bl, Bool.not_true, Bool.false_eq_true, if_false, cpo_ne, oNe_refs (mut_lst m1) (x1.lst hl) (plain_rows t), mNext_app, seqR_nx]
  rw [mSeq_app]
  simp -implicitDefEqProofs only [mDrop_app, mMeth_app, mVar_app, List.getElem?_cons_succ, List.getElem?_cons_zero, varR_some, bd_ok, isTy_mut m1, if_true, mCons_app, mC_app, mNil_app, append_mut .non m1 nl, seqR_nx]
  have x2 : Xt h (h1.set d1 (.lst ((rowsA w 0 ls).map rV ++ [.non]))) := x1.set y1
  generalize hg : h1.set d1 (AO.lst ((rowsA w 0 ls).map rV ++ [.non])) = h2 at x2
  have l3 : lstAt (h2 ++ [.lst (ls.map sV)]) h2.length = some (ls.map sV) := lst_new _ _
  rw [mSeq_app, mFor_app, mIter_app, meth_split t h2 _ 0 rfl, bd_ok, iterR_ref l3, bd_ok]
  have z2 := x2.len
  refine for_bd (ls.map sV) (fun k sl h' => ∃ v4 v5, sl = [some (sV (jn ls)), some (.int w), some (.ref rf), some (.ref d1), v4, v5] ∧ Xt h h' ∧ h2.length < h'.length ∧ lstAt h' h2.length = some (ls.map sV))
    (fun r => RS (fin r) h _) ⟨none, none, rfl, x2.trans (Xt.new _ _), by rw [List.length_append, List.length_singleton]; omega, l3⟩ (by rw [List.length_map]; omega) (fun k sl h' _ ⟨_, _, _, _, _, z⟩ => nList_at k z) ?_ ?_
  · rintro k x sl h' hx ⟨v4, v5, rfl, c1, c2, c3⟩
    obtain ⟨l, hl', rfl⟩ := map_at hx
    have lm := List.mem_of_getElem? hl'
    have l1 := t.mem_len lm
    have lo := t.ok l lm
    obtain ⟨da, ha, ea, xa, ya, ma⟩ := (spec_pieces l w h' (by omega) lo hw).ex
    obtain ⟨db, hb, eb, xb, yb, mb⟩ := (spec_lpieces l w ha (by omega)).ex
    have ma' := xb.mut ma
    have cl := cut_len w l
    have je := join_empty (mut_lst ma') (by rw [cut_flat]; omega)
    rw [cut_flat] at je
    have ap := append_mut (.str "later") ma' (by rw [List.length_map]; omega)
    have zz := c1.len
    have xc : Xt h (hb.set da (.lst ((cutF w l).map sV ++ [.str "later"]))) := ((c1.trans xa).trans xb).set (by omega)
    have c4 : lstAt (hb.set da (.lst ((cutF w l).map sV ++ [.str "later"]))) h2.length = some (ls.map sV) := lst_set_ne (by omega) (xb.lst (xa.lst c3))
    generalize hgg : hb.set da (AO.lst ((cutF w l).map sV ++ [.str "later"])) = hc at xc c4 ap
    obtain ⟨dd, hd, ed, xd, yd, md⟩ := (spec_pieces l w hc (by omega) lo hw).ex
    obtain ⟨de, he, ee, xe, ye, me⟩ := (spec_lpieces l w hd (by omega)).ex
    have ne1 := oNe_refs (mut_lst ma') (mut_lst mb) (plain_cut lo)
    have ne2 := oNe_refs (xe.lst (mut_lst md)) (mut_lst me) (plain_cut lo)
    simp -implicitDefEqProofs only [bd_ok, fin_rt, fin_nx, ret_app, mC_app, varR_some, mVar_app, mOp_app, mUn_app, truR_bl, mTest_app, mAnd_app, mOr_app, mNot_app, andR_bl, orR_bl, notR_bl, mAndV_app, mOrV_app, mNotV_app, mIf_app, mNil_app, mCons_app, mTup_app, mNewL_app, mLst_app, mCall_app, mNoPart_app, partR_int, mPart_app, mSl_app, chainR_bl, mChain_app, kitR_some, tyR_some, mIsi_app, mMeth_app, mNext_app, seqR_nx, seqR_rt, seqR_bk, seqR_ct, mSeq_app, mBreak_app, mCont_app, mDrop_app, mRet_app, mIfS_app, mSet_app, asgR_some, mAsg_app, parR_two, mPar_app, par3R_three, mPar3_app, mSub_app, augR'_some, mAug_app, mFor_app, bd_nm, bd_tp, bds_nil, bdsR_some, bds_cons, oAdd_ii, oAdd_ss, oSub_ii, oMul_ii, oDiv_ii, oMod_ii, oPow_ii, cpo_eq, cpo_ne, cpo_lt, cpo_le, cpo_gt, cpo_ge, cpo_in, cpo_notin, cpo_isN, cpo_notN, oEq_ii, oEq_ss, oNe_ii, oNe_ss, oLt_ii, oLe_ii, oGt_ii, oGe_ii, oIsN_non, oIsN_ref, oIsN_tup, oNotN_non, oNotN_ref, oNotN_tup, atR_some, oIx_tup, ixR_some, oIx_ref, sxR_some, oIx_str, newR_some, oSl_str, oSl_ref, lenR_some, cLen_one, lenB_str, lenB_ref, lenB_tup, cInt_i, cInt_b, cMin2_ii, cMax2_ii, cList_ref, stR_some, stL_ref, appR_some, fAppend_ref, oAug_ii, oAug_ss, uNeg_i, isTy_str, tyName_int, tyName_str, tyName_bl, tyName_non, tyName_tup, kit_ii, kit_ib, kit_bb, kit_bi, kit_ss, kit_is, kit_ll, kit_tt, kit_tl, kit_lt, mIter_app, iterR_str, iterR_tup, rngR_one, mRng1_app, rng2R_two, mRng2_app, mEnum_app, mZip_app, Bd_some, Nx_ok, Fx_nx, Fx_rt, mYes_app, wipeM, List.set_cons_succ, List.set_cons_zero, List.getElem?_cons_succ, List.getElem?_cons_zero, if_true, Bool.false_eq_true, if_false, List.length_cons, List.length_nil, Nat.zero_add, Nat.reduceAdd, sz0, sz1, sz2, sz3, beq_self_eq_true, Bool.not_true, Bool.not_false, List.cons_append, List.nil_append, ea, eb, ne1, je, isTy_mut ma', ap, ed, ee, ne2, decide_true]
    refine ⟨some (sV l), some (.ref da), rfl, (xc.trans xd).trans xe, ?_, xe.lst (xd.lst c4)⟩
    have := xd.len
    have := xe.len
    have hlen : hc.length = hb.length := by rw [← hgg, List.length_set]
    have := xa.len
    have := xb.len
    omega
  · rintro sl h' ⟨v4, v5, rfl, c1, c2, c3⟩
    obtain ⟨d5, h5, e5, x5, y5, m5⟩ := (spec_screen t w hw h').ex
    simp -implicitDefEqProofs only [bd_ok, fin_rt, fin_nx, ret_app, mC_app, varR_some, mVar_app, mOp_app, mUn_app, truR_bl, mTest_app, mAnd_app, mOr_app, mNot_app, andR_bl, orR_bl, notR_bl, mAndV_app, mOrV_app, mNotV_app, mIf_app, mNil_app, mCons_app, mTup_app, mNewL_app, mLst_app, mCall_app, mNoPart_app, partR_int, mPart_app, mSl_app, chainR_bl, mChain_app, kitR_some, tyR_some, mIsi_app, mMeth_app, mNext_app, seqR_nx, seqR_rt, seqR_bk, seqR_ct, mSeq_app, mBreak_app, mCont_app, mDrop_app, mRet_app, mIfS_app, mSet_app, asgR_some, mAsg_app, parR_two, mPar_app, par3R_three, mPar3_app, mSub_app, augR'_some, mAug_app, mFor_app, bd_nm, bd_tp, bds_nil, bdsR_some, bds_cons, oAdd_ii, oAdd_ss, oSub_ii, oMul_ii, oDiv_ii, oMod_ii, oPow_ii, cpo_eq, cpo_ne, cpo_lt, cpo_le, cpo_gt, cpo_ge, cpo_in, cpo_notin, cpo_isN, cpo_notN, oEq_ii, oEq_ss, oNe_ii, oNe_ss, oLt_ii, oLe_ii, oGt_ii, oGe_ii, oIsN_non, oIsN_ref, oIsN_tup, oNotN_non, oNotN_ref, oNotN_tup, atR_some, oIx_tup, ixR_some, oIx_ref, sxR_some, oIx_str, newR_some, oSl_str, oSl_ref, lenR_some, cLen_one, lenB_str, lenB_ref, lenB_tup, cInt_i, cInt_b, cMin2_ii, cMax2_ii, cList_ref, stR_some, stL_ref, appR_some, fAppend_ref, oAug_ii, oAug_ss, uNeg_i, isTy_str, tyName_int, tyName_str, tyName_bl, tyName_non, tyName_tup, kit_ii, kit_ib, kit_bb, kit_bi, kit_ss, kit_is, kit_ll, kit_tt, kit_tl, kit_lt, mIter_app, iterR_str, iterR_tup, rngR_one, mRng1_app, rng2R_two, mRng2_app, mEnum_app, mZip_app, Bd_some, Nx_ok, Fx_nx, Fx_rt, mYes_app, wipeM, List.set_cons_succ, List.set_cons_zero, List.getElem?_cons_succ, List.getElem?_cons_zero, if_true, Bool.false_eq_true, if_false, List.length_cons, List.length_nil, Nat.zero_add, Nat.reduceAdd, sz0, sz1, sz2, sz3, beq_self_eq_true, Bool.not_true, Bool.not_false, List.cons_append, List.nil_append, e5, oEq_refs (mut_lst m5) (x5.lst (c1.lst hl)) (plain_rows t)]
    exact ⟨rfl, c1.trans x5⟩
theorem pl_len (k : Nat) : (plV b k).length = nF b k := by unfold plV; rw [List.length_map, List.length_range]
theorem pl_at {k : Nat} (hn : 1 ≤ nF b k) {c : Int} (hc : 0 ≤ c) : L2.atI (plV b k) (if ((nF b k : Int) - 1 < c) then (nF b k : Int) - 1 else c) = some (.int (plI b k c)) := by
  have key : ∀ j : Nat, j < nF b k → L2.atI (plV b k) (j : Int) = some (.int ((b k : Int) + (j : Int))) := fun j hj => by
    rw [ixv]
    unfold plV
    rw [List.getElem?_map, List.getElem?_range hj]
    rfl
  unfold plI
  split
  · have := key (nF b k - 1) (by omega)
    rw [show ((nF b k - 1 : Nat) : Int) = (nF b k : Int) - 1 by omega] at this
    exact this
  · have := key c.toNat (by omega)
    rw [show ((c.toNat : Nat) : Int) = c by omega] at this
    exact this
theorem oNe_tup2 {i j : Int} (h : AH) : oNe (.tup [.int i, .int j]) (.tup [.int i, .int j]) h = .ok (.bl false) h := by
  unfold oNe
  rw [eqB_tups (fun v hv => ?_)]
  · rfl
  · rcases List.mem_cons.mp hv with e | hv
    · rw [e]; exact plain_int 28 _
    rcases List.mem_cons.mp hv with e | hv
    · rw [e]; exact plain_int 28 _
    · cases hv
theorem spec_places_right (t : TxOk ls) (L : Lay ls R b) (hR : rowsA w 0 ls = R) (nl : R.length ≤ 30000) (hw : 1 ≤ w) (h : AH) {rf : Nat} (hl : lstAt h rf = some (R.map rV)) : RS (m__law_places_right [sV (jn ls), .int w, .ref rf] h) h (.bl true) := by
  have sm := t.sm
  have pos := L.pos
  obtain ⟨d1, h1, e1, x1, y1, m1⟩ := (spec_spots t L nl h hl).ex
  have slen := spots_len L R.length (Nat.le_refl _)
  rw [L.bN] at slen
  rw [a__law_places_right]
  unfold b__law_places_right
  rw [mSeq_app, mSet_app]
  simp -implicitDefEqProofs only [mCall_app, mCons_app, mVar_app, List.getElem?_cons_succ, List.getElem?_cons_zero, varR_some, bd_ok, mNil_app, e1, seqR_nx, List.set_cons_succ, List.set_cons_zero]
  rw [mSeq_app, mFor_app, mRng1_app]
  have ec : (((jn ls).length : Int) + 1) = (((jn ls).length + 1 : Nat) : Int) := by omega
  simp -implicitDefEqProofs only [mCons_app, mOp_app, mCall_app, mVar_app, List.getElem?_cons_succ, List.getElem?_cons_zero, varR_some, bd_ok, mNil_app, cLen_one, lenB_str, sS_len, if_pos (sz (show (jn ls).length ≤ 16777216 by omega)), lenR_some, mC_app, oAdd_ii, ec]
  rw [rng_nat _ _ (by omega), bd_ok]
  refine for_bd (rngVals 0 ((jn ls).length + 1)) (fun k sl h' => ∃ v4 v5 v7, sl = [some (sV (jn ls)), some (.int w), some (.ref rf), some (.ref d1), v4, v5, none, v7] ∧ Xt h1 h')
    (fun r => RS (fin r) h _) ⟨none, none, none, rfl, Xt.refl _⟩ (by rw [rngVals_len]; omega) (fun k sl h' _ _ => nRange_at _ _ k h') ?_ ?_
  · rintro P x sl h' hx ⟨v4, v5, v7, rfl, c1⟩
    rw [rngVals0] at hx
    obtain ⟨P', hP', rfl⟩ := map_at hx
    have hP : P < (jn ls).length + 1 := by
      have := (List.getElem?_eq_some_iff.mp hP').1
      rwa [List.length_range] at this
    rw [List.getElem?_range hP] at hP'
    cases hP'
    obtain ⟨k, k1, k2, k3⟩ := L.find (P := P) R.length (Nat.le_refl _) (by rw [L.bN]; exact hP)
    have sa := spots_at L k2 k3 R.length k1 (Nat.le_refl _)
    have sa' : L2.atI (spotsF b R.length) (P : Int) = some (spV k (P - b k)) := by rw [ixv]; exact sa
    obtain ⟨h2, e2, x2⟩ := (spec_spot (w := w) t L hR nl hw h' k1 k2 k3).ex
    obtain ⟨h3, e3, x3⟩ := (spec_place_at (w := w) t L hR hw h2 k1 ((P - b k : Nat) : Int) (by omega)).ex
    have pe : plI b k ((P - b k : Nat) : Int) = (P : Int) := by
      unfold plI nF
      rw [if_neg (by omega)]
      omega
    rw [pe] at e3
    simp -implicitDefEqProofs only [bd_ok, fin_rt, fin_nx, ret_app, mC_app, varR_some, mVar_app, mOp_app, mUn_app, truR_bl, mTest_app, mAnd_app, mOr_app, mNot_app, andR_bl, orR_bl, notR_bl, mAndV_app, mOrV_app, mNotV_app, mIf_app, mNil_app, mCons_app, mTup_app, mNewL_app, mLst_app, mCall_app, mNoPart_app, partR_int, mPart_app, mSl_app, chainR_bl, mChain_app, kitR_some, tyR_some, mIsi_app, mMeth_app, mNext_app, seqR_nx, seqR_rt, seqR_bk, seqR_ct, mSeq_app, mBreak_app, mCont_app, mDrop_app, mRet_app, mIfS_app, mSet_app, asgR_some, mAsg_app, parR_two, mPar_app, par3R_three, mPar3_app, mSub_app, augR'_some, mAug_app, mFor_app, bd_nm, bd_tp, bds_nil, bdsR_some, bds_cons, oAdd_ii, oAdd_ss, oSub_ii, oMul_ii, oDiv_ii, oMod_ii, oPow_ii, cpo_eq, cpo_ne, cpo_lt, cpo_le, cpo_gt, cpo_ge, cpo_in, cpo_notin, cpo_isN, cpo_notN, oEq_ii, oEq_ss, oNe_ii, oNe_ss, oLt_ii, oLe_ii, oGt_ii, oGe_ii, oIsN_non, oIsN_ref, oIsN_tup, oNotN_non, oNotN_ref, oNotN_tup, atR_some, oIx_tup, ixR_some, oIx_ref, sxR_some, oIx_str, newR_some, oSl_str, oSl_ref, lenR_some, cLen_one, lenB_str, lenB_ref, lenB_tup, cInt_i, cInt_b, cMin2_ii, cMax2_ii, cList_ref, stR_some, stL_ref, appR_some, fAppend_ref, oAug_ii, oAug_ss, uNeg_i, isTy_str, tyName_int, tyName_str, tyName_bl, tyName_non, tyName_tup, kit_ii, kit_ib, kit_bb, kit_bi, kit_ss, kit_is, kit_ll, kit_tt, kit_tl, kit_lt, mIter_app, iterR_str, iterR_tup, rngR_one, mRng1_app, rng2R_two, mRng2_app, mEnum_app, mZip_app, Bd_some, Nx_ok, Fx_nx, Fx_rt, mYes_app, wipeM, List.set_cons_succ, List.set_cons_zero, List.getElem?_cons_succ, List.getElem?_cons_zero, if_true, Bool.false_eq_true, if_false, List.length_cons, List.length_nil, Nat.zero_add, Nat.reduceAdd, sz0, sz1, sz2, sz3, beq_self_eq_true, Bool.not_true, Bool.not_false, List.cons_append, List.nil_append, c1.lst (mut_lst m1), sa', spV, e2, oNe_tup2, e3, decide_true]
    exact ⟨_, _, _, rfl, (c1.trans x2).trans x3⟩
  · rintro sl h' ⟨v4, v5, v7, rfl, c1⟩
    have hk : R.length / 2 < R.length := by omega
    obtain ⟨d2, h2, e2, x2, y2, m2⟩ := (spec_places t L h' hk ((x1.trans c1).lst hl)).ex
    have nf : 1 ≤ nF b (R.length / 2) := by have := L.mono _ hk; unfold nF; omega
    have ub := L.le (i := R.length / 2 + 1) (j := R.length) hk (Nat.le_refl _)
    rw [L.bN] at ub
    have d2k : divOk 2 = true := by decide +kernel
    have ed : ((R.length : Int) / 2) = ((R.length / 2 : Nat) : Int) := by omega
    rw [seqR_nx, mSeq_app, mSet_app]
    simp -implicitDefEqProofs only [mOp_app, mCall_app, mCons_app, mVar_app, List.getElem?_cons_succ, List.getElem?_cons_zero, varR_some, bd_ok, mNil_app, cLen_one, lenB_ref, (x1.trans c1).lst hl, Option.map_some, List.length_map, lenR_some, mC_app, oDiv_ii, d2k, if_true, ed, seqR_nx, List.set_cons_succ, List.set_cons_zero]
    generalize R.length / 2 = k at *
    rw [mSeq_app, mSet_app]
    simp -implicitDefEqProofs only [mCall_app, mCons_app, mVar_app, List.getElem?_cons_succ, List.getElem?_cons_zero, varR_some, bd_ok, mNil_app, e2, seqR_nx, List.set_cons_succ, List.set_cons_zero]
    rw [mSeq_app, mFor_app]
    have lit : mIter (mLst (mCons (mC (.int 0)) (mCons (mOp oSub (mCall cLen (mCons (mVar 6) (mNil))) (mC (.int 1))) (mCons (mCall cLen (mCons (mVar 6) (mNil))) (mCons (mOp oAdd (mVar 1) (mC (.int 2))) (mCons (mOp oPow (mC (.int 10)) (mC (.int 39))) (mNil))))))) [some (sV (jn ls)), some (.int w), some (.ref rf), some (.ref d1), v4, some (.int (k : Int)), some (.ref d2), v7] h2 = .ok (nList h2.length) (h2 ++ [.lst [.int 0, .int ((nF b k : Int) - 1), .int (nF b k : Int), .int (w + 2), .int (10 ^ (39 : Int).toNat)]]) := by
      simp -implicitDefEqProofs only [bd_ok, fin_rt, fin_nx, ret_app, mC_app, varR_some, mVar_app, mOp_app, mUn_app, truR_bl, mTest_app, mAnd_app, mOr_app, mNot_app, andR_bl, orR_bl, notR_bl, mAndV_app, mOrV_app, mNotV_app, mIf_app, mNil_app, mCons_app, mTup_app, mNewL_app, mLst_app, mCall_app, mNoPart_app, partR_int, mPart_app, mSl_app, chainR_bl, mChain_app, kitR_some, tyR_some, mIsi_app, mMeth_app, mNext_app, seqR_nx, seqR_rt, seqR_bk, seqR_ct, mSeq_app, mBreak_app, mCont_app, mDrop_app, mRet_app, mIfS_app, mSet_app, asgR_some, mAsg_app, parR_two, mPar_app, par3R_three, mPar3_app, mSub_app, augR'_some, mAug_app, mFor_app, bd_nm, bd_tp, bds_nil, bdsR_some, bds_cons, oAdd_ii, oAdd_ss, oSub_ii, oMul_ii, oDiv_ii, oMod_ii, oPow_ii, cpo_eq, cpo_ne, cpo_lt, cpo_le, cpo_gt, cpo_ge, cpo_in, cpo_notin, cpo_isN, cpo_notN, oEq_ii, oEq_ss, oNe_ii, oNe_ss, oLt_ii, oLe_ii, oGt_ii, oGe_ii, oIsN_non, oIsN_ref, oIsN_tup, oNotN_non, oNotN_ref, oNotN_tup, atR_some, oIx_tup, ixR_some, oIx_ref, sxR_some, oIx_str, newR_some, oSl_str, oSl_ref, lenR_some, cLen_one, lenB_str, lenB_ref, lenB_tup, cInt_i, cInt_b, cMin2_ii, cMax2_ii, cList_ref, stR_some, stL_ref, appR_some, fAppend_ref, oAug_ii, oAug_ss, uNeg_i, isTy_str, tyName_int, tyName_str, tyName_bl, tyName_non, tyName_tup, kit_ii, kit_ib, kit_bb, kit_bi, kit_ss, kit_is, kit_ll, kit_tt, kit_tl, kit_lt, mIter_app, iterR_str, iterR_tup, rngR_one, mRng1_app, rng2R_two, mRng2_app, mEnum_app, mZip_app, Bd_some, Nx_ok, Fx_nx, Fx_rt, mYes_app, wipeM, List.set_cons_succ, List.set_cons_zero, List.getElem?_cons_succ, List.getElem?_cons_zero, if_true, Bool.false_eq_true, if_false, List.length_cons, List.length_nil, Nat.zero_add, Nat.reduceAdd, sz0, sz1, sz2, sz3, beq_self_eq_true, Bool.not_true, Bool.not_false, List.cons_append, List.nil_append, mut_lst m2, Option.map_some, pl_len, p39, (show Mr.sizeOk 5 = true from rfl), iterR_ref (lst_new h2 [Val.int 0, .int ((nF b k : Int) - 1), .int (nF b k : Int), .int (w + 2), .int (10 ^ (39 : Int).toNat)])]
    rw [lit, bd_ok]
    refine for_bd [.int 0, .int ((nF b k : Int) - 1), .int (nF b k : Int), .int (w + 2), .int (10 ^ (39 : Int).toNat)] (fun j sl h' => ∃ v7, sl = [some (sV (jn ls)), some (.int w), some (.ref rf), some (.ref d1), v4, some (.int (k : Int)), some (.ref d2), v7] ∧ Xt (h2 ++ [.lst [.int 0, .int ((nF b k : Int) - 1), .int (nF b k : Int), .int (w + 2), .int (10 ^ (39 : Int).toNat)]]) h')
      (fun r => RS (fin r) h _) ⟨v7, rfl, Xt.refl _⟩ (show (5 : Nat) < 1000000 by decide) (fun j sl h' _ ⟨_, _, z⟩ => nList_at j (z.lst (lst_new _ _))) ?_ ?_
    · rintro j x sl h' hx ⟨v7, rfl, g1⟩
      obtain ⟨c, hc, rfl⟩ : ∃ c : Int, 0 ≤ c ∧ x = .int c := by
        have := List.mem_of_getElem? hx
        simp only [List.mem_cons, List.not_mem_nil, or_false] at this
        rcases this with e | e | e | e | e
        · exact ⟨_, by omega, e⟩
        · exact ⟨_, by omega, e⟩
        · exact ⟨_, by omega, e⟩
        · exact ⟨_, by omega, e⟩
        · exact ⟨_, by decide +kernel, e⟩
      obtain ⟨h3, e3, x3⟩ := (spec_place_at (w := w) t L hR hw h' hk c hc).ex
      have l6 : lstAt h3 d2 = some (plV b k) := x3.lst (g1.lst ((Xt.new _ _).lst (mut_lst m2)))
      simp -implicitDefEqProofs only [bd_ok, fin_rt, fin_nx, ret_app, mC_app, varR_some, mVar_app, mOp_app, mUn_app, truR_bl, mTest_app, mAnd_app, mOr_app, mNot_app, andR_bl, orR_bl, notR_bl, mAndV_app, mOrV_app, mNotV_app, mIf_app, mNil_app, mCons_app, mTup_app, mNewL_app, mLst_app, mCall_app, mNoPart_app, partR_int, mPart_app, mSl_app, chainR_bl, mChain_app, kitR_some, tyR_some, mIsi_app, mMeth_app, mNext_app, seqR_nx, seqR_rt, seqR_bk, seqR_ct, mSeq_app, mBreak_app, mCont_app, mDrop_app, mRet_app, mIfS_app, mSet_app, asgR_some, mAsg_app, parR_two, mPar_app, par3R_three, mPar3_app, mSub_app, augR'_some, mAug_app, mFor_app, bd_nm, bd_tp, bds_nil, bdsR_some, bds_cons, oAdd_ii, oAdd_ss, oSub_ii, oMul_ii, oDiv_ii, oMod_ii, oPow_ii, cpo_eq, cpo_ne, cpo_lt, cpo_le, cpo_gt, cpo_ge, cpo_in, cpo_notin, cpo_isN, cpo_notN, oEq_ii, oEq_ss, oNe_ii, oNe_ss, oLt_ii, oLe_ii, oGt_ii, oGe_ii, oIsN_non, oIsN_ref, oIsN_tup, oNotN_non, oNotN_ref, oNotN_tup, atR_some, oIx_tup, ixR_some, oIx_ref, sxR_some, oIx_str, newR_some, oSl_str, oSl_ref, lenR_some, cLen_one, lenB_str, lenB_ref, lenB_tup, cInt_i, cInt_b, cMin2_ii, cMax2_ii, cList_ref, stR_some, stL_ref, appR_some, fAppend_ref, oAug_ii, oAug_ss, uNeg_i, isTy_str, tyName_int, tyName_str, tyName_bl, tyName_non, tyName_tup, kit_ii, kit_ib, kit_bb, kit_bi, kit_ss, kit_is, kit_ll, kit_tt, kit_tl, kit_lt, mIter_app, iterR_str, iterR_tup, rngR_one, mRng1_app, rng2R_two, mRng2_app, mEnum_app, mZip_app, Bd_some, Nx_ok, Fx_nx, Fx_rt, mYes_app, wipeM, List.set_cons_succ, List.set_cons_zero, List.getElem?_cons_succ, List.getElem?_cons_zero, if_true, Bool.false_eq_true, if_false, List.length_cons, List.length_nil, Nat.zero_add, Nat.reduceAdd, sz0, sz1, sz2, sz3, beq_self_eq_true, Bool.not_true, Bool.not_false, List.cons_append, List.nil_append, e3, l6, Option.map_some, pl_len, pl_at nf hc, decide_true]
      exact ⟨_, rfl, g1.trans x3⟩
    · rintro sl h' ⟨v7, rfl, g1⟩
      have l7 : lstAt h' d1 = some (spotsF b R.length) := g1.lst ((Xt.new _ _).lst (x2.lst (c1.lst (mut_lst m1))))
      simp -implicitDefEqProofs only [bd_ok, fin_rt, fin_nx, ret_app, mC_app, varR_some, mVar_app, mOp_app, mUn_app, truR_bl, mTest_app, mAnd_app, mOr_app, mNot_app, andR_bl, orR_bl, notR_bl, mAndV_app, mOrV_app, mNotV_app, mIf_app, mNil_app, mCons_app, mTup_app, mNewL_app, mLst_app, mCall_app, mNoPart_app, partR_int, mPart_app, mSl_app, chainR_bl, mChain_app, kitR_some, tyR_some, mIsi_app, mMeth_app, mNext_app, seqR_nx, seqR_rt, seqR_bk, seqR_ct, mSeq_app, mBreak_app, mCont_app, mDrop_app, mRet_app, mIfS_app, mSet_app, asgR_some, mAsg_app, parR_two, mPar_app, par3R_three, mPar3_app, mSub_app, augR'_some, mAug_app, mFor_app, bd_nm, bd_tp, bds_nil, bdsR_some, bds_cons, oAdd_ii, oAdd_ss, oSub_ii, oMul_ii, oDiv_ii, oMod_ii, oPow_ii, cpo_eq, cpo_ne, cpo_lt, cpo_le, cpo_gt, cpo_ge, cpo_in, cpo_notin, cpo_isN, cpo_notN, oEq_ii, oEq_ss, oNe_ii, oNe_ss, oLt_ii, oLe_ii, oGt_ii, oGe_ii, oIsN_non, oIsN_ref, oIsN_tup, oNotN_non, oNotN_ref, oNotN_tup, atR_some, oIx_tup, ixR_some, oIx_ref, sxR_some, oIx_str, newR_some, oSl_str, oSl_ref, lenR_some, cLen_one, lenB_str, lenB_ref, lenB_tup, cInt_i, cInt_b, cMin2_ii, cMax2_ii, cList_ref, stR_some, stL_ref, appR_some, fAppend_ref, oAug_ii, oAug_ss, uNeg_i, isTy_str, tyName_int, tyName_str, tyName_bl, tyName_non, tyName_tup, kit_ii, kit_ib, kit_bb, kit_bi, kit_ss, kit_is, kit_ll, kit_tt, kit_tl, kit_lt, mIter_app, iterR_str, iterR_tup, rngR_one, mRng1_app, rng2R_two, mRng2_app, mEnum_app, mZip_app, Bd_some, Nx_ok, Fx_nx, Fx_rt, mYes_app, wipeM, List.set_cons_succ, List.set_cons_zero, List.getElem?_cons_succ, List.getElem?_cons_zero, if_true, Bool.false_eq_true, if_false, List.length_cons, List.length_nil, Nat.zero_add, Nat.reduceAdd, sz0, sz1, sz2, sz3, beq_self_eq_true, Bool.not_true, Bool.not_false, List.cons_append, List.nil_append, l7, Option.map_some, slen, sS_len, if_pos (sz (show (jn ls).length ≤ 16777216 by omega)), ec, decide_true]
      exact ⟨rfl, ((x1.trans c1).trans x2).trans ((Xt.new _ _).trans g1)⟩
end
end W

set_option Elab.async false
set_option linter.all false
set_option maxRecDepth 100000
set_option maxHeartbeats 4000000
namespace W
open PySem L2 Mr
theorem at_mem {α : Type} {xs : List α} {c : Nat} (h : c < xs.length) : ∃ v, L2.atI xs (c : Int) = some v ∧ v ∈ xs := by
  rw [ixv, List.getElem?_eq_getElem h]
  exact ⟨_, rfl, List.getElem_mem h⟩
section
variable {ls : List (List Nat)} {w : Int} {R : List Rw} {b : Nat → Nat}
theorem p39v : (0 : Int) ≤ 10 ^ (39 : Int).toNat := by decide +kernel
theorem spec_steps_right (t : TxOk ls) (L : Lay ls R b) (hR : rowsA w 0 ls = R) (nl : R.length ≤ 30000) (hw : 1 ≤ w) (h : AH) {rf pn : Nat} (hl : lstAt h rf = some (R.map rV)) (hrp : rf ≠ pn) (hp : ∃ x : Int, mutAt h pn = some [.int x]) :
    ∃ h', m__law_steps_right [.ref pn, sV (jn ls), .int w, .ref rf] h = .ok (.bl true) h' ∧ Pk pn h h' := by
  have sm := t.sm
  have pos := L.pos
  obtain ⟨px, hpx⟩ := hp
  have pl := mut_lt hpx
  obtain ⟨d1, h1, e1, x1, y1, m1⟩ := (spec_spots t L nl h hl).ex
  have dp : d1 ≠ pn := by omega
  have slen := spots_len L R.length (Nat.le_refl _)
  rw [L.bN] at slen
  have P1 : Pk pn h h1 := (Pk.refl hpx).xt x1
  rw [a__law_steps_right]
  unfold b__law_steps_right
  rw [mSeq_app, mSet_app]
  simp -implicitDefEqProofs only [mCall_app, mCons_app, mVar_app, List.getElem?_cons_succ, List.getElem?_cons_zero, varR_some, bd_ok, mNil_app, e1, seqR_nx, List.set_cons_succ, List.set_cons_zero]
  rw [mSeq_app, mFor_app, mRng1_app]
  simp -implicitDefEqProofs only [mCons_app, mC_app, bd_ok, mNil_app]
  rw [show rngR [.int 5] h1 = .ok (nRange 0 5) h1 from rfl, bd_ok]
  refine for_bd (rngVals 0 5) (fun k sl h' => ∃ v5 v6 v7 v8 v9 v10, sl = [some (.ref pn), some (sV (jn ls)), some (.int w), some (.ref rf), some (.ref d1), v5, v6, v7, v8, v9, v10] ∧ Pk pn h1 h')
    (fun r => ∃ h', fin r = .ok (.bl true) h' ∧ Pk pn h h') ⟨none, none, none, none, none, none, rfl, Pk.refl (x1.mut hpx)⟩ (by rw [rngVals_len]; omega) (fun k sl h' _ _ => nRange_at _ _ k h') ?_ ?_
  · rintro k x sl h' hx ⟨v5, v6, v7, v8, v9, v10, rfl, c1⟩
    obtain ⟨P, g1, u1, b1, p1⟩ := spec_cup (m := (jn ls).length + 1) c1.pu (by omega) (by omega)
    obtain ⟨n7, g2, u2, b2, p2⟩ := spec_cup (m := 7) p1.pu (by omega) (by omega)
    have p2' : Pk pn g2 (g2 ++ [.lst [.int ((n7 : Int) - 3), .int (10 ^ (39 : Int).toNat), .int (0 - 10 ^ (39 : Int).toNat)]]) := by
      obtain ⟨_, q⟩ := p2.pu
      exact (Pk.refl q).xt (Xt.new _ _)
    obtain ⟨n5, g3, u3, b3, p3⟩ := spec_cup (m := 5) p2'.pu (by omega) (by omega)
    have l3 : lstAt g3 g2.length = some [.int ((n7 : Int) - 3), .int (10 ^ (39 : Int).toNat), .int (0 - 10 ^ (39 : Int).toNat)] := p3.lst (by obtain ⟨_, q⟩ := p2.pu; have := mut_lt q; omega) (lst_new _ _)
    obtain ⟨bv, e3, bm⟩ := at_mem (xs := [Val.int ((n7 : Int) - 3), .int (10 ^ (39 : Int).toNat), .int (0 - 10 ^ (39 : Int).toNat)]) (c := n5 % 3) (by show n5 % 3 < 3; omega)
    obtain ⟨bi, rfl⟩ : ∃ bi : Int, bv = .int bi := by
      simp only [List.mem_cons, List.not_mem_nil, or_false] at bm
      rcases bm with e | e | e
      · exact ⟨_, e⟩
      · exact ⟨_, e⟩
      · exact ⟨_, e⟩
    have e3' : L2.atI [Val.int ((n7 : Int) - 3), .int (10 ^ (39 : Int).toNat), .int (0 - 10 ^ (39 : Int).toNat)] ((n5 : Int) % 3) = some (.int bi) := by rw [← e3]; congr 1
    have q3 : Pk pn h' g3 := p1.trans (p2.trans (p2'.trans p3))
    -- the place
    obtain ⟨k, k1, k2, k3⟩ := L.find (P := P) R.length (Nat.le_refl _) (by rw [L.bN]; exact b1)
    have sa : L2.atI (spotsF b R.length) (P : Int) = some (spV k (P - b k)) := by rw [ixv]; exact spots_at L k2 k3 R.length k1 (Nat.le_refl _)
    obtain ⟨mw, m0, m9, em⟩ : ∃ mw : Nat, 0 < mw ∧ mw ≤ 33 ∧ ((if (30 : Int) < w then 30 else w) + 3) = (mw : Int) := by
      by_cases hq : (30 : Int) < w
      · exact ⟨33, by omega, by omega, by rw [if_pos hq]; rfl⟩
      · exact ⟨(w + 3).toNat, by omega, by omega, by rw [if_neg hq]; omega⟩
    obtain ⟨nm, g4, u4, b4, p4⟩ := spec_cup (m := mw) q3.pu m0 (by omega)
    have d4 : lstAt g4 d1 = some (spotsF b R.length) := p4.lst dp (q3.lst dp (c1.lst dp (mut_lst m1)))
    have p4' : Pk pn g4 (g4 ++ [.lst [.int (nm : Int), .int ((P - b k : Nat) : Int)]]) := by
      obtain ⟨_, q⟩ := p4.pu
      exact (Pk.refl q).xt (Xt.new _ _)
    obtain ⟨n2, g5, u5, b5, p5⟩ := spec_cup (m := 2) p4'.pu (by omega) (by omega)
    have l5 : lstAt g5 g4.length = some [.int (nm : Int), .int ((P - b k : Nat) : Int)] := p5.lst (by obtain ⟨_, q⟩ := p4.pu; have := mut_lt q; omega) (lst_new _ _)
    obtain ⟨cv, e5, cm⟩ := at_mem (xs := [Val.int (nm : Int), .int ((P - b k : Nat) : Int)]) (c := n2) b5
    obtain ⟨ci, c0, rfl⟩ : ∃ ci : Int, 0 ≤ ci ∧ cv = .int ci := by
      simp only [List.mem_cons, List.not_mem_nil, or_false] at cm
      rcases cm with e | e
      · exact ⟨_, by omega, e⟩
      · exact ⟨_, by omega, e⟩
    have q5 : Pk pn h1 g5 := c1.trans (q3.trans (p4.trans (p4'.trans p5)))
    have d5 : lstAt g5 d1 = some (spotsF b R.length) := q5.lst dp (mut_lst m1)
    have r5 : lstAt g5 rf = some (R.map rV) := q5.lst hrp (x1.lst hl)
    obtain ⟨k', k1', ek⟩ := clamp_ex pos ((k : Int) + bi)
    obtain ⟨d6, g6, u6, x6, y6, m6⟩ := (spec_places t L g5 k1' r5).ex
    obtain ⟨g7, u7, x7⟩ := (spec_stepped (w := w) t L hR nl hw g6 k1 k2 k3 bi ci c0 k1' ek).ex
    have nf : 1 ≤ nF b k' := by have := L.mono _ k1'; unfold nF; omega
    have ec : (((jn ls).length : Int) + 1) = (((jn ls).length + 1 : Nat) : Int) := by omega
    have t3 : (0 : Int) < 3 := by decide
    have u2' : m__law_cup [.ref pn, .int 7] g1 = .ok (.int (n7 : Int)) g2 := u2
    have u3' : m__law_cup [.ref pn, .int 5] (g2 ++ [.lst [.int ((n7 : Int) - 3), .int (10 ^ (39 : Int).toNat), .int (0 - 10 ^ (39 : Int).toNat)]]) = .ok (.int (n5 : Int)) g3 := u3
    have u5' : m__law_cup [.ref pn, .int 2] (g4 ++ [.lst [.int (nm : Int), .int ((P - b k : Nat) : Int)]]) = .ok (.int (n2 : Int)) g5 := u5
    rw [bd_nm, Bd_some, mSeq_app, mPar_app]
    simp -implicitDefEqProofs only [mCons_app, mOp_app, mCall_app, mVar_app, mLst_app, List.set_cons_succ, List.set_cons_zero, List.getElem?_cons_succ, List.getElem?_cons_zero, varR_some, bd_ok, mNil_app, mC_app, cLen_one, lenB_str, sS_len, if_pos (sz (show (jn ls).length ≤ 16777216 by omega)), lenR_some, oAdd_ii, ec, u1, u2', oSub_ii, oPow_ii, p39, if_true, List.length_cons, List.length_nil, Nat.zero_add, Nat.reduceAdd, sz3, u3', oMod_ii, if_pos t3, oIx_ref, l3, ixR_some, e3', atR_some, parR_two, seqR_nx]
    rw [mSeq_app, mSet_app]
    simp -implicitDefEqProofs only [mCons_app, mOp_app, mCall_app, mVar_app, mLst_app, List.set_cons_succ, List.set_cons_zero, List.getElem?_cons_succ, List.getElem?_cons_zero, varR_some, bd_ok, mNil_app, mC_app, cMin2_ii, oAdd_ii, em, u4, oIx_ref, d4, ixR_some, sa, atR_some, spV, oIx_tup, ixo, List.length_cons, List.length_nil, Nat.zero_add, Nat.reduceAdd, sz2, if_true, u5', l5, e5, seqR_nx]
    rw [mSeq_app, mSet_app]
    simp -implicitDefEqProofs only [mCons_app, mOp_app, mCall_app, mVar_app, List.set_cons_succ, List.set_cons_zero, List.getElem?_cons_succ, List.getElem?_cons_zero, varR_some, bd_ok, mNil_app, mC_app, oIx_ref, d5, ixR_some, sa, atR_some, spV, oIx_tup, ixz, oAdd_ii, cMax2_ii, cLen_one, lenB_ref, r5, Option.map_some, List.length_map, lenR_some, oSub_ii, cMin2_ii, ek, seqR_nx]
    simp -implicitDefEqProofs only [bd_ok, fin_rt, fin_nx, ret_app, mC_app, varR_some, mVar_app, mOp_app, mUn_app, truR_bl, mTest_app, mAnd_app, mOr_app, mNot_app, andR_bl, orR_bl, notR_bl, mAndV_app, mOrV_app, mNotV_app, mIf_app, mNil_app, mCons_app, mTup_app, mNewL_app, mLst_app, mCall_app, mNoPart_app, partR_int, mPart_app, mSl_app, chainR_bl, mChain_app, kitR_some, tyR_some, mIsi_app, mMeth_app, mNext_app, seqR_nx, seqR_rt, seqR_bk, seqR_ct, mSeq_app, mBreak_app, mCont_app, mDrop_app, mRet_app, mIfS_app, mSet_app, asgR_some, mAsg_app, parR_two, mPar_app, par3R_three, mPar3_app, mSub_app, augR'_some, mAug_app, mFor_app, bd_nm, bd_tp, bds_nil, bdsR_some, bds_cons, oAdd_ii, oAdd_ss, oSub_ii, oMul_ii, oDiv_ii, oMod_ii, oPow_ii, cpo_eq, cpo_ne, cpo_lt, cpo_le, cpo_gt, cpo_ge, cpo_in, cpo_notin, cpo_isN, cpo_notN, oEq_ii, oEq_ss, oNe_ii, oNe_ss, oLt_ii, oLe_ii, oGt_ii, oGe_ii, oIsN_non, oIsN_ref, oIsN_tup, oNotN_non, oNotN_ref, oNotN_tup, atR_some, oIx_tup, ixR_some, oIx_ref, sxR_some, oIx_str, newR_some, oSl_str, oSl_ref, lenR_some, cLen_one, lenB_str, lenB_ref, lenB_tup, cInt_i, cInt_b, cMin2_ii, cMax2_ii, cList_ref, stR_some, stL_ref, appR_some, fAppend_ref, oAug_ii, oAug_ss, uNeg_i, isTy_str, tyName_int, tyName_str, tyName_bl, tyName_non, tyName_tup, kit_ii, kit_ib, kit_bb, kit_bi, kit_ss, kit_is, kit_ll, kit_tt, kit_tl, kit_lt, mIter_app, iterR_str, iterR_tup, rngR_one, mRng1_app, rng2R_two, mRng2_app, mEnum_app, mZip_app, Bd_some, Nx_ok, Fx_nx, Fx_rt, mYes_app, wipeM, List.set_cons_succ, List.set_cons_zero, List.getElem?_cons_succ, List.getElem?_cons_zero, if_true, Bool.false_eq_true, if_false, List.length_cons, List.length_nil, Nat.zero_add, Nat.reduceAdd, sz0, sz1, sz2, sz3, beq_self_eq_true, Bool.not_true, Bool.not_false, List.cons_append, List.nil_append, u6, u7, x7.lst (mut_lst m6), Option.map_some, pl_len, pl_at nf c0, decide_true]
    exact ⟨_, _, _, _, _, _, rfl, (q5.xt x6).xt x7⟩
  · rintro sl h' ⟨v5, v6, v7, v8, v9, v10, rfl, c1⟩
    simp -implicitDefEqProofs only [bd_ok, fin_rt, fin_nx, ret_app, mC_app, varR_some, mVar_app, mOp_app, mUn_app, truR_bl, mTest_app, mAnd_app, mOr_app, mNot_app, andR_bl, orR_bl, notR_bl, mAndV_app, mOrV_app, mNotV_app, mIf_app, mNil_app, mCons_app, mTup_app, mNewL_app, mLst_app, mCall_app, mNoPart_app, partR_int, mPart_app, mSl_app, chainR_bl, mChain_app, kitR_some, tyR_some, mIsi_app, mMeth_app, mNext_app, seqR_nx, seqR_rt, seqR_bk, seqR_ct, mSeq_app, mBreak_app, mCont_app, mDrop_app, mRet_app, mIfS_app, mSet_app, asgR_some, mAsg_app, parR_two, mPar_app, par3R_three, mPar3_app, mSub_app, augR'_some, mAug_app, mFor_app, bd_nm, bd_tp, bds_nil, bdsR_some, bds_cons, oAdd_ii, oAdd_ss, oSub_ii, oMul_ii, oDiv_ii, oMod_ii, oPow_ii, cpo_eq, cpo_ne, cpo_lt, cpo_le, cpo_gt, cpo_ge, cpo_in, cpo_notin, cpo_isN, cpo_notN, oEq_ii, oEq_ss, oNe_ii, oNe_ss, oLt_ii, oLe_ii, oGt_ii, oGe_ii, oIsN_non, oIsN_ref, oIsN_tup, oNotN_non, oNotN_ref, oNotN_tup, atR_some, oIx_tup, ixR_some, oIx_ref, sxR_some, oIx_str, newR_some, oSl_str, oSl_ref, lenR_some, cLen_one, lenB_str, lenB_ref, lenB_tup, cInt_i, cInt_b, cMin2_ii, cMax2_ii, cList_ref, stR_some, stL_ref, appR_some, fAppend_ref, oAug_ii, oAug_ss, uNeg_i, isTy_str, tyName_int, tyName_str, tyName_bl, tyName_non, tyName_tup, kit_ii, kit_ib, kit_bb, kit_bi, kit_ss, kit_is, kit_ll, kit_tt, kit_tl, kit_lt, mIter_app, iterR_str, iterR_tup, rngR_one, mRng1_app, rng2R_two, mRng2_app, mEnum_app, mZip_app, Bd_some, Nx_ok, Fx_nx, Fx_rt, mYes_app, wipeM, List.set_cons_succ, List.set_cons_zero, List.getElem?_cons_succ, List.getElem?_cons_zero, if_true, Bool.false_eq_true, if_false, List.length_cons, List.length_nil, Nat.zero_add, Nat.reduceAdd, sz0, sz1, sz2, sz3, beq_self_eq_true, Bool.not_true, Bool.not_false, List.cons_append, List.nil_append, ]
    exact ⟨h', rfl, P1.trans c1⟩
end
/-! ### the law's lines and texts -/
def okS (n : Nat) (v : Val) : Prop := ∃ l, v = sV l ∧ okl l ∧ l.length ≤ n
theorem okS_of {x : Str} {n : Nat} (h : (x.cps.toList.all fun c => decide (c = 32) || (decide (97 ≤ c) && decide (c ≤ 122))) = true) (hl : x.cps.toList.length ≤ n) : okS n (.str x) := by
  refine ⟨x.cps.toList, ?_, fun c hc => ?_, hl⟩
  · rfl
  · have := List.all_eq_true.mp h c hc
    simp at this
    rcases this with e | ⟨e1, e2⟩
    · exact .inl e
    · exact .inr ⟨e1, e2⟩
theorem words_ok : ∀ v ∈ [Val.str "a", .str "bc", .str "def", .str "ghijk", .str "lmnopqrs"], okS 8 v := by
  simp only [List.mem_cons, List.not_mem_nil, or_false, forall_eq_or_imp, forall_eq]
  exact ⟨okS_of (by decide +kernel) (by decide +kernel), okS_of (by decide +kernel) (by decide +kernel), okS_of (by decide +kernel) (by decide +kernel), okS_of (by decide +kernel) (by decide +kernel), okS_of (by decide +kernel) (by decide +kernel)⟩
theorem blanks_ok : ∀ v ∈ [Val.str "", .str " ", .str " ", .str "  ", .str "   "], okS 3 v := by
  simp only [List.mem_cons, List.not_mem_nil, or_false, forall_eq_or_imp, forall_eq]
  exact ⟨okS_of (by decide +kernel) (by decide +kernel), okS_of (by decide +kernel) (by decide +kernel), okS_of (by decide +kernel) (by decide +kernel), okS_of (by decide +kernel) (by decide +kernel), okS_of (by decide +kernel) (by decide +kernel)⟩
theorem fronts_ok : ∀ v ∈ [Val.str " ", .str "  ", .str "", .str "", .str "", .str ""], okS 3 v := by
  simp only [List.mem_cons, List.not_mem_nil, or_false, forall_eq_or_imp, forall_eq]
  exact ⟨okS_of (by decide +kernel) (by decide +kernel), okS_of (by decide +kernel) (by decide +kernel), okS_of (by decide +kernel) (by decide +kernel), okS_of (by decide +kernel) (by decide +kernel), okS_of (by decide +kernel) (by decide +kernel), okS_of (by decide +kernel) (by decide +kernel)⟩
theorem okl_app {a b : List Nat} (h1 : okl a) (h2 : okl b) : okl (a ++ b) := fun c hc => by
  rcases List.mem_append.mp hc with e | e
  · exact h1 c e
  · exact h2 c e
theorem cutS_most (l : List Nat) (m : Nat) : cutS (sS l) none (some (m : Int)) = sS (l.take (min m l.length)) := by
  unfold cutS
  rw [HT.sIx_nat, sS_len]
  rfl
theorem pu_new {h : AH} {pn : Nat} {o : AO} (hp : ∃ x : Int, mutAt h pn = some [.int x]) : Pk pn h (h ++ [o]) ∧ pn < h.length := by
  obtain ⟨x, e⟩ := hp
  exact ⟨(Pk.refl e).xt (Xt.new _ _), mut_lt e⟩
theorem spec_line (h : AH) {pn : Nat} (hp : ∃ x : Int, mutAt h pn = some [.int x]) (m : Nat) : ∃ l h', m__law_line [.ref pn, .int (m : Int)] h = .ok (sV l) h' ∧ okl l ∧ l.length ≤ m ∧ Pk pn h h' := by
  rw [a__law_line]
  unfold b__law_line
  obtain ⟨n9, g1, u1, b1, p1⟩ := spec_cup (m := 9) hp (by omega) (by omega)
  have u1' : m__law_cup [.ref pn, .int 9] h = .ok (.int (n9 : Int)) g1 := u1
  rw [mSeq_app, mSet_app, mC_app, bd_ok, bd_ok, seqR_nx, mSeq_app, mFor_app, mRng1_app]
  simp -implicitDefEqProofs only [mCons_app, mCall_app, mVar_app, mC_app, mNil_app, bd_ok, List.set_cons_succ, List.set_cons_zero, List.getElem?_cons_succ, List.getElem?_cons_zero, varR_some, u1']
  rw [rng_nat _ _ (by omega), bd_ok]
  refine for_bd (rngVals 0 n9) (fun k sl h' => ∃ v3 v4 l, sl = [some (.ref pn), some (.int (m : Int)), some (sV l), v3, v4] ∧ okl l ∧ l.length ≤ 11 * k ∧ Pk pn h h')
    (fun r => ∃ l h', fin r = .ok (sV l) h' ∧ okl l ∧ l.length ≤ m ∧ Pk pn h h') ⟨none, none, [], by rw [s_nil], (fun _ h => nomatch h), Nat.le_refl _, p1⟩ (by rw [rngVals_len]; omega) (fun k sl h' _ _ => nRange_at _ _ k h') ?_ ?_
  · rintro k x sl h' hx ⟨v3, v4, l, rfl, l1, l2, c1⟩
    have hk : k < n9 := by have := (List.getElem?_eq_some_iff.mp hx).1; rwa [rngVals_len] at this
    obtain ⟨pa, pb⟩ := pu_new (o := .lst [Val.str "a", .str "bc", .str "def", .str "ghijk", .str "lmnopqrs"]) c1.pu
    obtain ⟨n5, g2, u2, b2, p2⟩ := spec_cup (m := 5) pa.pu (by omega) (by omega)
    have la : lstAt g2 h'.length = some [Val.str "a", .str "bc", .str "def", .str "ghijk", .str "lmnopqrs"] := p2.lst (by omega) (lst_new _ _)
    obtain ⟨va, ea, ma⟩ := at_mem (xs := [Val.str "a", .str "bc", .str "def", .str "ghijk", .str "lmnopqrs"]) (c := n5) b2
    obtain ⟨wa, rfl, oa, za⟩ := words_ok va ma
    obtain ⟨pc, pd⟩ := pu_new (o := .lst [Val.str "", .str " ", .str " ", .str "  ", .str "   "]) p2.pu
    obtain ⟨n6, g3, u3, b3, p3⟩ := spec_cup (m := 5) pc.pu (by omega) (by omega)
    have lb : lstAt g3 g2.length = some [Val.str "", .str " ", .str " ", .str "  ", .str "   "] := p3.lst (by omega) (lst_new _ _)
    obtain ⟨vb, eb, mb⟩ := at_mem (xs := [Val.str "", .str " ", .str " ", .str "  ", .str "   "]) (c := n6) b3
    obtain ⟨wb, rfl, ob, zb⟩ := blanks_ok vb mb
    have u2' : m__law_cup [.ref pn, .int 5] (h' ++ [.lst [Val.str "a", .str "bc", .str "def", .str "ghijk", .str "lmnopqrs"]]) = .ok (.int (n5 : Int)) g2 := u2
    have u3' : m__law_cup [.ref pn, .int 5] (g2 ++ [.lst [Val.str "", .str " ", .str " ", .str "  ", .str "   "]]) = .ok (.int (n6 : Int)) g3 := u3
    simp -implicitDefEqProofs only [bd_ok, fin_rt, fin_nx, ret_app, mC_app, varR_some, mVar_app, mOp_app, mUn_app, truR_bl, mTest_app, mAnd_app, mOr_app, mNot_app, andR_bl, orR_bl, notR_bl, mAndV_app, mOrV_app, mNotV_app, mIf_app, mNil_app, mCons_app, mTup_app, mNewL_app, mLst_app, mCall_app, mNoPart_app, partR_int, mPart_app, mSl_app, chainR_bl, mChain_app, kitR_some, tyR_some, mIsi_app, mMeth_app, mNext_app, seqR_nx, seqR_rt, seqR_bk, seqR_ct, mSeq_app, mBreak_app, mCont_app, mDrop_app, mRet_app, mIfS_app, mSet_app, asgR_some, mAsg_app, parR_two, mPar_app, par3R_three, mPar3_app, mSub_app, augR'_some, mAug_app, mFor_app, bd_nm, bd_tp, bds_nil, bdsR_some, bds_cons, oAdd_ii, oAdd_ss, oSub_ii, oMul_ii, oDiv_ii, oMod_ii, oPow_ii, cpo_eq, cpo_ne, cpo_lt, cpo_le, cpo_gt, cpo_ge, cpo_in, cpo_notin, cpo_isN, cpo_notN, oEq_ii, oEq_ss, oNe_ii, oNe_ss, oLt_ii, oLe_ii, oGt_ii, oGe_ii, oIsN_non, oIsN_ref, oIsN_tup, oNotN_non, oNotN_ref, oNotN_tup, atR_some, oIx_tup, ixR_some, oIx_ref, sxR_some, oIx_str, newR_some, oSl_str, oSl_ref, lenR_some, cLen_one, lenB_str, lenB_ref, lenB_tup, cInt_i, cInt_b, cMin2_ii, cMax2_ii, cList_ref, stR_some, stL_ref, appR_some, fAppend_ref, oAug_ii, oAug_ss, uNeg_i, isTy_str, tyName_int, tyName_str, tyName_bl, tyName_non, tyName_tup, kit_ii, kit_ib, kit_bb, kit_bi, kit_ss, kit_is, kit_ll, kit_tt, kit_tl, kit_lt, mIter_app, iterR_str, iterR_tup, rngR_one, mRng1_app, rng2R_two, mRng2_app, mEnum_app, mZip_app, Bd_some, Nx_ok, Fx_nx, Fx_rt, mYes_app, wipeM, List.set_cons_succ, List.set_cons_zero, List.getElem?_cons_succ, List.getElem?_cons_zero, if_true, Bool.false_eq_true, if_false, List.length_cons, List.length_nil, Nat.zero_add, Nat.reduceAdd, sz0, sz1, sz2, sz3, beq_self_eq_true, Bool.not_true, Bool.not_false, List.cons_append, List.nil_append, (show Mr.sizeOk 5 = true from rfl), u2', la, ea, sS_len, if_pos (sz (show l.length + wa.length ≤ 16777216 by omega)), sS_app, List.length_append, u3', lb, eb, if_pos (sz (show l.length + wa.length + wb.length ≤ 16777216 by omega))]
    refine ⟨_, _, _, rfl, okl_app (okl_app l1 oa) ob, ?_, c1.trans (pa.trans (p2.trans (pc.trans p3)))⟩
    rw [List.length_append, List.length_append]
    omega
  · rintro sl h' ⟨v3, v4, l, rfl, l1, l2, c1⟩
    rw [rngVals_len] at l2
    obtain ⟨pa, pb⟩ := pu_new (o := .lst [Val.str " ", .str "  ", .str "", .str "", .str "", .str ""]) c1.pu
    obtain ⟨n6, g2, u2, b2, p2⟩ := spec_cup (m := 6) pa.pu (by omega) (by omega)
    have la : lstAt g2 h'.length = some [Val.str " ", .str "  ", .str "", .str "", .str "", .str ""] := p2.lst (by omega) (lst_new _ _)
    obtain ⟨va, ea, ma⟩ := at_mem (xs := [Val.str " ", .str "  ", .str "", .str "", .str "", .str ""]) (c := n6) b2
    obtain ⟨wa, rfl, oa, za⟩ := fronts_ok va ma
    have u2' : m__law_cup [.ref pn, .int 6] (h' ++ [.lst [Val.str " ", .str "  ", .str "", .str "", .str "", .str ""]]) = .ok (.int (n6 : Int)) g2 := u2
    simp -implicitDefEqProofs only [bd_ok, fin_rt, fin_nx, ret_app, mC_app, varR_some, mVar_app, mOp_app, mUn_app, truR_bl, mTest_app, mAnd_app, mOr_app, mNot_app, andR_bl, orR_bl, notR_bl, mAndV_app, mOrV_app, mNotV_app, mIf_app, mNil_app, mCons_app, mTup_app, mNewL_app, mLst_app, mCall_app, mNoPart_app, partR_int, mPart_app, mSl_app, chainR_bl, mChain_app, kitR_some, tyR_some, mIsi_app, mMeth_app, mNext_app, seqR_nx, seqR_rt, seqR_bk, seqR_ct, mSeq_app, mBreak_app, mCont_app, mDrop_app, mRet_app, mIfS_app, mSet_app, asgR_some, mAsg_app, parR_two, mPar_app, par3R_three, mPar3_app, mSub_app, augR'_some, mAug_app, mFor_app, bd_nm, bd_tp, bds_nil, bdsR_some, bds_cons, oAdd_ii, oAdd_ss, oSub_ii, oMul_ii, oDiv_ii, oMod_ii, oPow_ii, cpo_eq, cpo_ne, cpo_lt, cpo_le, cpo_gt, cpo_ge, cpo_in, cpo_notin, cpo_isN, cpo_notN, oEq_ii, oEq_ss, oNe_ii, oNe_ss, oLt_ii, oLe_ii, oGt_ii, oGe_ii, oIsN_non, oIsN_ref, oIsN_tup, oNotN_non, oNotN_ref, oNotN_tup, atR_some, oIx_tup, ixR_some, oIx_ref, sxR_some, oIx_str, newR_some, oSl_str, oSl_ref, lenR_some, cLen_one, lenB_str, lenB_ref, lenB_tup, cInt_i, cInt_b, cMin2_ii, cMax2_ii, cList_ref, stR_some, stL_ref, appR_some, fAppend_ref, oAug_ii, oAug_ss, uNeg_i, isTy_str, tyName_int, tyName_str, tyName_bl, tyName_non, tyName_tup, kit_ii, kit_ib, kit_bb, kit_bi, kit_ss, kit_is, kit_ll, kit_tt, kit_tl, kit_lt, mIter_app, iterR_str, iterR_tup, rngR_one, mRng1_app, rng2R_two, mRng2_app, mEnum_app, mZip_app, Bd_some, Nx_ok, Fx_nx, Fx_rt, mYes_app, wipeM, List.set_cons_succ, List.set_cons_zero, List.getElem?_cons_succ, List.getElem?_cons_zero, if_true, Bool.false_eq_true, if_false, List.length_cons, List.length_nil, Nat.zero_add, Nat.reduceAdd, sz0, sz1, sz2, sz3, beq_self_eq_true, Bool.not_true, Bool.not_false, List.cons_append, List.nil_append, (show Mr.sizeOk 6 = true from rfl), u2', la, ea, sS_len, if_pos (sz (show wa.length + l.length ≤ 16777216 by omega)), sS_app, List.length_append, cutS_most]
    refine ⟨_, _, rfl, fun c hc => okl_app oa l1 c (List.mem_of_mem_take hc), ?_, c1.trans (pa.trans p2)⟩
    rw [List.length_take]
    omega
theorem sum_le (ls : List (List Nat)) (m : Nat) (h : ∀ l ∈ ls, l.length ≤ m) : (ls.map fun l => l.length + 1).sum ≤ (m + 1) * ls.length := by
  induction ls with
  | nil => exact Nat.le_refl _
  | cons l r ih =>
    have h1 := h l List.mem_cons_self
    have h2 := ih fun x hx => h x (List.mem_cons_of_mem _ hx)
    rw [List.map_cons, List.sum_cons, List.length_cons, Nat.mul_succ]
    omega
theorem join_nl {h : AH} {d : Nat} {ls : List (List Nat)} (e : lstAt h d = some (ls.map sV)) (hl : ls.flatten.length + ls.length ≤ 16777216) : fJoin (.str "\n") [.ref d] h = .ok (sV (jn ls)) h := by
  unfold fJoin
  dsimp only
  have e1 : seqOf h (.ref d) = some (ls.map sV) := e
  have e2 : joinOk (("\n" : String) : Str) (ls.map sS) = true := by
    unfold joinOk
    rw [sum_len, s_nl, sS_len]
    exact decide_eq_true (by simpa using hl)
  rw [e1]
  dsimp only
  rw [strsOf_map]
  dsimp only
  rw [if_pos e2, s_nl, jn_str]
theorem flat_le (ls : List (List Nat)) (m : Nat) (h : ∀ l ∈ ls, l.length ≤ m) : ls.flatten.length ≤ m * ls.length := by
  induction ls with
  | nil => exact Nat.le_refl _
  | cons l r ih =>
    have h1 := h l List.mem_cons_self
    have h2 := ih fun x hx => h x (List.mem_cons_of_mem _ hx)
    rw [List.flatten_cons, List.length_append, List.length_cons, Nat.mul_succ]
    omega
theorem spec_text (h : AH) {pn : Nat} (hp : ∃ x : Int, mutAt h pn = some [.int x]) (m : Nat) (hm : m ≤ 40) : ∃ ls h', m__law_text [.ref pn, .int 4, .int (m : Int)] h = .ok (sV (jn ls)) h' ∧ TxOk ls ∧ Pk pn h h' := by
  rw [a__law_text]
  unfold b__law_text
  obtain ⟨pa, pb⟩ := pu_new (o := .lst []) hp
  obtain ⟨n4, g1, u1, b1, p1⟩ := spec_cup (m := 4) pa.pu (by omega) (by omega)
  have u1' : m__law_cup [.ref pn, .int 4] (h ++ [.lst []]) = .ok (.int (n4 : Int)) g1 := u1
  have ec : (1 : Int) + (n4 : Int) = ((1 + n4 : Nat) : Int) := by omega
  rw [mSeq_app, mSet_app]
  simp -implicitDefEqProofs only [mLst_app, mNil_app, bd_ok, List.length_nil, sz0, if_true, seqR_nx, List.set_cons_succ, List.set_cons_zero]
  rw [mSeq_app, mFor_app, mRng1_app]
  simp -implicitDefEqProofs only [mCons_app, mOp_app, mCall_app, mVar_app, mC_app, mNil_app, bd_ok, List.getElem?_cons_succ, List.getElem?_cons_zero, varR_some, u1', oAdd_ii, ec]
  rw [rng_nat _ _ (by omega), bd_ok]
  refine for_bd (rngVals 0 (1 + n4)) (fun k sl h' => ∃ v4 ls, sl = [some (.ref pn), some (.int 4), some (.int (m : Int)), some (.ref h.length), v4] ∧ mutAt h' h.length = some (ls.map sV) ∧ ls.length = k ∧ (∀ l ∈ ls, okl l) ∧ (∀ l ∈ ls, l.length ≤ 40) ∧ Pk pn h h')
    (fun r => ∃ ls h', fin r = .ok (sV (jn ls)) h' ∧ TxOk ls ∧ Pk pn h h') ⟨none, [], rfl, p1.mut (by omega) (mut_new _ _), rfl, (fun _ h => nomatch h), (fun _ h => nomatch h), pa.trans p1⟩ (by rw [rngVals_len]; omega) (fun k sl h' _ _ => nRange_at _ _ k h') ?_ ?_
  · rintro k x sl h' hx ⟨v4, ls, rfl, c1, c2, c3, c4, c5⟩
    have hk : k < 1 + n4 := by have := (List.getElem?_eq_some_iff.mp hx).1; rwa [rngVals_len] at this
    obtain ⟨pc, pd⟩ := pu_new (o := .lst [Val.int 0, .int 6, .int (m : Int), .int (m : Int)]) c5.pu
    obtain ⟨n5, g2, u2, b2, p2⟩ := spec_cup (m := 4) pc.pu (by omega) (by omega)
    have la : lstAt g2 h'.length = some [Val.int 0, .int 6, .int (m : Int), .int (m : Int)] := p2.lst (by omega) (lst_new _ _)
    obtain ⟨va, ea, ma⟩ := at_mem (xs := [Val.int 0, .int 6, .int (m : Int), .int (m : Int)]) (c := n5) b2
    obtain ⟨mm, hmm, rfl⟩ : ∃ mm : Nat, mm ≤ 40 ∧ va = .int (mm : Int) := by
      simp only [List.mem_cons, List.not_mem_nil, or_false] at ma
      rcases ma with e | e | e | e
      · exact ⟨0, by omega, e⟩
      · exact ⟨6, by omega, e⟩
      · exact ⟨m, by omega, e⟩
      · exact ⟨m, by omega, e⟩
    obtain ⟨l, g3, u3, o3, l3, p3⟩ := spec_line g2 p2.pu mm
    have hne : h.length ≠ pn := by omega
    have q3 : Pk pn h' g3 := pc.trans (p2.trans p3)
    have mu := q3.mut hne c1
    have u2' : m__law_cup [.ref pn, .int 4] (h' ++ [.lst [Val.int 0, .int 6, .int (m : Int), .int (m : Int)]]) = .ok (.int (n5 : Int)) g2 := u2
    simp -implicitDefEqProofs only [bd_ok, fin_rt, fin_nx, ret_app, mC_app, varR_some, mVar_app, mOp_app, mUn_app, truR_bl, mTest_app, mAnd_app, mOr_app, mNot_app, andR_bl, orR_bl, notR_bl, mAndV_app, mOrV_app, mNotV_app, mIf_app, mNil_app, mCons_app, mTup_app, mNewL_app, mLst_app, mCall_app, mNoPart_app, partR_int, mPart_app, mSl_app, chainR_bl, mChain_app, kitR_some, tyR_some, mIsi_app, mMeth_app, mNext_app, seqR_nx, seqR_rt, seqR_bk, seqR_ct, mSeq_app, mBreak_app, mCont_app, mDrop_app, mRet_app, mIfS_app, mSet_app, asgR_some, mAsg_app, parR_two, mPar_app, par3R_three, mPar3_app, mSub_app, augR'_some, mAug_app, mFor_app, bd_nm, bd_tp, bds_nil, bdsR_some, bds_cons, oAdd_ii, oAdd_ss, oSub_ii, oMul_ii, oDiv_ii, oMod_ii, oPow_ii, cpo_eq, cpo_ne, cpo_lt, cpo_le, cpo_gt, cpo_ge, cpo_in, cpo_notin, cpo_isN, cpo_notN, oEq_ii, oEq_ss, oNe_ii, oNe_ss, oLt_ii, oLe_ii, oGt_ii, oGe_ii, oIsN_non, oIsN_ref, oIsN_tup, oNotN_non, oNotN_ref, oNotN_tup, atR_some, oIx_tup, ixR_some, oIx_ref, sxR_some, oIx_str, newR_some, oSl_str, oSl_ref, lenR_some, cLen_one, lenB_str, lenB_ref, lenB_tup, cInt_i, cInt_b, cMin2_ii, cMax2_ii, cList_ref, stR_some, stL_ref, appR_some, fAppend_ref, oAug_ii, oAug_ss, uNeg_i, isTy_str, tyName_int, tyName_str, tyName_bl, tyName_non, tyName_tup, kit_ii, kit_ib, kit_bb, kit_bi, kit_ss, kit_is, kit_ll, kit_tt, kit_tl, kit_lt, mIter_app, iterR_str, iterR_tup, rngR_one, mRng1_app, rng2R_two, mRng2_app, mEnum_app, mZip_app, Bd_some, Nx_ok, Fx_nx, Fx_rt, mYes_app, wipeM, List.set_cons_succ, List.set_cons_zero, List.getElem?_cons_succ, List.getElem?_cons_zero, if_true, Bool.false_eq_true, if_false, List.length_cons, List.length_nil, Nat.zero_add, Nat.reduceAdd, sz0, sz1, sz2, sz3, beq_self_eq_true, Bool.not_true, Bool.not_false, List.cons_append, List.nil_append, isTy_mut c1, (show Mr.sizeOk 4 = true from rfl), u2', la, ea, u3, append_mut (sV l) mu (by rw [List.length_map]; omega)]
    refine ⟨_, ls ++ [l], rfl, ?_, ?_, ?_, ?_, (c5.trans q3).set (Nat.le_refl _) hne⟩
    · rw [mut_set mu, List.map_append]; rfl
    · rw [List.length_append, c2]; rfl
    · intro x hx
      rcases List.mem_append.mp hx with e | e
      · exact c3 x e
      · rw [List.mem_singleton.mp e]; exact o3
    · intro x hx
      rcases List.mem_append.mp hx with e | e
      · exact c4 x e
      · rw [List.mem_singleton.mp e]; omega
  · rintro sl h' ⟨v4, ls, rfl, c1, c2, c3, c4, c5⟩
    rw [rngVals_len] at c2
    have fl := flat_le ls 40 c4
    have ne : ls ≠ [] := fun z => by rw [z] at c2; simp at c2; omega
    simp -implicitDefEqProofs only [bd_ok, fin_rt, fin_nx, ret_app, mC_app, varR_some, mVar_app, mOp_app, mUn_app, truR_bl, mTest_app, mAnd_app, mOr_app, mNot_app, andR_bl, orR_bl, notR_bl, mAndV_app, mOrV_app, mNotV_app, mIf_app, mNil_app, mCons_app, mTup_app, mNewL_app, mLst_app, mCall_app, mNoPart_app, partR_int, mPart_app, mSl_app, chainR_bl, mChain_app, kitR_some, tyR_some, mIsi_app, mMeth_app, mNext_app, seqR_nx, seqR_rt, seqR_bk, seqR_ct, mSeq_app, mBreak_app, mCont_app, mDrop_app, mRet_app, mIfS_app, mSet_app, asgR_some, mAsg_app, parR_two, mPar_app, par3R_three, mPar3_app, mSub_app, augR'_some, mAug_app, mFor_app, bd_nm, bd_tp, bds_nil, bdsR_some, bds_cons, oAdd_ii, oAdd_ss, oSub_ii, oMul_ii, oDiv_ii, oMod_ii, oPow_ii, cpo_eq, cpo_ne, cpo_lt, cpo_le, cpo_gt, cpo_ge, cpo_in, cpo_notin, cpo_isN, cpo_notN, oEq_ii, oEq_ss, oNe_ii, oNe_ss, oLt_ii, oLe_ii, oGt_ii, oGe_ii, oIsN_non, oIsN_ref, oIsN_tup, oNotN_non, oNotN_ref, oNotN_tup, atR_some, oIx_tup, ixR_some, oIx_ref, sxR_some, oIx_str, newR_some, oSl_str, oSl_ref, lenR_some, cLen_one, lenB_str, lenB_ref, lenB_tup, cInt_i, cInt_b, cMin2_ii, cMax2_ii, cList_ref, stR_some, stL_ref, appR_some, fAppend_ref, oAug_ii, oAug_ss, uNeg_i, isTy_str, tyName_int, tyName_str, tyName_bl, tyName_non, tyName_tup, kit_ii, kit_ib, kit_bb, kit_bi, kit_ss, kit_is, kit_ll, kit_tt, kit_tl, kit_lt, mIter_app, iterR_str, iterR_tup, rngR_one, mRng1_app, rng2R_two, mRng2_app, mEnum_app, mZip_app, Bd_some, Nx_ok, Fx_nx, Fx_rt, mYes_app, wipeM, List.set_cons_succ, List.set_cons_zero, List.getElem?_cons_succ, List.getElem?_cons_zero, if_true, Bool.false_eq_true, if_false, List.length_cons, List.length_nil, Nat.zero_add, Nat.reduceAdd, sz0, sz1, sz2, sz3, beq_self_eq_true, Bool.not_true, Bool.not_false, List.cons_append, List.nil_append, join_nl (mut_lst c1) (by omega)]
    refine ⟨ls, h', rfl, ⟨ne, c3, ?_⟩, c5⟩
    have s1 := sum_le ls 40 c4
    have s2 := jn_len ne
    omega
end W

set_option Elab.async false
set_option linter.all false
set_option maxRecDepth 100000
set_option maxHeartbeats 4000000
namespace W
open PySem L2 Mr
theorem okl_of {l : List Nat} (h : (l.all fun c => decide (c = 32) || (decide (97 ≤ c) && decide (c ≤ 122))) = true) : okl l := fun c hc => by
  have := List.all_eq_true.mp h c hc
  simp at this
  rcases this with e | ⟨e1, e2⟩
  · exact .inl e
  · exact .inr ⟨e1, e2⟩
/-- a known call of pieces: what is told is not unlike -/
theorem known_pieces (l : List Nat) (w : Int) (ps : List (List Nat)) (h : AH) (hl : l.length ≤ 100) (ho : okl l) (hw : 1 ≤ w) (e : cutF w l = ps) :
    ∃ d h1, m_pieces [sV l, .int w] h = .ok (.ref d) h1 ∧ Xt h h1 ∧ oNe (.ref d) (.ref h1.length) (h1 ++ [.lst (ps.map sV)]) = .ok (.bl false) (h1 ++ [.lst (ps.map sV)]) := by
  obtain ⟨d, h1, e1, x1, y1, m1⟩ := (spec_pieces l w h (by omega) ho hw).ex
  refine ⟨d, h1, e1, x1, ?_⟩
  rw [e] at m1
  refine oNe_refs ((Xt.new _ _).lst (mut_lst m1)) (lst_new _ _) ?_
  rw [← e]
  exact plain_cut ho
theorem oEq_tup2 {i j : Int} (h : AH) : oEq (.tup [.int i, .int j]) (.tup [.int i, .int j]) h = .ok (.bl true) h := by
  unfold oEq
  rw [eqB_tups (fun v hv => ?_)]
  rcases List.mem_cons.mp hv with e | hv
  · rw [e]; exact plain_int 28 _
  rcases List.mem_cons.mp hv with e | hv
  · rw [e]; exact plain_int 28 _
  · cases hv
theorem c1s : (("ab   c" : String) : Str) = sS [97, 98, 32, 32, 32, 99] := by decide +kernel
theorem c2s : (("   a" : String) : Str) = sS [32, 32, 32, 97] := by decide +kernel
theorem c3s : (("ab  cd " : String) : Str) = sS [97, 98, 32, 32, 99, 100, 32] := by decide +kernel
theorem d1s : (("ab  " : String) : Str) = sS [97, 98, 32, 32] := by decide +kernel
theorem d2s : ((" c" : String) : Str) = sS [32, 99] := by decide +kernel
theorem d3s : (("  " : String) : Str) = sS [32, 32] := by decide +kernel
theorem d4s : ((" a" : String) : Str) = sS [32, 97] := by decide +kernel
theorem d5s : (("ab " : String) : Str) = sS [97, 98, 32] := by decide +kernel
theorem d6s : (("cd " : String) : Str) = sS [99, 100, 32] := by decide +kernel
theorem t1s : (("" : String) : Str) = sS (jn [[]]) := by decide +kernel
theorem t2s : (("\n" : String) : Str) = sS (jn [[], []]) := by decide +kernel
theorem t3s : (("ab\nc" : String) : Str) = sS (jn [[97, 98], [99]]) := by decide +kernel
theorem t1o : TxOk [[]] := ⟨by decide, fun l hl => by rw [List.mem_singleton.mp hl]; exact okl_of rfl, by decide⟩
theorem t2o : TxOk [[], []] := ⟨by decide, fun l hl => by
  rcases List.mem_cons.mp hl with e | hl
  · rw [e]; exact okl_of rfl
  · rw [List.mem_singleton.mp hl]; exact okl_of rfl, by decide⟩
theorem t3o : TxOk [[97, 98], [99]] := ⟨by decide, fun l hl => by
  rcases List.mem_cons.mp hl with e | hl
  · rw [e]; exact okl_of rfl
  · rw [List.mem_singleton.mp hl]; exact okl_of rfl, by decide⟩
theorem known1 (h : AH) : RS (m_spot [.str "", .int 3, .int 0] h) h (.tup [.int 0, .int 0]) := by
  rw [t1s]
  exact spec_spot (w := 3) t1o (lay t1o 3) rfl (by decide) (by decide) h (P := 0) (k := 0) (by decide) (by decide) (by decide)
theorem known2 (h : AH) : RS (m_place_at [.str "\n", .int 1, .int 1, .int 5] h) h (.int 1) := by
  rw [t2s]
  exact spec_place_at (w := 1) t2o (lay t2o 1) rfl (by decide) h (k := 1) (by decide) 5 (by decide)
theorem known3 (h : AH) : RS (m_stepped [.str "ab\nc", .int 9, .int 2, .int 1, .int 2] h) h (.int 4) := by
  rw [t3s]
  exact spec_stepped (w := 9) t3o (lay t3o 9) rfl (by decide) (by decide) h (P := 2) (k := 0) (k' := 1) (by decide) (by decide) (by decide) 1 2 (by decide) (by decide) (by decide)
theorem law_end (sc v1 v2 v3 v4 : Option Val) (h : AH) : ∃ h', fin (mSeq (mIfS (mOr (mTest (mOp (Cp.o .ne) (mCall m_pieces (mCons (mC (.str "ab   c")) (mCons (mC (.int 4)) (mNil)))) (mLst (mCons (mC (.str "ab  ")) (mCons (mC (.str " c")) (mNil)))))) (mTest (mOp (Cp.o .ne) (mCall m_pieces (mCons (mC (.str "   a")) (mCons (mC (.int 2)) (mNil)))) (mLst (mCons (mC (.str "  ")) (mCons (mC (.str " a")) (mNil))))))) (mRet (mC (.bl false))) (mNext)) (mSeq (mIfS (mOr (mTest (mOp (Cp.o .ne) (mCall m_pieces (mCons (mC (.str "")) (mCons (mC (.int 1)) (mNil)))) (mLst (mCons (mC (.str "")) (mNil))))) (mOr (mTest (mOp (Cp.o .ne) (mCall m_pieces (mCons (mC (.str " ")) (mCons (mC (.int 1)) (mNil)))) (mLst (mCons (mC (.str " ")) (mNil))))) (mTest (mOp (Cp.o .ne) (mCall m_pieces (mCons (mC (.str "ab  cd ")) (mCons (mC (.int 3)) (mNil)))) (mLst (mCons (mC (.str "ab ")) (mCons (mC (.str " ")) (mCons (mC (.str "cd ")) (mNil))))))))) (mRet (mC (.bl false))) (mNext)) (mRet (mAndV (mOp (Cp.o .eq) (mCall m_spot (mCons (mC (.str "")) (mCons (mC (.int 3)) (mCons (mC (.int 0)) (mNil))))) (mTup (mCons (mC (.int 0)) (mCons (mC (.int 0)) (mNil))))) (mAndV (mOp (Cp.o .eq) (mCall m_place_at (mCons (mC (.str "\n")) (mCons (mC (.int 1)) (mCons (mC (.int 1)) (mCons (mC (.int 5)) (mNil)))))) (mC (.int 1))) (mOp (Cp.o .eq) (mCall m_stepped (mCons (mC (.str "ab\nc")) (mCons (mC (.int 9)) (mCons (mC (.int 2)) (mCons (mC (.int 1)) (mCons (mC (.int 2)) (mNil))))))) (mC (.int 4))))))) [sc, v1, v2, v3, v4] h) = .ok (.bl true) h' := by
  obtain ⟨d1, h1, e1, -, n1⟩ := known_pieces [97, 98, 32, 32, 32, 99] 4 [[97, 98, 32, 32], [32, 99]] h (by decide) (okl_of rfl) (by decide) (by decide)
  obtain ⟨d2, h2, e2, -, n2⟩ := known_pieces [32, 32, 32, 97] 2 [[32, 32], [32, 97]] (h1 ++ [.lst ([[97, 98, 32, 32], [32, 99]].map sV)]) (by decide) (okl_of rfl) (by decide) (by decide)
  obtain ⟨d3, h3, e3, -, n3⟩ := known_pieces [] 1 [[]] (h2 ++ [.lst ([[32, 32], [32, 97]].map sV)]) (by decide) (okl_of rfl) (by decide) (by decide)
  obtain ⟨d4, h4, e4, -, n4⟩ := known_pieces [32] 1 [[32]] (h3 ++ [.lst ([[]].map sV)]) (by decide) (okl_of rfl) (by decide) (by decide)
  obtain ⟨d5, h5, e5, -, n5⟩ := known_pieces [97, 98, 32, 32, 99, 100, 32] 3 [[97, 98, 32], [32], [99, 100, 32]] (h4 ++ [.lst ([[32]].map sV)]) (by decide) (okl_of rfl) (by decide) (by decide)
  obtain ⟨h6, e6, -⟩ := (known1 (h5 ++ [.lst ([[97, 98, 32], [32], [99, 100, 32]].map sV)])).ex
  obtain ⟨h7, e7, -⟩ := (known2 h6).ex
  obtain ⟨h8, e8, -⟩ := (known3 h7).ex
  simp -implicitDefEqProofs only [List.map_cons, List.map_nil] at e1 e2 e3 e4 e5 e6 n1 n2 n3 n4 n5
  rw [s_nil] at e6
  simp -implicitDefEqProofs only [c1s, c2s, c3s, d1s, d2s, d3s, d4s, d5s, d6s, s_nil, s_blank]
  simp -implicitDefEqProofs only [bd_ok, fin_rt, fin_nx, ret_app, mC_app, varR_some, mVar_app, mOp_app, mUn_app, truR_bl, mTest_app, mAnd_app, mOr_app, mNot_app, andR_bl, orR_bl, notR_bl, mAndV_app, mOrV_app, mNotV_app, mIf_app, mNil_app, mCons_app, mTup_app, mNewL_app, mLst_app, mCall_app, mNoPart_app, partR_int, mPart_app, mSl_app, chainR_bl, mChain_app, kitR_some, tyR_some, mIsi_app, mMeth_app, mNext_app, seqR_nx, seqR_rt, seqR_bk, seqR_ct, mSeq_app, mBreak_app, mCont_app, mDrop_app, mRet_app, mIfS_app, mSet_app, asgR_some, mAsg_app, parR_two, mPar_app, par3R_three, mPar3_app, mSub_app, augR'_some, mAug_app, mFor_app, bd_nm, bd_tp, bds_nil, bdsR_some, bds_cons, oAdd_ii, oAdd_ss, oSub_ii, oMul_ii, oDiv_ii, oMod_ii, oPow_ii, cpo_eq, cpo_ne, cpo_lt, cpo_le, cpo_gt, cpo_ge, cpo_in, cpo_notin, cpo_isN, cpo_notN, oEq_ii, oEq_ss, oNe_ii, oNe_ss, oLt_ii, oLe_ii, oGt_ii, oGe_ii, oIsN_non, oIsN_ref, oIsN_tup, oNotN_non, oNotN_ref, oNotN_tup, atR_some, oIx_tup, ixR_some, oIx_ref, sxR_some, oIx_str, newR_some, oSl_str, oSl_ref, lenR_some, cLen_one, lenB_str, lenB_ref, lenB_tup, cInt_i, cInt_b, cMin2_ii, cMax2_ii, cList_ref, stR_some, stL_ref, appR_some, fAppend_ref, oAug_ii, oAug_ss, uNeg_i, isTy_str, tyName_int, tyName_str, tyName_bl, tyName_non, tyName_tup, kit_ii, kit_ib, kit_bb, kit_bi, kit_ss, kit_is, kit_ll, kit_tt, kit_tl, kit_lt, mIter_app, iterR_str, iterR_tup, rngR_one, mRng1_app, rng2R_two, mRng2_app, mEnum_app, mZip_app, Bd_some, Nx_ok, Fx_nx, Fx_rt, mYes_app, wipeM, List.set_cons_succ, List.set_cons_zero, List.getElem?_cons_succ, List.getElem?_cons_zero, if_true, Bool.false_eq_true, if_false, List.length_cons, List.length_nil, Nat.zero_add, Nat.reduceAdd, sz0, sz1, sz2, sz3, beq_self_eq_true, Bool.not_true, Bool.not_false, List.cons_append, List.nil_append, e1, e2, e3, e4, e5, e6, e7, e8, n1, n2, n3, n4, n5, oEq_tup2, decide_true]
  exact ⟨h8, rfl⟩
theorem law_turn (ls : List (List Nat)) (t : TxOk ls) (sc : Val) (w : Int) (hw : 1 ≤ w) (v4 : Option Val) (h : AH) {pn : Nat} (hp : ∃ x : Int, mutAt h pn = some [.int x]) :
    Nx ((mSeq (mSet 4 (mCall m__law_screen (mCons (mVar 2) (mCons (mVar 3) (mNil))))) (mSeq (mIfS (mOr (mNot (mTest (mCall m__law_cut_right (mCons (mVar 2) (mCons (mVar 3) (mCons (mVar 4) (mNil))))))) (mNot (mTest (mCall m__law_places_right (mCons (mVar 2) (mCons (mVar 3) (mCons (mVar 4) (mNil)))))))) (mRet (mC (.bl false))) (mNext)) (mIfS (mNot (mTest (mCall m__law_steps_right (mCons (mVar 1) (mCons (mVar 2) (mCons (mVar 3) (mCons (mVar 4) (mNil)))))))) (mRet (mC (.bl false))) (mNext)))) [some sc, some (.ref pn), some (sV (jn ls)), some (.int w), v4] h)
      fun sl h' => ∃ v4, sl = [some sc, some (.ref pn), some (sV (jn ls)), some (.int w), v4] ∧ Pk pn h h' := by
  obtain ⟨x, hx⟩ := hp
  have pl := mut_lt hx
  obtain ⟨d, h1, e1, x1, y1, m1⟩ := (spec_lscreen t w h).ex
  have L := lay t w
  have nl : (rowsA w 0 ls).length ≤ 30000 := by have := rows_take_len t w ls.length; rwa [List.take_length] at this
  obtain ⟨h2, e2, x2⟩ := (spec_cut_right t hw h1 (mut_lst m1)).ex
  obtain ⟨h3, e3, x3⟩ := (spec_places_right t L rfl nl hw h2 (x2.lst (mut_lst m1))).ex
  have P3 : Pk pn h h3 := (((Pk.refl hx).xt x1).xt x2).xt x3
  obtain ⟨h4, e4, p4⟩ := spec_steps_right t L rfl nl hw h3 (x3.lst (x2.lst (mut_lst m1))) (show d ≠ pn by omega) P3.pu
  simp -implicitDefEqProofs only [bd_ok, fin_rt, fin_nx, ret_app, mC_app, varR_some, mVar_app, mOp_app, mUn_app, truR_bl, mTest_app, mAnd_app, mOr_app, mNot_app, andR_bl, orR_bl, notR_bl, mAndV_app, mOrV_app, mNotV_app, mIf_app, mNil_app, mCons_app, mTup_app, mNewL_app, mLst_app, mCall_app, mNoPart_app, partR_int, mPart_app, mSl_app, chainR_bl, mChain_app, kitR_some, tyR_some, mIsi_app, mMeth_app, mNext_app, seqR_nx, seqR_rt, seqR_bk, seqR_ct, mSeq_app, mBreak_app, mCont_app, mDrop_app, mRet_app, mIfS_app, mSet_app, asgR_some, mAsg_app, parR_two, mPar_app, par3R_three, mPar3_app, mSub_app, augR'_some, mAug_app, mFor_app, bd_nm, bd_tp, bds_nil, bdsR_some, bds_cons, oAdd_ii, oAdd_ss, oSub_ii, oMul_ii, oDiv_ii, oMod_ii, oPow_ii, cpo_eq, cpo_ne, cpo_lt, cpo_le, cpo_gt, cpo_ge, cpo_in, cpo_notin, cpo_isN, cpo_notN, oEq_ii, oEq_ss, oNe_ii, oNe_ss, oLt_ii, oLe_ii, oGt_ii, oGe_ii, oIsN_non, oIsN_ref, oIsN_tup, oNotN_non, oNotN_ref, oNotN_tup, atR_some, oIx_tup, ixR_some, oIx_ref, sxR_some, oIx_str, newR_some, oSl_str, oSl_ref, lenR_some, cLen_one, lenB_str, lenB_ref, lenB_tup, cInt_i, cInt_b, cMin2_ii, cMax2_ii, cList_ref, stR_some, stL_ref, appR_some, fAppend_ref, oAug_ii, oAug_ss, uNeg_i, isTy_str, tyName_int, tyName_str, tyName_bl, tyName_non, tyName_tup, kit_ii, kit_ib, kit_bb, kit_bi, kit_ss, kit_is, kit_ll, kit_tt, kit_tl, kit_lt, mIter_app, iterR_str, iterR_tup, rngR_one, mRng1_app, rng2R_two, mRng2_app, mEnum_app, mZip_app, Bd_some, Nx_ok, Fx_nx, Fx_rt, mYes_app, wipeM, List.set_cons_succ, List.set_cons_zero, List.getElem?_cons_succ, List.getElem?_cons_zero, if_true, Bool.false_eq_true, if_false, List.length_cons, List.length_nil, Nat.zero_add, Nat.reduceAdd, sz0, sz1, sz2, sz3, beq_self_eq_true, Bool.not_true, Bool.not_false, List.cons_append, List.nil_append, e1, e2, e3, e4]
  exact ⟨_, rfl, P3.trans p4⟩
theorem law_true (ns : List Int) : ∃ h', m_law [.ref 0] [.frz (ns.map Val.int)] = .ok (.bl true) h' := by
  rw [a_law]
  unfold b_law
  obtain ⟨x, e1⟩ := spec_pump ns 0 (by omega) [.frz (ns.map Val.int)] 0 rfl
  have e1' : m__law_pump [.ref 0, .int 0] [.frz (ns.map Val.int)] = .ok (.ref 1) ([.frz (ns.map Val.int)] ++ [.lst [.int x]]) := e1
  have hp : ∃ y : Int, mutAt ([.frz (ns.map Val.int)] ++ [.lst [.int x]]) 1 = some [.int y] := ⟨x, rfl⟩
  generalize ([.frz (ns.map Val.int)] ++ [.lst [.int x]] : AH) = h0 at e1' hp
  rw [mSeq_app, mSet_app]
  simp -implicitDefEqProofs only [mCall_app, mCons_app, mVar_app, mC_app, List.getElem?_cons_succ, List.getElem?_cons_zero, varR_some, bd_ok, mNil_app, e1', seqR_nx, List.set_cons_succ, List.set_cons_zero]
  obtain ⟨pa, pb⟩ := pu_new (o := .lst [Val.int 14, .int 14, .int 40]) hp
  obtain ⟨n3, g1, u1, b1, p1⟩ := spec_cup (m := 3) pa.pu (by omega) (by omega)
  have u1' : m__law_cup [.ref 1, .int 3] (h0 ++ [.lst [Val.int 14, .int 14, .int 40]]) = .ok (.int (n3 : Int)) g1 := u1
  have la : lstAt g1 h0.length = some [Val.int 14, .int 14, .int 40] := p1.lst (by omega) (lst_new _ _)
  obtain ⟨va, ea, ma⟩ := at_mem (xs := [Val.int 14, .int 14, .int 40]) (c := n3) b1
  obtain ⟨mm, hmm, rfl⟩ : ∃ mm : Nat, mm ≤ 40 ∧ va = .int (mm : Int) := by
    simp only [List.mem_cons, List.not_mem_nil, or_false] at ma
    rcases ma with e | e | e
    · exact ⟨14, by omega, e⟩
    · exact ⟨14, by omega, e⟩
    · exact ⟨40, by omega, e⟩
  obtain ⟨ls, g2, u2, t, p2⟩ := spec_text g1 p1.pu mm hmm
  rw [mSeq_app, mSet_app]
  simp -implicitDefEqProofs only [mCall_app, mCons_app, mVar_app, mC_app, mOp_app, mLst_app, List.getElem?_cons_succ, List.getElem?_cons_zero, varR_some, bd_ok, mNil_app, List.length_cons, List.length_nil, Nat.zero_add, Nat.reduceAdd, sz3, if_true, u1', oIx_ref, la, ixR_some, ea, atR_some, u2, seqR_nx, List.set_cons_succ, List.set_cons_zero]
  obtain ⟨n4, g3, u3, b3, p3⟩ := spec_cup (m := 3) p2.pu (by omega) (by omega)
  obtain ⟨n5, g4, u4, b4, p4⟩ := spec_cup (m := 9) p3.pu (by omega) (by omega)
  have u3' : m__law_cup [.ref 1, .int 3] g2 = .ok (.int (n4 : Int)) g3 := u3
  have u4' : m__law_cup [.ref 1, .int 9] g3 = .ok (.int (n5 : Int)) g4 := u4
  obtain ⟨pc, pd⟩ := pu_new (o := .lst [Val.int (1 + (n4 : Int)), .int (2 + (n5 : Int)), .int (10 ^ (39 : Int).toNat)]) p4.pu
  rw [mSeq_app, mFor_app, mIter_app]
  simp -implicitDefEqProofs only [mCall_app, mCons_app, mVar_app, mC_app, mOp_app, mLst_app, List.getElem?_cons_succ, List.getElem?_cons_zero, varR_some, bd_ok, mNil_app, List.length_cons, List.length_nil, Nat.zero_add, Nat.reduceAdd, sz3, if_true, u3', oAdd_ii, u4', oPow_ii, p39]
  rw [iterR_ref (lst_new _ _), bd_ok]
  refine for_bd [.int (1 + (n4 : Int)), .int (2 + (n5 : Int)), .int (10 ^ (39 : Int).toNat)] (fun j sl h' => ∃ v3 v4, sl = [some (.ref 0), some (.ref 1), some (sV (jn ls)), v3, v4] ∧ Pk 1 (g4 ++ [.lst [Val.int (1 + (n4 : Int)), .int (2 + (n5 : Int)), .int (10 ^ (39 : Int).toNat)]]) h')
    (fun r => ∃ h', fin r = .ok (.bl true) h') ⟨none, none, rfl, Pk.refl pc.pu.choose_spec⟩ (show (3 : Nat) < 1000000 by decide) (fun j sl h' _ ⟨_, _, _, z⟩ => nList_at j (z.lst (by omega) (lst_new _ _))) ?_ ?_
  · rintro j x sl h' hx ⟨v3, v4, rfl, c1⟩
    obtain ⟨w, hw, rfl⟩ : ∃ w : Int, 1 ≤ w ∧ x = .int w := by
      have := List.mem_of_getElem? hx
      simp only [List.mem_cons, List.not_mem_nil, or_false] at this
      rcases this with e | e | e
      · exact ⟨_, by omega, e⟩
      · exact ⟨_, by omega, e⟩
      · exact ⟨_, by decide +kernel, e⟩
    rw [bd_nm, Bd_some]
    simp -implicitDefEqProofs only [List.set_cons_succ, List.set_cons_zero]
    refine (law_turn ls t (.ref 0) w hw v4 h' c1.pu).mono ?_
    rintro s h2 ⟨v4', rfl, p⟩
    exact ⟨_, _, rfl, c1.trans p⟩
  · rintro sl h' ⟨v3, v4, rfl, c1⟩
    rw [seqR_nx]
    exact law_end _ _ _ _ _ h'
end W

theorem PySem.Challenge.cw_everrow_k46_pieces_and_places_holds : PySem.Challenge.rw_everrow_k46_pieces_and_places.Holds :=
  W.holds_of fun ns _ => W.law_true ns
