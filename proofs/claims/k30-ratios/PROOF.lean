import PyProof.Rows.All
import Wide.All
import OpenK.AllK
import Wide.FinOn
import HandS.ForMost
import HandS.ForExc
import HandS.CallSlots
import HandS.Ends
import HandS.Wide
import HandS.TupAny
import HandS.Zip
import HandS.More
import HandS.DictComp
import HandS.Small
import HandS.Strs
import KE.GoesEnum
import HandS.Deep
import HandS.Star
import PyProof.FitsInt
import PyProof.StrLawsRepr
import PyProof.ReprLoop
import PySem.Challenge.RW_tellapart_k30_ratios_and_weights
set_option Elab.async false
set_option linter.all false
set_option maxRecDepth 100000
set_option maxHeartbeats 4000000
/-! M1: a small pure calculus over the hand layer: values, relation, expressions. -/
namespace Mini
open PySem L2

/-- a value of the calculus: tuples and frozen lists are data, changing objects are places -/
inductive PV where
  | non | bl (b : Bool) | int (i : Int) | str (x : Str) | op (v : V)
  | ref (n : Nat)
  | tup (xs : List PV)
  | frl (xs : List PV)
  | scr (xs : List PV)
  | ctp (xs : List PV)
  deriving Inhabited
/-- an object that may change: a list, a dict with keys that are ints or texts, one with tuples of such -/
inductive MO where
  | lst (xs : List PV)
  | dK (kvs : List (Key × PV))
  | dT (kvs : List (List Key × PV))
  deriving Inhabited
abbrev MH := List MO
inductive R (α : Type) where
  | ok (a : α) (μ : MH)
  | err (c : Str) (p : List PV) (μ : MH)
  | bad
abbrev MS := List (Option PV)
/-- the written part, and addresses that are being written now -/
structure Gx where
  fr : PySem.W.Frag
  av : List Addr

section
variable (K : Gx)
def SqLf (H : Hp) (β : List Addr) (a : Addr) (vs : List V) : Prop :=
  (Rd H a (.lst vs) ∧ a ∉ β ∧ a ∉ K.av) ∨ ∃ (o : Obj) (its : Array Value) (n : Nat), K.fr.lookup a = some o ∧ o.cls = .type "list" ∧ o.dict = none ∧ o.data = .seq its n ∧ its.size ≤ sizeLine ∧ Vals vs its.toList
def SqTf (H : Hp) (β : List Addr) (a : Addr) (vs : List V) : Prop :=
  H a = some (.tup vs) ∧ a ∉ β ∧ a ∉ K.av
/-- a tuple of the module's own -/
def CT (H : Hp) (β : List Addr) (a : Addr) (vs : List V) : Prop := ((∃ o : Obj, H a = some (.frz o (.tup vs)) ∧ o.cls = .type "tuple" ∧ o.dict = none) ∧ a ∉ β ∧ a ∉ K.av) ∨
  ∃ (o : Obj) (its : Array Value) (n : Nat), K.fr.lookup a = some o ∧ o.cls = .type "tuple" ∧ o.dict = none ∧ o.data = .seq its n ∧ its.size ≤ sizeLine ∧ Vals vs its.toList
variable {K}
theorem SqLf.sq {H : Hp} {β : List Addr} {a : Addr} {vs : List V} (h : SqLf K H β a vs) : SqL K.fr H a vs := by
  rcases h with ⟨h, _⟩ | h
  · exact .inl h
  · exact .inr h
theorem SqTf.sq {H : Hp} {β : List Addr} {a : Addr} {vs : List V} (h : SqTf K H β a vs) : SqT K.fr H a vs := .inl (.inl h.1)
theorem CT.sq {H : Hp} {β : List Addr} {a : Addr} {vs : List V} (h : CT K H β a vs) : SqT K.fr H a vs := by
  rcases h with ⟨⟨o, h, _⟩, _⟩ | ⟨o, its, n, h1, h2, h3, h4, h5, h6⟩
  · exact .inl (.inr ⟨o, h⟩)
  · exact .inr ⟨o, its, n, h1, h2, h4, h5, h6⟩
variable (K)
mutual
def PRel (H : Hp) (β : List Addr) : PV → V → Prop
  | .non, x => x = .non
  | .bl b, x => x = .bl b
  | .int i, x => x = .int i
  | .str s, x => x = .str s
  | .op v, x => x = v
  | .ref n, x => ∃ a, x = .ref a ∧ β[n]? = some a
  | .tup xs, x => ∃ a vs, x = .ref a ∧ SqTf K H β a vs ∧ PRels H β xs vs
  | .frl xs, x => ∃ a vs, x = .ref a ∧ (H a = some (.lst vs) ∧ a ∉ β ∧ a ∉ K.av) ∧ PRels H β xs vs
  | .scr xs, x => ∃ a vs, x = .ref a ∧ SqLf K H β a vs ∧ PRels H β xs vs
  | .ctp xs, x => ∃ a vs, x = .ref a ∧ CT K H β a vs ∧ PRels H β xs vs
def PRels (H : Hp) (β : List Addr) : List PV → List V → Prop
  | [], ys => ys = []
  | x :: xs, ys => ∃ y ys', ys = y :: ys' ∧ PRel H β x y ∧ PRels H β xs ys'
end
/-- the entries of a dict -/
def DRel {κ : Type} (H : Hp) (β : List Addr) : List (κ × PV) → List (κ × V) → Prop := fun kvs kvs' => kvs.map (·.1) = kvs'.map (·.1) ∧ PRels K H β (kvs.map (·.2)) (kvs'.map (·.2))
def ORel (H : Hp) (β : List Addr) (a : Addr) : MO → Prop
  | .lst xs => ∃ vs, H a = some (.lst vs) ∧ PRels K H β xs vs
  | .dK kvs => ∃ kvs', H a = some (.dK kvs') ∧ DRel K H β kvs kvs'
  | .dT kvs => ∃ kvs', H a = some (.dT kvs') ∧ DRel K H β kvs kvs'
structure Rl (H : Hp) (β : List Addr) (μ : MH) : Prop where
  len : β.length = μ.length
  nd : β.Nodup
  obj : ∀ (n : Nat) (a : Addr) (o : MO), β[n]? = some a → μ[n]? = some o → ORel K H β a o
  avt : ∀ a ∈ K.av, H a ≠ none
structure Ext (H : Hp) (β : List Addr) (H' : Hp) (β' : List Addr) : Prop where
  pre : ∃ new, β' = β ++ new ∧ ∀ a ∈ new, H a = none
  stay : ∀ a o, H a = some o → a ∉ β → H' a = some o
  live : ∀ a, H' a = none → H a = none
/-- .. where the addresses av may have been written -/
structure ExtW (av : List Addr) (H : Hp) (β : List Addr) (H' : Hp) (β' : List Addr) : Prop where
  pre : ∃ new, β' = β ++ new ∧ ∀ a ∈ new, H a = none
  stay : ∀ a o, H a = some o → a ∉ β → a ∉ av → H' a = some o
  live : ∀ a, H' a = none → H a = none
/-- the names' values -/
structure SRel (H : Hp) (β : List Addr) (s : MS) (σ : St) : Prop where
  len : s.length = σ.length
  at_ : ∀ (i : Nat) (v : PV), s[i]? = some (some v) → ∃ x, σ[i]? = some (some x) ∧ PRel K H β v x
end

section
variable {K : Gx} {H H1 H2 H' : Hp} {β β1 β2 β' : List Addr} {μ μ' : MH}
theorem Ext.refl : Ext H β H β := ⟨⟨[], by simp, by simp⟩, fun _ _ h _ => h, fun _ h => h⟩
theorem Ext.trans (a : Ext H β H1 β1) (b : Ext H1 β1 H2 β2) : Ext H β H2 β2 := by
  obtain ⟨n1, e1, f1⟩ := a.pre
  obtain ⟨n2, e2, f2⟩ := b.pre
  refine ⟨⟨n1 ++ n2, by rw [e2, e1, List.append_assoc], fun x hx => ?_⟩, fun x o h hn => ?_, fun x h => a.live x (b.live x h)⟩
  · rcases List.mem_append.mp hx with h | h
    · exact f1 x h
    · exact a.live x (f2 x h)
  · refine b.stay x o (a.stay x o h hn) ?_
    rw [e1]
    intro hm
    rcases List.mem_append.mp hm with q | q
    · exact hn q
    · rw [f1 x q] at h; cases h
theorem Ext.toW {av : List Addr} (e : Ext H β H' β') : ExtW av H β H' β' := ⟨e.pre, fun a o h1 h2 _ => e.stay a o h1 h2, e.live⟩
theorem ExtW.refl {av : List Addr} : ExtW av H β H β := Ext.refl.toW
theorem ExtW.mem {av : List Addr} (e : ExtW av H β H' β') {a : Addr} (h : H a ≠ none) (hn : a ∉ β) : a ∉ β' := by
  obtain ⟨n, e1, f⟩ := e.pre
  rw [e1]
  intro hm
  rcases List.mem_append.mp hm with q | q
  · exact hn q
  · exact h (f a q)
theorem ExtW.trans {av : List Addr} (a : ExtW av H β H1 β1) (b : ExtW av H1 β1 H2 β2) : ExtW av H β H2 β2 := by
  obtain ⟨n1, e1, f1⟩ := a.pre
  obtain ⟨n2, e2, f2⟩ := b.pre
  refine ⟨⟨n1 ++ n2, by rw [e2, e1, List.append_assoc], fun x hx => ?_⟩, fun x o h hn hv => ?_, fun x h => a.live x (b.live x h)⟩
  · rcases List.mem_append.mp hx with h | h
    · exact f1 x h
    · exact a.live x (f2 x h)
  · exact b.stay x o (a.stay x o h hn hv) (a.mem (by rw [h]; exact fun q => nomatch q) hn) hv
theorem ExtW.ix {av : List Addr} (e : ExtW av H β H' β') {n : Nat} {a : Addr} (h : β[n]? = some a) : β'[n]? = some a := by
  obtain ⟨nw, e1, _⟩ := e.pre
  obtain ⟨hl, _⟩ := List.getElem?_eq_some_iff.mp h
  rw [e1, List.getElem?_append_left hl]
  exact h
theorem Ext.mem (e : Ext H β H' β') {a : Addr} (h : H a ≠ none) (hn : a ∉ β) : a ∉ β' := by
  obtain ⟨n, e1, f⟩ := e.pre
  rw [e1]
  intro hm
  rcases List.mem_append.mp hm with q | q
  · exact hn q
  · exact h (f a q)
theorem Ext.ix (e : Ext H β H' β') {n : Nat} {a : Addr} (h : β[n]? = some a) : β'[n]? = some a := by
  obtain ⟨nw, e1, _⟩ := e.pre
  obtain ⟨hl, _⟩ := List.getElem?_eq_some_iff.mp h
  rw [e1, List.getElem?_append_left hl]
  exact h
theorem Rd.some {a : Addr} {u : HO} (h : Rd H a u) : H a ≠ none := by
  rcases h with h | ⟨o, h⟩ <;> rw [h] <;> exact fun q => nomatch q
theorem Rd.extW {av : List Addr} (e : ExtW av H β H' β') {a : Addr} {u : HO} (h : Rd H a u) (hn : a ∉ β) (hv : a ∉ av) : Rd H' a u := by
  rcases h with h | ⟨o, h⟩
  · exact .inl (e.stay _ _ h hn hv)
  · exact .inr ⟨o, e.stay _ _ h hn hv⟩
theorem SqLf.extW (e : ExtW K.av H β H' β') {a : Addr} {vs : List V} (h : SqLf K H β a vs) : SqLf K H' β' a vs := by
  rcases h with ⟨h, n, na⟩ | h
  · exact .inl ⟨Rd.extW e h n na, e.mem (Rd.some h) n, na⟩
  · exact .inr h
theorem CT.extW (e : ExtW K.av H β H' β') {a : Addr} {vs : List V} (h : CT K H β a vs) : CT K H' β' a vs := by
  rcases h with ⟨⟨o, h, hc, hd⟩, n, na⟩ | h
  · exact .inl ⟨⟨o, e.stay _ _ h n na, hc, hd⟩, e.mem (by rw [h]; exact fun q => nomatch q) n, na⟩
  · exact .inr h
theorem SqTf.extW (e : ExtW K.av H β H' β') {a : Addr} {vs : List V} (h : SqTf K H β a vs) : SqTf K H' β' a vs := by
  obtain ⟨h, n, na⟩ := h
  exact ⟨e.stay _ _ h n na, e.mem (by rw [h]; exact fun q => nomatch q) n, na⟩
mutual
theorem PRel.extW (e : ExtW K.av H β H' β') : ∀ (v : PV) {x : V}, PRel K H β v x → PRel K H' β' v x
  | .non, x, h => by unfold PRel at h ⊢; exact h
  | .bl b, x, h => by unfold PRel at h ⊢; exact h
  | .int i, x, h => by unfold PRel at h ⊢; exact h
  | .str s, x, h => by unfold PRel at h ⊢; exact h
  | .op v, x, h => by unfold PRel at h ⊢; exact h
  | .ref n, x, h => by
    unfold PRel at h ⊢
    obtain ⟨a, e1, e2⟩ := h
    exact ⟨a, e1, e.ix e2⟩
  | .tup xs, x, h => by
    unfold PRel at h ⊢
    obtain ⟨a, vs, e1, h1, h2⟩ := h
    exact ⟨a, vs, e1, h1.extW e, PRels.extW e xs h2⟩
  | .frl xs, x, h => by
    unfold PRel at h ⊢
    obtain ⟨a, vs, e1, ⟨h1, hn, na⟩, h2⟩ := h
    exact ⟨a, vs, e1, ⟨e.stay _ _ h1 hn na, e.mem (by rw [h1]; exact fun q => nomatch q) hn, na⟩, PRels.extW e xs h2⟩
  | .scr xs, x, h => by
    unfold PRel at h ⊢
    obtain ⟨a, vs, e1, h1, h2⟩ := h
    exact ⟨a, vs, e1, h1.extW e, PRels.extW e xs h2⟩
  | .ctp xs, x, h => by
    unfold PRel at h ⊢
    obtain ⟨a, vs, e1, h1, h2⟩ := h
    exact ⟨a, vs, e1, h1.extW e, PRels.extW e xs h2⟩
theorem PRels.extW (e : ExtW K.av H β H' β') : ∀ (v : List PV) {x : List V}, PRels K H β v x → PRels K H' β' v x
  | [], x, h => by unfold PRels at h ⊢; exact h
  | v :: vs, x, h => by
    unfold PRels at h ⊢
    obtain ⟨y, ys, e1, h1, h2⟩ := h
    exact ⟨y, ys, e1, PRel.extW e v h1, PRels.extW e vs h2⟩
end
theorem SqLf.ext (e : Ext H β H' β') {a : Addr} {vs : List V} (h : SqLf K H β a vs) : SqLf K H' β' a vs := h.extW e.toW
theorem SqTf.ext (e : Ext H β H' β') {a : Addr} {vs : List V} (h : SqTf K H β a vs) : SqTf K H' β' a vs := h.extW e.toW
theorem PRel.ext (e : Ext H β H' β') (v : PV) {x : V} (h : PRel K H β v x) : PRel K H' β' v x := PRel.extW e.toW v h
theorem PRels.ext (e : Ext H β H' β') (v : List PV) {x : List V} (h : PRels K H β v x) : PRels K H' β' v x := PRels.extW e.toW v h
theorem SRel.ext (e : Ext H β H' β') {s : MS} {σ : St} (h : SRel K H β s σ) : SRel K H' β' s σ :=
  ⟨h.len, fun i v hv => let ⟨x, h1, h2⟩ := h.at_ i v hv; ⟨x, h1, PRel.ext e v h2⟩⟩

/-! ### lists of values -/
theorem PRels.nil_iff {ys : List V} : PRels K H β [] ys ↔ ys = [] := by unfold PRels; exact Iff.rfl
theorem PRels.nil : PRels K H β [] [] := by unfold PRels; rfl
theorem PRels.cons {x : PV} {xs : List PV} {y : V} {ys : List V} (h : PRel K H β x y) (t : PRels K H β xs ys) : PRels K H β (x :: xs) (y :: ys) := by
  unfold PRels; exact ⟨y, ys, rfl, h, t⟩
theorem PRels.inv {x : PV} {xs : List PV} {ys : List V} (h : PRels K H β (x :: xs) ys) : ∃ y ys', ys = y :: ys' ∧ PRel K H β x y ∧ PRels K H β xs ys' := by
  unfold PRels at h; exact h
theorem PRels.length : ∀ {xs : List PV} {ys : List V}, PRels K H β xs ys → xs.length = ys.length
  | [], ys, h => by rw [PRels.nil_iff] at h; subst h; rfl
  | x :: xs, ys, h => by
    obtain ⟨y, ys', rfl, _, t⟩ := h.inv
    simp [PRels.length t]
theorem PRels.get : ∀ {xs : List PV} {ys : List V} {i : Nat} {x : PV}, PRels K H β xs ys → xs[i]? = some x → ∃ y, ys[i]? = some y ∧ PRel K H β x y
  | [], ys, i, x, h, e => by simp at e
  | x :: xs, ys, 0, z, h, e => by
    obtain ⟨y, ys', rfl, r, t⟩ := h.inv
    simp at e; subst e
    exact ⟨y, rfl, r⟩
  | x :: xs, ys, i + 1, z, h, e => by
    obtain ⟨y, ys', rfl, r, t⟩ := h.inv
    obtain ⟨y', e', r'⟩ := PRels.get (i := i) t (by simpa using e)
    exact ⟨y', by simpa using e', r'⟩
theorem PRels.app : ∀ {xs xs' : List PV} {ys ys' : List V}, PRels K H β xs ys → PRels K H β xs' ys' → PRels K H β (xs ++ xs') (ys ++ ys')
  | [], xs', ys, ys', h, t => by rw [PRels.nil_iff] at h; subst h; exact t
  | x :: xs, xs', ys, ys', h, t => by
    obtain ⟨y, ys1, rfl, r, t1⟩ := h.inv
    exact .cons r (PRels.app t1 t)
theorem PRels.take : ∀ {xs : List PV} {ys : List V} (n : Nat), PRels K H β xs ys → PRels K H β (xs.take n) (ys.take n)
  | xs, ys, 0, h => by simpa using PRels.nil
  | [], ys, n + 1, h => by rw [PRels.nil_iff] at h; subst h; exact PRels.nil
  | x :: xs, ys, n + 1, h => by
    obtain ⟨y, ys1, rfl, r, t1⟩ := h.inv
    exact .cons r (PRels.take n t1)
theorem PRels.drop : ∀ {xs : List PV} {ys : List V} (n : Nat), PRels K H β xs ys → PRels K H β (xs.drop n) (ys.drop n)
  | xs, ys, 0, h => h
  | [], ys, n + 1, h => by rw [PRels.nil_iff] at h; subst h; exact PRels.nil
  | x :: xs, ys, n + 1, h => by
    obtain ⟨y, ys1, rfl, r, t1⟩ := h.inv
    exact PRels.drop n t1
theorem PRels.set : ∀ {xs : List PV} {ys : List V} {x : PV} {y : V} (n : Nat), PRels K H β xs ys → PRel K H β x y → PRels K H β (xs.set n x) (ys.set n y)
  | [], ys, x, y, n, h, r => by rw [PRels.nil_iff] at h; subst h; exact PRels.nil
  | z :: xs, ys, x, y, 0, h, r => by
    obtain ⟨y1, ys1, rfl, r1, t1⟩ := h.inv
    exact .cons r t1
  | z :: xs, ys, x, y, n + 1, h, r => by
    obtain ⟨y1, ys1, rfl, r1, t1⟩ := h.inv
    exact .cons r1 (PRels.set n t1 r)
theorem PRels.rev : ∀ {xs : List PV} {ys : List V}, PRels K H β xs ys → PRels K H β xs.reverse ys.reverse
  | [], ys, h => by rw [PRels.nil_iff] at h; subst h; exact PRels.nil
  | x :: xs, ys, h => by
    obtain ⟨y, ys1, rfl, r, t1⟩ := h.inv
    rw [List.reverse_cons, List.reverse_cons]
    exact (PRels.rev t1).app (.cons r .nil)

/-! ### what an outcome means -/
/-- the exceptions: how the payload stands -/
abbrev XRel := Str → List PV → Value → Option Addr → Hp → List Addr → Prop
def OutOk (K : Gx) (XR : XRel) (H : Hp) (β : List Addr) (E : XK) (Q : VK) : R PV → Prop
  | .ok v μ => ∀ x H' β', Ext H β H' β' → Rl K H' β' μ → PRel K H' β' v x → Q x H'
  | .err c p μ => ∀ cls d H' β', Ext H β H' β' → Rl K H' β' μ → XR c p cls d H' β' → E cls d H'
  | .bad => False
theorem OutOk.ext {XR : XRel} {E : XK} {Q : VK} {r : R PV} (e : Ext H β H1 β1) (h : OutOk K XR H β E Q r) : OutOk K XR H1 β1 E Q r := by
  cases r with
  | ok v μ => exact fun x H' β' e' => h x H' β' (e.trans e')
  | err c p μ => exact fun x d H' β' e' => h x d H' β' (e.trans e')
  | bad => exact h
/-- the reading of a computation -/
def tM (K : PySem.W.Frag) (XR : XRel) (E : L2.St → XK) (m : MS → MH → R PV) : TE := fun σ H Q => ∃ av β s μ, Rl ⟨K, av⟩ H β μ ∧ SRel ⟨K, av⟩ H β s σ ∧ OutOk ⟨K, av⟩ XR H β (E σ) Q (m s μ)
def OutsOk (K : Gx) (XR : XRel) (H : Hp) (β : List Addr) (E : XK) (Q : List V → Hp → Prop) : R (List PV) → Prop
  | .ok v μ => ∀ x H' β', Ext H β H' β' → Rl K H' β' μ → PRels K H' β' v x → Q x H'
  | .err c p μ => ∀ cls d H' β', Ext H β H' β' → Rl K H' β' μ → XR c p cls d H' β' → E cls d H'
  | .bad => False
def tMs (K : PySem.W.Frag) (XR : XRel) (E : L2.St → XK) (m : MS → MH → R (List PV)) : TA := fun σ H Q => ∃ av β s μ, Rl ⟨K, av⟩ H β μ ∧ SRel ⟨K, av⟩ H β s σ ∧ OutsOk ⟨K, av⟩ XR H β (E σ) Q (m s μ)
def BoutOk (K : Gx) (XR : XRel) (H : Hp) (β : List Addr) (E : XK) (Q : Bool → Hp → Prop) : R Bool → Prop
  | .ok v μ => ∀ H' β', Ext H β H' β' → Rl K H' β' μ → Q v H'
  | .err c p μ => ∀ cls d H' β', Ext H β H' β' → Rl K H' β' μ → XR c p cls d H' β' → E cls d H'
  | .bad => False
def tMb (K : PySem.W.Frag) (XR : XRel) (E : L2.St → XK) (m : MS → MH → R Bool) : TT := fun σ H Q => ∃ av β s μ, Rl ⟨K, av⟩ H β μ ∧ SRel ⟨K, av⟩ H β s σ ∧ BoutOk ⟨K, av⟩ XR H β (E σ) Q (m s μ)

/-! ### expressions -/
abbrev ME := MS → MH → R PV
abbrev MEs := MS → MH → R (List PV)
abbrev MB := MS → MH → R Bool
def R.bind {α β : Type} : R α → (α → MH → R β) → R β
  | .ok a μ, f => f a μ
  | .err c p μ, _ => .err c p μ
  | .bad, _ => .bad
@[simp] def mVar (i : Nat) : ME := fun s μ => match s[i]? with | some (some v) => .ok v μ | _ => .bad
@[simp] def mC (v : PV) : ME := fun _ μ => .ok v μ
@[simp] def mOp (f : PV → PV → MH → R PV) (a b : ME) : ME := fun s μ => (a s μ).bind fun x μ1 => (b s μ1).bind fun y μ2 => f x y μ2
@[simp] def mUn (f : PV → MH → R PV) (a : ME) : ME := fun s μ => (a s μ).bind fun x μ1 => f x μ1
@[simp] def msNil : MEs := fun _ μ => .ok [] μ
@[simp] def msCons (a : ME) (b : MEs) : MEs := fun s μ => (a s μ).bind fun x μ1 => (b s μ1).bind fun xs μ2 => .ok (x :: xs) μ2
@[simp] def mCallP (f : List PV → MH → R PV) (a : MEs) : ME := fun s μ => (a s μ).bind fun xs μ1 => f xs μ1
end

section
variable {X : Cx} {XR : XRel} {E : L2.St → XK}
abbrev PM (X : Cx) (XR : XRel) (E : L2.St → XK) (e : Expr) (m : ME) : Prop := PE X e (tM X.K XR E m)
abbrev PMs (X : Cx) (XR : XRel) (E : L2.St → XK) (e : List Expr) (m : MEs) : Prop := PA X e (tMs X.K XR E m)
abbrev PMb (X : Cx) (XR : XRel) (E : L2.St → XK) (e : Expr) (m : MB) : Prop := PT X e (tMb X.K XR E m)
theorem PE.imp {e : Expr} {t t' : TE} (h : PE X e t) (i : ∀ σ H Q, t' σ H Q → t σ H Q) : PE X e t' := ⟨fun pins s σ H Q I q => h.run pins s σ H Q I (i _ _ _ q)⟩
theorem PT.imp {e : Expr} {t t' : TT} (h : PT X e t) (i : ∀ σ H Q, t' σ H Q → t σ H Q) : PT X e t' := ⟨fun pins s σ H Q I q => h.run pins s σ H Q I (i _ _ _ q)⟩
theorem PA.imp {e : List Expr} {t t' : TA} (h : PA X e t) (i : ∀ σ H Q, t' σ H Q → t σ H Q) : PA X e t' := ⟨fun pos pins s σ H Q I q => h.run pos pins s σ H Q I (i _ _ _ q)⟩
theorem PS.imp {e : Stmt} {t t' : TS} (h : PS X e t) (i : ∀ D σ H, t' D σ H → t D σ H) : PS X e t' := ⟨fun pins s σ H D I q => h.run pins s σ H D I (i _ _ _ q)⟩
theorem PSs.imp {e : List Stmt} {t t' : TS} (h : PSs X e t) (i : ∀ D σ H, t' D σ H → t D σ H) : PSs X e t' := ⟨fun pins s σ H D I q => h.run pins s σ H D I (i _ _ _ q)⟩

theorem me_var {i : Nat} {x : Str} {pos : Pos} (hN : X.N[i]? = some x) (hv : Vis X.env.scope x) (hd : (x == ("__debug__" : Str)) = false := by decide) (hcd : (x == ("__classdict__" : Str)) = false := by decide) : PM X XR E (.Name x pos) (mVar i) := by
  refine PE.imp (pe_var hN hv hd hcd) fun σ H Q ⟨av, β, s, μ, rl, sr, h⟩ => ?_
  unfold mVar at h
  split at h
  · rename_i v e
    obtain ⟨x, e1, e2⟩ := sr.at_ i v e
    exact ⟨x, e1, h x H β .refl rl e2⟩
  · exact h.elim
theorem me_const {e : Expr} {v : PV} {x : V} (h : PE X e (tC x)) (r : ∀ G H β, PRel G H β v x) : PM X XR E e (mC v) :=
  PE.imp h fun σ H Q ⟨av, β, s, μ, rl, sr, h⟩ => h x H β .refl rl (r _ H β)
theorem PRel.int_ {K : Gx} {H : Hp} {β : List Addr} {i : Int} : PRel K H β (.int i) (.int i) := by unfold PRel; rfl
theorem PRel.bl_ {K : Gx} {H : Hp} {β : List Addr} {i : Bool} : PRel K H β (.bl i) (.bl i) := by unfold PRel; rfl
theorem PRel.str_ {K : Gx} {H : Hp} {β : List Addr} {i : Str} : PRel K H β (.str i) (.str i) := by unfold PRel; rfl
theorem PRel.non_ {K : Gx} {H : Hp} {β : List Addr} : PRel K H β .non .non := by unfold PRel; rfl
theorem PRel.op_ {K : Gx} {H : Hp} {β : List Addr} {v : V} : PRel K H β (.op v) v := by unfold PRel; rfl
theorem me_int {i j pos} : PM X XR E (.Constant (.int i) j pos) (mC (.int i)) := me_const pe_int fun _ _ _ => .int_
theorem me_bl {b j pos} : PM X XR E (.Constant (.bool b) j pos) (mC (.bl b)) := me_const pe_bl fun _ _ _ => .bl_
theorem me_non {j pos} : PM X XR E (.Constant .none j pos) (mC .non) := me_const pe_non fun _ _ _ => .non_
theorem me_str {x j pos} : PM X XR E (.Constant (.str x) j pos) (mC (.str x)) := me_const pe_str fun _ _ _ => .str_

/-- an operation by values -/
def OpM (K : PySem.W.Frag) (XR : XRel) (f : PV → PV → MH → R PV) (r : R2) : Prop :=
  ∀ (av : List Addr) (E : XK) (H : Hp) (β : List Addr) (μ : MH) (v w : PV) (x y : V) (Q : VK), Rl ⟨K, av⟩ H β μ → PRel ⟨K, av⟩ H β v x → PRel ⟨K, av⟩ H β w y → OutOk ⟨K, av⟩ XR H β E Q (f v w μ) → r x y H Q
def UnM (K : PySem.W.Frag) (XR : XRel) (f : PV → MH → R PV) (r : V → Hp → VK → Prop) : Prop :=
  ∀ (av : List Addr) (E : XK) (H : Hp) (β : List Addr) (μ : MH) (v : PV) (x : V) (Q : VK), Rl ⟨K, av⟩ H β μ → PRel ⟨K, av⟩ H β v x → OutOk ⟨K, av⟩ XR H β E Q (f v μ) → r x H Q
theorem tm_op {r : R2} {f : PV → PV → MH → R PV} {ma mb : ME} {K : PySem.W.Frag} (hf : OpM K XR f r) (σ : St) (H : Hp) (Q : VK) (h : tM K XR E (mOp f ma mb) σ H Q) : tOp r (tM K XR E ma) (tM K XR E mb) σ H Q := by
  obtain ⟨av, β, s, μ, rl, sr, h⟩ := h
  refine ⟨av, β, s, μ, rl, sr, ?_⟩
  unfold mOp at h
  cases e : ma s μ with
  | bad => rw [e] at h; exact h
  | err c p μ' => rw [e] at h; exact h
  | ok v μ1 =>
    rw [e] at h
    intro x H1 β1 ex1 rl1 p1
    have h1 := OutOk.ext ex1 h
    have sr1 := sr.ext ex1
    refine ⟨av, β1, s, μ1, rl1, sr1, ?_⟩
    simp only [R.bind] at h1
    cases e2 : mb s μ1 with
    | bad => rw [e2] at h1; exact h1
    | err c p μ' => rw [e2] at h1; exact h1
    | ok w μ2 =>
      rw [e2] at h1
      intro y H2 β2 ex2 rl2 p2
      exact hf _ _ H2 β2 μ2 v w x y Q rl2 (p1.ext ex2) p2 (OutOk.ext ex2 h1)
theorem me_op {op : Operator} {r : R2} {a b : Expr} {ma mb : ME} {f : PV → PV → MH → R PV} {pos : Pos} (ho : OpR X (binaryOp op) r) (hf : OpM X.K XR f r) (ha : PM X XR E a ma) (hb : PM X XR E b mb) : PM X XR E (.BinOp a op b pos) (mOp f ma mb) :=
  PE.imp (pe_op ho ha hb) (tm_op hf)
theorem me_cmp {op : CmpOp} {r : R2} {a b : Expr} {ma mb : ME} {f : PV → PV → MH → R PV} {pos : Pos} (ho : OpR X (compareOp op) r) (hf : OpM X.K XR f r) (ha : PM X XR E a ma) (hb : PM X XR E b mb) (hm : behindInMarks op b = false) : PM X XR E (.Compare a [op] [b] pos) (mOp f ma mb) :=
  PE.imp (pe_cmpR ho ha hb hm) (tm_op hf)
theorem tm_un {r : V → Hp → VK → Prop} {f : PV → MH → R PV} {ma : ME} {K : PySem.W.Frag} (hf : UnM K XR f r) (σ : St) (H : Hp) (Q : VK) (h : tM K XR E (mUn f ma) σ H Q) : tUn r (tM K XR E ma) σ H Q := by
  obtain ⟨av, β, s, μ, rl, sr, h⟩ := h
  refine ⟨av, β, s, μ, rl, sr, ?_⟩
  unfold mUn at h
  cases e : ma s μ with
  | bad => rw [e] at h; exact h
  | err c p μ' => rw [e] at h; exact h
  | ok v μ1 =>
    rw [e] at h
    intro x H1 β1 ex1 rl1 p1
    exact hf _ _ H1 β1 μ1 v x Q rl1 p1 (OutOk.ext ex1 h)
theorem me_un {op : UnaryOp} {r : V → Hp → VK → Prop} {a : Expr} {ma : ME} {f : PV → MH → R PV} {pos : Pos} (ho : UnR X (unaryOp op) r) (hf : UnM X.K XR f r) (ha : PM X XR E a ma) : PM X XR E (.UnaryOp op a pos) (mUn f ma) :=
  PE.imp (pe_un ho ha) (tm_un hf)
end
end Mini

/-! M2: argument lists, displays, tests, statements, loops. -/
namespace Mini
open PySem L2

section
variable {K : Gx} {H H1 H2 H' : Hp} {β β1 β2 β' : List Addr} {μ μ' : MH} {XR : XRel}
theorem OutsOk.ext {E : XK} {Q : List V → Hp → Prop} {r : R (List PV)} (e : Ext H β H1 β1) (h : OutsOk K XR H β E Q r) : OutsOk K XR H1 β1 E Q r := by
  cases r with
  | ok v μ => exact fun x H' β' e' => h x H' β' (e.trans e')
  | err c p μ => exact fun x d H' β' e' => h x d H' β' (e.trans e')
  | bad => exact h
theorem BoutOk.ext {E : XK} {Q : Bool → Hp → Prop} {r : R Bool} (e : Ext H β H1 β1) (h : BoutOk K XR H β E Q r) : BoutOk K XR H1 β1 E Q r := by
  cases r with
  | ok v μ => exact fun H' β' e' => h H' β' (e.trans e')
  | err c p μ => exact fun x d H' β' e' => h x d H' β' (e.trans e')
  | bad => exact h
/-- the places are tracked -/
theorem Rl.at_ (r : Rl K H β μ) {n : Nat} {o : MO} (h : μ[n]? = some o) : ∃ a, β[n]? = some a ∧ ORel K H β a o := by
  obtain ⟨hl, _⟩ := List.getElem?_eq_some_iff.mp h
  have hl' : n < β.length := by rw [r.len]; exact hl
  exact ⟨β[n], List.getElem?_eq_getElem hl', r.obj n _ o (List.getElem?_eq_getElem hl') h⟩
theorem Rl.tracked (r : Rl K H β μ) {a : Addr} (h : a ∈ β) : H a ≠ none := by
  obtain ⟨n, hl, e⟩ := List.mem_iff_getElem.mp h
  have hl' : n < μ.length := by rw [← r.len]; exact hl
  have q := r.obj n a μ[n] (by rw [List.getElem?_eq_getElem hl, e]) (List.getElem?_eq_getElem hl')
  cases e2 : μ[n] with
  | lst xs => rw [e2] at q; obtain ⟨vs, z, _⟩ := q; rw [z]; exact fun z => nomatch z
  | dK xs => rw [e2] at q; obtain ⟨vs, z, _⟩ := q; rw [z]; exact fun z => nomatch z
  | dT xs => rw [e2] at q; obtain ⟨vs, z, _⟩ := q; rw [z]; exact fun z => nomatch z
theorem Rl.notMem (r : Rl K H β μ) {a : Addr} (h : H a = none) : a ∉ β := fun q => r.tracked q h
theorem Rl.fresh (r : Rl K H β μ) {a : Addr} (h : H a = none) : a ∉ β ∧ a ∉ K.av := ⟨r.notMem h, fun q => r.avt a q h⟩
theorem DRel.ext {κ : Type} (e : Ext H β H' β') {kvs : List (κ × PV)} {kvs' : List (κ × V)} (h : DRel K H β kvs kvs') : DRel K H' β' kvs kvs' := ⟨h.1, PRels.ext e _ h.2⟩
/-- a new object that is not a place: a tuple, a frozen list -/
theorem Ext.new (r : Rl K H β μ) {p : Addr} (hp : H p = none) (o : HO) : Ext H β (upd H p o) β :=
  ⟨⟨[], by simp, by simp⟩, fun a u h _ => by rw [upd_ne (ne_of_none h hp)]; exact h, fun a h => by
    by_cases e : a = p
    · subst e; exact hp
    · rw [upd_ne e] at h; exact h⟩
theorem ORel.ext (e : Ext H β H' β') {a : Addr} {o : MO} (h : ORel K H β a o) (st : H' a = H a) : ORel K H' β' a o := by
  cases o with
  | lst xs => obtain ⟨vs, z, q⟩ := h; exact ⟨vs, by rw [st]; exact z, PRels.ext e _ q⟩
  | dK xs => obtain ⟨vs, z, q⟩ := h; exact ⟨vs, by rw [st]; exact z, q.ext e⟩
  | dT xs => obtain ⟨vs, z, q⟩ := h; exact ⟨vs, by rw [st]; exact z, q.ext e⟩
theorem Rl.new (r : Rl K H β μ) {p : Addr} (hp : H p = none) (o : HO) : Rl K (upd H p o) β μ :=
  ⟨r.len, r.nd, fun n a ob h1 h2 => (r.obj n a ob h1 h2).ext (Ext.new r hp o) (upd_ne fun e => by
    subst e
    exact r.notMem hp (List.mem_of_getElem? h1)), fun a ha => fun q => r.avt a ha ((Ext.new r hp o).live a q)⟩
/-- a new place -/
theorem Ext.place (r : Rl K H β μ) {p : Addr} (hp : H p = none) (o : HO) : Ext H β (upd H p o) (β ++ [p]) :=
  ⟨⟨[p], rfl, by simpa using hp⟩, fun a u h _ => by rw [upd_ne (ne_of_none h hp)]; exact h, fun a h => by
    by_cases e : a = p
    · subst e; exact hp
    · rw [upd_ne e] at h; exact h⟩
theorem Rl.place (r : Rl K H β μ) {p : Addr} (hp : H p = none) {o : HO} {m : MO} (h : ORel K (upd H p o) (β ++ [p]) p m) : Rl K (upd H p o) (β ++ [p]) (μ ++ [m]) := by
  refine ⟨by simp [r.len], ?_, fun n a ob h1 h2 => ?_, fun a ha => fun q => r.avt a ha ((Ext.place r hp o).live a q)⟩
  · rw [List.nodup_append]
    refine ⟨r.nd, by simp, fun a ha b hb e => ?_⟩
    simp at hb
    subst hb; subst e
    exact r.notMem hp ha
  · by_cases hn : n < β.length
    · rw [List.getElem?_append_left hn] at h1
      rw [List.getElem?_append_left (by rw [← r.len]; exact hn)] at h2
      exact (r.obj n a ob h1 h2).ext (Ext.place r hp o) (upd_ne fun e => by
        subst e
        exact r.notMem hp (List.mem_of_getElem? h1))
    · rw [List.getElem?_append_right (by omega)] at h1
      rw [List.getElem?_append_right (by rw [← r.len]; omega)] at h2
      rw [← r.len] at h2
      cases e : n - β.length with
      | zero =>
        rw [e] at h1 h2
        simp at h1 h2
        subst h1; subst h2
        exact h
      | succ k => rw [e] at h1; simp at h1
theorem PRel.place (r : Rl K H β μ) {p : Addr} {H0 : Hp} : PRel K H0 (β ++ [p]) (.ref μ.length) (.ref p) := by
  unfold PRel
  exact ⟨p, rfl, by rw [← r.len]; simp⟩
/-- a place is written -/
theorem Ext.write (r : Rl K H β μ) {n : Nat} {a : Addr} (ha : β[n]? = some a) (o : HO) : Ext H β (upd H a o) β :=
  ⟨⟨[], by simp, by simp⟩, fun b u h hn => by
    have : b ≠ a := fun e => hn (by rw [e]; exact List.mem_of_getElem? ha)
    rw [upd_ne this]; exact h, fun b h => by
    by_cases e : b = a
    · subst e; rw [upd_same] at h; cases h
    · rw [upd_ne e] at h; exact h⟩
theorem Rl.write (r : Rl K H β μ) {n : Nat} {a : Addr} (ha : β[n]? = some a) {o : HO} {m : MO} (h : ORel K (upd H a o) β a m) : Rl K (upd H a o) β (μ.set n m) := by
  refine ⟨by simp [r.len], r.nd, fun k b ob h1 h2 => ?_, fun b hb => fun q => r.avt b hb ((Ext.write r ha o).live b q)⟩
  have ex := Ext.write r ha o
  by_cases hk : k = n
  · subst hk
    rw [ha] at h1; cases h1
    have hl : k < μ.length := by
      have := (List.getElem?_eq_some_iff.mp ha).1
      rw [r.len] at this; exact this
    rw [List.getElem?_set_self hl] at h2
    cases h2
    exact h
  · rw [List.getElem?_set_ne (Ne.symm hk)] at h2
    refine (r.obj k b ob h1 h2).ext ex (upd_ne fun e => hk ?_)
    subst e
    obtain ⟨h3, e3⟩ := List.getElem?_eq_some_iff.mp h1
    obtain ⟨h4, e4⟩ := List.getElem?_eq_some_iff.mp ha
    exact (List.getElem_inj r.nd).mp (e3.trans e4.symm)

/-! ### statements -/
inductive RS where
  | nx (s : MS) (μ : MH) | rt (v : PV) (μ : MH) | bk (s : MS) (μ : MH) | ct (s : MS) (μ : MH)
  | er (c : Str) (p : List PV) (s : MS) (μ : MH) | bad
abbrev MSt := MS → MH → RS
def SOutOk (K : Gx) (XR : XRel) (H : Hp) (β : List Addr) (W : L2.St → XK) (D : Ends) : RS → Prop
  | .nx s μ => ∀ σ' H' β', Ext H β H' β' → Rl K H' β' μ → SRel K H' β' s σ' → D.nx σ' H'
  | .rt v μ => ∀ x H' β', Ext H β H' β' → Rl K H' β' μ → PRel K H' β' v x → D.rt x H'
  | .bk s μ => ∀ σ' H' β', Ext H β H' β' → Rl K H' β' μ → SRel K H' β' s σ' → D.bk σ' H'
  | .ct s μ => ∀ σ' H' β', Ext H β H' β' → Rl K H' β' μ → SRel K H' β' s σ' → D.ct σ' H'
  | .er c p s μ => ∀ cls d σ' H' β', Ext H β H' β' → Rl K H' β' μ → SRel K H' β' s σ' → XR c p cls d H' β' → W σ' cls d H'
  | .bad => False
theorem SOutOk.ext {W : L2.St → XK} {D : Ends} {r : RS} (e : Ext H β H1 β1) (h : SOutOk K XR H β W D r) : SOutOk K XR H1 β1 W D r := by
  cases r with
  | nx s μ => exact fun x H' β' e' => h x H' β' (e.trans e')
  | rt v μ => exact fun x H' β' e' => h x H' β' (e.trans e')
  | bk s μ => exact fun x H' β' e' => h x H' β' (e.trans e')
  | ct s μ => exact fun x H' β' e' => h x H' β' (e.trans e')
  | er c p s μ => exact fun c d x H' β' e' => h c d x H' β' (e.trans e')
  | bad => exact h
def tSM (K : PySem.W.Frag) (XR : XRel) (W : L2.St → XK) (m : MSt) : TS := fun D σ H => ∃ av β s μ, Rl ⟨K, av⟩ H β μ ∧ SRel ⟨K, av⟩ H β s σ ∧ SOutOk ⟨K, av⟩ XR H β W D (m s μ)
/-- an expression, then more -/
def sBind {α : Type} (r : R α) (s : MS) (k : α → MH → RS) : RS := match r with
  | .ok a μ => k a μ
  | .err c p μ => .er c p s μ
  | .bad => .bad
def bOf (v : PV) (μ : MH) : R Bool := match v with
  | .bl b => .ok b μ
  | _ => .bad
@[simp] def mbE (a : ME) : MB := fun s μ => (a s μ).bind bOf
@[simp] def mbNot (a : MB) : MB := fun s μ => (a s μ).bind fun b μ1 => .ok (!b) μ1
@[simp] def mbAnd (a b : MB) : MB := fun s μ => (a s μ).bind fun c μ1 => if c then b s μ1 else .ok false μ1
@[simp] def mbOr (a b : MB) : MB := fun s μ => (a s μ).bind fun c μ1 => if c then .ok true μ1 else b s μ1
@[simp] def mAnd (a b : ME) : ME := fun s μ => (a s μ).bind fun v μ1 => match v with
  | .bl c => if c then b s μ1 else .ok (.bl false) μ1
  | _ => .bad
@[simp] def mOr (a b : ME) : ME := fun s μ => (a s μ).bind fun v μ1 => match v with
  | .bl c => if c then .ok (.bl true) μ1 else b s μ1
  | _ => .bad
@[simp] def mNot (a : ME) : ME := fun s μ => (a s μ).bind fun v μ1 => match v with
  | .bl c => .ok (.bl (!c)) μ1
  | _ => .bad
@[simp] def mIf (c : MB) (a b : ME) : ME := fun s μ => (c s μ).bind fun k μ1 => if k then a s μ1 else b s μ1
def mChain (f g : PV → PV → MH → R PV) (a b c : ME) : ME := fun s μ => (a s μ).bind fun x μ1 => (b s μ1).bind fun y μ2 => (f x y μ2).bind fun z μ3 => match z with
  | .bl k => if k then (c s μ3).bind fun w μ4 => g y w μ4 else .ok (.bl false) μ3
  | _ => .bad
@[simp] def sNil : MSt := fun s μ => .nx s μ
@[simp] def sSeq (a b : MSt) : MSt := fun s μ => match a s μ with
  | .nx s1 μ1 => b s1 μ1
  | r => r
@[simp] def sPass : MSt := fun s μ => .nx s μ
@[simp] def sBreak : MSt := fun s μ => .bk s μ
@[simp] def sCont : MSt := fun s μ => .ct s μ
@[simp] def sExpr (a : ME) : MSt := fun s μ => sBind (a s μ) s fun _ μ1 => .nx s μ1
@[simp] def sRet (a : ME) : MSt := fun s μ => sBind (a s μ) s fun v μ1 => .rt v μ1
@[simp] def sRetN : MSt := fun _ μ => .rt .non μ
@[simp] def sIf (c : MB) (a b : MSt) : MSt := fun s μ => sBind (c s μ) s fun k μ1 => if k then a s μ1 else b s μ1
end

section
variable {X : Cx} {XR : XRel} {E : L2.St → XK}
abbrev PSM (X : Cx) (XR : XRel) (E : L2.St → XK) (st : Stmt) (m : MSt) : Prop := PS X st (tSM X.K XR E m)
abbrev PSsM (X : Cx) (XR : XRel) (E : L2.St → XK) (st : List Stmt) (m : MSt) : Prop := PSs X st (tSM X.K XR E m)
section
variable {K : PySem.W.Frag} {av : List Addr} {σ : L2.St} {H : Hp} {D : Ends}
/-- an expression in a statement -/
theorem tm_s {m : ME} {k : PV → MH → RS} {β : List Addr} {s : MS} {μ : MH} {Q : VK} (rl : Rl ⟨K, av⟩ H β μ) (sr : SRel ⟨K, av⟩ H β s σ) (h : SOutOk ⟨K, av⟩ XR H β E D (sBind (m s μ) s k))
    (q : ∀ v μ' x H' β', m s μ = .ok v μ' → Ext H β H' β' → Rl ⟨K, av⟩ H' β' μ' → SRel ⟨K, av⟩ H' β' s σ → PRel ⟨K, av⟩ H' β' v x → SOutOk ⟨K, av⟩ XR H' β' E D (k v μ') → Q x H') : tM K XR E m σ H Q := by
  refine ⟨av, β, s, μ, rl, sr, ?_⟩
  cases e : m s μ with
  | bad => rw [e] at h; exact h
  | err c p μ' => rw [e] at h; exact fun cls d H' β' ex rl' xr => h cls d σ H' β' ex rl' (sr.ext ex) xr
  | ok v μ' =>
    rw [e] at h
    exact fun x H' β' ex rl' pr => q v μ' x H' β' e ex rl' (sr.ext ex) pr (SOutOk.ext ex h)
theorem tmb_s {m : MB} {k : Bool → MH → RS} {β : List Addr} {s : MS} {μ : MH} {Q : Bool → Hp → Prop} (rl : Rl ⟨K, av⟩ H β μ) (sr : SRel ⟨K, av⟩ H β s σ) (h : SOutOk ⟨K, av⟩ XR H β E D (sBind (m s μ) s k))
    (q : ∀ v μ' H' β', m s μ = .ok v μ' → Ext H β H' β' → Rl ⟨K, av⟩ H' β' μ' → SRel ⟨K, av⟩ H' β' s σ → SOutOk ⟨K, av⟩ XR H' β' E D (k v μ') → Q v H') : tMb K XR E m σ H Q := by
  refine ⟨av, β, s, μ, rl, sr, ?_⟩
  cases e : m s μ with
  | bad => rw [e] at h; exact h
  | err c p μ' => rw [e] at h; exact fun cls d H' β' ex rl' xr => h cls d σ H' β' ex rl' (sr.ext ex) xr
  | ok v μ' =>
    rw [e] at h
    exact fun H' β' ex rl' => q v μ' H' β' e ex rl' (sr.ext ex) (SOutOk.ext ex h)
/-- .. within an expression -/
theorem tm_e {m : ME} {k : PV → MH → R PV} {β : List Addr} {s : MS} {μ : MH} {Q Q' : VK} (rl : Rl ⟨K, av⟩ H β μ) (sr : SRel ⟨K, av⟩ H β s σ) (h : OutOk ⟨K, av⟩ XR H β (E σ) Q' ((m s μ).bind k))
    (q : ∀ v μ' x H' β', m s μ = .ok v μ' → Ext H β H' β' → Rl ⟨K, av⟩ H' β' μ' → SRel ⟨K, av⟩ H' β' s σ → PRel ⟨K, av⟩ H' β' v x → OutOk ⟨K, av⟩ XR H' β' (E σ) Q' (k v μ') → Q x H') : tM K XR E m σ H Q := by
  refine ⟨av, β, s, μ, rl, sr, ?_⟩
  cases e : m s μ with
  | bad => rw [e] at h; exact h
  | err c p μ' => rw [e] at h; exact h
  | ok v μ' =>
    rw [e] at h
    exact fun x H' β' ex rl' pr => q v μ' x H' β' e ex rl' (sr.ext ex) pr (OutOk.ext ex h)
theorem tm_eb {m : ME} {k : PV → MH → R Bool} {β : List Addr} {s : MS} {μ : MH} {Q : VK} {Q' : Bool → Hp → Prop} (rl : Rl ⟨K, av⟩ H β μ) (sr : SRel ⟨K, av⟩ H β s σ) (h : BoutOk ⟨K, av⟩ XR H β (E σ) Q' ((m s μ).bind k))
    (q : ∀ v μ' x H' β', m s μ = .ok v μ' → Ext H β H' β' → Rl ⟨K, av⟩ H' β' μ' → SRel ⟨K, av⟩ H' β' s σ → PRel ⟨K, av⟩ H' β' v x → BoutOk ⟨K, av⟩ XR H' β' (E σ) Q' (k v μ') → Q x H') : tM K XR E m σ H Q := by
  refine ⟨av, β, s, μ, rl, sr, ?_⟩
  cases e : m s μ with
  | bad => rw [e] at h; exact h
  | err c p μ' => rw [e] at h; exact h
  | ok v μ' =>
    rw [e] at h
    exact fun x H' β' ex rl' pr => q v μ' x H' β' e ex rl' (sr.ext ex) pr (BoutOk.ext ex h)
theorem tmb_e {m : MB} {k : Bool → MH → R PV} {β : List Addr} {s : MS} {μ : MH} {Q : Bool → Hp → Prop} {Q' : VK} (rl : Rl ⟨K, av⟩ H β μ) (sr : SRel ⟨K, av⟩ H β s σ) (h : OutOk ⟨K, av⟩ XR H β (E σ) Q' ((m s μ).bind k))
    (q : ∀ v μ' H' β', m s μ = .ok v μ' → Ext H β H' β' → Rl ⟨K, av⟩ H' β' μ' → SRel ⟨K, av⟩ H' β' s σ → OutOk ⟨K, av⟩ XR H' β' (E σ) Q' (k v μ') → Q v H') : tMb K XR E m σ H Q := by
  refine ⟨av, β, s, μ, rl, sr, ?_⟩
  cases e : m s μ with
  | bad => rw [e] at h; exact h
  | err c p μ' => rw [e] at h; exact h
  | ok v μ' =>
    rw [e] at h
    exact fun H' β' ex rl' => q v μ' H' β' e ex rl' (sr.ext ex) (OutOk.ext ex h)
theorem tmb_b {m : MB} {k : Bool → MH → R Bool} {β : List Addr} {s : MS} {μ : MH} {Q Q' : Bool → Hp → Prop} (rl : Rl ⟨K, av⟩ H β μ) (sr : SRel ⟨K, av⟩ H β s σ) (h : BoutOk ⟨K, av⟩ XR H β (E σ) Q' ((m s μ).bind k))
    (q : ∀ v μ' H' β', m s μ = .ok v μ' → Ext H β H' β' → Rl ⟨K, av⟩ H' β' μ' → SRel ⟨K, av⟩ H' β' s σ → BoutOk ⟨K, av⟩ XR H' β' (E σ) Q' (k v μ') → Q v H') : tMb K XR E m σ H Q := by
  refine ⟨av, β, s, μ, rl, sr, ?_⟩
  cases e : m s μ with
  | bad => rw [e] at h; exact h
  | err c p μ' => rw [e] at h; exact h
  | ok v μ' =>
    rw [e] at h
    exact fun H' β' ex rl' => q v μ' H' β' e ex rl' (sr.ext ex) (BoutOk.ext ex h)
end

/-! ### tests -/
theorem bOf_ok {K : Gx} {H : Hp} {β : List Addr} {μ : MH} {v : PV} {x : V} {Q' : Bool → Hp → Prop} {E : XK} (rl : Rl K H β μ) (p : PRel K H β v x) (h : BoutOk K XR H β E Q' (bOf v μ)) : ∃ c, x = .bl c ∧ Q' c H := by
  cases v <;> first
    | (unfold PRel at p; subst p; exact ⟨_, rfl, h H β .refl rl⟩)
    | exact False.elim h
theorem mb_cmp {op : CmpOp} {r : R2} {a b : Expr} {ma mb : ME} {f : PV → PV → MH → R PV} {pos : Pos} (ho : OpR X (compareOp op) r) (hf : OpM X.K XR f r) (ha : PM X XR E a ma) (hb : PM X XR E b mb) (hm : behindInMarks op b = false) : PMb X XR E (.Compare a [op] [b] pos) (mbE (mOp f ma mb)) :=
  PT.imp (pt_cmpR ho ha hb hm) fun σ H Q ⟨av, β, s, μ, rl, sr, h⟩ => by
    unfold tTest
    refine tm_op hf σ H _ ?_
    exact tm_eb rl sr h fun v μ' x H' β' _ ex rl' _ p q => bOf_ok rl' p q
theorem mb_val {e : Expr} {m : ME} (h : PM X XR E e m) (he : ∀ whole, isTrue e X.env whole = (do let v ← whole; standAt e.pos; holding [v] (truthy v)) := by intro _; rfl) : PMb X XR E e (mbE m) :=
  PT.imp (pt_val h he) fun σ H Q ⟨av, β, s, μ, rl, sr, h⟩ => by
    unfold tB
    exact tm_eb rl sr h fun v μ' x H' β' _ ex rl' _ p q => bOf_ok rl' p q
theorem mb_not {a : Expr} {ma : MB} {pos : Pos} (ha : PMb X XR E a ma) : PMb X XR E (.UnaryOp .Not a pos) (mbNot ma) :=
  PT.imp (pt_not ha) fun σ H Q ⟨av, β, s, μ, rl, sr, h⟩ => by
    unfold tNot
    exact tmb_b rl sr h fun v μ' H' β' _ ex rl' _ q => q H' β' .refl rl'
abbrev PWb (X : Cx) (XR : XRel) (E : L2.St → XK) (e : Expr) (m : MB) : Prop := PW X e (tMb X.K XR E m)
theorem mw_and1 {a : Expr} {ma : MB} {pos : Pos} (ha : PMb X XR E a ma) : PWb X XR E (.BoolOp .And [a] pos) ma := pw_and1 ha
theorem mw_or1 {a : Expr} {ma : MB} {pos : Pos} (ha : PMb X XR E a ma) : PWb X XR E (.BoolOp .Or [a] pos) ma := pw_or1 ha
theorem PW.imp {e : Expr} {t t' : TT} (h : PW X e t) (i : ∀ σ H Q, t' σ H Q → t σ H Q) : PW X e t' := ⟨fun wh pins s σ H Q I q => h.run wh pins s σ H Q I (i _ _ _ q)⟩
theorem mw_and {a b : Expr} {rest : List Expr} {ma mb : MB} {pos : Pos} (ha : PMb X XR E a ma) (hb : PWb X XR E (.BoolOp .And (b :: rest) pos) mb) : PWb X XR E (.BoolOp .And (a :: b :: rest) pos) (mbAnd ma mb) :=
  PW.imp (pw_and ha hb) fun σ H Q ⟨av, β, s, μ, rl, sr, h⟩ => by
    unfold tAnd
    refine tmb_b rl sr h fun v μ' H' β' _ ex rl' sr' q => ?_
    cases v with
    | true => exact ⟨av, β', s, μ', rl', sr', q⟩
    | false => exact q H' β' .refl rl'
theorem mw_or {a b : Expr} {rest : List Expr} {ma mb : MB} {pos : Pos} (ha : PMb X XR E a ma) (hb : PWb X XR E (.BoolOp .Or (b :: rest) pos) mb) : PWb X XR E (.BoolOp .Or (a :: b :: rest) pos) (mbOr ma mb) :=
  PW.imp (pw_or ha hb) fun σ H Q ⟨av, β, s, μ, rl, sr, h⟩ => by
    unfold tOr
    refine tmb_b rl sr h fun v μ' H' β' _ ex rl' sr' q => ?_
    cases v with
    | true => exact q H' β' .refl rl'
    | false => exact ⟨av, β', s, μ', rl', sr', q⟩
theorem mb_w {e : Expr} {m : MB} (h : PWb X XR E e m) : PMb X XR E e m := PW.pt h
/-! ### .. as values -/
theorem bl_inv {K : Gx} {H : Hp} {β : List Addr} {c : Bool} {x : V} (p : PRel K H β (.bl c) x) : x = .bl c := by unfold PRel at p; exact p
theorem me_one {op : BoolOp} {a : Expr} {ma : ME} {pos : Pos} (h : PM X XR E a ma) : PM X XR E (.BoolOp op [a] pos) ma := pe_one h
theorem me_and {a b : Expr} {rest : List Expr} {ma mb : ME} {pos : Pos} (ha : PM X XR E a ma) (hb : PM X XR E (.BoolOp .And (b :: rest) pos) mb) : PM X XR E (.BoolOp .And (a :: b :: rest) pos) (mAnd ma mb) :=
  PE.imp (pe_and ha hb) fun σ H Q ⟨av, β, s, μ, rl, sr, h⟩ => by
    unfold tAndV
    refine tm_e rl sr h fun v μ' x H' β' _ ex rl' sr' p q => ?_
    cases v <;> first
      | exact False.elim q
      | (refine ⟨_, bl_inv p, ?_⟩
         split
         · rename_i hc
           simp only [hc, if_true] at q
           exact ⟨av, β', s, μ', rl', sr', q⟩
         · rename_i hc
           simp only [hc] at q
           exact q _ H' β' .refl rl' .bl_)
theorem me_or {a b : Expr} {rest : List Expr} {ma mb : ME} {pos : Pos} (ha : PM X XR E a ma) (hb : PM X XR E (.BoolOp .Or (b :: rest) pos) mb) : PM X XR E (.BoolOp .Or (a :: b :: rest) pos) (mOr ma mb) :=
  PE.imp (pe_or ha hb) fun σ H Q ⟨av, β, s, μ, rl, sr, h⟩ => by
    unfold tOrV
    refine tm_e rl sr h fun v μ' x H' β' _ ex rl' sr' p q => ?_
    cases v <;> first
      | exact False.elim q
      | (refine ⟨_, bl_inv p, ?_⟩
         split
         · rename_i hc
           simp only [hc, if_true] at q
           exact q _ H' β' .refl rl' .bl_
         · rename_i hc
           simp only [hc] at q
           exact ⟨av, β', s, μ', rl', sr', q⟩)
theorem me_not {a : Expr} {ma : ME} {pos : Pos} (ha : PM X XR E a ma) : PM X XR E (.UnaryOp .Not a pos) (mNot ma) :=
  PE.imp (pe_not ha) fun σ H Q ⟨av, β, s, μ, rl, sr, h⟩ => by
    unfold tNotV
    refine tm_e rl sr h fun v μ' x H' β' _ ex rl' sr' p q => ?_
    cases v <;> first
      | exact False.elim q
      | exact ⟨_, bl_inv p, q _ H' β' .refl rl' .bl_⟩
theorem me_if {c a b : Expr} {mc : MB} {ma mb : ME} {pos : Pos} (hc : PMb X XR E c mc) (ha : PM X XR E a ma) (hb : PM X XR E b mb) : PM X XR E (.IfExp c a b pos) (mIf mc ma mb) :=
  PE.imp (pe_ifExp hc ha hb) fun σ H Q ⟨av, β, s, μ, rl, sr, h⟩ => by
    unfold tIf
    refine tmb_e rl sr h fun v μ' H' β' _ ex rl' sr' q => ?_
    cases v with
    | true => exact ⟨av, β', s, μ', rl', sr', q⟩
    | false => exact ⟨av, β', s, μ', rl', sr', q⟩
theorem tm_chain {K : PySem.W.Frag} {r r' : R2} {f g : PV → PV → MH → R PV} {ma mb mc : ME} (hf : OpM K XR f r) (hg : OpM K XR g r') (σ : L2.St) (H : Hp) (Q : VK) (h : tM K XR E (mChain f g ma mb mc) σ H Q) : tChain r r' (tM K XR E ma) (tM K XR E mb) (tM K XR E mc) σ H Q := by
  obtain ⟨av, β, s, μ, rl, sr, h⟩ := h
  unfold tChain
  refine tm_e rl sr h fun v μ1 x H1 β1 _ ex1 rl1 sr1 p1 q1 => ?_
  refine tm_e rl1 sr1 q1 fun w μ2 y H2 β2 _ ex2 rl2 sr2 p2 q2 => ?_
  refine hf av (E σ) H2 β2 μ2 v w x y _ rl2 (p1.ext ex2) p2 ?_
  cases e : f v w μ2 with
  | bad => rw [e] at q2; exact q2
  | err c p μ' => rw [e] at q2; exact q2
  | ok z μ3 =>
    rw [e] at q2
    intro zx H3 β3 ex3 rl3 p3
    have q3 := OutOk.ext ex3 q2
    simp only [R.bind] at q3
    cases z <;> first
      | exact False.elim q3
      | (rename_i k
         refine ⟨k, bl_inv p3, ?_⟩
         cases k with
         | false => exact q3 _ H3 β3 .refl rl3 .bl_
         | true =>
           exact tm_e rl3 (sr2.ext ex3) q3 fun u μ4 ux H4 β4 _ ex4 rl4 sr4 p4 q4 => hg av (E σ) H4 β4 μ4 w u y ux Q rl4 ((p2.ext ex3).ext ex4) p4 q4)
theorem me_chain {op op' : CmpOp} {r r' : R2} {a b c : Expr} {f g : PV → PV → MH → R PV} {ma mb mc : ME} {pos : Pos} (ho : OpR X (compareOp op) r) (ho' : OpR X (compareOp op') r') (hf : OpM X.K XR f r) (hg : OpM X.K XR g r') (ha : PM X XR E a ma) (hb : PM X XR E b mb) (hc : PM X XR E c mc)
    (hm : lastMarks [op, op'] [b, c] = false := by with_unfolding_all rfl) : PM X XR E (.Compare a [op, op'] [b, c] pos) (mChain f g ma mb mc) :=
  PE.imp (pe_chain ho ho' ha hb hc hm) (tm_chain hf hg)
theorem mb_chain {op op' : CmpOp} {r r' : R2} {a b c : Expr} {f g : PV → PV → MH → R PV} {ma mb mc : ME} {pos : Pos} (ho : OpR X (compareOp op) r) (ho' : OpR X (compareOp op') r') (hf : OpM X.K XR f r) (hg : OpM X.K XR g r') (ha : PM X XR E a ma) (hb : PM X XR E b mb) (hc : PM X XR E c mc)
    (hm : lastMarks [op, op'] [b, c] = false := by with_unfolding_all rfl) : PMb X XR E (.Compare a [op, op'] [b, c] pos) (mbE (mChain f g ma mb mc)) :=
  PT.imp (pt_chain ho ho' ha hb hc hm) fun σ H Q ⟨av, β, s, μ, rl, sr, h⟩ => by
    unfold tTest
    refine tm_chain hf hg σ H _ ?_
    exact tm_eb rl sr h fun v μ' x H' β' _ ex rl' _ p q => bOf_ok rl' p q

/-! ### argument lists, displays -/
theorem mas_nil : PMs X XR E [] msNil := PA.imp pa_nil fun σ H Q ⟨av, β, s, μ, rl, sr, h⟩ => h [] H β .refl rl .nil
theorem tms_cons {K : PySem.W.Frag} {a : ME} {b : MEs} (σ : L2.St) (H : Hp) (Q : List V → Hp → Prop) (h : tMs K XR E (msCons a b) σ H Q) : tCons (tM K XR E a) (tMs K XR E b) σ H Q := by
  obtain ⟨av, β, s, μ, rl, sr, h⟩ := h
  refine ⟨av, β, s, μ, rl, sr, ?_⟩
  unfold msCons at h
  cases e : a s μ with
  | bad => rw [e] at h; exact h
  | err c p μ' => rw [e] at h; exact h
  | ok v μ1 =>
    rw [e] at h
    intro x H1 β1 ex1 rl1 p1
    have h1 := OutsOk.ext ex1 h
    refine ⟨av, β1, s, μ1, rl1, sr.ext ex1, ?_⟩
    simp only [R.bind] at h1
    cases e2 : b s μ1 with
    | bad => rw [e2] at h1; exact h1
    | err c p μ' => rw [e2] at h1; exact h1
    | ok w μ2 =>
      rw [e2] at h1
      exact fun y H2 β2 ex2 rl2 p2 => OutsOk.ext ex2 h1 _ H2 β2 .refl rl2 (.cons (p1.ext ex2) p2)
theorem mas_cons {e : Expr} {es : List Expr} {a : ME} {b : MEs} (ha : PM X XR E e a) (hb : PMs X XR E es b) (hs : starEach (e :: es) X.env = (false, eval e X.env) :: starEach es X.env := by rfl) : PMs X XR E (e :: es) (msCons a b) :=
  PA.imp (pa_cons ha hb hs) tms_cons
/-- arguments, then more -/
theorem tms_e {K : PySem.W.Frag} {av : List Addr} {σ : L2.St} {H : Hp} {m : MEs} {k : List PV → MH → R PV} {β : List Addr} {s : MS} {μ : MH} {Q : List V → Hp → Prop} {Q' : VK} (rl : Rl ⟨K, av⟩ H β μ) (sr : SRel ⟨K, av⟩ H β s σ) (h : OutOk ⟨K, av⟩ XR H β (E σ) Q' ((m s μ).bind k))
    (q : ∀ v μ' x H' β', m s μ = .ok v μ' → Ext H β H' β' → Rl ⟨K, av⟩ H' β' μ' → SRel ⟨K, av⟩ H' β' s σ → PRels ⟨K, av⟩ H' β' v x → OutOk ⟨K, av⟩ XR H' β' (E σ) Q' (k v μ') → Q x H') : tMs K XR E m σ H Q := by
  refine ⟨av, β, s, μ, rl, sr, ?_⟩
  cases e : m s μ with
  | bad => rw [e] at h; exact h
  | err c p μ' => rw [e] at h; exact h
  | ok v μ' =>
    rw [e] at h
    exact fun x H' β' ex rl' pr => q v μ' x H' β' e ex rl' (sr.ext ex) pr (OutOk.ext ex h)
/-- a new tuple, a new list that is frozen, a new list that is a place -/
@[simp] def fTup (xs : List PV) (μ : MH) : R PV := if xs.length ≤ sizeLine then .ok (.tup xs) μ else .bad
@[simp] def fFrl (xs : List PV) (μ : MH) : R PV := if xs.length ≤ sizeLine then .ok (.frl xs) μ else .bad
@[simp] def fLst (xs : List PV) (μ : MH) : R PV := if xs.length ≤ sizeLine then .ok (.ref μ.length) (μ ++ [.lst xs]) else .bad
theorem fTup_ok {K : Gx} {H : Hp} {β : List Addr} {μ : MH} {E : XK} {Q : VK} {vs : List PV} {xs : List V} (rl : Rl K H β μ) (p : PRels K H β vs xs) (h : OutOk K XR H β E Q (fTup vs μ)) : xs.length ≤ sizeLine ∧ ∀ p, H p = none → Q (.ref p) (upd H p (.tup xs)) := by
  unfold fTup at h
  split at h
  · rename_i hl
    refine ⟨by rw [← p.length]; exact hl, fun a ha => h _ _ β (Ext.new rl ha _) (rl.new ha _) ?_⟩
    unfold PRel
    exact ⟨a, xs, rfl, ⟨upd_same, rl.fresh ha⟩, PRels.ext (Ext.new rl ha _) _ p⟩
  · exact h.elim
theorem fFrl_ok {K : Gx} {H : Hp} {β : List Addr} {μ : MH} {E : XK} {Q : VK} {vs : List PV} {xs : List V} (rl : Rl K H β μ) (p : PRels K H β vs xs) (h : OutOk K XR H β E Q (fFrl vs μ)) : xs.length ≤ sizeLine ∧ ∀ p, H p = none → Q (.ref p) (upd H p (.lst xs)) := by
  unfold fFrl at h
  split at h
  · rename_i hl
    refine ⟨by rw [← p.length]; exact hl, fun a ha => h _ _ β (Ext.new rl ha _) (rl.new ha _) ?_⟩
    unfold PRel
    exact ⟨a, xs, rfl, ⟨upd_same, rl.fresh ha⟩, PRels.ext (Ext.new rl ha _) _ p⟩
  · exact h.elim
theorem fLst_ok {K : Gx} {H : Hp} {β : List Addr} {μ : MH} {E : XK} {Q : VK} {vs : List PV} {xs : List V} (rl : Rl K H β μ) (p : PRels K H β vs xs) (h : OutOk K XR H β E Q (fLst vs μ)) : xs.length ≤ sizeLine ∧ ∀ p, H p = none → Q (.ref p) (upd H p (.lst xs)) := by
  unfold fLst at h
  split at h
  · rename_i hl
    refine ⟨by rw [← p.length]; exact hl, fun a ha => h _ _ (β ++ [a]) (Ext.place rl ha _) (rl.place ha ⟨xs, upd_same, PRels.ext (Ext.place rl ha _) _ p⟩) ?_⟩
    exact PRel.place rl
  · exact h.elim
theorem me_tup {es : List Expr} {m : MEs} {x1} {pos : Pos} (h : PMs X XR E es m) : PM X XR E (.Tuple es x1 pos) (mCallP fTup m) :=
  PE.imp (pe_tup h) fun σ H Q ⟨av, β, s, μ, rl, sr, h⟩ => by
    unfold tTup
    exact tms_e rl sr h fun v μ' x H' β' _ ex rl' _ p q => fTup_ok rl' p q
theorem me_frl {es : List Expr} {m : MEs} {pos : Pos} (h : PMs X XR E es m) : PM X XR E (.List es pos) (mCallP fFrl m) :=
  PE.imp (pe_lst h) fun σ H Q ⟨av, β, s, μ, rl, sr, h⟩ => by
    unfold tLst
    exact tms_e rl sr h fun v μ' x H' β' _ ex rl' _ p q => fFrl_ok rl' p q
theorem me_lst {es : List Expr} {m : MEs} {pos : Pos} (h : PMs X XR E es m) : PM X XR E (.List es pos) (mCallP fLst m) :=
  PE.imp (pe_lst h) fun σ H Q ⟨av, β, s, μ, rl, sr, h⟩ => by
    unfold tLst
    exact tms_e rl sr h fun v μ' x H' β' _ ex rl' _ p q => fLst_ok rl' p q

/-! ### calls by values -/
def CallM (K : PySem.W.Frag) (XR : XRel) (f : List PV → MH → R PV) (r : List V → Hp → VK → Prop) : Prop :=
  ∀ (av : List Addr) (E : XK) (H : Hp) (β : List Addr) (μ : MH) (v : List PV) (x : List V) (Q : VK), Rl ⟨K, av⟩ H β μ → PRels ⟨K, av⟩ H β v x → OutOk ⟨K, av⟩ XR H β E Q (f v μ) → r x H Q
theorem tm_cb {K : PySem.W.Frag} {r : List V → Hp → VK → Prop} {f : List PV → MH → R PV} {m : MEs} (hf : CallM K XR f r) (σ : L2.St) (H : Hp) (Q : VK) (h : tM K XR E (mCallP f m) σ H Q) : tCB r (tMs K XR E m) σ H Q := by
  obtain ⟨av, β, s, μ, rl, sr, h⟩ := h
  unfold tCB
  exact tms_e rl sr h fun v μ' x H' β' _ ex rl' _ p q => hf _ _ H' β' μ' v x Q rl' p q
theorem me_callB {x : Str} {p pos : Pos} {e : Expr} {es : List Expr} {id : String} {r : List V → Hp → VK → Prop} {f : List PV → MH → R PV} {m : MEs} (hc : CallR X (.builtin id) r) (hf : CallM X.K XR f r) (hg : Gl X x) (hm : X.mg x = none) (hv : bootBuiltins x = some (.builtin id)) (ha : PMs X XR E (e :: es) m)
    (hn : x ≠ "__name__" := by decide) (hdb : (x == ("__debug__" : Str)) = false := by decide)
    (he : starEach (e :: es) X.env = (false, eval e X.env) :: starEach es X.env := by rfl) (hpl : (backTo pos (starEach es X.env)).any (·.1) = false := by rfl) : PM X XR E (.Call (.Name x p) (e :: es) [] pos) (mCallP f m) :=
  PE.imp (pe_callB hc hg hm hv ha hn hdb he hpl) (tm_cb hf)
theorem me_callTy {x : Str} {p pos : Pos} {e : Expr} {es : List Expr} {T : String} {r : List V → Hp → VK → Prop} {f : List PV → MH → R PV} {m : MEs} (hc : CallR X (.type T) r) (hf : CallM X.K XR f r) (hg : Gl X x) (hm : X.mg x = none) (hv : bootBuiltins x = some (.type T)) (ha : PMs X XR E (e :: es) m)
    (hn : x ≠ "__name__" := by decide) (hdb : (x == ("__debug__" : Str)) = false := by decide)
    (he : starEach (e :: es) X.env = (false, eval e X.env) :: starEach es X.env := by rfl) (hpl : (backTo pos (starEach es X.env)).any (·.1) = false := by rfl) : PM X XR E (.Call (.Name x p) (e :: es) [] pos) (mCallP f m) :=
  PE.imp (pe_callTy hc hg hm hv ha hn hdb he hpl) (tm_cb hf)

/-! ### statements -/
theorem ss_nil : PSsM X XR E [] sNil := PSs.imp pss_nil fun D σ H ⟨av, β, s, μ, rl, sr, h⟩ => h σ H β .refl rl sr
theorem SOutOk.mono {K : Gx} {H : Hp} {β : List Addr} {D D' : Ends} {r : RS} (h : SOutOk K XR H β E D r) (hn : ∀ σ H, D.nx σ H → D'.nx σ H) (hr : ∀ v H, D.rt v H → D'.rt v H) (hb : ∀ σ H, D.bk σ H → D'.bk σ H) (hc : ∀ σ H, D.ct σ H → D'.ct σ H) : SOutOk K XR H β E D' r := by
  cases r with
  | nx s μ => exact fun x H' β' a b c => hn _ _ (h x H' β' a b c)
  | rt v μ => exact fun x H' β' a b c => hr _ _ (h x H' β' a b c)
  | bk s μ => exact fun x H' β' a b c => hb _ _ (h x H' β' a b c)
  | ct s μ => exact fun x H' β' a b c => hc _ _ (h x H' β' a b c)
  | er c p s μ => exact h
  | bad => exact h
theorem sseq_ok {K : PySem.W.Frag} {a b : MSt} {u : TS} (hu : ∀ D σ H, tSM K XR E b D σ H → u D σ H) (D : Ends) (σ : L2.St) (H : Hp) (h : tSM K XR E (sSeq a b) D σ H) : tSeq (tSM K XR E a) u D σ H := by
  obtain ⟨av, β, s, μ, rl, sr, h⟩ := h
  refine ⟨av, β, s, μ, rl, sr, ?_⟩
  unfold sSeq at h
  cases e : a s μ with
  | nx s1 μ1 =>
    rw [e] at h
    exact fun σ' H' β' ex rl' sr' => hu _ _ _ ⟨av, β', s1, μ1, rl', sr', SOutOk.ext ex h⟩
  | rt v μ => rw [e] at h; exact h
  | bk s μ => rw [e] at h; exact h
  | ct s μ => rw [e] at h; exact h
  | er c p s μ => rw [e] at h; exact h
  | bad => rw [e] at h; exact h
theorem ss_cons {st : Stmt} {rest : List Stmt} {a b : MSt} (h1 : PSM X XR E st a) (h2 : PSsM X XR E rest b) : PSsM X XR E (st :: rest) (sSeq a b) :=
  PSs.imp (pss_cons h1 h2) fun D σ H h => sseq_ok (fun _ _ _ h => h) D σ H h
theorem ss_one {st : Stmt} {a : MSt} (h1 : PSM X XR E st a) : PSsM X XR E [st] a := pss_one h1
theorem sm_pass {pos : Pos} : PSM X XR E (.Pass pos) sPass := PS.imp ps_pass fun D σ H ⟨av, β, s, μ, rl, sr, h⟩ => h σ H β .refl rl sr
theorem sm_doc {x j pos pos'} : PSM X XR E (.Expr (.Constant (.str x) j pos) pos') sPass := PS.imp ps_doc fun D σ H ⟨av, β, s, μ, rl, sr, h⟩ => h σ H β .refl rl sr
theorem sm_break {pos : Pos} : PSM X XR E (.Break pos) sBreak := PS.imp ps_break fun D σ H ⟨av, β, s, μ, rl, sr, h⟩ => h σ H β .refl rl sr
theorem sm_cont {pos : Pos} : PSM X XR E (.Continue pos) sCont := PS.imp ps_continue fun D σ H ⟨av, β, s, μ, rl, sr, h⟩ => h σ H β .refl rl sr
theorem sm_expr {e : Expr} {m : ME} {pos : Pos} (he : PM X XR E e m) (hs : swapsWith e none pos.line X.env = pure false := by rfl) : PSM X XR E (.Expr e pos) (sExpr m) :=
  PS.imp (ps_expr he hs) fun D σ H ⟨av, β, s, μ, rl, sr, h⟩ => by
    unfold tDrop
    exact tm_s rl sr h fun v μ' x H' β' _ ex rl' sr' p q => q σ H' β' .refl rl' sr'
theorem sm_ret {e : Expr} {m : ME} {pos : Pos} (he : PM X XR E e m) : PSM X XR E (.Return (some e) pos) (sRet m) :=
  PS.imp (ps_ret he) fun D σ H ⟨av, β, s, μ, rl, sr, h⟩ => by
    unfold tRet
    exact tm_s rl sr h fun v μ' x H' β' _ ex rl' sr' p q => q x H' β' .refl rl' p
theorem sm_retN {pos : Pos} : PSM X XR E (.Return none pos) sRetN := PS.imp ps_retN fun D σ H ⟨av, β, s, μ, rl, sr, h⟩ => h _ H β .refl rl .non_
theorem sm_if {c : Expr} {a b : List Stmt} {mc : MB} {ma mb : MSt} {pos : Pos} (hc : PMb X XR E c mc) (ha : PSsM X XR E a ma) (hb : PSsM X XR E b mb) : PSM X XR E (.If c a b pos) (sIf mc ma mb) :=
  PS.imp (ps_if hc ha hb) fun D σ H ⟨av, β, s, μ, rl, sr, h⟩ => by
    unfold tIfS
    refine tmb_s rl sr h fun v μ' H' β' _ ex rl' sr' q => ?_
    cases v with
    | true => exact ⟨av, β', s, μ', rl', sr', q⟩
    | false => exact ⟨av, β', s, μ', rl', sr', q⟩
end
end Mini

/-! M3: targets, assignments, loops, comprehensions, defs, calls of defs. -/
namespace Mini
open PySem L2

/-! ### targets that are names -/
inductive MT where
  | nm (i : Nat)
  | tp (ts : List MT)
mutual
def tgOf (K : PySem.W.Frag) : MT → TG
  | .nm i => gName i
  | .tp ts => gTup K ts.length (tgsOf K ts)
def tgsOf (K : PySem.W.Frag) : List MT → TGs
  | [] => gNil
  | t :: ts => gCons (tgOf K t) (tgsOf K ts)
end
mutual
def bindT : MT → PV → MS → Option MS
  | .nm i, v, s => some (s.set i (some v))
  | .tp ts, .tup vs, s => bindTs ts vs s
  | .tp ts, .ctp vs, s => bindTs ts vs s
  | .tp _, _, _ => none
def bindTs : List MT → List PV → MS → Option MS
  | [], [], s => some s
  | t :: ts, v :: vs, s => match bindT t v s with
    | some s1 => bindTs ts vs s1
    | none => none
  | _, _, _ => none
end
mutual
def slotsT : MT → List Nat
  | .nm i => [i]
  | .tp ts => slotsTs ts
def slotsTs : List MT → List Nat
  | [] => []
  | t :: ts => slotsT t ++ slotsTs ts
end
section
variable {K : Gx} {H H' : Hp} {β β' : List Addr} {μ μ' : MH} {XR : XRel}
theorem SRel.set {s : MS} {σ : L2.St} {i : Nat} {v : PV} {x : V} (sr : SRel K H β s σ) (p : PRel K H β v x) : SRel K H β (s.set i (some v)) (σ.set i (some x)) := by
  refine ⟨by simp [sr.len], fun j w h => ?_⟩
  by_cases hj : i = j
  · subst hj
    have hl : i < s.length := by
      obtain ⟨q, _⟩ := List.getElem?_eq_some_iff.mp h
      simpa using q
    rw [List.getElem?_set_self hl] at h
    cases h
    exact ⟨x, by rw [List.getElem?_set_self (by rw [← sr.len]; exact hl)], p⟩
  · rw [List.getElem?_set_ne hj] at h
    obtain ⟨y, e, q⟩ := sr.at_ j w h
    exact ⟨y, by rw [List.getElem?_set_ne hj]; exact e, q⟩
/-- outside some slots nothing has changed -/
def Same0 (is : List Nat) (σ σ' : L2.St) : Prop := σ.length = σ'.length ∧ ∀ j, j ∉ is → σ'[j]? = σ[j]?
theorem ctp_inv {vs : List PV} {x : V} (p : PRel K H β (.ctp vs) x) : ∃ a xs, x = .ref a ∧ CT K H β a xs ∧ PRels K H β vs xs := by unfold PRel at p; exact p
theorem tup_inv {vs : List PV} {x : V} (p : PRel K H β (.tup vs) x) : ∃ a xs, x = .ref a ∧ SqTf K H β a xs ∧ PRels K H β vs xs := by unfold PRel at p; exact p
mutual
theorem tg_ok : ∀ (t : MT) {v : PV} {x : V} {s s' : MS} {σ : L2.St} {Q : L2.St → Hp → Prop}, SRel K H β s σ → PRel K H β v x → bindT t v s = some s' →
    (∀ σ', SRel K H β s' σ' → Same0 (slotsT t) σ σ' → Q σ' H) → tgOf K.fr t x σ H Q
  | .nm i, v, x, s, s', σ, Q, sr, p, e, q => by
    unfold bindT at e
    cases e
    unfold tgOf
    exact q _ (sr.set p) ⟨by simp, fun j hj => by
      unfold slotsT at hj
      rw [List.getElem?_set_ne (by simp at hj; exact fun z => hj z.symm)]⟩
  | .tp ts, v, x, s, s', σ, Q, sr, p, e, q => by
    unfold bindT at e
    cases v <;> first
      | (rename_i vs
         unfold tgOf
         obtain ⟨a, xs, e1, h1, h2⟩ := tup_inv p
         refine ⟨a, xs, e1, h1.sq, ?_, tgs_ok ts sr h2 e q⟩
         rw [← h2.length]
         exact bindTs_len ts vs e)
      | (rename_i vs
         unfold tgOf
         obtain ⟨a, xs, e1, h1, h2⟩ := ctp_inv p
         refine ⟨a, xs, e1, h1.sq, ?_, tgs_ok ts sr h2 e q⟩
         rw [← h2.length]
         exact bindTs_len ts vs e)
      | cases e
theorem tgs_ok : ∀ (ts : List MT) {vs : List PV} {xs : List V} {s s' : MS} {σ : L2.St} {Q : L2.St → Hp → Prop}, SRel K H β s σ → PRels K H β vs xs → bindTs ts vs s = some s' →
    (∀ σ', SRel K H β s' σ' → Same0 (slotsTs ts) σ σ' → Q σ' H) → tgsOf K.fr ts xs σ H Q
  | [], vs, xs, s, s', σ, Q, sr, p, e, q => by
    cases vs with
    | nil =>
      unfold bindTs at e
      cases e
      unfold tgsOf
      rw [PRels.nil_iff] at p
      exact ⟨p, q σ sr ⟨rfl, fun _ _ => rfl⟩⟩
    | cons v vs => unfold bindTs at e; cases e
  | t :: ts, vs, xs, s, s', σ, Q, sr, p, e, q => by
    cases vs with
    | nil => unfold bindTs at e; cases e
    | cons v vs =>
      unfold bindTs at e
      cases e1 : bindT t v s with
      | none => rw [e1] at e; cases e
      | some s1 =>
        rw [e1] at e
        obtain ⟨y, ys, rfl, r1, r2⟩ := p.inv
        unfold tgsOf
        refine ⟨y, ys, rfl, tg_ok t sr r1 e1 fun σ1 sr1 sm1 => tgs_ok ts sr1 r2 e fun σ2 sr2 sm2 => q σ2 sr2 ⟨sm1.1.trans sm2.1, fun j hj => ?_⟩⟩
        unfold slotsTs at hj
        rw [List.mem_append, not_or] at hj
        rw [sm2.2 j hj.2, sm1.2 j hj.1]
theorem bindTs_len : ∀ (ts : List MT) (vs : List PV) {s s' : MS}, bindTs ts vs s = some s' → vs.length = ts.length
  | [], [], _, _, _ => rfl
  | [], _ :: _, _, _, e => by unfold bindTs at e; cases e
  | _ :: _, [], _, _, e => by unfold bindTs at e; cases e
  | t :: ts, v :: vs, s, s', e => by
    unfold bindTs at e
    cases e1 : bindT t v s with
    | none => rw [e1] at e; cases e
    | some s1 =>
      rw [e1] at e
      simp [bindTs_len ts vs e]
end
end

/-! ### assignments -/
@[simp] def sAsg (t : MT) (a : ME) : MSt := fun s μ => sBind (a s μ) s fun v μ1 => match bindT t v s with
  | some s1 => .nx s1 μ1
  | none => .bad
/-- o[i] = e by values -/
@[simp] def sSub (o i e : ME) (f : PV → PV → PV → MH → Option MH) : MSt := fun s μ => sBind (e s μ) s fun v μ1 => sBind (o s μ1) s fun ov μ2 => sBind (i s μ2) s fun iv μ3 => match f ov iv v μ3 with
  | some μ4 => .nx s μ4
  | none => .bad
@[simp] def sAug (i : Nat) (e : ME) (f : PV → PV → MH → R PV) : MSt := fun s μ => match s[i]? with
  | some (some v) => sBind (e s μ) s fun w μ1 => sBind (f v w μ1) s fun z μ2 => .nx (s.set i (some z)) μ2
  | _ => .bad
/-- a, b = e1, e2 -/
@[simp] def sPar (i j : Nat) (e : MEs) : MSt := fun s μ => sBind (e s μ) s fun vs μ1 => match vs with
  | [v, w] => .nx ((s.set i (some v)).set j (some w)) μ1
  | _ => .bad
section
variable {X : Cx} {XR : XRel} {E : L2.St → XK}
theorem tasg_ok {K : PySem.W.Frag} {t : MT} {m : ME} (D : Ends) (σ : L2.St) (H : Hp) (h : tSM K XR E (sAsg t m) D σ H) : tAsg (tM K XR E m) (tgOf K t) D σ H := by
  obtain ⟨av, β, s, μ, rl, sr, h⟩ := h
  unfold tAsg
  refine tm_s rl sr h fun v μ' x H' β' _ ex rl' sr' p q => ?_
  cases e : bindT t v s with
  | none => rw [e] at q; exact q.elim
  | some s1 =>
    rw [e] at q
    exact tg_ok t sr' p e fun σ' sr1 _ => q σ' H' β' .refl rl' sr1
theorem sm_asg {tg e : Expr} {t : MT} {m : ME} {pos : Pos} (he : PM X XR E e m) (hg : PG X tg (tgOf X.K t)) (hs : swapsWithSole [tg] e pos.line X.env = pure false := by rfl) (hw : swappedStores [tg] e X.env = pure none := by rfl)
    (h1 : (assignEach [tg] X.env).map (·.2) = [assign tg X.env] := by rfl) : PSM X XR E (.Assign [tg] e pos) (sAsg t m) :=
  PS.imp (ps_asg he hg hs hw h1) fun D σ H h => tasg_ok D σ H h
theorem mg_nm {i : Nat} {x : Str} {pos : Pos} (hN : X.N.Nodup) (hi : X.N[i]? = some x) (hx : Loc X.env.scope x) (hf : X.fn x = true ∨ X.env.scope.names.lookup x = some .local := by first | exact .inl rfl | exact .inr rfl | assumption) : PG X (.Name x pos) (tgOf X.K (.nm i)) := by
  unfold tgOf; exact pg_name hN hi hx hf
theorem mgs_nil : PGs X [] (tgsOf X.K []) := by unfold tgsOf; exact pgs_nil
theorem mgs_cons {e : Expr} {es : List Expr} {t : MT} {ts : List MT} (h1 : PG X e (tgOf X.K t)) (h2 : PGs X es (tgsOf X.K ts)) (hs : (assignEach (e :: es) X.env).map (·.2) = assign e X.env :: (assignEach es X.env).map (·.2) := by rfl) : PGs X (e :: es) (tgsOf X.K (t :: ts)) := by
  unfold tgsOf; exact pgs_cons h1 h2 hs
theorem mg_tp {es : List Expr} {k : Nat} {ts : List MT} {pos : Pos} (hc : X.calm = true) (h : PGs X es (tgsOf X.K ts)) (hn : (assignEach es X.env).length = ts.length := by rfl) (hst : (assignEach es X.env).findIdx? (·.1) = none := by rfl) : PG X (.Tuple es k pos) (tgOf X.K (.tp ts)) := by
  unfold tgOf; exact pg_tup hc h hn hst
theorem sm_set {i : Nat} {x : Str} {e : Expr} {m : ME} {pos pos' : Pos} (hN : X.N.Nodup) (hi : X.N[i]? = some x) (hx : Loc X.env.scope x) (he : PM X XR E e m) (hs : swapsWith e (some (.Name x pos')) pos.line X.env = pure false := by rfl) (hf : X.fn x = true ∨ X.env.scope.names.lookup x = some .local := by first | exact .inl rfl | exact .inr rfl | assumption) :
    PSM X XR E (.Assign [.Name x pos'] e pos) (sAsg (.nm i) m) :=
  PS.imp (ps_set hN hi hx he hs hf) fun D σ H h => by
    have := tasg_ok D σ H h
    unfold tgOf at this
    exact this
def SetM (K : PySem.W.Frag) (f : PV → PV → PV → MH → Option MH) (r : TSet) : Prop :=
  ∀ (av : List Addr) (H : Hp) (β : List Addr) (μ μ' : MH) (o i v : PV) (ox ix vx : V) (Q : Hp → Prop), Rl ⟨K, av⟩ H β μ → PRel ⟨K, av⟩ H β o ox → PRel ⟨K, av⟩ H β i ix → PRel ⟨K, av⟩ H β v vx → f o i v μ = some μ' → (∀ H', Ext H β H' β → Rl ⟨K, av⟩ H' β μ' → Q H') → r ox ix vx H Q
theorem sm_sub {o i e : Expr} {mo mi m : ME} {f : PV → PV → PV → MH → Option MH} {r : TSet} {pos spos : Pos} (he : PM X XR E e m) (hp : PG X (.Subscript o i pos) (gSub (tM X.K XR E mo) (tM X.K XR E mi) r)) (hf : SetM X.K f r)
    (hs1 : swapsWithSole [.Subscript o i pos] e spos.line X.env = pure false := by rfl) (hw : swappedStores [.Subscript o i pos] e X.env = pure none := by rfl)
    (h1 : (assignEach [.Subscript o i pos] X.env).map (·.2) = [assign (.Subscript o i pos) X.env] := by rfl) : PSM X XR E (.Assign [.Subscript o i pos] e spos) (sSub mo mi m f) :=
  PS.imp (ps_asg he hp hs1 hw h1) fun D σ H ⟨av, β, s, μ, rl, sr, h⟩ => by
    unfold tAsg gSub
    refine tm_s rl sr h fun v μ1 x H1 β1 _ ex1 rl1 sr1 p1 q1 => ?_
    refine tm_s rl1 sr1 q1 fun ov μ2 ox H2 β2 _ ex2 rl2 sr2 p2 q2 => ?_
    refine tm_s rl2 sr2 q2 fun iv μ3 ix H3 β3 _ ex3 rl3 sr3 p3 q3 => ?_
    cases e : f ov iv v μ3 with
    | none => rw [e] at q3; exact q3.elim
    | some μ4 =>
      rw [e] at q3
      exact hf _ H3 β3 μ3 μ4 ov iv v ox ix x _ rl3 (p2.ext ex3) p3 ((p1.ext ex2).ext ex3) e fun H' ex rl' => q3 σ H' β3 ex rl' (sr3.ext ex)
def IpM (K : PySem.W.Frag) (XR : XRel) (f : PV → PV → MH → R PV) (r : TIp) : Prop := OpM K XR f r
theorem sm_aug {i : Nat} {x : Str} {e : Expr} {m : ME} {op : Operator} {r : TIp} {f : PV → PV → MH → R PV} {pos pos' : Pos} (hN : X.N.Nodup) (hi : X.N[i]? = some x) (hx : Loc X.env.scope x) (he : PM X XR E e m) (ho : PIp X op r) (hop : OpM X.K XR f r)
    (hf : X.fn x = true ∨ X.env.scope.names.lookup x = some .local := by first | exact .inl rfl | exact .inr rfl | assumption) : PSM X XR E (.AugAssign (.Name x pos') op e pos) (sAug i m f) :=
  PS.imp (ps_aug hN hi hx he ho hf) fun D σ H ⟨av, β, s, μ, rl, sr, h⟩ => by
    unfold tAug
    unfold sAug at h
    split at h
    · rename_i v hv
      obtain ⟨y, e1, p0⟩ := sr.at_ i v hv
      refine ⟨y, e1, ?_⟩
      refine tm_s rl sr h fun w μ1 x H1 β1 _ ex1 rl1 sr1 p1 q1 => ?_
      refine hop av (E σ) H1 β1 μ1 v w y x _ rl1 (p0.ext ex1) p1 ?_
      cases e2 : f v w μ1 with
      | bad => rw [e2] at q1; exact q1
      | err c p μ' => rw [e2] at q1; exact fun cls d H' β' ex rl' xr => q1 cls d σ H' β' ex rl' (sr1.ext ex) xr
      | ok z μ2 =>
        rw [e2] at q1
        exact fun zx H2 β2 ex2 rl2 p2 => q1 _ H2 β2 ex2 rl2 ((sr1.ext ex2).set p2)
    · exact h.elim
theorem sm_par {i j : Nat} {tg : List Expr} {v : Expr} {m : MEs} {pos : Pos} (hp : PS X (.Assign tg v pos) (tPar i j (tMs X.K XR E m))) : PSM X XR E (.Assign tg v pos) (sPar i j m) :=
  PS.imp hp fun D σ H ⟨av, β, s, μ, rl, sr, h⟩ => by
    unfold tPar
    refine ⟨av, β, s, μ, rl, sr, ?_⟩
    unfold sPar at h
    cases e : m s μ with
    | bad => rw [e] at h; exact h
    | err c p μ' => rw [e] at h; exact fun cls d H' β' ex rl' xr => h cls d σ H' β' ex rl' (sr.ext ex) xr
    | ok vs μ1 =>
      rw [e] at h
      intro xs H' β' ex rl' p
      have q := SOutOk.ext ex h
      simp only [sBind] at q
      split at q
      · rename_i v w
        obtain ⟨y1, ys, rfl, r1, r2⟩ := p.inv
        obtain ⟨y2, ys2, rfl, r3, r4⟩ := r2.inv
        rw [PRels.nil_iff] at r4
        subst r4
        exact ⟨y1, y2, rfl, q _ H' β' .refl rl' (((sr.ext ex).set r1).set r3)⟩
      · exact q.elim

/-! ### while -/
def whileGo (c : MB) (b : MSt) : Nat → MSt
  | 0 => fun _ _ => .bad
  | n + 1 => fun s μ => sBind (c s μ) s fun k μ1 => if k then (match b s μ1 with
      | .nx s2 μ2 => whileGo c b n s2 μ2
      | .ct s2 μ2 => whileGo c b n s2 μ2
      | .bk s2 μ2 => .nx s2 μ2
      | r => r) else .nx s μ1
/-- the fuel of a while loop -/
@[irreducible] def bigN : Nat := 2 ^ 20000
def sWhile (c : MB) (b : MSt) : MSt := whileGo c b bigN
theorem sm_while {c : Expr} {body : List Stmt} {mc : MB} {mb : MSt} {pos : Pos} (hp : PassesOwn (model X.prog X.w) X.A X.env X.xe) (hc : PMb X XR E c mc) (hb : PSsM X XR E body mb) : PSM X XR E (.While c body [] pos) (sWhile mc mb) :=
  PS.imp (ps_while hp hc hb) fun D σ H h => by
    refine ⟨fun m σ H => tSM X.K XR E (whileGo mc mb m) D σ H, ⟨bigN, h⟩, ?_⟩
    rintro m σ H ⟨av, β, s, μ, rl, sr, h⟩
    cases m with
    | zero => exact h.elim
    | succ m =>
      unfold whileGo at h
      refine tmb_s rl sr h fun v μ' H' β' _ ex rl' sr' q => ?_
      cases v with
      | false => exact q σ H' β' .refl rl' sr'
      | true =>
        refine ⟨fun σ' H' => tSM X.K XR E (whileGo mc mb m) D σ' H', fun σ' H' w => ⟨m, Nat.lt_succ_self _, w⟩, ?_⟩
        refine ⟨av, β', s, μ', rl', sr', ?_⟩
        simp only [if_true] at q
        cases e : mb s μ' with
        | nx s2 μ2 => rw [e] at q; exact fun σ2 H2 β2 ex2 rl2 sr2 => ⟨av, β2, s2, μ2, rl2, sr2, SOutOk.ext ex2 q⟩
        | ct s2 μ2 => rw [e] at q; exact fun σ2 H2 β2 ex2 rl2 sr2 => ⟨av, β2, s2, μ2, rl2, sr2, SOutOk.ext ex2 q⟩
        | bk s2 μ2 => rw [e] at q; exact q
        | rt v μ2 => rw [e] at q; exact q
        | er c p s μ => rw [e] at q; exact q
        | bad => rw [e] at q; exact q

/-! ### what a loop walks -/
structure Plan where
  vals : List PV
  chk : MH → Bool
def PlanOk (K : Gx) (H0 : Hp) (β0 : List Addr) (p : Plan) (J : It) : Prop :=
  ∀ (av : List Addr), (∀ a ∈ av, a ∈ K.av ∨ H0 a = none) → ∀ (H : Hp) (β : List Addr) (μ : MH), ExtW av H0 β0 H β → Rl ⟨K.fr, av⟩ H β μ → p.chk μ = true → ∀ i, match p.vals[i]? with
    | some v => J.go i H ∧ ∀ x H', J.yld i H x H' → Ext H β H' β ∧ Rl ⟨K.fr, av⟩ H' β μ ∧ PRel ⟨K.fr, av⟩ H' β v x
    | none => J.stop i H
abbrev MI := MS → MH → R Plan
def IOutOk (K : Gx) (XR : XRel) (H : Hp) (β : List Addr) (E : XK) (Q : It → Hp → Prop) : R Plan → Prop
  | .ok p μ => ∀ J H' β', Ext H β H' β' → Rl K H' β' μ → PlanOk K H' β' p J → Q J H'
  | .err c p μ => ∀ cls d H' β', Ext H β H' β' → Rl K H' β' μ → XR c p cls d H' β' → E cls d H'
  | .bad => False
def tI (K : PySem.W.Frag) (XR : XRel) (E : L2.St → XK) (m : MI) : TI := fun σ H Q => ∃ av β s μ, Rl ⟨K, av⟩ H β μ ∧ SRel ⟨K, av⟩ H β s σ ∧ IOutOk ⟨K, av⟩ XR H β (E σ) Q (m s μ)
abbrev PIM (X : Cx) (XR : XRel) (E : L2.St → XK) (tg e : Expr) (m : MI) : Prop := PI X tg e (tI X.K XR E m)
theorem PI.imp {tg e : Expr} {t t' : TI} (h : PI X tg e t) (i : ∀ σ H Q, t' σ H Q → t σ H Q) : PI X tg e t' := ⟨fun pins s σ H Q I q => h.run pins s σ H Q I (i _ _ _ q)⟩
def forGo (chk : MH → Bool) (t : MT) (b : MSt) : List PV → MSt
  | [] => fun s μ => if chk μ then .nx s μ else .bad
  | v :: vs => fun s μ => if chk μ then (match bindT t v s with
      | none => .bad
      | some s1 => match b s1 μ with
        | .nx s2 μ2 => forGo chk t b vs s2 μ2
        | .ct s2 μ2 => forGo chk t b vs s2 μ2
        | .bk s2 μ2 => .nx s2 μ2
        | r => r) else .bad
def sFor (t : MT) (i : MI) (b : MSt) : MSt := fun s μ => sBind (i s μ) s fun p μ1 => forGo p.chk t b p.vals s μ1
theorem drop_get {α : Type} {l : List α} {i : Nat} {v : α} {vs : List α} (h : l.drop i = v :: vs) : l[i]? = some v ∧ l.drop (i + 1) = vs := by
  have h1 : (l.drop i)[0]? = some v := by rw [h]; rfl
  rw [List.getElem?_drop] at h1
  refine ⟨by simpa using h1, ?_⟩
  rw [← List.drop_drop, h]
  rfl
theorem sm_for {iter tg : Expr} {body : List Stmt} {t : MT} {mi : MI} {mb : MSt} {pos : Pos} (hp : PassesOwn (model X.prog X.w) X.A X.env X.xe) (hc : X.calm = true) (hi : PIM X XR E tg iter mi) (hg : PG X tg (tgOf X.K t)) (hb : PSsM X XR E body mb)
    (hs : ∀ x, foldedSetIterable iter X.env x = pure x := by intro _; rfl) : PSM X XR E (.For tg iter body [] pos) (sFor t mi mb) :=
  PS.imp (ps_for hp hc hi hg hb hs) fun D σ0 H0 ⟨av, β, s, μ, rl, sr, h⟩ => by
    refine ⟨av, β, s, μ, rl, sr, ?_⟩
    unfold sFor at h
    cases e : mi s μ with
    | bad => rw [e] at h; exact h
    | err c p μ' => rw [e] at h; exact fun cls d H' β' ex rl' xr => h cls d σ0 H' β' ex rl' (sr.ext ex) xr
    | ok p μ1 =>
      rw [e] at h
      intro J H1 β1 ex1 rl1 pl
      have h1 := SOutOk.ext ex1 h
      have sr1 := sr.ext ex1
      refine ⟨fun i m σ H => m = p.vals.length - i ∧ ∃ β s μ, Ext H1 β1 H β ∧ Rl ⟨X.K, av⟩ H β μ ∧ SRel ⟨X.K, av⟩ H β s σ ∧ SOutOk ⟨X.K, av⟩ XR H β E D (forGo p.chk t mb (p.vals.drop i) s μ), ⟨_, rfl, β1, s, μ1, .refl, rl1, sr1, h1⟩, ?_⟩
      rintro i m σ H ⟨rfl, β2, s2, μ2, ex2, rl2, sr2, h2⟩
      cases hd : p.vals.drop i with
      | nil =>
        rw [hd] at h2
        unfold forGo at h2
        split at h2
        · rename_i hk
          have q := pl av (fun a ha => .inl ha) H β2 μ2 ex2.toW rl2 hk i
          have hn : p.vals[i]? = none := by
            rw [List.getElem?_eq_none_iff]
            exact List.drop_eq_nil_iff.mp hd
          rw [hn] at q
          exact .inl ⟨q, h2 σ H β2 .refl rl2 sr2⟩
        · exact h2.elim
      | cons v vs =>
        rw [hd] at h2
        unfold forGo at h2
        obtain ⟨hv, hvs⟩ := drop_get hd
        have hlt : i < p.vals.length := (List.getElem?_eq_some_iff.mp hv).1
        split at h2
        · rename_i hk
          have q := pl av (fun a ha => .inl ha) H β2 μ2 ex2.toW rl2 hk i
          rw [hv] at q
          refine .inr ⟨q.1, fun σ' H' => ∃ β s μ, Ext H1 β1 H' β ∧ Rl ⟨X.K, av⟩ H' β μ ∧ SRel ⟨X.K, av⟩ H' β s σ' ∧ SOutOk ⟨X.K, av⟩ XR H' β E D (forGo p.chk t mb vs s μ), fun σ' H' ⟨b, s, m, a1, a2, a3, a4⟩ => ⟨p.vals.length - (i + 1), by omega, rfl, b, s, m, a1, a2, a3, by rw [hvs]; exact a4⟩, fun x H' y => ?_⟩
          obtain ⟨ex3, rl3, p3⟩ := q.2 x H' y
          have h3 := SOutOk.ext ex3 h2
          cases eb : bindT t v s2 with
          | none => rw [eb] at h3; exact h3.elim
          | some s3 =>
            rw [eb] at h3
            refine tg_ok t (sr2.ext ex3) p3 eb fun σ3 sr3 _ => ⟨av, β2, s3, μ2, rl3, sr3, ?_⟩
            simp only at h3
            cases em : mb s3 μ2 with
            | nx s4 μ4 => rw [em] at h3; exact fun σ' H' β' ex rl' sr' => ⟨β', s4, μ4, (ex2.trans ex3).trans ex, rl', sr', SOutOk.ext ex h3⟩
            | ct s4 μ4 => rw [em] at h3; exact fun σ' H' β' ex rl' sr' => ⟨β', s4, μ4, (ex2.trans ex3).trans ex, rl', sr', SOutOk.ext ex h3⟩
            | bk s4 μ4 => rw [em] at h3; exact h3
            | rt v μ2 => rw [em] at h3; exact h3
            | er c p s μ => rw [em] at h3; exact h3
            | bad => rw [em] at h3; exact h3
        · exact h2.elim
end
end Mini

/-! M4: comprehensions. -/
namespace Mini
open PySem L2

def wipeM (s : MS) : List Nat → MS
  | [] => s
  | v :: vs => (wipeM s vs).set v none
theorem SRel.wipe {K : Gx} {H : Hp} {β : List Addr} {s : MS} {σ : L2.St} (sr : SRel K H β s σ) : ∀ vs, SRel K H β (wipeM s vs) (wipe σ vs)
  | [] => sr
  | v :: vs => by
    have ih := SRel.wipe sr vs
    unfold wipeM L2.wipe
    refine ⟨by simp [ih.len], fun j w h => ?_⟩
    by_cases hj : v = j
    · subst hj
      have hl : v < (wipeM s vs).length := by
        obtain ⟨q, _⟩ := List.getElem?_eq_some_iff.mp h
        simpa using q
      rw [List.getElem?_set_self hl] at h
      cases h
    · rw [List.getElem?_set_ne hj] at h
      obtain ⟨y, e, q⟩ := ih.at_ j w h
      exact ⟨y, by rw [List.getElem?_set_ne hj]; exact e, q⟩
theorem wipe_get {σ : L2.St} {i : Nat} : ∀ {vs : List Nat}, i ∈ vs → i < σ.length → (wipe σ vs)[i]? = some none
  | v :: vs, h, hl => by
    unfold L2.wipe
    by_cases hv : v = i
    · subst hv
      rw [List.getElem?_set_self (by rw [wipe_length]; exact hl)]
    · rw [List.getElem?_set_ne hv]
      refine wipe_get ?_ hl
      rcases List.mem_cons.mp h with e | h
      · exact absurd e.symm hv
      · exact h
theorem wipe_of_same {σ σ' : L2.St} {is vs : List Nat} (h : Same0 is σ σ') (hs : ∀ i ∈ is, i ∈ vs) : wipe σ' vs = wipe σ vs := by
  apply List.ext_getElem?
  intro j
  by_cases hj : j ∈ vs
  · by_cases hl : j < σ.length
    · rw [wipe_get hj (by rw [← h.1]; exact hl), wipe_get hj hl]
    · rw [List.getElem?_eq_none (by rw [wipe_length, ← h.1]; omega), List.getElem?_eq_none (by rw [wipe_length]; omega)]
  · rw [wipe_out hj, wipe_out hj]
    exact h.2 j fun q => hj (hs j q)
theorem wipe_wipe {σ : L2.St} {vs : List Nat} : wipe (wipe σ vs) vs = wipe σ vs := by
  apply List.ext_getElem?
  intro j
  by_cases hj : j ∈ vs
  · by_cases hl : j < σ.length
    · rw [wipe_get hj (by rw [wipe_length]; exact hl), wipe_get hj hl]
    · rw [List.getElem?_eq_none (by rw [wipe_length, wipe_length]; omega), List.getElem?_eq_none (by rw [wipe_length]; omega)]
  · rw [wipe_out hj]

/-! ### comprehensions -/
/-- the turns of one clause: the items, the tests, what each turn appends -/
def compGo (chk : MH → Bool) (t : MT) (c : MB) (body : MS → MH → List PV → R (List PV)) (s : MS) : List PV → MH → List PV → R (List PV)
  | [], μ, acc => if chk μ then .ok acc μ else .bad
  | v :: vs, μ, acc => if chk μ then (match bindT t v s with
      | none => .bad
      | some s1 => (c s1 μ).bind fun k μ1 => if k then (body s1 μ1 acc).bind fun acc1 μ2 => compGo chk t c body s vs μ2 acc1 else compGo chk t c body s vs μ1 acc) else .bad
def noErr {α : Type} : R α → R α
  | .err _ _ _ => .bad
  | r => r
def oneElt (e : ME) : MS → MH → List PV → R (List PV) := fun s μ acc => (e s μ).bind fun v μ1 => if acc.length < sizeLine then .ok (acc ++ [v]) μ1 else .bad
/-- [e for t in i if c] as a frozen list -/
def mLc (vs : List Nat) (i : MI) (t : MT) (c : MB) (e : ME) : ME := fun s μ => (i s μ).bind fun p μ1 => (noErr (compGo p.chk t c (oneElt e) (wipeM s vs) p.vals μ1 [])).bind fun acc μ2 => .ok (.frl acc) μ2
def mLcL (vs : List Nat) (i : MI) (t : MT) (c : MB) (e : ME) : ME := fun s μ => (i s μ).bind fun p μ1 => (noErr (compGo p.chk t c (oneElt e) (wipeM s vs) p.vals μ1 [])).bind fun acc μ2 => .ok (.ref μ2.length) (μ2 ++ [.lst acc])
@[simp] def mbYes : MB := fun _ μ => .ok true μ
/-- two clauses -/
def twoElt (vs1 : List Nat) (i1 : MI) (t1 : MT) (c1 : MB) (e : ME) : MS → MH → List PV → R (List PV) := fun s1 μ2 acc => (i1 s1 μ2).bind fun p1 μ3 => compGo p1.chk t1 c1 (oneElt e) (wipeM s1 vs1) p1.vals μ3 acc
def mLc2 (vs vs1 : List Nat) (i : MI) (t : MT) (c : MB) (i1 : MI) (t1 : MT) (c1 : MB) (e : ME) : ME := fun s μ => (i s μ).bind fun p μ1 =>
  (noErr (compGo p.chk t c (twoElt vs1 i1 t1 c1 e) (wipeM s vs) p.vals μ1 [])).bind fun acc μ2 => .ok (.frl acc) μ2

section
variable {K : PySem.W.Frag} {av : List Addr} {XR : XRel} {D : Addr} {H H0 H1 H' : Hp} {β β0 β1 β' : List Addr} {μ : MH}
abbrev EF : L2.St → XK := fun _ _ _ _ => False
/-- D is written: no place, and in no value -/
theorem Ext.acc {u o : HO} (h : H D = some u) (e : Ext H0 β0 H β) (h0 : H0 D = none) : Ext H0 β0 (upd H D o) β :=
  ⟨e.pre, fun a w q hn' => by
    by_cases z : a = D
    · subst z; rw [h0] at q; cases q
    · rw [upd_ne z]; exact e.stay a w q hn', fun a q => by
    by_cases z : a = D
    · subst z; exact h0
    · rw [upd_ne z] at q; exact e.live a q⟩
theorem SqTf.acc {o : HO} {a : Addr} {xs : List V} (h : SqTf ⟨K, D :: av⟩ H β a xs) : SqTf ⟨K, D :: av⟩ (upd H D o) β a xs := by
  obtain ⟨h, n, na⟩ := h
  have : a ≠ D := fun e => na (by rw [e]; exact List.mem_cons_self)
  exact ⟨by rw [upd_ne this]; exact h, n, na⟩
theorem CT.acc {o : HO} {a : Addr} {xs : List V} (h : CT ⟨K, D :: av⟩ H β a xs) : CT ⟨K, D :: av⟩ (upd H D o) β a xs := by
  rcases h with ⟨⟨o, h, hc, hd⟩, n, na⟩ | h
  · have : a ≠ D := fun e => na (by rw [e]; exact List.mem_cons_self)
    exact .inl ⟨⟨o, by rw [upd_ne this]; exact h, hc, hd⟩, n, na⟩
  · exact .inr h
theorem SqLf.acc {o : HO} {a : Addr} {xs : List V} (h : SqLf ⟨K, D :: av⟩ H β a xs) : SqLf ⟨K, D :: av⟩ (upd H D o) β a xs := by
  rcases h with ⟨h, n, na⟩ | h
  · refine .inl ⟨?_, n, na⟩
    have : a ≠ D := fun e => na (by rw [e]; exact List.mem_cons_self)
    unfold Rd
    rw [upd_ne this]
    exact h
  · exact .inr h
mutual
theorem PRel.acc {o : HO} : ∀ (v : PV) {x : V}, PRel ⟨K, D :: av⟩ H β v x → PRel ⟨K, D :: av⟩ (upd H D o) β v x
  | .non, x, h => by unfold PRel at h ⊢; exact h
  | .bl b, x, h => by unfold PRel at h ⊢; exact h
  | .int i, x, h => by unfold PRel at h ⊢; exact h
  | .str s, x, h => by unfold PRel at h ⊢; exact h
  | .op v, x, h => by unfold PRel at h ⊢; exact h
  | .ref n, x, h => by unfold PRel at h ⊢; exact h
  | .tup xs, x, h => by
    unfold PRel at h ⊢
    obtain ⟨a, vs, e1, h1, h2⟩ := h
    exact ⟨a, vs, e1, h1.acc, PRels.acc xs h2⟩
  | .frl xs, x, h => by
    unfold PRel at h ⊢
    obtain ⟨a, vs, e1, ⟨h1, hn, na⟩, h2⟩ := h
    have : a ≠ D := fun e => na (by rw [e]; exact List.mem_cons_self)
    exact ⟨a, vs, e1, ⟨by rw [upd_ne this]; exact h1, hn, na⟩, PRels.acc xs h2⟩
  | .scr xs, x, h => by
    unfold PRel at h ⊢
    obtain ⟨a, vs, e1, h1, h2⟩ := h
    exact ⟨a, vs, e1, h1.acc, PRels.acc xs h2⟩
  | .ctp xs, x, h => by
    unfold PRel at h ⊢
    obtain ⟨a, vs, e1, h1, h2⟩ := h
    exact ⟨a, vs, e1, h1.acc, PRels.acc xs h2⟩
theorem PRels.acc {o : HO} : ∀ (v : List PV) {x : List V}, PRels ⟨K, D :: av⟩ H β v x → PRels ⟨K, D :: av⟩ (upd H D o) β v x
  | [], x, h => by unfold PRels at h ⊢; exact h
  | v :: vs, x, h => by
    unfold PRels at h ⊢
    obtain ⟨y, ys, e1, h1, h2⟩ := h
    exact ⟨y, ys, e1, PRel.acc v h1, PRels.acc vs h2⟩
end
theorem ORel.acc {o : HO} {a : Addr} {m : MO} (hn : a ≠ D) (h : ORel ⟨K, D :: av⟩ H β a m) : ORel ⟨K, D :: av⟩ (upd H D o) β a m := by
  cases m with
  | lst xs => obtain ⟨vs, z, q⟩ := h; exact ⟨vs, by rw [upd_ne hn]; exact z, PRels.acc _ q⟩
  | dK xs => obtain ⟨vs, z, q⟩ := h; exact ⟨vs, by rw [upd_ne hn]; exact z, q.1, PRels.acc _ q.2⟩
  | dT xs => obtain ⟨vs, z, q⟩ := h; exact ⟨vs, by rw [upd_ne hn]; exact z, q.1, PRels.acc _ q.2⟩
theorem Rl.acc {o : HO} (r : Rl ⟨K, D :: av⟩ H β μ) (hn : D ∉ β) : Rl ⟨K, D :: av⟩ (upd H D o) β μ :=
  ⟨r.len, r.nd, fun n a m h1 h2 => (r.obj n a m h1 h2).acc fun e => hn (by rw [← e]; exact List.mem_of_getElem? h1), fun a ha q => by
    by_cases z : a = D
    · rw [z, upd_same] at q; cases q
    · rw [upd_ne z] at q; exact r.avt a ha q⟩
theorem SRel.acc {o : HO} {s : MS} {σ : L2.St} (r : SRel ⟨K, D :: av⟩ H β s σ) : SRel ⟨K, D :: av⟩ (upd H D o) β s σ :=
  ⟨r.len, fun i v h => let ⟨x, e, p⟩ := r.at_ i v h; ⟨x, e, PRel.acc v p⟩⟩
-- more, fewer addresses to be avoided
mutual
theorem PRel.av_ {av' : List Addr} {β2 : List Addr} (hs : ∀ a, (H a ≠ none ∧ a ∉ β ∧ a ∉ av) → a ∉ β2 ∧ a ∉ av') (hβ : ∀ (n : Nat) (a : Addr), β[n]? = some a → β2[n]? = some a) : ∀ (v : PV) {x : V}, PRel ⟨K, av⟩ H β v x → PRel ⟨K, av'⟩ H β2 v x
  | .non, x, h => by unfold PRel at h ⊢; exact h
  | .bl b, x, h => by unfold PRel at h ⊢; exact h
  | .int i, x, h => by unfold PRel at h ⊢; exact h
  | .str s, x, h => by unfold PRel at h ⊢; exact h
  | .op v, x, h => by unfold PRel at h ⊢; exact h
  | .ref n, x, h => by unfold PRel at h ⊢; obtain ⟨a, e1, e2⟩ := h; exact ⟨a, e1, hβ n a e2⟩
  | .tup xs, x, h => by
    unfold PRel at h ⊢
    obtain ⟨a, vs, e1, ⟨h1, n, na⟩, h2⟩ := h
    exact ⟨a, vs, e1, ⟨h1, hs a ⟨(by rw [h1]; exact fun q => nomatch q), n, na⟩⟩, PRels.av_ hs hβ xs h2⟩
  | .ctp xs, x, h => by
    unfold PRel at h ⊢
    obtain ⟨a, vs, e1, h1, h2⟩ := h
    refine ⟨a, vs, e1, ?_, PRels.av_ hs hβ xs h2⟩
    rcases h1 with ⟨⟨o, h1, hc, hd⟩, n, na⟩ | h1
    · exact .inl ⟨⟨o, h1, hc, hd⟩, hs a ⟨(by rw [h1]; exact fun q => nomatch q), n, na⟩⟩
    · exact .inr h1
  | .frl xs, x, h => by
    unfold PRel at h ⊢
    obtain ⟨a, vs, e1, ⟨h1, hn, na⟩, h2⟩ := h
    exact ⟨a, vs, e1, ⟨h1, hs a ⟨(by rw [h1]; exact fun q => nomatch q), hn, na⟩⟩, PRels.av_ hs hβ xs h2⟩
  | .scr xs, x, h => by
    unfold PRel at h ⊢
    obtain ⟨a, vs, e1, h1, h2⟩ := h
    refine ⟨a, vs, e1, ?_, PRels.av_ hs hβ xs h2⟩
    rcases h1 with ⟨h1, n, na⟩ | h1
    · exact .inl ⟨h1, hs a ⟨Rd.some h1, n, na⟩⟩
    · exact .inr h1
theorem PRels.av_ {av' : List Addr} {β2 : List Addr} (hs : ∀ a, (H a ≠ none ∧ a ∉ β ∧ a ∉ av) → a ∉ β2 ∧ a ∉ av') (hβ : ∀ (n : Nat) (a : Addr), β[n]? = some a → β2[n]? = some a) : ∀ (v : List PV) {x : List V}, PRels ⟨K, av⟩ H β v x → PRels ⟨K, av'⟩ H β2 v x
  | [], x, h => by unfold PRels at h ⊢; exact h
  | v :: vs, x, h => by
    unfold PRels at h ⊢
    obtain ⟨y, ys, e1, h1, h2⟩ := h
    exact ⟨y, ys, e1, PRel.av_ hs hβ v h1, PRels.av_ hs hβ vs h2⟩
end
theorem ORel.av_ {av' : List Addr} {β2 : List Addr} (hs : ∀ a, (H a ≠ none ∧ a ∉ β ∧ a ∉ av) → a ∉ β2 ∧ a ∉ av') (hβ : ∀ (n : Nat) (a : Addr), β[n]? = some a → β2[n]? = some a) {a : Addr} {m : MO} (h : ORel ⟨K, av⟩ H β a m) : ORel ⟨K, av'⟩ H β2 a m := by
  cases m with
  | lst xs => obtain ⟨vs, z, q⟩ := h; exact ⟨vs, z, PRels.av_ hs hβ _ q⟩
  | dK xs => obtain ⟨vs, z, q⟩ := h; exact ⟨vs, z, q.1, PRels.av_ hs hβ _ q.2⟩
  | dT xs => obtain ⟨vs, z, q⟩ := h; exact ⟨vs, z, q.1, PRels.av_ hs hβ _ q.2⟩
theorem SRel.av_ {av' : List Addr} (hs : ∀ a, (H a ≠ none ∧ a ∉ β ∧ a ∉ av) → a ∉ β ∧ a ∉ av') {s : MS} {σ : L2.St} (r : SRel ⟨K, av⟩ H β s σ) : SRel ⟨K, av'⟩ H β s σ :=
  ⟨r.len, fun i v h => let ⟨x, e, p⟩ := r.at_ i v h; ⟨x, e, PRel.av_ hs (fun _ _ h => h) v p⟩⟩
theorem Rl.av_ {av' : List Addr} (hs : ∀ a, (H a ≠ none ∧ a ∉ β ∧ a ∉ av) → a ∉ β ∧ a ∉ av') (ht : ∀ a ∈ av', H a ≠ none) (r : Rl ⟨K, av⟩ H β μ) : Rl ⟨K, av'⟩ H β μ :=
  ⟨r.len, r.nd, fun n a m h1 h2 => (r.obj n a m h1 h2).av_ hs (fun _ _ h => h), ht⟩

/-- the outcome of the turns: D holds the list -/
def COk (K : PySem.W.Frag) (av : List Addr) (H1 : Hp) (β1 : List Addr) (D : Addr) (Qe : Hp → Prop) : R (List PV) → Prop
  | .ok acc μ => ∀ H' β' xs, Ext H1 β1 H' β' → Rl ⟨K, D :: av⟩ H' β' μ → H' D = some (.lst xs) → D ∉ β' → PRels ⟨K, D :: av⟩ H' β' acc xs → Qe H'
  | _ => False
/-- where the turns stand -/
structure CAt (K : PySem.W.Frag) (av : List Addr) (H1 : Hp) (β1 : List Addr) (D : Addr) (sw : MS) (σw : L2.St) (H : Hp) (β : List Addr) (μ : MH) (acc : List PV) : Prop where
  ext : Ext H1 β1 H β
  rl : Rl ⟨K, D :: av⟩ H β μ
  sr : SRel ⟨K, D :: av⟩ H β sw σw
  dn : D ∉ β
  dl : ∃ xs, H D = some (.lst xs) ∧ PRels ⟨K, D :: av⟩ H β acc xs
theorem CAt.step {sw : MS} {σw : L2.St} {acc : List PV} {μ' : MH} (c : CAt K av H1 β1 D sw σw H β μ acc) (e : Ext H β H' β') (r : Rl ⟨K, D :: av⟩ H' β' μ') : CAt K av H1 β1 D sw σw H' β' μ' acc := by
  obtain ⟨xs, h, p⟩ := c.dl
  exact ⟨c.ext.trans e, r, c.sr.ext e, e.mem (by rw [h]; exact fun q => nomatch q) c.dn, xs, e.stay _ _ h c.dn, PRels.ext e _ p⟩
theorem CAt.put {sw : MS} {σw : L2.St} {acc : List PV} {v : PV} {y : V} {xs : List V} (h0 : H1 D = none) (c : CAt K av H1 β1 D sw σw H β μ acc) (h : H D = some (.lst xs)) (p : PRel ⟨K, D :: av⟩ H β v y) : CAt K av H1 β1 D sw σw (upd H D (.lst (xs ++ [y]))) β μ (acc ++ [v]) := by
  obtain ⟨xs', h', q⟩ := c.dl
  rw [h] at h'; cases h'
  exact ⟨c.ext.acc h h0, c.rl.acc c.dn, c.sr.acc, c.dn, _, upd_same, (PRels.acc _ q).app (.cons (PRel.acc _ p) .nil)⟩
/-- a part of a turn that lets nothing out -/
theorem tm_c {m : ME} {α : Type} {k : PV → MH → R (List PV)} {σ : L2.St} {s : MS} {Q : VK} {Qe : Hp → Prop} (rl : Rl ⟨K, av⟩ H β μ) (sr : SRel ⟨K, av⟩ H β s σ) {H1 : Hp} {β1 : List Addr} {D : Addr} {av' : List Addr} (h : COk K av' H1 β1 D Qe ((m s μ).bind k))
    (q : ∀ v μ' x H' β', Ext H β H' β' → Rl ⟨K, av⟩ H' β' μ' → PRel ⟨K, av⟩ H' β' v x → COk K av' H1 β1 D Qe (k v μ') → Q x H') : tM K XR EF m σ H Q := by
  refine ⟨av, β, s, μ, rl, sr, ?_⟩
  cases e : m s μ with
  | bad => rw [e] at h; exact h
  | err c p μ' => rw [e] at h; exact h.elim
  | ok v μ' => rw [e] at h; exact fun x H' β' ex rl' pr => q v μ' x H' β' ex rl' pr h
theorem tmb_c {m : MB} {k : Bool → MH → R (List PV)} {σ : L2.St} {s : MS} {Q : Bool → Hp → Prop} {Qe : Hp → Prop} (rl : Rl ⟨K, av⟩ H β μ) (sr : SRel ⟨K, av⟩ H β s σ) {H1 : Hp} {β1 : List Addr} {D : Addr} {av' : List Addr} (h : COk K av' H1 β1 D Qe ((m s μ).bind k))
    (q : ∀ v μ' H' β', Ext H β H' β' → Rl ⟨K, av⟩ H' β' μ' → COk K av' H1 β1 D Qe (k v μ') → Q v H') : tMb K XR EF m σ H Q := by
  refine ⟨av, β, s, μ, rl, sr, ?_⟩
  cases e : m s μ with
  | bad => rw [e] at h; exact h
  | err c p μ' => rw [e] at h; exact h.elim
  | ok v μ' => rw [e] at h; exact fun H' β' ex rl' => q v μ' H' β' ex rl' h

theorem up_av (h0 : H1 D = none) : ∀ a, (H1 a ≠ none ∧ a ∉ β1 ∧ a ∉ av) → a ∉ β1 ∧ a ∉ D :: av := fun a ⟨h1, h2, h3⟩ => ⟨h2, fun q => by
  rcases List.mem_cons.mp q with e | q
  · subst e; exact h1 h0
  · exact h3 q⟩
theorem CAt.start {s : MS} {σ : L2.St} {μ1 : MH} (rl : Rl ⟨K, av⟩ H1 β1 μ1) (sr : SRel ⟨K, av⟩ H1 β1 s σ) (h0 : H1 D = none) (vs : List Nat) : CAt K av H1 β1 D (wipeM s vs) (wipe σ vs) (upd H1 D (.lst [])) β1 μ1 [] := by
  have hn := rl.notMem h0
  refine ⟨Ext.new rl h0 _, ⟨rl.len, rl.nd, fun n a m h1 h2 => ?_, fun a ha q => ?_⟩, ?_, hn, [], upd_same, .nil⟩
  · exact ((rl.obj n a m h1 h2).av_ (up_av h0) (fun _ _ h => h)).acc fun e => hn (by rw [← e]; exact List.mem_of_getElem? h1)
  · by_cases z : a = D
    · rw [z, upd_same] at q; cases q
    · rw [upd_ne z] at q
      rcases List.mem_cons.mp ha with e | ha
      · exact z e
      · exact rl.avt a ha q
  · exact ((sr.wipe vs).av_ (up_av h0)).acc
theorem CAt.fin {sw : MS} {σw : L2.St} {acc : List PV} {Qe : Hp → Prop} (c : CAt K av H1 β1 D sw σw H β μ acc) (h : COk K av H1 β1 D Qe (.ok acc μ)) : Qe H := by
  obtain ⟨xs, h1, p⟩ := c.dl
  exact h H β xs c.ext c.rl h1 c.dn p
end

section
variable {X : Cx} {XR : XRel} {E : L2.St → XK}
theorem noErr_ok {α : Type} {r : R α} {P : R α → Prop} (h : P (noErr r)) (hb : ¬ P .bad) : ∃ a μ, r = .ok a μ ∧ P (.ok a μ) := by
  cases r with
  | ok a μ => exact ⟨a, μ, rfl, h⟩
  | err c p μ => exact absurd h hb
  | bad => exact absurd h hb
/-- the tests of a clause -/
abbrev PTsM (X : Cx) (XR : XRel) (ifs : List Expr) (m : MB) : Prop := PTs X ifs (tMb X.K XR EF m)
theorem mts_nil : PTsM X XR [] mbYes := ⟨fun pins s σ H Q I ⟨av, β, sm, μ, rl, sr, h⟩ => pts_nil.run pins s σ H Q I (h H β .refl rl)⟩
theorem mts_one {c : Expr} {m : MB} (h : PMb X XR EF c m) : PTsM X XR [c] m := pts_one h
theorem lc_read {σ : L2.St} {H : Hp} {Q : VK} {av : List Addr} {β : List Addr} {s : MS} {μ : MH} {mi : MI} {t : MT} {mc : MB} {me : ME} {K : PySem.W.Frag} {vs : List Nat} (k : List PV → MH → R PV) (rl : Rl ⟨K, av⟩ H β μ) (sr : SRel ⟨K, av⟩ H β s σ) (hsl : ∀ i ∈ slotsT t, i ∈ vs)
    (h : OutOk ⟨K, av⟩ XR H β (E σ) Q ((mi s μ).bind fun p μ1 => (noErr (compGo p.chk t mc (oneElt me) (wipeM s vs) p.vals μ1 [])).bind k))
    (hk : ∀ acc μ2 H1 β1 D H' β' xs, H1 D = none → (∀ a ∈ av, H1 a ≠ none) → OutOk ⟨K, av⟩ XR H1 β1 (E σ) Q (k acc μ2) → Ext H1 β1 H' β' → Rl ⟨K, D :: av⟩ H' β' μ2 → H' D = some (.lst xs) → D ∉ β' → PRels ⟨K, D :: av⟩ H' β' acc xs → Q (.ref D) H') :
    tLc (tI K XR E mi) (tgOf K t) (tMb K XR EF mc) (tM K XR EF me) vs σ H Q := by
  unfold tLc
  refine ⟨av, β, s, μ, rl, sr, ?_⟩
  cases e : mi s μ with
  | bad => rw [e] at h; exact h
  | err c p μ' => rw [e] at h; exact h
  | ok p μ1 =>
    rw [e] at h
    intro J H1 β1 ex1 rl1 pl D hD
    have h1 := OutOk.ext ex1 h
    simp only [R.bind] at h1
    have hc1 : COk K av H1 β1 D (fun H' => Q (.ref D) H') (compGo p.chk t mc (oneElt me) (wipeM s vs) p.vals μ1 []) := by
      cases e2 : compGo p.chk t mc (oneElt me) (wipeM s vs) p.vals μ1 [] with
      | bad => rw [e2] at h1; exact h1
      | err c q μ' => rw [e2] at h1; exact h1
      | ok acc μ2 =>
        rw [e2] at h1
        exact fun H' β' xs a1 a2 a3 a4 a5 => hk acc μ2 H1 β1 D H' β' xs hD rl1.avt h1 a1 a2 a3 a4 a5
    refine ⟨fun i m H => m = p.vals.length - i ∧ ∃ β μ acc, CAt K av H1 β1 D (wipeM s vs) (wipe σ vs) H β μ acc ∧ COk K av H1 β1 D (fun H' => Q (.ref D) H') (compGo p.chk t mc (oneElt me) (wipeM s vs) (p.vals.drop i) μ acc),
      ⟨_, rfl, β1, μ1, [], CAt.start rl1 (sr.ext ex1) hD vs, hc1⟩, ?_⟩
    rintro i m H2 ⟨rfl, β2, μ2, acc, c, h2⟩
    have pl2 := pl (D :: av) (fun a ha => by
      rcases List.mem_cons.mp ha with e | ha
      · rw [e]; exact .inr hD
      · exact .inl ha) H2 β2 μ2 c.ext.toW c.rl
    cases hd : p.vals.drop i with
    | nil =>
      rw [hd] at h2
      unfold compGo at h2
      split at h2
      · rename_i hk1
        have q := pl2 hk1 i
        have hn : p.vals[i]? = none := by
          rw [List.getElem?_eq_none_iff]
          exact List.drop_eq_nil_iff.mp hd
        rw [hn] at q
        exact .inl ⟨q, c.fin h2⟩
      · exact h2.elim
    | cons v vals =>
      rw [hd] at h2
      unfold compGo at h2
      obtain ⟨hv, hvs⟩ := drop_get hd
      have hlt : i < p.vals.length := (List.getElem?_eq_some_iff.mp hv).1
      split at h2
      · rename_i hk1
        have q := pl2 hk1 i
        rw [hv] at q
        refine .inr ⟨q.1, fun H' => ∃ β μ acc, CAt K av H1 β1 D (wipeM s vs) (wipe σ vs) H' β μ acc ∧ COk K av H1 β1 D (fun H' => Q (.ref D) H') (compGo p.chk t mc (oneElt me) (wipeM s vs) vals μ acc), fun H' ⟨b, m, a, z1, z2⟩ => ⟨p.vals.length - (i + 1), by omega, rfl, b, m, a, z1, by rw [hvs]; exact z2⟩, fun x H3 y => ?_⟩
        obtain ⟨ex3, rl3, p3⟩ := q.2 x H3 y
        have c3 := c.step ex3 rl3
        cases eb : bindT t v (wipeM s vs) with
        | none => rw [eb] at h2; exact h2.elim
        | some s3 =>
          rw [eb] at h2
          refine tg_ok t c3.sr p3 eb fun σ3 sr3 sm3 => ⟨?_, ?_⟩
          · rw [wipe_of_same sm3 hsl, wipe_wipe]
          · refine tmb_c c3.rl sr3 h2 fun b μ4 H4 β4 ex4 rl4 h4 => ?_
            have c4 := c3.step ex4 rl4
            cases b with
            | false => exact ⟨β4, μ4, acc, c4, h4⟩
            | true =>
              simp only [if_true] at h4 ⊢
              have e6 : oneElt me s3 μ4 acc = (me s3 μ4).bind fun v μ1 => if acc.length < sizeLine then .ok (acc ++ [v]) μ1 else .bad := rfl
              rw [e6] at h4
              refine ⟨_, _, _, _, c4.rl, sr3.ext ex4, ?_⟩
              cases e5 : me s3 μ4 with
              | bad => rw [e5] at h4; exact h4.elim
              | err c p μ' => rw [e5] at h4; exact h4.elim
              | ok w μ5 =>
                rw [e5] at h4
                intro y5 H5 β5 ex5 rl5 p5
                have c5 := c4.step ex5 rl5
                by_cases hz : acc.length < sizeLine
                · simp only [R.bind, if_pos hz] at h4
                  obtain ⟨xs, hx, px⟩ := c5.dl
                  exact ⟨xs, hx, by rw [← px.length]; exact hz, β5, μ5, acc ++ [w], c5.put hD hx p5, h4⟩
                · simp only [R.bind, if_neg hz] at h4
                  exact h4.elim
      · exact h2.elim
theorem dn_av {K : PySem.W.Frag} {av : List Addr} {D : Addr} {H : Hp} {β : List Addr} : ∀ a, (H a ≠ none ∧ a ∉ β ∧ a ∉ D :: av) → a ∉ β ∧ a ∉ av := fun a ⟨_, h2, h3⟩ => ⟨h2, fun q => h3 (List.mem_cons_of_mem _ q)⟩
theorem k_frl {K : PySem.W.Frag} {av : List Addr} {E : XK} {Q : VK} : ∀ (acc : List PV) (μ2 : MH) (H1 : Hp) (β1 : List Addr) (D : Addr) (H' : Hp) (β' : List Addr) (xs : List V), H1 D = none → (∀ a ∈ av, H1 a ≠ none) → OutOk ⟨K, av⟩ XR H1 β1 E Q (.ok (.frl acc) μ2) →
    Ext H1 β1 H' β' → Rl ⟨K, D :: av⟩ H' β' μ2 → H' D = some (.lst xs) → D ∉ β' → PRels ⟨K, D :: av⟩ H' β' acc xs → Q (.ref D) H' := by
  intro acc μ2 H1 β1 D H' β' xs hD ht h ex rl hd hn p
  refine h _ H' β' ex (rl.av_ (dn_av (K := K)) fun a ha => rl.avt a (List.mem_cons_of_mem _ ha)) ?_
  unfold PRel
  exact ⟨D, xs, rfl, ⟨hd, hn, fun q => ht D q hD⟩, PRels.av_ (dn_av (K := K)) (fun _ _ h => h) _ p⟩
theorem k_lst {K : PySem.W.Frag} {av : List Addr} {E : XK} {Q : VK} : ∀ (acc : List PV) (μ2 : MH) (H1 : Hp) (β1 : List Addr) (D : Addr) (H' : Hp) (β' : List Addr) (xs : List V), H1 D = none → (∀ a ∈ av, H1 a ≠ none) → OutOk ⟨K, av⟩ XR H1 β1 E Q (.ok (.ref μ2.length) (μ2 ++ [.lst acc])) →
    Ext H1 β1 H' β' → Rl ⟨K, D :: av⟩ H' β' μ2 → H' D = some (.lst xs) → D ∉ β' → PRels ⟨K, D :: av⟩ H' β' acc xs → Q (.ref D) H' := by
  intro acc μ2 H1 β1 D H' β' xs hD ht h ex rl hd hn p
  have hs : ∀ a, (H' a ≠ none ∧ a ∉ β' ∧ a ∉ D :: av) → a ∉ β' ++ [D] ∧ a ∉ av := fun a ⟨_, h2, h3⟩ => ⟨fun q => by
    rcases List.mem_append.mp q with q | q
    · exact h2 q
    · simp at q; exact h3 (by rw [q]; exact List.mem_cons_self), fun q => h3 (List.mem_cons_of_mem _ q)⟩
  have hβ : ∀ (n : Nat) (a : Addr), β'[n]? = some a → (β' ++ [D])[n]? = some a := fun n a h => by
    rw [List.getElem?_append_left (List.getElem?_eq_some_iff.mp h).1]; exact h
  refine h _ H' (β' ++ [D]) ?_ ⟨by simp [rl.len], ?_, fun n a m h1 h2 => ?_, fun a ha => rl.avt a (List.mem_cons_of_mem _ ha)⟩ ?_
  · obtain ⟨nw, e1, f⟩ := ex.pre
    exact ⟨⟨nw ++ [D], by rw [e1, List.append_assoc], fun a ha => by
      rcases List.mem_append.mp ha with q | q
      · exact f a q
      · simp at q; rw [q]; exact hD⟩, ex.stay, ex.live⟩
  · rw [List.nodup_append]
    refine ⟨rl.nd, by simp, fun a ha b hb e => ?_⟩
    simp at hb; subst hb; subst e
    exact hn ha
  · by_cases hl : n < β'.length
    · rw [List.getElem?_append_left hl] at h1
      rw [List.getElem?_append_left (by rw [← rl.len]; exact hl)] at h2
      exact (rl.obj n a m h1 h2).av_ hs hβ
    · rw [List.getElem?_append_right (by omega)] at h1
      rw [List.getElem?_append_right (by rw [← rl.len]; omega)] at h2
      rw [← rl.len] at h2
      cases e : n - β'.length with
      | zero =>
        rw [e] at h1 h2
        simp at h1 h2
        subst h1; subst h2
        exact ⟨xs, hd, PRels.av_ hs hβ _ p⟩
      | succ k => rw [e] at h1; simp at h1
  · unfold PRel
    exact ⟨D, rfl, by rw [← rl.len]; simp⟩
section
variable {elt tg iter : Expr} {ifs : List Expr} {scope : Scope} {own : List (Str × Nat)} {pos : Pos} {mi : MI} {t : MT} {mc : MB} {me : ME}
theorem me_lc (hc : X.calm = true) (hN : X.N.Nodup) (hi : PIM X XR E tg iter mi) (ok : BlkOk X.N X.env.scope scope own) (hsl : ∀ i ∈ slotsT t, i ∈ own.map (·.2))
    (hg : ∀ (s : Shared) (H : Hp) (C : Addr) (cl : List (Str × Addr)) (fp : List Addr), PG (X.blk s H scope (compEnvC scope cl C X.env) fp) tg (tgOf X.K t))
    (ht : ∀ (s : Shared) (H : Hp) (C : Addr) (cl : List (Str × Addr)) (fp : List Addr), PTsM (X.blk s H scope (compEnvC scope cl C X.env) fp) XR ifs mc)
    (he : ∀ (s : Shared) (H : Hp) (C : Addr) (cl : List (Str × Addr)) (fp : List Addr), PM (X.blk s H scope (compEnvC scope cl C X.env) fp) XR EF elt me) (hs : ∀ x, foldedSetIterable iter X.env x = pure x := by intro _; rfl) :
    PM X XR E (.ListComp elt [⟨tg, iter, ifs, 0⟩] scope pos) (mLc (own.map (·.2)) mi t mc me) :=
  PE.imp (pe_lc hc hN hi ok hg ht he hs) fun σ H Q ⟨av, β, s, μ, rl, sr, h⟩ => lc_read (fun acc μ2 => .ok (.frl acc) μ2) rl sr hsl h k_frl
theorem me_lcL (hc : X.calm = true) (hN : X.N.Nodup) (hi : PIM X XR E tg iter mi) (ok : BlkOk X.N X.env.scope scope own) (hsl : ∀ i ∈ slotsT t, i ∈ own.map (·.2))
    (hg : ∀ (s : Shared) (H : Hp) (C : Addr) (cl : List (Str × Addr)) (fp : List Addr), PG (X.blk s H scope (compEnvC scope cl C X.env) fp) tg (tgOf X.K t))
    (ht : ∀ (s : Shared) (H : Hp) (C : Addr) (cl : List (Str × Addr)) (fp : List Addr), PTsM (X.blk s H scope (compEnvC scope cl C X.env) fp) XR ifs mc)
    (he : ∀ (s : Shared) (H : Hp) (C : Addr) (cl : List (Str × Addr)) (fp : List Addr), PM (X.blk s H scope (compEnvC scope cl C X.env) fp) XR EF elt me) (hs : ∀ x, foldedSetIterable iter X.env x = pure x := by intro _; rfl) :
    PM X XR E (.ListComp elt [⟨tg, iter, ifs, 0⟩] scope pos) (mLcL (own.map (·.2)) mi t mc me) :=
  PE.imp (pe_lc hc hN hi ok hg ht he hs) fun σ H Q ⟨av, β, s, μ, rl, sr, h⟩ => lc_read (mc := mc) (me := me) (fun acc μ2 => R.ok (PV.ref μ2.length) (μ2 ++ [MO.lst acc])) rl sr hsl h k_lst
/-- name = [..] on one line -/
theorem tlc_mono {K : PySem.W.Frag} {wi : TI} {g : TG} {tt : TT} {te : TE} {vs : List Nat} {σ : L2.St} {H : Hp} {Q Q' : VK} (hw : ∀ σ H (R R' : It → Hp → Prop), (∀ J H, R J H → R' J H) → wi σ H R → wi σ H R') (hq : ∀ v H, Q v H → Q' v H) (h : tLc wi g tt te vs σ H Q) : tLc wi g tt te vs σ H Q' :=
  hw σ H _ _ (fun J H1 f D hD => by
    obtain ⟨W, w0, turn⟩ := f D hD
    refine ⟨W, w0, fun i m H w => ?_⟩
    rcases turn i m H w with ⟨a, b⟩ | z
    · exact .inl ⟨a, hq _ _ b⟩
    · exact .inr z) h
theorem sm_setLc {i : Nat} {y : Str} {py spos : Pos} (hc : X.calm = true) (hN : X.N.Nodup) (hy : X.N[i]? = some y) (hyl : X.env.scope.names.lookup y = some .local)
    (hsw : swapsWith (.ListComp elt [⟨tg, iter, ifs, 0⟩] scope pos) (some (.Name y py)) spos.line X.env = pure true) (hi : PIM X XR E tg iter mi) (ok : BlkOk X.N X.env.scope scope own) (hsl : ∀ i ∈ slotsT t, i ∈ own.map (·.2))
    (hg : ∀ (s : Shared) (H : Hp) (C : Addr) (cl : List (Str × Addr)) (fp : List Addr), PG (X.blk s H scope (compEnvC scope cl C X.env) fp) tg (tgOf X.K t))
    (ht : ∀ (s : Shared) (H : Hp) (C : Addr) (cl : List (Str × Addr)) (fp : List Addr), PTsM (X.blk s H scope (compEnvC scope cl C X.env) fp) XR ifs mc)
    (he : ∀ (s : Shared) (H : Hp) (C : Addr) (cl : List (Str × Addr)) (fp : List Addr), PM (X.blk s H scope (compEnvC scope cl C X.env) fp) XR EF elt me) (hs : ∀ x, foldedSetIterable iter X.env x = pure x := by intro _; rfl) :
    PSM X XR E (.Assign [.Name y py] (.ListComp elt [⟨tg, iter, ifs, 0⟩] scope pos) spos) (sAsg (.nm i) (mLc (own.map (·.2)) mi t mc me)) :=
  PS.imp (ps_setLc hc hN hy hyl hsw hi ok hg ht he hs) fun D σ H h => by
    have h1 := tasg_ok D σ H h
    unfold tgOf tAsg at h1
    obtain ⟨av, β, s, μ, rl, sr, h2⟩ := h1
    exact lc_read (fun acc μ2 => .ok (.frl acc) μ2) rl sr hsl h2 k_frl
theorem sm_setLcL {i : Nat} {y : Str} {py spos : Pos} (hc : X.calm = true) (hN : X.N.Nodup) (hy : X.N[i]? = some y) (hyl : X.env.scope.names.lookup y = some .local)
    (hsw : swapsWith (.ListComp elt [⟨tg, iter, ifs, 0⟩] scope pos) (some (.Name y py)) spos.line X.env = pure true) (hi : PIM X XR E tg iter mi) (ok : BlkOk X.N X.env.scope scope own) (hsl : ∀ i ∈ slotsT t, i ∈ own.map (·.2))
    (hg : ∀ (s : Shared) (H : Hp) (C : Addr) (cl : List (Str × Addr)) (fp : List Addr), PG (X.blk s H scope (compEnvC scope cl C X.env) fp) tg (tgOf X.K t))
    (ht : ∀ (s : Shared) (H : Hp) (C : Addr) (cl : List (Str × Addr)) (fp : List Addr), PTsM (X.blk s H scope (compEnvC scope cl C X.env) fp) XR ifs mc)
    (he : ∀ (s : Shared) (H : Hp) (C : Addr) (cl : List (Str × Addr)) (fp : List Addr), PM (X.blk s H scope (compEnvC scope cl C X.env) fp) XR EF elt me) (hs : ∀ x, foldedSetIterable iter X.env x = pure x := by intro _; rfl) :
    PSM X XR E (.Assign [.Name y py] (.ListComp elt [⟨tg, iter, ifs, 0⟩] scope pos) spos) (sAsg (.nm i) (mLcL (own.map (·.2)) mi t mc me)) :=
  PS.imp (ps_setLc hc hN hy hyl hsw hi ok hg ht he hs) fun D σ H h => by
    have h1 := tasg_ok D σ H h
    unfold tgOf tAsg at h1
    obtain ⟨av, β, s, μ, rl, sr, h2⟩ := h1
    exact lc_read (mc := mc) (me := me) (fun acc μ2 => R.ok (PV.ref μ2.length) (μ2 ++ [MO.lst acc])) rl sr hsl h2 k_lst
end
end
end Mini

/-! M5: defs, calls of defs, what a def is worth to its callers. -/
namespace Mini
open PySem PySem.Spec PyProof.Rows L2
abbrev MF := List PV → MH → R PV
/-- what a def promises -/
def spM (K : PySem.W.Frag) (XR : XRel) (f : MF) : Sp := fun vs H Q E => ∃ av β μ args, Rl ⟨K, av⟩ H β μ ∧ PRels ⟨K, av⟩ H β args vs ∧ OutOk ⟨K, av⟩ XR H β E Q (f args μ)
def mDef (np nn : Nat) (body : MSt) : MF := fun args μ => if args.length = np then (match body (args.map some ++ List.replicate (nn - np) none) μ with
  | .nx _ μ1 => .ok .non μ1
  | .rt v μ1 => .ok v μ1
  | .er c p _ μ1 => .err c p μ1
  | _ => .bad) else .bad
theorem start_rel {K : Gx} {H : Hp} {β : List Addr} : ∀ {args : List PV} {vs : List V}, PRels K H β args vs → ∀ n, SRel K H β (args.map some ++ List.replicate n none) (vs.map some ++ List.replicate n none)
  | args, vs, h, n => by
    refine ⟨by simp [h.length], fun i v e => ?_⟩
    by_cases hi : i < args.length
    · rw [List.getElem?_append_left (by simpa using hi), List.getElem?_map] at e
      cases e2 : args[i]? with
      | none => rw [e2] at e; cases e
      | some w =>
        rw [e2] at e
        simp at e
        subst e
        obtain ⟨y, e3, p⟩ := h.get e2
        refine ⟨y, ?_, p⟩
        rw [List.getElem?_append_left (by rw [List.length_map, ← h.length]; exact hi), List.getElem?_map, e3]
        rfl
    · rw [List.getElem?_append_right (by simpa using hi), List.getElem?_replicate] at e
      split at e <;> cases e
/-! ### defs: as FnOk, where nothing within a repr calls them -/
def Bare (A : Around) : Prop := A.guards = some []
structure FnG (P : Program) (w : World) (K : PySem.W.Frag) (mg : Str → Option Value) (base : Heap) (k : Nat) (f : Addr) (fd : FuncData) (ps : List Str) (sp : Sp) : Prop where
  arity : ∀ vs H Q E, sp vs H Q E → vs.length = ps.length
  go : ∀ (A : Around) (above : List Env) (z : Shared) (H : Hp) (args : Args) (us : List Value) (vs : List V) (Q : VK) (E : XK), Room k A → Bare A → Env0 P w K mg base A above z H →
    BindsTo z fd args (ps.zip us) → Vals vs us → sp vs H Q E → codeAny (model P w) A (.call (.ref f) args) (CR (L2.CX P w) above P w H z Q E) z
theorem FnG.imp {P : Program} {w : World} {K : PySem.W.Frag} {mg : Str → Option Value} {base : Heap} {k : Nat} {f : Addr} {fd : FuncData} {ps : List Str} {sp sp' : Sp} (F : FnG P w K mg base k f fd ps sp)
    (i : ∀ vs H Q E, sp' vs H Q E → sp vs H Q E) : FnG P w K mg base k f fd ps sp' :=
  ⟨fun vs H Q E q => F.arity vs H Q E (i _ _ _ _ q), fun A above z H args us vs Q E r g e b v q => F.go A above z H args us vs Q E r g e b v (i _ _ _ _ q)⟩
/-- a body's end, told to the caller -/
theorem told_end {P : Program} {w : World} {K : PySem.W.Frag} {mg : Str → Option Value} {base : Heap} {N : List Str} {qual : Str} {scope : Scope} {f : Addr} {cd : Value} {A : Around} {above : List Env} {z z' : Shared} {H H' : Hp} {E : XK} {Q : VK} {σ : L2.St} {v : V} {u : Value}
    (J : Inv (cxOf (L2.CX P w) P w K mg base N qual scope f cd A above z H E) [] σ H' z') (r : RelV v u) (q : Q v H') : CR (L2.CX P w) above P w H z Q E (.ok (.ret u)) z' :=
  ⟨v, H', J.os, J.bare, J.base, J.hok, r, q⟩
/-- a def's body, in a calm frame: the library's entry of a call, Att.call_fn -/
theorem fnG_calm {P : Program} {w : World} {K : PySem.W.Frag} {mg : Str → Option Value} {base : Heap} {k : Nat} {f : Addr} {nm qual : Str} {params : Arguments} {body : List Stmt} {scope : Scope} {dV kV doc pm cdv ct oc : Value} {an od : Option Addr} {osl : Array (Option Value)} {N ps : List Str} {sp : Sp}
    (look : K.lookup f = some ⟨oc, od, .func (PySem.W.fnOf nm qual params body scope dV kV doc pm an cdv ct), osl⟩) (code : PySem.W.codeIn K cdv qual = true) (S : FnScope N ps scope) (ar : ∀ vs H Q E, sp vs H Q E → vs.length = ps.length)
    (bd : ∀ (A : Around) (above : List Env) (z : Shared) (H : Hp) (vs : List V) (Q : VK) (E : XK), Room k (A.deeper (envOfC qual scope z.heap.objs.size f cdv)) → Bare (A.deeper (envOfC qual scope z.heap.objs.size f cdv)) → sp vs H Q E →
      ∃ t, PSs (cxOf (L2.CX P w) P w K mg base N qual scope f cdv A above z H E) body t ∧ t { nx := fun _ H' => Q .non H', rt := Q } (L2.start N vs) H) :
    FnG P w K mg base (k + 1) f (PySem.W.fnOf nm qual params body scope dV kV doc pm an cdv ct) ps sp where
  arity := ar
  go A above z H args us vs Q E room bare env bnd rv hs := by
    have up : ∀ b o, base.get? b = some o → z.heap.get? b = some o := fun b o q => (env.bs b o q).1
    obtain ⟨t, run, rd⟩ := bd A above z H vs Q E (room.deeper _) bare hs
    apply Att.call_fn (env.mod.kin.keeps up) (env.mod.nolimit.keeps up) look code room.depth bnd _ (fun z1 x => _) S.co S.gen S.kind
    · rw [List.all_eq_true]
      intro y hy
      have par := S.par y.1 (List.of_mem_zip hy).1
      simp only [Bool.or_eq_true, beq_iff_eq]
      exact par
    · intro z1 x
      have start := inv_start (CX := L2.CX P w) (E := E) S room.hd env (ar _ _ _ _ hs) rv x
      apply wpAny_mono (run.run [] z1 _ H _ start rd)
      · rintro (_ | _ | _ | u) z' q
        · obtain ⟨_, _, J, q⟩ := q
          exact told_end (v := .non) (u := .none) J rfl q
        · obtain ⟨_, _, _, no⟩ := q; exact no.elim
        · obtain ⟨_, _, _, no⟩ := q; exact no.elim
        · obtain ⟨_, _, _, J, r, q⟩ := q
          exact told_end J r q
      · exact fun _ _ q => q
/-- a def that stands where callers can call it -/
structure DefOk (P : Program) (w : World) (K : PySem.W.Frag) (mg : Str → Option Value) (base : Heap) (x : Str) (k : Nat) (sp : Sp) : Prop where
  ex : ∃ (f : Addr) (fd : FuncData) (ps : List Str), mg x = some (.ref f) ∧ PySem.W.keepIn K (.ref f) = true ∧ Binds K fd ps [] ∧ FnG P w K mg base k f fd ps sp
theorem DefOk.imp {P : Program} {w : World} {K : PySem.W.Frag} {mg : Str → Option Value} {base : Heap} {x : Str} {k : Nat} {sp sp' : Sp} (D : DefOk P w K mg base x k sp) (i : ∀ vs H Q E, sp' vs H Q E → sp vs H Q E) : DefOk P w K mg base x k sp' := by
  obtain ⟨f, fd, ps, a, b, c, F⟩ := D.ex
  exact ⟨f, fd, ps, a, b, c, F.imp i⟩
/-- room for k calls, and no repr around -/
structure RoomG (k : Nat) (A : Around) : Prop where
  room : Room k A
  bare : Bare A
theorem RoomG.mono {j k : Nat} {A : Around} (r : RoomG k A) (h : j ≤ k) : RoomG j A := ⟨r.room.mono h, r.bare⟩
section
variable {K : PySem.W.Frag} {XR : XRel} {np : Nat} {N : List Str} {body : MSt} {vs : List V} {H : Hp} {Q : VK} {E : XK}
theorem mDef_num (h : spM K XR (mDef np N.length body) vs H Q E) : vs.length = np := by
  obtain ⟨av, β, μ, args, rl, pr, h⟩ := h
  by_cases e : args.length = np
  · exact pr.length ▸ e
  · unfold mDef at h; rw [if_neg e] at h; exact h.elim
/-- a def's worth, seen from its body -/
theorem mDef_run (h : spM K XR (mDef np N.length body) vs H Q E) : tSM K XR (fun _ => E) body { nx := fun _ H' => Q .non H', rt := Q } (L2.start N vs) H := by
  have num := mDef_num h
  obtain ⟨av, β, μ, args, rl, pr, h⟩ := h
  have e : args.length = np := by rw [pr.length]; exact num
  unfold mDef at h
  rw [if_pos e] at h
  refine ⟨av, β, args.map some ++ List.replicate (N.length - np) none, μ, rl, ?_, ?_⟩
  · show SRel _ _ _ _ (vs.map some ++ List.replicate (N.length - vs.length) none)
    rw [num]
    exact start_rel pr _
  · revert h
    cases body (args.map some ++ List.replicate (N.length - np) none) μ <;> intro h
    all_goals first
      | exact h
      | exact h.elim
      | exact fun σ' H' β' ex rl' _ => h _ H' β' ex rl' .non_
      | exact fun c d σ' H' β' ex rl' _ xr => h c d H' β' ex rl' xr
end
/-- a def's promise, from its text and its body's mini -/
theorem def_fnG {P : Program} {w : World} {K : PySem.W.Frag} {mg : Str → Option Value} {base : Heap} {x qual : Str} {st : Stmt} {f : Addr} {fd : FuncData} {N ps : List Str} {k : Nat} {XR : XRel} {body : MSt} (F : Fun K x qual st f fd) (S : FnScope N ps (defScope st))
    (hb : ∀ (cdv : Value) (A : Around) (outer : List Env) (s : Shared) (H : Hp) (E : XK), RoomG k (cxOf (L2.CX P w) P w K mg base N qual (defScope st) f cdv A outer s H E).A →
      PSsM (cxOf (L2.CX P w) P w K mg base N qual (defScope st) f cdv A outer s H E) XR (fun _ => E) (defBody st) body) : FnG P w K mg base (k + 1) f fd ps (spM K XR (mDef ps.length N.length body)) := by
  obtain ⟨_, _, _, _, _, _, cdv, _, _, rfl, look, code⟩ := F.ex
  exact fnG_calm look code S (fun _ _ _ _ => mDef_num) fun A above z H vs Q E room bare h => ⟨_, hb cdv A above z H E ⟨room, bare⟩, mDef_run h⟩
/-- THE RULE for a def -/
theorem def_ok {P : Program} {w : World} {K : PySem.W.Frag} {mg : Str → Option Value} {base : Heap} {x qual : Str} {st : Stmt} {f : Addr} {fd : FuncData} {N ps : List Str} {k : Nat} {XR : XRel} {body : MSt} (hm : mg x = some (.ref f)) (F : Fun K x qual st f fd) (S : FnScope N ps (defScope st)) (B : Binds K fd ps [])
    (hb : ∀ (cdv : Value) (A : Around) (outer : List Env) (s : Shared) (H : Hp) (E : XK), RoomG k (cxOf (L2.CX P w) P w K mg base N qual (defScope st) f cdv A outer s H E).A →
      PSsM (cxOf (L2.CX P w) P w K mg base N qual (defScope st) f cdv A outer s H E) XR (fun _ => E) (defBody st) body) : DefOk P w K mg base x (k + 1) (spM K XR (mDef ps.length N.length body)) :=
  ⟨f, fd, ps, hm, F.kp, B, def_fnG F S hb⟩

section
variable {X : Cx} {XR : XRel} {E : L2.St → XK} {k j : Nat} {x : Str} {p pos : Pos} {e : Expr} {es : List Expr} {f : MF} {m : MEs}
/-- a call of a def whose promise is known, the arguments at hand -/
theorem go_call {pins : List (Addr × Obj)} {σ : L2.St} {z : Shared} {H : Hp} {Q : VK} {fa : Addr} {fd : FuncData} {ps : List Str} {us : List Value} {vs : List V} {sp : Sp} (F : FnG X.prog X.w X.K X.mg X.base k fa fd ps sp) (B : Binds X.K fd ps []) (hr : RoomG k X.A) (hx : PassesAt (L2.CX X.prog X.w) X σ (E σ))
    (I : Inv X pins σ H z) (r : Vals vs us) (q : sp vs H Q (E σ)) : wpAny (model X.prog X.w) X.A (call (.ref fa) us) (EP X pins σ Q) X.xe z := by
  have num : us.length = ps.length := r.length ▸ F.arity _ _ _ _ q
  have B' : BindsTo z fd ⟨us, []⟩ (ps.zip us) := by
    have b := B z us I.kIn
    simp only [List.append_nil] at b
    exact b num
  apply wpAny_call
  apply codeAny_mono (F.go X.A X.stack z H _ us vs Q (E σ) hr.room hr.bare I.env0 B' r q)
  rintro (e | (_ | _ | _ | u)) z' c
  · exact hx pins H z e z' I c
  all_goals first
    | exact I.after c
    | exact c.elim
theorem FnG.mono {P : Program} {w : World} {K : PySem.W.Frag} {mg : Str → Option Value} {base : Heap} {fa : Addr} {fd : FuncData} {ps : List Str} {sp : Sp} (F : FnG P w K mg base k fa fd ps sp) (h : k ≤ j) : FnG P w K mg base j fa fd ps sp :=
  ⟨F.arity, fun A above z H args us vs Q E room => F.go A above z H args us vs Q E (room.mono h)⟩
theorem me_call (F : DefOk X.prog X.w X.K X.mg X.base x k (spM X.K XR f)) (hr : RoomG j X.A) (hk : k ≤ j) (hg : Gl X x) (hx : ∀ σ, PassesAt (L2.CX X.prog X.w) X σ (E σ)) (ha : PMs X XR E (e :: es) m)
    (hdb : (x == ("__debug__" : Str)) = false := by decide) (he : starEach (e :: es) X.env = (false, eval e X.env) :: starEach es X.env := by rfl) (hpl : (backTo pos (starEach es X.env)).any (·.1) = false := by rfl) :
    PM X XR E (.Call (.Name x p) (e :: es) [] pos) (mCallP f m) where
  run pins z σ H Q I h := by
    obtain ⟨fa, fd, ps, hm, hkp, hb, F⟩ := F.ex
    obtain ⟨av, β, s, μ, rl, sr, h⟩ := h
    have got := ha.run pos pins z σ H (fun vs H1 => spM X.K XR f vs H1 Q (E σ)) I
      (tms_e rl sr h fun v μ' y H' β' _ _ rl' _ p q => ⟨av, β', μ', v, rl', p, q⟩)
    apply wpAny_Call_Name_kw
    apply ld_glob I hg hm _ hdb
    apply PySem.W.callWith_K (h₀ := X.base) I.ok.mod.kin hkp _ he hpl
    apply thn got
    rintro us z1 ⟨vs, H1, I1, r, q⟩
    exact ⟨I1.kIn, go_call (F.mono hk) hb hr (hx σ) I1 r q⟩
theorem at_def {P : Program} {w : World} {K : PySem.W.Frag} {mg : Str → Option Value} {base : Heap} {N : List Str} {qual : Str} {scope : Scope} {f : Addr} {cd : Value} {A : Around} {outer : List Env} {s : Shared} {H : Hp} {E : XK} : ∀ σ, PassesAt (L2.CX P w) (cxOf (L2.CX P w) P w K mg base N qual scope f cd A outer s H E) σ E :=
  fun σ pins H1 s1 e s2 I c => passes_call (takes_of rfl rfl rfl rfl) (fun _ _ _ _ h => h) pins σ H1 s1 e s2 I c
theorem at_blk {X : Cx} : ∀ σ, PassesAt (L2.CX X.prog X.w) X σ (EF σ) := fun σ pins H1 s1 e s2 I c => passL pins σ H1 s1 e s2 I c
theorem own_def {P : Program} {w : World} {K : PySem.W.Frag} {mg : Str → Option Value} {base : Heap} {N : List Str} {qual : Str} {scope : Scope} {f : Addr} {cd : Value} {A : Around} {outer : List Env} {s : Shared} {H : Hp} {E : XK} :
    PassesOwn (model P w) (cxOf (L2.CX P w) P w K mg base N qual scope f cd A outer s H E).A (cxOf (L2.CX P w) P w K mg base N qual scope f cd A outer s H E).env (cxOf (L2.CX P w) P w K mg base N qual scope f cd A outer s H E).xe := passes_of rfl
end

/-! ### a def's worth, said otherwise -/
mutual
def PV.lo (n : Nat) : PV → Bool
  | .ref k => decide (k < n)
  | .tup xs => PV.los n xs
  | .frl xs => PV.los n xs
  | .scr xs => PV.los n xs
  | .ctp xs => PV.los n xs
  | _ => true
def PV.los (n : Nat) : List PV → Bool
  | [] => true
  | x :: xs => x.lo n && PV.los n xs
end
def MO.lo (n : Nat) : MO → Bool
  | .lst xs => PV.los n xs
  | .dK kvs => PV.los n (kvs.map (·.2))
  | .dT kvs => PV.los n (kvs.map (·.2))
section
variable {K : Gx} {H : Hp} {β β' : List Addr} {n : Nat}
mutual
theorem PRel.lo_ : ∀ (v : PV) {x : V}, PRel K H β v x → v.lo β.length = true
  | .non, x, h => by unfold PV.lo; rfl
  | .bl b, x, h => by unfold PV.lo; rfl
  | .int i, x, h => by unfold PV.lo; rfl
  | .str s, x, h => by unfold PV.lo; rfl
  | .op v, x, h => by unfold PV.lo; rfl
  | .ref n, x, h => by
    unfold PRel at h
    obtain ⟨a, e1, e2⟩ := h
    unfold PV.lo
    exact decide_eq_true (List.getElem?_eq_some_iff.mp e2).1
  | .tup xs, x, h => by
    unfold PRel at h
    obtain ⟨a, vs, e1, h1, h2⟩ := h
    unfold PV.lo
    exact PRels.lo_ xs h2
  | .frl xs, x, h => by
    unfold PRel at h
    obtain ⟨a, vs, e1, h1, h2⟩ := h
    unfold PV.lo
    exact PRels.lo_ xs h2
  | .scr xs, x, h => by
    unfold PRel at h
    obtain ⟨a, vs, e1, h1, h2⟩ := h
    unfold PV.lo
    exact PRels.lo_ xs h2
  | .ctp xs, x, h => by
    unfold PRel at h
    obtain ⟨a, vs, e1, h1, h2⟩ := h
    unfold PV.lo
    exact PRels.lo_ xs h2
theorem PRels.lo_ : ∀ (v : List PV) {x : List V}, PRels K H β v x → PV.los β.length v = true
  | [], x, h => by unfold PV.los; rfl
  | v :: vs, x, h => by
    unfold PRels at h
    obtain ⟨y, ys, e1, h1, h2⟩ := h
    unfold PV.los
    rw [PRel.lo_ v h1, PRels.lo_ vs h2]
    rfl
end
mutual
theorem PV.lo_mono {m : Nat} (h : n ≤ m) : ∀ (v : PV), v.lo n = true → v.lo m = true
  | .non, _ => by unfold PV.lo; rfl
  | .bl b, _ => by unfold PV.lo; rfl
  | .int i, _ => by unfold PV.lo; rfl
  | .str s, _ => by unfold PV.lo; rfl
  | .op v, _ => by unfold PV.lo; rfl
  | .ref k, q => by unfold PV.lo at q ⊢; have := of_decide_eq_true q; exact decide_eq_true (by omega)
  | .tup xs, q => by unfold PV.lo at q ⊢; exact PV.los_mono h xs q
  | .frl xs, q => by unfold PV.lo at q ⊢; exact PV.los_mono h xs q
  | .scr xs, q => by unfold PV.lo at q ⊢; exact PV.los_mono h xs q
  | .ctp xs, q => by unfold PV.lo at q ⊢; exact PV.los_mono h xs q
theorem PV.los_mono {m : Nat} (h : n ≤ m) : ∀ (v : List PV), PV.los n v = true → PV.los m v = true
  | [], _ => by unfold PV.los; rfl
  | v :: vs, q => by
    unfold PV.los at q ⊢
    rw [Bool.and_eq_true] at q
    rw [PV.lo_mono h v q.1, PV.los_mono h vs q.2]
    rfl
end
theorem not_take {a : Addr} (h : a ∉ β) : a ∉ β.take n := fun q => h (List.mem_of_mem_take q)
theorem SqTf.take_ {a : Addr} {xs : List V} (h : SqTf K H β a xs) : SqTf K H (β.take n) a xs := ⟨h.1, not_take h.2.1, h.2.2⟩
theorem CT.take_ {a : Addr} {xs : List V} (h : CT K H β a xs) : CT K H (β.take n) a xs := by
  rcases h with ⟨h, h1, h2⟩ | h
  · exact .inl ⟨h, not_take h1, h2⟩
  · exact .inr h
theorem SqLf.take_ {a : Addr} {xs : List V} (h : SqLf K H β a xs) : SqLf K H (β.take n) a xs := by
  rcases h with ⟨h, h1, h2⟩ | h
  · exact .inl ⟨h, not_take h1, h2⟩
  · exact .inr h
mutual
theorem PRel.take_ : ∀ (v : PV) {x : V}, PRel K H β v x → v.lo n = true → PRel K H (β.take n) v x
  | .non, x, h, _ => by unfold PRel at h ⊢; exact h
  | .bl b, x, h, _ => by unfold PRel at h ⊢; exact h
  | .int i, x, h, _ => by unfold PRel at h ⊢; exact h
  | .str s, x, h, _ => by unfold PRel at h ⊢; exact h
  | .op v, x, h, _ => by unfold PRel at h ⊢; exact h
  | .ref k, x, h, q => by
    unfold PRel at h ⊢
    obtain ⟨a, e1, e2⟩ := h
    unfold PV.lo at q
    exact ⟨a, e1, by rw [List.getElem?_take, if_pos (of_decide_eq_true q)]; exact e2⟩
  | .tup xs, x, h, q => by
    unfold PRel at h ⊢
    obtain ⟨a, vs, e1, h1, h2⟩ := h
    unfold PV.lo at q
    exact ⟨a, vs, e1, h1.take_, PRels.take_ xs h2 q⟩
  | .frl xs, x, h, q => by
    unfold PRel at h ⊢
    obtain ⟨a, vs, e1, ⟨h1, hn, na⟩, h2⟩ := h
    unfold PV.lo at q
    exact ⟨a, vs, e1, ⟨h1, not_take hn, na⟩, PRels.take_ xs h2 q⟩
  | .scr xs, x, h, q => by
    unfold PRel at h ⊢
    obtain ⟨a, vs, e1, h1, h2⟩ := h
    unfold PV.lo at q
    exact ⟨a, vs, e1, h1.take_, PRels.take_ xs h2 q⟩
  | .ctp xs, x, h, q => by
    unfold PRel at h ⊢
    obtain ⟨a, vs, e1, h1, h2⟩ := h
    unfold PV.lo at q
    exact ⟨a, vs, e1, h1.take_, PRels.take_ xs h2 q⟩
theorem PRels.take_ : ∀ (v : List PV) {x : List V}, PRels K H β v x → PV.los n v = true → PRels K H (β.take n) v x
  | [], x, h, _ => by unfold PRels at h ⊢; exact h
  | v :: vs, x, h, q => by
    unfold PRels at h ⊢
    obtain ⟨y, ys, e1, h1, h2⟩ := h
    unfold PV.los at q
    rw [Bool.and_eq_true] at q
    exact ⟨y, ys, e1, PRel.take_ v h1 q.1, PRels.take_ vs h2 q.2⟩
end
theorem ORel.take_ {a : Addr} {o : MO} (h : ORel K H β a o) (q : o.lo n = true) : ORel K H (β.take n) a o := by
  cases o with
  | lst xs => obtain ⟨vs, z, p⟩ := h; exact ⟨vs, z, PRels.take_ _ p q⟩
  | dK xs => obtain ⟨vs, z, p⟩ := h; exact ⟨vs, z, p.1, PRels.take_ _ p.2 q⟩
  | dT xs => obtain ⟨vs, z, p⟩ := h; exact ⟨vs, z, p.1, PRels.take_ _ p.2 q⟩
theorem ORel.lo_ {a : Addr} {o : MO} (h : ORel K H β a o) : o.lo β.length = true := by
  cases o with
  | lst xs => obtain ⟨vs, z, p⟩ := h; exact PRels.lo_ _ p
  | dK xs => obtain ⟨vs, z, p⟩ := h; exact PRels.lo_ _ p.2
  | dT xs => obtain ⟨vs, z, p⟩ := h; exact PRels.lo_ _ p.2
theorem MO.lo_mono {m : Nat} (h : n ≤ m) {o : MO} (q : o.lo n = true) : o.lo m = true := by
  cases o with
  | lst xs => exact PV.los_mono h _ q
  | dK xs => exact PV.los_mono h _ q
  | dT xs => exact PV.los_mono h _ q
end
/-- a result told to the callers: as it is, or a new list frozen -/
def Fz (n : Nat) (ν : MH) (v0 v : PV) : Prop := (v = v0 ∧ v0.lo n = true) ∨ ∃ k xs, v0 = .ref k ∧ n ≤ k ∧ ν[k]? = some (.lst xs) ∧ PV.los n xs = true ∧ v = .frl xs
/-- f' is f, with what is left over dropped -/
structure Drops (μ μ1 junk : MH) : Prop where
  le : μ.length ≤ μ1.length
  old : ∀ (i : Nat) (o : MO), μ1[i]? = some o → μ[i]? = some o ∨ o.lo μ1.length = true
def Ref (f' f : MF) : Prop := ∀ args μ, match f' args μ with
  | .bad => True
  | .ok v μ1 => ∃ junk v0, f args μ = .ok v0 (μ1 ++ junk) ∧ Drops μ μ1 junk ∧ Fz μ1.length (μ1 ++ junk) v0 v
  | .err c p μ1 => ∃ junk, f args μ = .err c p (μ1 ++ junk) ∧ Drops μ μ1 junk ∧ PV.los μ1.length p = true
structure XROk (XR : XRel) : Prop where
  take : ∀ c p cls d H β n, XR c p cls d H β → PV.los n p = true → XR c p cls d H (β.take n)
theorem Drops.ok {K : Gx} {H H' : Hp} {β β' : List Addr} {μ μ1 junk : MH} (d : Drops μ μ1 junk) (rl : Rl K H β μ) (ex : Ext H β H' β') (rl' : Rl K H' β' (μ1 ++ junk)) : Ext H β H' (β'.take μ1.length) ∧ Rl K H' (β'.take μ1.length) μ1 := by
  have hle := d.le
  have hl' : β'.length = μ1.length + junk.length := by rw [rl'.len, List.length_append]
  constructor
  · obtain ⟨nw, e1, f⟩ := ex.pre
    refine ⟨⟨nw.take (μ1.length - β.length), ?_, fun a ha => f a (List.mem_of_mem_take ha)⟩, ex.stay, ex.live⟩
    rw [e1, List.take_append, List.take_of_length_le (by rw [rl.len]; exact hle)]
  · refine ⟨by rw [List.length_take, hl']; omega, List.Nodup.sublist (List.take_sublist _ _) rl'.nd, fun n a o h1 h2 => ?_, rl'.avt⟩
    have hn : n < μ1.length := (List.getElem?_eq_some_iff.mp h2).1
    rw [List.getElem?_take, if_pos hn] at h1
    have q := rl'.obj n a o h1 (by rw [List.getElem?_append_left hn]; exact h2)
    refine q.take_ ?_
    rcases d.old n o h2 with z | z
    · obtain ⟨b, hb, ob⟩ := rl.at_ z
      exact MO.lo_mono (by rw [rl.len]; exact hle) ob.lo_
    · exact z
theorem spM_ref {K : PySem.W.Frag} {XR : XRel} {f f' : MF} (xo : XROk XR) (r : Ref f' f) (vs : List V) (H : Hp) (Q : VK) (E : XK) (h : spM K XR f' vs H Q E) : spM K XR f vs H Q E := by
  obtain ⟨av, β, μ, args, rl, pr, h⟩ := h
  refine ⟨av, β, μ, args, rl, pr, ?_⟩
  have q := r args μ
  cases e : f' args μ with
  | bad => rw [e] at h; exact h.elim
  | ok v μ1 =>
    rw [e] at h q
    obtain ⟨junk, v0, e0, d, fz⟩ := q
    rw [e0]
    intro x H' β' ex rl' p
    obtain ⟨ex1, rl1⟩ := d.ok rl ex rl'
    refine h x H' _ ex1 rl1 ?_
    rcases fz with ⟨rfl, hb⟩ | ⟨k, xs, rfl, hk, hx, hb, rfl⟩
    · exact p.take_ _ hb
    · unfold PRel at p ⊢
      obtain ⟨a, e1, e2⟩ := p
      have ob := rl'.obj k a _ e2 hx
      obtain ⟨ws, z, w⟩ := ob
      refine ⟨a, ws, e1, ⟨z, fun hm => ?_, fun hm => ?_⟩, PRels.take_ _ w hb⟩
      · obtain ⟨j, hj, ej⟩ := List.mem_iff_getElem.mp hm
        rw [List.length_take] at hj
        rw [List.getElem_take] at ej
        obtain ⟨hk2, ek⟩ := List.getElem?_eq_some_iff.mp e2
        have := (List.getElem_inj rl'.nd).mp (ej.trans ek.symm)
        omega
      · obtain ⟨nw, e3, f⟩ := ex.pre
        obtain ⟨hk2, ek⟩ := List.getElem?_eq_some_iff.mp e2
        have hle := d.le
        rw [e3, List.getElem?_append_right (by rw [rl.len]; omega)] at e2
        exact rl.avt a hm (f a (List.mem_of_getElem? e2))
  | err c pp μ1 =>
    rw [e] at h q
    obtain ⟨junk, e0, d, hb⟩ := q
    rw [e0]
    intro cls dd H' β' ex rl' p
    obtain ⟨ex1, rl1⟩ := d.ok rl ex rl'
    exact h cls dd H' _ ex1 rl1 (xo.take _ _ _ _ _ _ _ p hb)
end Mini

/-! M6: a law's end over FnG: what is tracked of the script at the call (scrH), and the end (walkG). -/
namespace Mini
open PySem PySem.Spec PyProof.Rows L2
/-- a law's script: a list of integers at a -/
structure Scr (z : Shared) (a : Addr) (vals : List Value) (ns : List Int) : Prop where
  at_ : z.heap.get? a = some { cls := .type "list", data := .seq vals.toArray }
  whole : IntsAre vals ns
  short : ns.length ≤ sizeLine
def scrO (vals : List Value) (ns : List Int) : HO := .frz { cls := .type "list", data := .seq vals.toArray } (.lst (ns.map V.int))
/-- the script is tracked, unless the part of the heap that is known holds it -/
noncomputable def scrH (K : PySem.W.Frag) (a : Addr) (vals : List Value) (ns : List Int) : Hp := fun b => if a = b ∧ (K.lookup a).isNone = true then some (scrO vals ns) else none
section
variable {K : PySem.W.Frag} {a b : Addr} {vals : List Value} {ns : List Int} {z : Shared} {P : Program} {w : World} {mg mb : Str → Option Value}
theorem scrH_cases : scrH K a vals ns b = none ∨ (a = b ∧ K.lookup a = none ∧ scrH K a vals ns b = some (scrO vals ns)) := by
  by_cases c : a = b ∧ (K.lookup a).isNone = true
  · exact .inr ⟨c.1, by simpa using c.2, if_pos c⟩
  · exact .inl (if_neg c)
theorem scrH_only : Only (scrH K a vals ns) := fun b => by
  rcases scrH_cases (K := K) (a := a) (b := b) (vals := vals) (ns := ns) with e | ⟨_, _, e⟩
  · exact .inl e
  · exact .inr ⟨_, _, e⟩
theorem scrH_sq (S : Scr z a vals ns) (kz : K.In z.heap) : SqL K (scrH K a vals ns) a (ns.map V.int) := by
  cases e : K.lookup a with
  | none => exact .inl (.inr ⟨_, show scrH K a vals ns a = some (scrO vals ns) from if_pos ⟨rfl, by simp [e]⟩⟩)
  | some o =>
    have same : o = { cls := .type "list", data := .seq vals.toArray } := Option.some.inj ((kz a o e).symm.trans S.at_)
    subst same
    exact .inr ⟨_, vals.toArray, _, e, rfl, rfl, rfl, by simp only [List.size_toArray, S.whole.length]; exact S.short, by simpa using L2.vals_ints S.whole⟩
theorem scrH_hok (S : Scr z a vals ns) : HOk P w (scrH K a vals ns) z.heap := fun b u e => by
  rcases scrH_cases (K := K) (a := a) (b := b) (vals := vals) (ns := ns) with n | ⟨rfl, _, y⟩
  · rw [n] at e; cases e
  · rw [y] at e
    cases e
    exact ⟨S.at_, by simpa using S.short, vals, _, L2.vals_ints S.whole, S.at_⟩
/-- what is no list stays in sight when the script is tracked -/
theorem scrH_sees (S : Scr z a vals ns) {o : Obj} (e : z.heap.get? b = some o) (h : ∀ xs n, o.data ≠ .seq xs n) : (hidT z.heap (scrH K a vals ns)).get? b = some o := by
  refine hidT_get e ?_
  rcases scrH_cases (K := K) (a := a) (b := b) (vals := vals) (ns := ns) with n | ⟨rfl, _, _⟩
  · exact n
  · rw [S.at_] at e
    cases e
    exact (h _ _ rfl).elim
theorem scrH_ns (S : Scr z a vals ns) {m : Str → Option Value} (n : z.heap.Ns b m) : (hidT z.heap (scrH K a vals ns)).Ns b m := by
  obtain ⟨o, es, ep, e, d, r⟩ := n
  exact ⟨o, es, ep, scrH_sees S e (fun xs k q => by rw [d] at q; cases q), d, r⟩
theorem scrH_in (kz : K.In z.heap) : K.In (hidT z.heap (scrH K a vals ns)) := fun b o e => hidT_get (kz b o e) <| by
  rcases scrH_cases (K := K) (a := a) (b := b) (vals := vals) (ns := ns) with n | ⟨rfl, y, _⟩
  · exact n
  · rw [y] at e; cases e
theorem scrH_env (S : Scr z a vals ns) (kz : K.In z.heap) (gl : z.heap.Ns mainGlobals mg) (bl : z.heap.Ns builtinsNs mb) (bb : ∀ y : Str, y ≠ "__name__" → mb y = bootBuiltins y) (nl : z.heap.NoLimit) (gn : z.gens = #[]) :
    Env0 P w K mg (hidT z.heap (scrH K a vals ns)) callerA [] z (scrH K a vals ns) where
  frames := rfl
  mod := ⟨scrH_in kz, scrH_ns S gl, ⟨mb, scrH_ns S bl, bb⟩, nl.elim fun mc h => ⟨mc, scrH_ns S h.1, h.2⟩⟩
  bs := fun _ _ => of_hidT
  bsz := Nat.le_of_eq (hidT_size _ _)
  funs := trivial
  frf := fun _ h => nomatch h
  hok := scrH_hok S
  bare := .of_eq gn
/-- nothing old has changed behind the call: the script is frozen, the rest was not tracked -/
theorem scrH_old {H' : Hp} {z' : Shared} (un : Un (frs []) [] (scrH K a vals ns) H' z.heap z'.heap) (hk : HOk P w (scrH K a vals ns) z.heap) (hk' : HOk P w H' z'.heap) : OldK z.heap z'.heap := .of_keep fun b o e => by
  rcases scrH_cases (K := K) (a := a) (b := b) (vals := vals) (ns := ns) with n | ⟨_, _, y⟩
  · exact un.keep b o e n (fun t => by cases t) fun t => by cases t
  · have now := (hk' b _ (un.frzs b _ _ y)).1
    have then_ := (hk b _ y).1
    rw [e] at then_
    rw [now, Option.some.inj then_]
/-- the script's worth -/
theorem scr_rel (S : Scr z a vals ns) (kz : K.In z.heap) : PRel ⟨K, []⟩ (scrH K a vals ns) [] (.scr (ns.map PV.int)) (.ref a) := by
  have each : ∀ ms : List Int, PRels ⟨K, []⟩ (scrH K a vals ns) [] (ms.map PV.int) (ms.map V.int) := fun ms => by
    induction ms with
    | nil => exact .nil
    | cons m ms ih => exact .cons .int_ ih
  unfold PRel
  refine ⟨a, ns.map V.int, rfl, ?_, each ns⟩
  exact (scrH_sq S kz).imp (fun q => ⟨q, by simp, by simp⟩) id
end
/-- the goal that k_head leaves, from the worth of the law's def -/
theorem walkG {l : PySem.W.OpenLaw} {n k : Nat} {q : Program} {loose : List Str} {XP : (Str → Option Value) → Heap → Prop} {YP : World → Heap → Prop} {d : DefRec} {K : Params → PySem.W.Frag} {x : Str} {XR : World → (Str → Option Value) → XRel} {f : MF}
    (most : l.most = some n) (sz : n ≤ sizeLine) (nod : d.params.defaults = []) (room : Room k callerA) (kin : ∀ (w : World) (h : Heap), YP w h → (K w.params).In h)
    (F : ∀ (w : World) (mg : Str → Option Value) (fa : Addr) (h : Heap), (K w.params).In h → h.Ns mainGlobals mg → mg d.name = some (.ref fa) →
      ∃ fd : FuncData, (∀ (s : Shared) (u : Value), BindsTo s fd ⟨[u], []⟩ [(x, u)]) ∧
        ∀ base : Heap, (K w.params).In base → base.Ns mainGlobals mg → FnG l.prog w (K w.params) mg base k fa fd [x] (spM (K w.params) (XR w mg) f))
    (val : ∀ ns : List Int, ns.length ≤ n → ∃ μ, f [.scr (ns.map PV.int)] [] = .ok (.bl true) μ) : PySem.W.WalkO q loose XP YP l.row.toRowW d [] (fun f vs => PySem.call f vs) := by
  apply Att.attach_call most nod
  intro w s₀ z mg mb fa o pm cd doc a vals ns G Y ho hd hcd hmg hobj hints hlen hg
  have S : Scr z a vals ns := ⟨hobj, hints, Nat.le_trans hlen sz⟩
  have kz := kin w _ Y
  obtain ⟨fd, bnd, hF⟩ := F w mg fa _ kz G.T.g hmg
  obtain ⟨μ, hv⟩ := val ns hlen
  have env := scrH_env (P := l.prog) (w := w) S kz G.T.g G.T.b G.T.builtins G.T.nolimit hg
  have told : spM (K w.params) (XR w mg) f [.ref a] (scrH (K w.params) a vals ns) (fun v _ => v = .bl true) (fun _ _ _ => False) := by
    refine ⟨[], [], [], [.scr (ns.map PV.int)], ⟨rfl, List.nodup_nil, by simp, by simp⟩, .cons (scr_rel S kz) .nil, ?_⟩
    rw [hv]
    intro y _ _ _ _ p
    unfold PRel at p
    exact p
  have run := (hF _ env.mod.kin (scrH_ns S G.T.g)).go callerA [] z _ ⟨[.ref a], []⟩ [.ref a] [.ref a] _ _ room rfl env (bnd z (.ref a)) (.cons rfl .nil) told
  apply codeAny_mono run
  rintro (e | (_ | _ | _ | u)) z' c
  · obtain ⟨_, _, _, _, _, _, _, _, _, _, _, _, no⟩ := c
    exact no.elim
  · exact c.elim
  · exact c.elim
  · exact c.elim
  · obtain ⟨v, H', os, bare, un, hok', rv, rfl⟩ := c
    have : u = .bool true := rv
    subst this
    exact ⟨rfl, scrH_old un env.hok hok', os, bare⟩
end Mini

/-! M7: operations by values. -/
namespace Mini
open PySem PySem.Spec PyProof.Rows L2

/-! ### reading lists and tuples -/
def lstM : PV → MH → Option (List PV)
  | .frl xs, _ => some xs
  | .ref n, μ => match μ[n]? with
    | some (.lst xs) => some xs
    | _ => none
  | _, _ => none
def lstR : PV → MH → Option (List PV)
  | .scr xs, _ => some xs
  | v, μ => lstM v μ
section
variable {K : Gx} {H : Hp} {β : List Addr} {μ : MH}
theorem lstM_ok {v : PV} {xs : List PV} {x : V} (rl : Rl K H β μ) (p : PRel K H β v x) (h : lstM v μ = some xs) : ∃ a vs, x = .ref a ∧ H a = some (.lst vs) ∧ PRels K H β xs vs := by
  unfold lstM at h
  split at h
  · cases h
    unfold PRel at p
    obtain ⟨a, vs, e, ⟨h1, _⟩, h2⟩ := p
    exact ⟨a, vs, e, h1, h2⟩
  · split at h
    · rename_i n _ _ e
      cases h
      unfold PRel at p
      obtain ⟨a, e1, e2⟩ := p
      obtain ⟨vs, h1, h2⟩ := rl.obj _ a _ e2 e
      exact ⟨a, vs, e1, h1, h2⟩
    · cases h
  · cases h
theorem lstR_ok {v : PV} {xs : List PV} {x : V} (rl : Rl K H β μ) (p : PRel K H β v x) (h : lstR v μ = some xs) : ∃ a vs, x = .ref a ∧ SqL K.fr H a vs ∧ PRels K H β xs vs := by
  unfold lstR at h
  split at h
  · cases h
    unfold PRel at p
    obtain ⟨a, vs, e, h1, h2⟩ := p
    exact ⟨a, vs, e, h1.sq, h2⟩
  · obtain ⟨a, vs, e, h1, h2⟩ := lstM_ok rl p h
    exact ⟨a, vs, e, SqL.of h1, h2⟩
theorem int_inv {i : Int} {x : V} (p : PRel K H β (.int i) x) : x = .int i := by unfold PRel at p; exact p
theorem str_inv {i : Str} {x : V} (p : PRel K H β (.str i) x) : x = .str i := by unfold PRel at p; exact p
theorem non_inv {x : V} (p : PRel K H β .non x) : x = .non := by unfold PRel at p; exact p
/-- a new tuple, a new frozen list at hand -/
theorem new_tup {E : XK} {Q : VK} {XR : XRel} {ws : List PV} {vs : List V} (rl : Rl K H β μ) (p : PRels K H β ws vs) (h : OutOk K XR H β E Q (.ok (.tup ws) μ)) : ∀ a, H a = none → Q (.ref a) (upd H a (.tup vs)) := fun a ha => by
  refine h _ _ β (Ext.new rl ha _) (rl.new ha _) ?_
  unfold PRel
  exact ⟨a, vs, rfl, ⟨upd_same, rl.fresh ha⟩, PRels.ext (Ext.new rl ha _) _ p⟩
theorem new_frl {E : XK} {Q : VK} {XR : XRel} {ws : List PV} {vs : List V} (rl : Rl K H β μ) (p : PRels K H β ws vs) (h : OutOk K XR H β E Q (.ok (.frl ws) μ)) : ∀ a, H a = none → Q (.ref a) (upd H a (.lst vs)) := fun a ha => by
  refine h _ _ β (Ext.new rl ha _) (rl.new ha _) ?_
  unfold PRel
  exact ⟨a, vs, rfl, ⟨upd_same, rl.fresh ha⟩, PRels.ext (Ext.new rl ha _) _ p⟩
theorem new_lst {E : XK} {Q : VK} {XR : XRel} {ws : List PV} {vs : List V} (rl : Rl K H β μ) (p : PRels K H β ws vs) (h : OutOk K XR H β E Q (.ok (.ref μ.length) (μ ++ [.lst ws]))) : ∀ a, H a = none → Q (.ref a) (upd H a (.lst vs)) := fun a ha =>
  h _ _ (β ++ [a]) (Ext.place rl ha _) (rl.place ha ⟨vs, upd_same, PRels.ext (Ext.place rl ha _) _ p⟩) (PRel.place rl)
end

/-! ### arithmetic -/
def fAdd : PV → PV → MH → R PV
  | .int i, .int j, μ => .ok (.int (i + j)) μ
  | .str a, .str b, μ => if a.length + b.length ≤ sizeLine then .ok (.str (a ++ b)) μ else .bad
  | .tup xs, .tup ys, μ => if xs.length + ys.length ≤ sizeLine then .ok (.tup (xs ++ ys)) μ else .bad
  | v, w, μ => match lstM v μ, lstM w μ with
    | some xs, some ys => if xs.length + ys.length ≤ sizeLine then .ok (.frl (xs ++ ys)) μ else .bad
    | _, _ => .bad
def rAddA (K : PySem.W.Frag) : R2 := fun x y H Q => rI0 (fun i j => .int (i + j)) x y H Q ∨ (∃ i j, x = .str i ∧ y = .str j ∧ i.length + j.length ≤ sizeLine ∧ Q (.str (i ++ j)) H) ∨ rCatA K x y H Q ∨ rCat x y H Q
@[simp] def fSub : PV → PV → MH → R PV
  | .int i, .int j, μ => .ok (.int (i - j)) μ
  | _, _, _ => .bad
def okMul (i j : Int) : Bool := decide (i.natAbs.log2 + j.natAbs.log2 < 1000000)
def fMul : PV → PV → MH → R PV
  | .int i, .int j, μ => if okMul i j then .ok (.int (i * j)) μ else .bad
  | _, _, _ => .bad
def fFdiv : PV → PV → MH → R PV
  | .int i, .int j, μ => if 0 < j ∧ j.natAbs.log2 < 9000 then .ok (.int (i / j)) μ else .bad
  | _, _, _ => .bad
def fMod : PV → PV → MH → R PV
  | .int i, .int j, μ => if j ≠ 0 then .ok (.int (i.fmod j)) μ else .bad
  | _, _, _ => .bad
def fPow : PV → PV → MH → R PV
  | .int i, .int j, μ => if 0 ≤ j ∧ j ≤ 1000000 ∧ i.natAbs < 2 ^ 64 then .ok (.int (i ^ j.toNat)) μ else .bad
  | _, _, _ => .bad
@[simp] def fNeg : PV → MH → R PV
  | .int i, μ => .ok (.int (-i)) μ
  | _, _ => .bad
def fLt : PV → PV → MH → R PV
  | .int i, .int j, μ => .ok (.bl (decide (i < j))) μ
  | .str a, .str b, μ => .ok (.bl (decide (a.cps.toList < b.cps.toList))) μ
  | _, _, _ => .bad
@[simp] def fLe : PV → PV → MH → R PV
  | .int i, .int j, μ => .ok (.bl (decide (i ≤ j))) μ
  | _, _, _ => .bad
@[simp] def fGt : PV → PV → MH → R PV
  | .int i, .int j, μ => .ok (.bl (decide (j < i))) μ
  | _, _, _ => .bad
@[simp] def fGe : PV → PV → MH → R PV
  | .int i, .int j, μ => .ok (.bl (decide (j ≤ i))) μ
  | _, _, _ => .bad
section
variable {X : Cx} {XR : XRel} {K : PySem.W.Frag}
theorem ok_here {G : Gx} {H : Hp} {β : List Addr} {μ : MH} {E : XK} {Q : VK} {v : PV} {x : V} (h : OutOk G XR H β E Q (.ok v μ)) (rl : Rl G H β μ) (p : PRel G H β v x) : Q x H := h x H β .refl rl p
theorem op_addA : OpR X (binaryOp .Add) (rAddA X.K) := op_add.or (op_add_str.or (op_catA.or op_cat))
theorem om_add : OpM K XR fAdd (rAddA K) := by
  intro av E H β μ v w x y Q rl pv pw h
  unfold fAdd at h
  split at h
  · exact .inl ⟨_, _, int_inv pv, int_inv pw, ok_here h rl .int_⟩
  · split at h
    · rename_i hl; exact .inr (.inl ⟨_, _, str_inv pv, str_inv pw, hl, ok_here h rl .str_⟩)
    · exact h.elim
  · rename_i _ xs ys
    split at h
    · rename_i hl
      obtain ⟨a, vs, e1, s1, p1⟩ := tup_inv pv
      obtain ⟨b, ws, e2, s2, p2⟩ := tup_inv pw
      refine .inr (.inr (.inl ⟨a, b, vs, ws, e1, e2, s1.sq, s2.sq, by rw [← p1.length, ← p2.length]; exact hl, fun e => ?_, fun n e => ?_, fun n m => new_tup rl (p1.app p2) h⟩))
      · refine ok_here h rl ?_
        have : xs = [] := List.length_eq_zero_iff.mp (by rw [p1.length, e]; rfl)
        subst this
        unfold PRel
        exact ⟨b, ws, rfl, s2, p2⟩
      · refine ok_here h rl ?_
        have : ys = [] := List.length_eq_zero_iff.mp (by rw [p2.length, e]; rfl)
        subst this
        rw [List.append_nil]
        unfold PRel
        exact ⟨a, vs, rfl, s1, p1⟩
    · exact h.elim
  · split at h
    · rename_i xs ys e1 e2
      split at h
      · rename_i hl
        obtain ⟨a, vs, x1, h1, p1⟩ := lstM_ok rl pv e1
        obtain ⟨b, ws, x2, h2, p2⟩ := lstM_ok rl pw e2
        exact .inr (.inr (.inr ⟨a, b, vs, ws, x1, x2, h1, h2, by rw [← p1.length, ← p2.length]; exact hl, new_frl rl (p1.app p2) h⟩))
      · exact h.elim
    · exact h.elim
theorem om_sub : OpM K XR fSub (rI0 fun i j => .int (i - j)) := by
  intro av E H β μ v w x y Q rl pv pw h
  unfold fSub at h
  split at h
  · exact ⟨_, _, int_inv pv, int_inv pw, ok_here h rl .int_⟩
  · exact h.elim
theorem om_mul : OpM K XR fMul (rI CMulW fun i j => .int (i * j)) := by
  intro av E H β μ v w x y Q rl pv pw h
  unfold fMul at h
  split at h
  · split at h
    · rename_i hl; exact ⟨_, _, int_inv pv, int_inv pw, (by simpa [okMul, CMulW] using hl), ok_here h rl .int_⟩
    · exact h.elim
  · exact h.elim
theorem om_fdiv : OpM K XR fFdiv (rI CDivW fun i j => .int (i / j)) := by
  intro av E H β μ v w x y Q rl pv pw h
  unfold fFdiv at h
  split at h
  · split at h
    · rename_i hl; exact ⟨_, _, int_inv pv, int_inv pw, hl, ok_here h rl .int_⟩
    · exact h.elim
  · exact h.elim
theorem om_mod : OpM K XR fMod (rI (fun _ j => j ≠ 0) fun i j => .int (i.fmod j)) := by
  intro av E H β μ v w x y Q rl pv pw h
  unfold fMod at h
  split at h
  · split at h
    · rename_i hl; exact ⟨_, _, int_inv pv, int_inv pw, hl, ok_here h rl .int_⟩
    · exact h.elim
  · exact h.elim
theorem om_pow : OpM K XR fPow (rI CPow fun i j => .int (i ^ j.toNat)) := by
  intro av E H β μ v w x y Q rl pv pw h
  unfold fPow at h
  split at h
  · split at h
    · rename_i hl; exact ⟨_, _, int_inv pv, int_inv pw, hl, ok_here h rl .int_⟩
    · exact h.elim
  · exact h.elim
theorem um_neg : UnM K XR fNeg (rU fun i => .int (-i)) := by
  intro av E H β μ v x Q rl pv h
  unfold fNeg at h
  split at h
  · exact ⟨_, int_inv pv, ok_here h rl .int_⟩
  · exact h.elim
def rLtA : R2 := fun x y H Q => rI0 (fun i j => .bl (decide (i < j))) x y H Q ∨ ∃ i j, x = .str i ∧ y = .str j ∧ Q (.bl (decide (i.cps.toList < j.cps.toList))) H
theorem op_ltA : OpR X (compareOp .Lt) rLtA := op_lt.or op_lt_str
theorem om_lt : OpM K XR fLt rLtA := by
  intro av E H β μ v w x y Q rl pv pw h
  unfold fLt at h
  split at h
  · exact .inl ⟨_, _, int_inv pv, int_inv pw, ok_here h rl .bl_⟩
  · exact .inr ⟨_, _, str_inv pv, str_inv pw, ok_here h rl .bl_⟩
  · exact h.elim
theorem om_le : OpM K XR fLe (rI0 fun i j => .bl (decide (i ≤ j))) := by
  intro av E H β μ v w x y Q rl pv pw h
  unfold fLe at h
  split at h
  · exact ⟨_, _, int_inv pv, int_inv pw, ok_here h rl .bl_⟩
  · exact h.elim
theorem om_gt : OpM K XR fGt (rI0 fun i j => .bl (decide (j < i))) := by
  intro av E H β μ v w x y Q rl pv pw h
  unfold fGt at h
  split at h
  · exact ⟨_, _, int_inv pv, int_inv pw, ok_here h rl .bl_⟩
  · exact h.elim
theorem om_ge : OpM K XR fGe (rI0 fun i j => .bl (decide (j ≤ i))) := by
  intro av E H β μ v w x y Q rl pv pw h
  unfold fGe at h
  split at h
  · exact ⟨_, _, int_inv pv, int_inv pw, ok_here h rl .bl_⟩
  · exact h.elim
end

/-! ### data: ==, repr -/
mutual
def pD : PV → Option PyData
  | .non => some .none
  | .bl b => some (.bool b)
  | .int i => some (.int i)
  | .str x => some (.str x)
  | .tup xs => (pDs xs).map .tuple
  | .frl xs => (pDs xs).map .list
  | .scr xs => (pDs xs).map .list
  | .ctp xs => (pDs xs).map .tuple
  | _ => none
def pDs : List PV → Option (List PyData)
  | [] => some []
  | x :: xs => match pD x, pDs xs with
    | some d, some ds => some (d :: ds)
    | _, _ => none
end
mutual
/-- .. with places that hold lists of data -/
def toD (μ : MH) : PV → Option PyData
  | .non => some .none
  | .bl b => some (.bool b)
  | .int i => some (.int i)
  | .str x => some (.str x)
  | .tup xs => (toDs μ xs).map .tuple
  | .frl xs => (toDs μ xs).map .list
  | .scr xs => (toDs μ xs).map .list
  | .ctp xs => (toDs μ xs).map .tuple
  | .ref n => match μ[n]? with
    | some (.lst xs) => (pDs xs).map .list
    | _ => none
  | .op _ => none
def toDs (μ : MH) : List PV → Option (List PyData)
  | [] => some []
  | x :: xs => match toD μ x, toDs μ xs with
    | some d, some ds => some (d :: ds)
    | _, _ => none
end
section
variable {K : Gx} {H : Hp} {β : List Addr} {μ : MH}
mutual
theorem pD_ok : ∀ (v : PV) {x : V} {d : PyData}, PRel K H β v x → pD v = some d → Dp K.fr H x d
  | .non, x, d, p, h => by unfold PRel at p; unfold pD at h; cases h; subst p; exact .non
  | .bl b, x, d, p, h => by unfold PRel at p; unfold pD at h; cases h; subst p; exact .bl b
  | .int b, x, d, p, h => by unfold PRel at p; unfold pD at h; cases h; subst p; exact .int b
  | .str b, x, d, p, h => by unfold PRel at p; unfold pD at h; cases h; subst p; exact .str b
  | .op b, x, d, p, h => by unfold pD at h; cases h
  | .ref b, x, d, p, h => by unfold pD at h; cases h
  | .tup xs, x, d, p, h => by
    unfold PRel at p
    unfold pD at h
    obtain ⟨a, vs, rfl, h1, h2⟩ := p
    rw [Option.map_eq_some_iff] at h
    obtain ⟨ds, e1, rfl⟩ := h
    exact .tup h1.sq (pDs_ok xs h2 e1)
  | .frl xs, x, d, p, h => by
    unfold PRel at p
    unfold pD at h
    obtain ⟨a, vs, rfl, h1, h2⟩ := p
    rw [Option.map_eq_some_iff] at h
    obtain ⟨ds, e1, rfl⟩ := h
    exact .lst (SqL.of h1.1) (pDs_ok xs h2 e1)
  | .scr xs, x, d, p, h => by
    unfold PRel at p
    unfold pD at h
    obtain ⟨a, vs, rfl, h1, h2⟩ := p
    rw [Option.map_eq_some_iff] at h
    obtain ⟨ds, e1, rfl⟩ := h
    exact .lst h1.sq (pDs_ok xs h2 e1)
  | .ctp xs, x, d, p, h => by
    unfold PRel at p
    unfold pD at h
    obtain ⟨a, vs, rfl, h1, h2⟩ := p
    rw [Option.map_eq_some_iff] at h
    obtain ⟨ds, e1, rfl⟩ := h
    exact .tup h1.sq (pDs_ok xs h2 e1)
theorem pDs_ok : ∀ (v : List PV) {x : List V} {d : List PyData}, PRels K H β v x → pDs v = some d → DpAll K.fr H x d
  | [], x, d, p, h => by rw [PRels.nil_iff] at p; unfold pDs at h; cases h; subst p; exact .nil
  | v :: vs, x, d, p, h => by
    obtain ⟨y, ys, rfl, p1, p2⟩ := p.inv
    unfold pDs at h
    split at h
    · rename_i e1 e2
      cases h
      exact .cons (pD_ok v p1 e1) (pDs_ok vs p2 e2)
    · cases h
end
mutual
theorem toD_ok (rl : Rl K H β μ) : ∀ (v : PV) {x : V} {d : PyData}, PRel K H β v x → toD μ v = some d → Dp K.fr H x d
  | .non, x, d, p, h => by unfold PRel at p; unfold toD at h; cases h; subst p; exact .non
  | .bl b, x, d, p, h => by unfold PRel at p; unfold toD at h; cases h; subst p; exact .bl b
  | .int b, x, d, p, h => by unfold PRel at p; unfold toD at h; cases h; subst p; exact .int b
  | .str b, x, d, p, h => by unfold PRel at p; unfold toD at h; cases h; subst p; exact .str b
  | .op b, x, d, p, h => by unfold toD at h; cases h
  | .ref n, x, d, p, h => by
    unfold toD at h
    split at h
    · rename_i xs e
      rw [Option.map_eq_some_iff] at h
      obtain ⟨ds, e1, rfl⟩ := h
      unfold PRel at p
      obtain ⟨a, rfl, e2⟩ := p
      obtain ⟨vs, h1, h2⟩ := rl.obj n a _ e2 e
      exact .lst (SqL.of h1) (pDs_ok xs h2 e1)
    · cases h
  | .tup xs, x, d, p, h => by
    unfold PRel at p
    unfold toD at h
    obtain ⟨a, vs, rfl, h1, h2⟩ := p
    rw [Option.map_eq_some_iff] at h
    obtain ⟨ds, e1, rfl⟩ := h
    exact .tup h1.sq (toDs_ok rl xs h2 e1)
  | .frl xs, x, d, p, h => by
    unfold PRel at p
    unfold toD at h
    obtain ⟨a, vs, rfl, h1, h2⟩ := p
    rw [Option.map_eq_some_iff] at h
    obtain ⟨ds, e1, rfl⟩ := h
    exact .lst (SqL.of h1.1) (toDs_ok rl xs h2 e1)
  | .scr xs, x, d, p, h => by
    unfold PRel at p
    unfold toD at h
    obtain ⟨a, vs, rfl, h1, h2⟩ := p
    rw [Option.map_eq_some_iff] at h
    obtain ⟨ds, e1, rfl⟩ := h
    exact .lst h1.sq (toDs_ok rl xs h2 e1)
  | .ctp xs, x, d, p, h => by
    unfold PRel at p
    unfold toD at h
    obtain ⟨a, vs, rfl, h1, h2⟩ := p
    rw [Option.map_eq_some_iff] at h
    obtain ⟨ds, e1, rfl⟩ := h
    exact .tup h1.sq (toDs_ok rl xs h2 e1)
theorem toDs_ok (rl : Rl K H β μ) : ∀ (v : List PV) {x : List V} {d : List PyData}, PRels K H β v x → toDs μ v = some d → DpAll K.fr H x d
  | [], x, d, p, h => by rw [PRels.nil_iff] at p; unfold toDs at h; cases h; subst p; exact .nil
  | v :: vs, x, d, p, h => by
    obtain ⟨y, ys, rfl, p1, p2⟩ := p.inv
    unfold toDs at h
    split at h
    · rename_i e1 e2
      cases h
      exact .cons (toD_ok rl v p1 e1) (toDs_ok rl vs p2 e2)
    · cases h
end
end
def eqD (v w : PV) (μ : MH) : Option Bool := match toD μ v, toD μ w with
  | some d, some e => if SeqAt.shaped d && SeqAt.shaped e then some (PyData.eqv d e) else none
  | _, _ => none
def fEq : PV → PV → MH → R PV
  | .int i, .int j, μ => .ok (.bl (decide (i = j))) μ
  | .str i, .str j, μ => .ok (.bl (decide (i = j))) μ
  | .bl i, .bl j, μ => .ok (.bl (decide (i = j))) μ
  | v, w, μ => match eqD v w μ with
    | some b => .ok (.bl b) μ
    | none => .bad
def fNe : PV → PV → MH → R PV
  | .int i, .int j, μ => .ok (.bl (!decide (i = j))) μ
  | .str i, .str j, μ => .ok (.bl (!decide (i = j))) μ
  | .bl i, .bl j, μ => .ok (.bl (!decide (i = j))) μ
  | v, w, μ => match eqD v w μ with
    | some b => .ok (.bl (!b)) μ
    | none => .bad
def rEqA (K : PySem.W.Frag) : R2 := fun x y H Q => rEq x y H Q ∨ rEqD K x y H Q
def rNeA (K : PySem.W.Frag) : R2 := fun x y H Q => rNe x y H Q ∨ rNeD K x y H Q
section
variable {X : Cx} {XR : XRel} {K : PySem.W.Frag}
theorem op_eqA {k : Nat} (hr : RoomG k X.A) : OpR X (compareOp .Eq) (rEqA X.K) := op_eq.or (op_eqD hr.room.units)
theorem op_neA {k : Nat} (hr : RoomG k X.A) : OpR X (compareOp .NotEq) (rNeA X.K) := op_ne.or (op_neD hr.room.units)
theorem eqD_ok {G : Gx} {H : Hp} {β : List Addr} {μ : MH} {v w : PV} {x y : V} {b : Bool} (rl : Rl G H β μ) (pv : PRel G H β v x) (pw : PRel G H β w y) (h : eqD v w μ = some b) : ∃ d e, Dp G.fr H x d ∧ Dp G.fr H y e ∧ SeqAt.shaped d = true ∧ SeqAt.shaped e = true ∧ PyData.eqv d e = b := by
  unfold eqD at h
  split at h
  · rename_i d e e1 e2
    split at h
    · rename_i hs
      rw [Bool.and_eq_true] at hs
      cases h
      exact ⟨d, e, toD_ok rl v pv e1, toD_ok rl w pw e2, hs.1, hs.2, rfl⟩
    · cases h
  · cases h
theorem om_eq : OpM K XR fEq (rEqA K) := by
  intro av E H β μ v w x y Q rl pv pw h
  unfold fEq at h
  split at h
  · have e1 := int_inv pv; have e2 := int_inv pw; subst e1; subst e2
    refine .inl ⟨rfl, ?_⟩
    rw [dec_int, Bool.beq_eq_decide_eq]
    exact ok_here h rl .bl_
  · have e1 := str_inv pv; have e2 := str_inv pw; subst e1; subst e2
    refine .inl ⟨rfl, ?_⟩
    rw [dec_str, Bool.beq_eq_decide_eq]
    exact ok_here h rl .bl_
  · have e1 := bl_inv pv; have e2 := bl_inv pw; subst e1; subst e2
    refine .inl ⟨rfl, ?_⟩
    rw [dec_bl, Bool.beq_eq_decide_eq]
    exact ok_here h rl .bl_
  · split at h
    · rename_i b e
      obtain ⟨d, d2, h1, h2, h3, h4, rfl⟩ := eqD_ok rl pv pw e
      exact .inr ⟨d, d2, h1, h2, h3, h4, ok_here h rl .bl_⟩
    · exact h.elim
theorem om_ne : OpM K XR fNe (rNeA K) := by
  intro av E H β μ v w x y Q rl pv pw h
  unfold fNe at h
  split at h
  · have e1 := int_inv pv; have e2 := int_inv pw; subst e1; subst e2
    refine .inl ⟨rfl, ?_⟩
    rw [dec_int, Bool.beq_eq_decide_eq]
    exact ok_here h rl .bl_
  · have e1 := str_inv pv; have e2 := str_inv pw; subst e1; subst e2
    refine .inl ⟨rfl, ?_⟩
    rw [dec_str, Bool.beq_eq_decide_eq]
    exact ok_here h rl .bl_
  · have e1 := bl_inv pv; have e2 := bl_inv pw; subst e1; subst e2
    refine .inl ⟨rfl, ?_⟩
    rw [dec_bl, Bool.beq_eq_decide_eq]
    exact ok_here h rl .bl_
  · split at h
    · rename_i b e
      obtain ⟨d, d2, h1, h2, h3, h4, rfl⟩ := eqD_ok rl pv pw e
      exact .inr ⟨d, d2, h1, h2, h3, h4, ok_here h rl .bl_⟩
    · exact h.elim
end
/-- repr -/
def reprOf (v : PV) (μ : MH) : R PV := match toD μ v with
  | some d => if d.showable = true ∧ d.shown.length ≤ sizeLine ∧ d.depth ≤ 60 then .ok (.str d.shown) μ else .bad
  | none => .bad
def fRepr : List PV → MH → R PV
  | [.frl xs], μ => reprOf (.frl xs) μ
  | [.tup xs], μ => reprOf (.tup xs) μ
  | _, _ => .bad
def rRepr (K : PySem.W.Frag) : List V → Hp → VK → Prop := fun vs H Q => ∃ a d, vs = [.ref a] ∧ Dp K H (.ref a) d ∧ d.showable = true ∧ d.shown.length ≤ sizeLine ∧ d.depth ≤ 60 ∧ Q (.str d.shown) H
section
variable {X : Cx} {XR : XRel} {K : PySem.W.Frag}
mutual
theorem Dp.noDict {H : Hp} : ∀ (d : PyData) {v : V}, Dp K H v d → d.hasDict = false
  | .none, _, _ => by unfold PyData.hasDict; rfl
  | .bool _, _, _ => by unfold PyData.hasDict; rfl
  | .int _, _, _ => by unfold PyData.hasDict; rfl
  | .str _, _, _ => by unfold PyData.hasDict; rfl
  | .list xs, _, h => by
    cases h with
    | lst h1 h2 => unfold PyData.hasDict; exact DpAll.noDict xs h2
  | .tuple xs, _, h => by
    cases h with
    | tup h1 h2 => unfold PyData.hasDict; exact DpAll.noDict xs h2
  | .dict _, _, h => by cases h
theorem DpAll.noDict {H : Hp} : ∀ (ds : List PyData) {vs : List V}, DpAll K H vs ds → PyData.hasDictAll ds = false
  | [], _, _ => by unfold PyData.hasDictAll; rfl
  | d :: ds, _, h => by
    cases h with
    | cons h1 h2 => unfold PyData.hasDictAll; rw [Dp.noDict d h1, DpAll.noDict ds h2]; rfl
end
theorem cr_repr {k : Nat} (hr : RoomG k X.A) : CallR X (.builtin "repr") (rRepr X.K) := by
  intro pins s σ H vs us Q I r h
  obtain ⟨a, d, rfl, hd, h1, h2, h3, q⟩ := h
  have e := Vals.ref1 r
  subst e
  obtain ⟨as, rd⟩ := L2.Dp.reads I d (.ref a) (.ref a) hd rfl
  have hu := hr.room.units
  refine repr_of_reads' rd h1 (fun z => ?_) hr.bare (by omega) (fun _ _ e => e) (fun h' u tk hk => ⟨.str d.shown, H, I.kept hk, ⟨u, rfl⟩, q⟩) h2
  rw [Dp.noDict d hd] at z; cases z
theorem reprOf_ok {av : List Addr} {E : XK} {H : Hp} {β : List Addr} {μ : MH} {v : PV} {a : Addr} {Q : VK} (rl : Rl ⟨K, av⟩ H β μ) (p : PRel ⟨K, av⟩ H β v (.ref a)) (h : OutOk ⟨K, av⟩ XR H β E Q (reprOf v μ)) : rRepr K [.ref a] H Q := by
  unfold reprOf at h
  split at h
  · rename_i d e
    split at h
    · rename_i hc
      exact ⟨a, d, rfl, toD_ok rl v p e, hc.1, hc.2.1, hc.2.2, ok_here h rl .str_⟩
    · exact h.elim
  · exact h.elim
theorem one_inv {G : Gx} {H : Hp} {β : List Addr} {v : PV} {x : List V} (p : PRels G H β [v] x) : ∃ y, x = [y] ∧ PRel G H β v y := by
  obtain ⟨y, ys, rfl, p1, p2⟩ := p.inv
  rw [PRels.nil_iff] at p2
  subst p2
  exact ⟨y, rfl, p1⟩
theorem two_inv {G : Gx} {H : Hp} {β : List Addr} {v w : PV} {x : List V} (p : PRels G H β [v, w] x) : ∃ y z, x = [y, z] ∧ PRel G H β v y ∧ PRel G H β w z := by
  obtain ⟨y, ys, rfl, p1, p2⟩ := p.inv
  obtain ⟨z, rfl, p3⟩ := one_inv p2
  exact ⟨y, z, rfl, p1, p3⟩
theorem cm_repr : CallM K XR fRepr (rRepr K) := by
  intro av E H β μ v x Q rl pv h
  unfold fRepr at h
  split at h
  · obtain ⟨y, rfl, p⟩ := one_inv pv
    have p' := p
    unfold PRel at p'
    obtain ⟨a, _, rfl, _⟩ := p'
    exact reprOf_ok rl p h
  · obtain ⟨y, rfl, p⟩ := one_inv pv
    have p' := p
    unfold PRel at p'
    obtain ⟨a, _, rfl, _⟩ := p'
    exact reprOf_ok rl p h
  · exact h.elim
end
end Mini

/-! M8: lists, tuples, dicts: items, stores, membership, built-ins. -/
namespace Mini
open PySem PySem.Spec PyProof.Rows L2

/-! ### dict entries -/
/-- what is found -/
def LkRel (G : Gx) (H : Hp) (β : List Addr) (o : Option PV) (o' : Option V) : Prop := match o with
  | some v => ∃ w, o' = some w ∧ PRel G H β v w
  | none => o' = none
section
variable {κ : Type} [DecidableEq κ]
def dval (kvs : List (κ × PV)) (k : κ) : Option PV := (kvs.find? fun kv => decide (kv.1 = k)).map (·.2)
def dput (kvs : List (κ × PV)) (k : κ) (v : PV) : List (κ × PV) := if (kvs.any fun kv => decide (kv.1 = k)) = true then kvs.map (fun kv => if kv.1 = k then (kv.1, v) else kv) else kvs ++ [(k, v)]
variable {G : Gx} {H : Hp} {β : List Addr}
theorem DRel.nil : DRel (κ := κ) G H β [] [] := ⟨rfl, .nil⟩
theorem DRel.cons {k : κ} {v : PV} {x : V} {kvs : List (κ × PV)} {kvs' : List (κ × V)} (p : PRel G H β v x) (t : DRel G H β kvs kvs') : DRel G H β ((k, v) :: kvs) ((k, x) :: kvs') :=
  ⟨by simp [t.1], by simpa using PRels.cons p t.2⟩
theorem DRel.inv {k : κ} {v : PV} {kvs : List (κ × PV)} {l : List (κ × V)} (h : DRel G H β ((k, v) :: kvs) l) : ∃ x kvs', l = (k, x) :: kvs' ∧ PRel G H β v x ∧ DRel G H β kvs kvs' := by
  obtain ⟨h1, h2⟩ := h
  cases l with
  | nil => simp at h1
  | cons q l =>
    obtain ⟨k', x⟩ := q
    simp at h1
    obtain ⟨rfl, h1⟩ := h1
    simp only [List.map_cons] at h2
    obtain ⟨y, ys, e, p1, p2⟩ := h2.inv
    cases e
    exact ⟨x, l, rfl, p1, h1, p2⟩
theorem DRel.nil_inv {l : List (κ × V)} (h : DRel G H β [] l) : l = [] := by
  obtain ⟨h1, _⟩ := h
  simpa using h1.symm
theorem DRel.len {kvs : List (κ × PV)} {l : List (κ × V)} (h : DRel G H β kvs l) : kvs.length = l.length := by
  have := congrArg List.length h.1
  simpa using this
theorem DRel.val (k : κ) : ∀ {kvs : List (κ × PV)} {l : List (κ × V)}, DRel G H β kvs l → LkRel G H β (dval kvs k) (valV l k)
  | [], l, h => by rw [h.nil_inv]; rfl
  | (k', v) :: kvs, l, h => by
    obtain ⟨x, l', rfl, p, t⟩ := h.inv
    have ih := DRel.val k t
    by_cases e : k' = k
    · have e1 : dval ((k', v) :: kvs) k = some v := by simp [dval, e]
      rw [e1]
      exact ⟨x, valV_pos (p := (k', x)) e, p⟩
    · have e1 : dval ((k', v) :: kvs) k = dval kvs k := by simp [dval, e]
      rw [e1, valV_neg (p := (k', x)) e]
      exact ih
theorem DRel.any (k : κ) {kvs : List (κ × PV)} {l : List (κ × V)} (h : DRel G H β kvs l) : (kvs.any fun kv => decide (kv.1 = k)) = (l.any fun kv => decide (kv.1 = k)) := by
  have e1 : (kvs.any fun kv => decide (kv.1 = k)) = (kvs.map (·.1)).any fun j => decide (j = k) := by rw [List.any_map]; rfl
  have e2 : (l.any fun kv => decide (kv.1 = k)) = (l.map (·.1)).any fun j => decide (j = k) := by rw [List.any_map]; rfl
  rw [e1, e2, h.1]
theorem DRel.app : ∀ {kvs kvs2 : List (κ × PV)} {l l2 : List (κ × V)}, DRel G H β kvs l → DRel G H β kvs2 l2 → DRel G H β (kvs ++ kvs2) (l ++ l2) := fun h t => ⟨by simp [h.1, t.1], by simpa using h.2.app t.2⟩
theorem DRel.repl (k : κ) {v : PV} {x : V} (p : PRel G H β v x) : ∀ {kvs : List (κ × PV)} {l : List (κ × V)}, DRel G H β kvs l → DRel G H β (kvs.map fun kv => if kv.1 = k then (kv.1, v) else kv) (l.map fun kv => if kv.1 = k then (kv.1, x) else kv)
  | [], l, h => by rw [h.nil_inv]; exact .nil
  | (k', w) :: kvs, l, h => by
    obtain ⟨y, l', rfl, p', t⟩ := h.inv
    have ih := DRel.repl k p t
    rw [List.map_cons, List.map_cons]
    by_cases e : k' = k
    · simp only [e, if_true]
      exact .cons p ih
    · simp only [e, if_false]
      exact .cons p' ih
theorem DRel.put (k : κ) {v : PV} {x : V} (p : PRel G H β v x) {kvs : List (κ × PV)} {l : List (κ × V)} (h : DRel G H β kvs l) : DRel G H β (dput kvs k v) (putK l k x) := by
  unfold dput putK
  rw [← h.any k]
  by_cases e : (kvs.any fun kv => decide (kv.1 = k)) = true
  · rw [if_pos e, if_pos e]
    exact h.repl k p
  · rw [if_neg e, if_neg e]
    exact h.app (.cons p .nil)
end
def keyOf : PV → Option Key
  | .int i => some (Sum.inl i)
  | .str x => some (Sum.inr x)
  | _ => none
def keysOf : List PV → Option (List Key)
  | [] => some []
  | x :: xs => match keyOf x, keysOf xs with
    | some k, some ks => some (k :: ks)
    | _, _ => none
/-- what a dict holds under a key: none, no dict (or no key of its kind); some o: there or not -/
def dlook (d k : PV) (μ : MH) : Option (Option PV) := match d with
  | .ref n => match μ[n]? with
    | some (.dK kvs) => (keyOf k).map fun j => dval kvs j
    | some (.dT kvs) => match k with
      | .tup xs => (keysOf xs).map fun j => dval kvs j
      | _ => none
    | _ => none
  | _ => none
def dstore (d k v : PV) (μ : MH) : Option MH := match d with
  | .ref n => match μ[n]? with
    | some (.dK kvs) => match keyOf k with
      | some j => if kvs.length < sizeLine then some (μ.set n (.dK (dput kvs j v))) else none
      | none => none
    | some (.dT kvs) => match k with
      | .tup xs => match keysOf xs with
        | some j => if kvs.length < sizeLine then some (μ.set n (.dT (dput kvs j v))) else none
        | none => none
      | _ => none
    | _ => none
  | _ => none
section
variable {G : Gx} {H : Hp} {β : List Addr} {μ : MH}
theorem keyOf_ok {v : PV} {x : V} {k : Key} (p : PRel G H β v x) (h : keyOf v = some k) : x = kV k := by
  unfold keyOf at h
  split at h <;> cases h
  · exact int_inv p
  · exact str_inv p
theorem keysOf_ok : ∀ {vs : List PV} {xs : List V} {ks : List Key}, PRels G H β vs xs → keysOf vs = some ks → xs = ks.map kV
  | [], xs, ks, p, h => by rw [PRels.nil_iff] at p; unfold keysOf at h; cases h; exact p
  | v :: vs, xs, ks, p, h => by
    obtain ⟨y, ys, rfl, p1, p2⟩ := p.inv
    unfold keysOf at h
    split at h
    · rename_i e1 e2
      cases h
      rw [keyOf_ok p1 e1, keysOf_ok p2 e2]
      rfl
    · cases h
theorem dlook_ok {d k : PV} {x y : V} {o : Option PV} (rl : Rl G H β μ) (pd : PRel G H β d x) (pk : PRel G H β k y) (h : dlook d k μ = some o) :
    ∃ a o', x = .ref a ∧ DGet H a y o' ∧ LkRel G H β o o' := by
  unfold dlook at h
  cases d <;> first
    | cases h
    | (rename_i n
       simp only at h
       unfold PRel at pd
       obtain ⟨a, rfl, e2⟩ := pd
       cases e : μ[n]? with
       | none => rw [e] at h; cases h
       | some m =>
         rw [e] at h
         cases m with
         | lst xs => cases h
         | dK kvs =>
           obtain ⟨l, h1, h2⟩ := rl.obj n a _ e2 e
           simp only [Option.map_eq_some_iff] at h
           obtain ⟨j, ej, rfl⟩ := h
           refine ⟨a, valV l j, rfl, by rw [keyOf_ok pk ej]; exact DGet.k h1, ?_⟩
           exact h2.val j
         | dT kvs =>
           obtain ⟨l, h1, h2⟩ := rl.obj n a _ e2 e
           cases k <;> first
             | cases h
             | (rename_i xs
                simp only [Option.map_eq_some_iff] at h
                obtain ⟨j, ej, rfl⟩ := h
                obtain ⟨b, vs, rfl, s1, p1⟩ := tup_inv pk
                have hb := s1.1
                rw [keysOf_ok p1 ej] at hb
                refine ⟨a, valV l j, rfl, DGet.t h1 hb, ?_⟩
                exact h2.val j))
end
/-- sequences -/
def seqT : PV → Option (List PV)
  | .tup xs => some xs
  | .ctp xs => some xs
  | _ => none
theorem seqT_ok {G : Gx} {H : Hp} {β : List Addr} {v : PV} {xs : List PV} {x : V} (p : PRel G H β v x) (h : seqT v = some xs) : ∃ a vs, x = .ref a ∧ SqT G.fr H a vs ∧ PRels G H β xs vs := by
  unfold seqT at h
  split at h <;> cases h
  · obtain ⟨a, vs, e, s, p⟩ := tup_inv p; exact ⟨a, vs, e, s.sq, p⟩
  · obtain ⟨a, vs, e, s, p⟩ := ctp_inv p; exact ⟨a, vs, e, s.sq, p⟩
/-! ### items -/
def ixP (xs : List PV) (i : Int) : Option PV := atI xs i
def fIx : PV → PV → MH → R PV := fun o k μ => match seqT o, k with
  | some xs, .int i => match atI xs i with
    | some v => .ok v μ
    | none => .bad
  | _, _ => match lstR o μ, k with
    | some xs, .int i => match atI xs i with
      | some v => .ok v μ
      | none => .bad
    | _, _ => match o, k with
      | .str z, .int i => if z.length ≤ sizeLine then (match atI z.cps.toList i with
        | some c => .ok (.str ⟨#[c]⟩) μ
        | none => .bad) else .bad
      | _, _ => match dlook o k μ with
        | some (some v) => .ok v μ
        | _ => .bad
def rIxD : R2 := fun x y H Q => ∃ a v, x = .ref a ∧ DGet H a y (some v) ∧ Q v H
def rIxA (K : PySem.W.Frag) : R2 := fun x y H Q => rIxL K x y H Q ∨ rIxT K x y H Q ∨ rIxS x y H Q ∨ rIxD x y H Q
section
variable {X : Cx} {XR : XRel} {K : PySem.W.Frag}
theorem ix_dict {k : Nat} (hr : RoomG k X.A) : IxR X rIxD := by
  intro value slice pins s σ H x y v u Q I rx ry h hs
  obtain ⟨a, w, rfl, g, q⟩ := h
  cases rx
  have hu := hr.room.units
  exact tail_any (dict_typeIs I g) PySem.F.slot_dict_getitem.lookup (d_getItem (by omega) I g ry fun w' s3 I3 rw' => ⟨w, H, I3, rw', q⟩) hs
theorem ix_all {k : Nat} (hr : RoomG k X.A) : IxR X (rIxA X.K) := ix_list.or (ix_tup.or (ix_str.or (ix_dict hr)))
theorem atI_rel {G : Gx} {H : Hp} {β : List Addr} {xs : List PV} {vs : List V} {i : Int} {v : PV} (p : PRels G H β xs vs) (h : atI xs i = some v) : ∃ x, atI vs i = some x ∧ PRel G H β v x := by
  unfold atI at h ⊢
  rw [p.length] at h
  cases e : ixN vs.length i with
  | none => rw [e] at h; cases h
  | some j =>
    rw [e] at h
    exact p.get (by simpa using h)
theorem om_ix : OpM K XR fIx (rIxA K) := by
  intro av E H β μ v w x y Q rl pv pw h
  unfold fIx at h
  split at h
  · rename_i xs i e
    obtain ⟨a, vs, rfl, s, p⟩ := seqT_ok pv e
    split at h
    · rename_i z ez
      obtain ⟨zx, e1, pz⟩ := atI_rel p ez
      exact .inr (.inl ⟨a, vs, i, zx, rfl, int_inv pw, s, e1, ok_here h rl pz⟩)
    · exact h.elim
  · split at h
    · rename_i xs i e _
      obtain ⟨a, vs, rfl, s, p⟩ := lstR_ok rl pv e
      split at h
      · rename_i z ez
        obtain ⟨zx, e1, pz⟩ := atI_rel p ez
        exact .inl ⟨a, vs, i, zx, rfl, int_inv pw, s, e1, ok_here h rl pz⟩
      · exact h.elim
    · split at h
      · split at h
        · rename_i hz
          split at h
          · rename_i c ec
            exact .inr (.inr (.inl ⟨_, _, c, str_inv pv, int_inv pw, hz, ec, ok_here h rl .str_⟩))
          · exact h.elim
        · exact h.elim
      · split at h
        · rename_i z e
          obtain ⟨a, o', rfl, g, q⟩ := dlook_ok rl pv pw e
          obtain ⟨zx, rfl, pz⟩ := q
          exact .inr (.inr (.inr ⟨a, zx, rfl, g, ok_here h rl pz⟩))
        · exact h.elim
theorem me_ix {k : Nat} {a b : Expr} {ma mb : ME} {E : L2.St → XK} {pos : Pos} (hr : RoomG k X.A) (ha : PM X XR E a ma) (hb : PM X XR E b mb) (hs : PlainIx b := by exact fun _ _ => rfl) : PM X XR E (.Subscript a b pos) (mOp fIx ma mb) :=
  PE.imp (pe_ix (ix_all hr) ha hb hs) (tm_op om_ix)

/-! ### stores -/
def lstore (o i v : PV) (μ : MH) : Option MH := match o, i with
  | .ref n, .int k => match μ[n]? with
    | some (.lst xs) => (ixN xs.length k).map fun j => μ.set n (.lst (xs.set j v))
    | _ => none
  | _, _ => none
def fStore (o i v : PV) (μ : MH) : Option MH := match lstore o i v μ with
  | some μ1 => some μ1
  | none => dstore o i v μ
theorem set_dictG {k : Nat} (hr : RoomG k X.A) : PSet X rSetD := L2.set_dict (by have := hr.room.units; omega)
theorem PSet.or {t t' : TSet} (h : PSet X t) (h' : PSet X t') : PSet X (fun o i v H Q => t o i v H Q ∨ t' o i v H Q) := by
  intro pins s σ H o i v ov iv u Q I ro ri rv q
  rcases q with q | q
  · exact h pins s σ H o i v ov iv u Q I ro ri rv q
  · exact h' pins s σ H o i v ov iv u Q I ro ri rv q
def rSetA : TSet := fun o i v H Q => rSetL o i v H Q ∨ rSetD o i v H Q
theorem set_all {k : Nat} (hr : RoomG k X.A) : PSet X rSetA := PSet.or set_list (set_dictG hr)
theorem lstore_ok {G : Gx} {H : Hp} {β : List Addr} {μ μ' : MH} {o i v : PV} {ox ix vx : V} {Q : Hp → Prop} (rl : Rl G H β μ) (po : PRel G H β o ox) (pi : PRel G H β i ix) (pv : PRel G H β v vx) (h : lstore o i v μ = some μ') (q : ∀ H', Ext H β H' β → Rl G H' β μ' → Q H') : rSetL ox ix vx H Q := by
  unfold lstore at h
  split at h
  · rename_i n k
    split at h
    · rename_i xs e
      rw [Option.map_eq_some_iff] at h
      obtain ⟨j, ej, rfl⟩ := h
      unfold PRel at po
      obtain ⟨a, rfl, e2⟩ := po
      obtain ⟨vs, h1, h2⟩ := rl.obj n a _ e2 e
      refine ⟨a, vs, k, j, rfl, int_inv pi, h1, by rw [← h2.length]; exact ej, q _ (Ext.write rl e2 _) (rl.write e2 ⟨_, upd_same, PRels.ext (Ext.write rl e2 _) _ (h2.set j pv)⟩)⟩
    · cases h
  · cases h
theorem dT_of_nil {G : Gx} {H : Hp} {β : List Addr} {a : Addr} : True := trivial
theorem dstore_ok {G : Gx} {H : Hp} {β : List Addr} {μ μ' : MH} {o i v : PV} {ox ix vx : V} {Q : Hp → Prop} (rl : Rl G H β μ) (po : PRel G H β o ox) (pi : PRel G H β i ix) (pv : PRel G H β v vx) (h : dstore o i v μ = some μ') (q : ∀ H', Ext H β H' β → Rl G H' β μ' → Q H') : rSetD ox ix vx H Q := by
  unfold dstore at h
  cases o <;> first
    | cases h
    | (rename_i n
       simp only at h
       unfold PRel at po
       obtain ⟨a, rfl, e2⟩ := po
       cases e : μ[n]? with
       | none => rw [e] at h; cases h
       | some m =>
         rw [e] at h
         cases m with
         | lst xs => cases h
         | dK kvs =>
           obtain ⟨l, h1, h2⟩ := rl.obj n a _ e2 e
           cases ek : keyOf i with
           | some j =>
             simp only [ek] at h
             split at h
             · rename_i hl
               cases h
               refine ⟨a, _, rfl, by rw [keyOf_ok pi ek]; exact DPut.k h1 (by rw [← h2.len]; exact hl), q _ (Ext.write rl e2 _) (rl.write e2 ⟨_, upd_same, (h2.put j pv).ext (Ext.write rl e2 _)⟩)⟩
             · cases h
           | none => simp only [ek] at h; cases h
         | dT kvs =>
           obtain ⟨l, h1, h2⟩ := rl.obj n a _ e2 e
           cases i <;> first
             | cases h
             | (rename_i xs
                simp only at h
                cases ek : keysOf xs with
                | none => rw [ek] at h; cases h
                | some j =>
                  rw [ek] at h
                  simp only at h
                  split at h
                  · rename_i hl
                    cases h
                    obtain ⟨b, vs, rfl, s1, p1⟩ := tup_inv pi
                    have hb := s1.1
                    rw [keysOf_ok p1 ek] at hb
                    exact ⟨a, _, rfl, DPut.t h1 hb (by rw [← h2.len]; exact hl), q _ (Ext.write rl e2 _) (rl.write e2 ⟨_, upd_same, (h2.put j pv).ext (Ext.write rl e2 _)⟩)⟩
                  · cases h))
theorem sx_store : SetM K fStore rSetA := by
  intro av H β μ μ' o i v ox ix vx Q rl po pi pv h q
  unfold fStore at h
  split at h
  · rename_i e
    cases h
    exact .inl (lstore_ok rl po pi pv e q)
  · exact .inr (dstore_ok rl po pi pv h q)
end
end Mini

/-! M9: built-ins, methods, displays, what is walked. -/
namespace Mini
open PySem PySem.Spec PyProof.Rows L2

/-! ### built-ins -/
def lenOf (v : PV) (μ : MH) : Option Nat := match seqT v with
  | some xs => some xs.length
  | none => match lstR v μ with
    | some xs => some xs.length
    | none => match v with
      | .str z => if z.length ≤ sizeLine then some z.length else none
      | _ => none
def fLen : List PV → MH → R PV
  | [v], μ => match lenOf v μ with
    | some n => .ok (.int n) μ
    | none => .bad
  | _, _ => .bad
def fInt : List PV → MH → R PV
  | [.int i], μ => .ok (.int i) μ
  | [.bl k], μ => .ok (.int (if k then 1 else 0)) μ
  | [.str a], μ => match PySem.intText? a with
    | some n => if a.length ≤ 640 then .ok (.int n) μ else .bad
    | none => .bad
  | _, _ => .bad
def rInt : List V → Hp → VK → Prop := fun xs H Q => ((∃ i, xs = [.int i] ∧ Q (.int i) H) ∨ ∃ k, xs = [.bl k] ∧ Q (.int (if k then 1 else 0)) H) ∨ ∃ a n, xs = [.str a] ∧ PySem.intText? a = some n ∧ a.length ≤ 640 ∧ Q (.int n) H
@[simp] def fAbs : List PV → MH → R PV
  | [.int i], μ => .ok (.int (if i < 0 then -i else i)) μ
  | _, _ => .bad
@[simp] def fMax2 : List PV → MH → R PV
  | [.int i, .int j], μ => .ok (.int (if j > i then j else i)) μ
  | _, _ => .bad
@[simp] def fMin2 : List PV → MH → R PV
  | [.int i, .int j], μ => .ok (.int (if j < i then j else i)) μ
  | _, _ => .bad
def fTuple : List PV → MH → R PV
  | [v], μ => match seqT v with
    | some _ => .ok v μ
    | none => match lstR v μ with
      | some xs => .ok (.tup xs) μ
      | none => .bad
  | _, _ => .bad
/-- list(..): a frozen one, one that is a place -/
def fList : List PV → MH → R PV
  | [v], μ => match seqT v with
    | some xs => .ok (.frl xs) μ
    | none => match lstR v μ with
      | some xs => .ok (.frl xs) μ
      | none => .bad
  | _, _ => .bad
def fListP : List PV → MH → R PV
  | [v], μ => match seqT v with
    | some xs => .ok (.ref μ.length) (μ ++ [.lst xs])
    | none => match lstR v μ with
      | some xs => .ok (.ref μ.length) (μ ++ [.lst xs])
      | none => .bad
  | _, _ => .bad
def blsOf : List PV → Option (List Bool)
  | [] => some []
  | .bl b :: xs => (blsOf xs).map (b :: ·)
  | _ => none
def intsOf : List PV → Option (List Int)
  | [] => some []
  | .int b :: xs => (intsOf xs).map (b :: ·)
  | _ => none
def strsOf : List PV → Option (List Str)
  | [] => some []
  | .str b :: xs => (strsOf xs).map (b :: ·)
  | _ => none
def fAll : List PV → MH → R PV
  | [v], μ => match (lstR v μ).bind blsOf with
    | some bs => .ok (.bl (bs.all id)) μ
    | none => .bad
  | _, _ => .bad
def fAny : List PV → MH → R PV
  | [v], μ => match (lstR v μ).bind blsOf with
    | some bs => .ok (.bl (bs.any id)) μ
    | none => .bad
  | _, _ => .bad
def fSum : List PV → MH → R PV
  | [v], μ => match (lstR v μ).bind intsOf with
    | some bs => .ok (.int bs.sum) μ
    | none => .bad
  | _, _ => .bad
section
variable {G : Gx} {H : Hp} {β : List Addr} {μ : MH}
theorem bls_rel : ∀ {vs : List PV} {xs : List V} {bs : List Bool}, PRels G H β vs xs → blsOf vs = some bs → xs = bs.map V.bl
  | [], xs, bs, p, h => by rw [PRels.nil_iff] at p; unfold blsOf at h; cases h; exact p
  | v :: vs, xs, bs, p, h => by
    obtain ⟨y, ys, rfl, p1, p2⟩ := p.inv
    cases v <;> first
      | (unfold blsOf at h; cases h; done)
      | (simp only [blsOf, Option.map_eq_some_iff] at h
         obtain ⟨cs, e, rfl⟩ := h
         rw [bl_inv p1, bls_rel p2 e]
         rfl)
theorem ints_rel : ∀ {vs : List PV} {xs : List V} {bs : List Int}, PRels G H β vs xs → intsOf vs = some bs → xs = bs.map V.int
  | [], xs, bs, p, h => by rw [PRels.nil_iff] at p; unfold intsOf at h; cases h; exact p
  | v :: vs, xs, bs, p, h => by
    obtain ⟨y, ys, rfl, p1, p2⟩ := p.inv
    cases v <;> first
      | (unfold intsOf at h; cases h; done)
      | (simp only [intsOf, Option.map_eq_some_iff] at h
         obtain ⟨cs, e, rfl⟩ := h
         rw [int_inv p1, ints_rel p2 e]
         rfl)
theorem strs_rel : ∀ {vs : List PV} {xs : List V} {bs : List Str}, PRels G H β vs xs → strsOf vs = some bs → xs = bs.map V.str
  | [], xs, bs, p, h => by rw [PRels.nil_iff] at p; unfold strsOf at h; cases h; exact p
  | v :: vs, xs, bs, p, h => by
    obtain ⟨y, ys, rfl, p1, p2⟩ := p.inv
    cases v <;> first
      | (unfold strsOf at h; cases h; done)
      | (simp only [strsOf, Option.map_eq_some_iff] at h
         obtain ⟨cs, e, rfl⟩ := h
         rw [str_inv p1, strs_rel p2 e]
         rfl)
theorem rel_ints : ∀ ns : List Int, PRels G H β (ns.map PV.int) (ns.map V.int)
  | [] => .nil
  | n :: ns => .cons .int_ (rel_ints ns)
theorem rel_strs : ∀ ns : List Str, PRels G H β (ns.map PV.str) (ns.map V.str)
  | [] => .nil
  | n :: ns => .cons .str_ (rel_strs ns)
theorem intsOf_map : ∀ ns : List Int, intsOf (ns.map PV.int) = some ns
  | [] => rfl
  | n :: ns => by simp [intsOf, intsOf_map ns]
theorem strsOf_map : ∀ ns : List Str, strsOf (ns.map PV.str) = some ns
  | [] => rfl
  | n :: ns => by simp [strsOf, strsOf_map ns]
theorem blsOf_map : ∀ ns : List Bool, blsOf (ns.map PV.bl) = some ns
  | [] => rfl
  | n :: ns => by simp [blsOf, blsOf_map ns]
theorem lenOf_ok {v : PV} {x : V} {n : Nat} (rl : Rl G H β μ) (p : PRel G H β v x) (h : lenOf v μ = some n) : LenV G.fr x H n := by
  unfold lenOf at h
  split at h
  · rename_i xs e
    cases h
    obtain ⟨a, vs, rfl, s, q⟩ := seqT_ok p e
    exact Or.inr ⟨vs, s, q.length⟩
  · split at h
    · rename_i xs e
      cases h
      obtain ⟨a, vs, rfl, s, q⟩ := lstR_ok rl p e
      exact Or.inl ⟨vs, s, q.length⟩
    · split at h
      · split at h
        · rename_i hz
          cases h
          rw [str_inv p]
          exact ⟨hz, rfl⟩
        · cases h
      · cases h
end
section
variable {X : Cx} {XR : XRel} {K : PySem.W.Frag}
theorem cm_len : CallM K XR fLen (rLen K) := by
  intro av E H β μ v x Q rl pv h
  unfold fLen at h
  split at h
  · obtain ⟨y, rfl, p⟩ := one_inv pv
    split at h
    · rename_i n e
      exact ⟨y, n, rfl, lenOf_ok rl p e, ok_here h rl .int_⟩
    · exact h.elim
  · exact h.elim
theorem cr_int : CallR X (.type "int") rInt := call_int1.or call_int_str
theorem cm_int : CallM K XR fInt rInt := by
  intro av E H β μ v x Q rl pv h
  unfold fInt at h
  split at h
  · obtain ⟨y, rfl, p⟩ := one_inv pv
    exact .inl (.inl ⟨_, by rw [int_inv p], ok_here h rl .int_⟩)
  · obtain ⟨y, rfl, p⟩ := one_inv pv
    exact .inl (.inr ⟨_, by rw [bl_inv p], ok_here h rl .int_⟩)
  · obtain ⟨y, rfl, p⟩ := one_inv pv
    split at h
    · rename_i n e
      split at h
      · rename_i hl
        exact .inr ⟨_, n, by rw [str_inv p], e, hl, ok_here h rl .int_⟩
      · exact h.elim
    · exact h.elim
  · exact h.elim
theorem cm_abs : CallM K XR fAbs (fun xs H Q => ∃ i, xs = [.int i] ∧ Q (.int (if i < 0 then -i else i)) H) := by
  intro av E H β μ v x Q rl pv h
  unfold fAbs at h
  split at h
  · obtain ⟨y, rfl, p⟩ := one_inv pv
    exact ⟨_, by rw [int_inv p], ok_here h rl .int_⟩
  · exact h.elim
theorem cm_max2 : CallM K XR fMax2 (fun xs H Q => ∃ i j, xs = [.int i, .int j] ∧ Q (.int (if j > i then j else i)) H) := by
  intro av E H β μ v x Q rl pv h
  unfold fMax2 at h
  split at h
  · obtain ⟨y, z, rfl, p, p2⟩ := two_inv pv
    exact ⟨_, _, by rw [int_inv p, int_inv p2], ok_here h rl .int_⟩
  · exact h.elim
theorem cm_min2 : CallM K XR fMin2 (fun xs H Q => ∃ i j, xs = [.int i, .int j] ∧ Q (.int (if j < i then j else i)) H) := by
  intro av E H β μ v x Q rl pv h
  unfold fMin2 at h
  split at h
  · obtain ⟨y, z, rfl, p, p2⟩ := two_inv pv
    exact ⟨_, _, by rw [int_inv p, int_inv p2], ok_here h rl .int_⟩
  · exact h.elim
def rTuple (K : PySem.W.Frag) : List V → Hp → VK → Prop := fun xs H Q => ∃ p ys, xs = [.ref p] ∧ ((SqL K H p ys ∧ ∀ l, H l = none → Q (.ref l) (upd H l (.tup ys))) ∨ (SqT K H p ys ∧ Q (.ref p) H))
theorem cm_tuple : CallM K XR fTuple (rTuple K) := by
  intro av E H β μ v x Q rl pv h
  unfold fTuple at h
  split at h
  · obtain ⟨y, rfl, p⟩ := one_inv pv
    split at h
    · rename_i xs e
      obtain ⟨a, vs, rfl, s, q⟩ := seqT_ok p e
      exact ⟨a, vs, rfl, .inr ⟨s, ok_here h rl p⟩⟩
    · split at h
      · rename_i xs e
        obtain ⟨a, vs, rfl, s, q⟩ := lstR_ok rl p e
        exact ⟨a, vs, rfl, .inl ⟨s, new_tup rl q h⟩⟩
      · exact h.elim
  · exact h.elim
def rList (K : PySem.W.Frag) : List V → Hp → VK → Prop := fun xs H Q => ∃ p ys, xs = [.ref p] ∧ (SqL K H p ys ∨ SqT K H p ys) ∧ ∀ l, H l = none → Q (.ref l) (upd H l (.lst ys))
theorem cm_list : CallM K XR fList (rList K) := by
  intro av E H β μ v x Q rl pv h
  unfold fList at h
  split at h
  · obtain ⟨y, rfl, p⟩ := one_inv pv
    split at h
    · rename_i xs e
      obtain ⟨a, vs, rfl, s, q⟩ := seqT_ok p e
      exact ⟨a, vs, rfl, .inr s, new_frl rl q h⟩
    · split at h
      · rename_i xs e
        obtain ⟨a, vs, rfl, s, q⟩ := lstR_ok rl p e
        exact ⟨a, vs, rfl, .inl s, new_frl rl q h⟩
      · exact h.elim
  · exact h.elim
theorem cm_listP : CallM K XR fListP (rList K) := by
  intro av E H β μ v x Q rl pv h
  unfold fListP at h
  split at h
  · obtain ⟨y, rfl, p⟩ := one_inv pv
    split at h
    · rename_i xs e
      obtain ⟨a, vs, rfl, s, q⟩ := seqT_ok p e
      exact ⟨a, vs, rfl, .inr s, new_lst rl q h⟩
    · split at h
      · rename_i xs e
        obtain ⟨a, vs, rfl, s, q⟩ := lstR_ok rl p e
        exact ⟨a, vs, rfl, .inl s, new_lst rl q h⟩
      · exact h.elim
  · exact h.elim
theorem cm_all : CallM K XR fAll (rAll K) := by
  intro av E H β μ v x Q rl pv h
  unfold fAll at h
  split at h
  · obtain ⟨y, rfl, p⟩ := one_inv pv
    split at h
    · rename_i bs e
      rw [Option.bind_eq_some_iff] at e
      obtain ⟨xs, e1, e2⟩ := e
      obtain ⟨a, vs, rfl, s, q⟩ := lstR_ok rl p e1
      exact ⟨a, bs, rfl, by rw [← bls_rel q e2]; exact s, ok_here h rl .bl_⟩
    · exact h.elim
  · exact h.elim
theorem cm_any : CallM K XR fAny (rAny K) := by
  intro av E H β μ v x Q rl pv h
  unfold fAny at h
  split at h
  · obtain ⟨y, rfl, p⟩ := one_inv pv
    split at h
    · rename_i bs e
      rw [Option.bind_eq_some_iff] at e
      obtain ⟨xs, e1, e2⟩ := e
      obtain ⟨a, vs, rfl, s, q⟩ := lstR_ok rl p e1
      exact ⟨a, bs, rfl, by rw [← bls_rel q e2]; exact s, ok_here h rl .bl_⟩
    · exact h.elim
  · exact h.elim
theorem cm_sum : CallM K XR fSum (rSum K) := by
  intro av E H β μ v x Q rl pv h
  unfold fSum at h
  split at h
  · obtain ⟨y, rfl, p⟩ := one_inv pv
    split at h
    · rename_i bs e
      rw [Option.bind_eq_some_iff] at e
      obtain ⟨xs, e1, e2⟩ := e
      obtain ⟨a, vs, rfl, s, q⟩ := lstR_ok rl p e1
      exact ⟨a, bs, rfl, by rw [← ints_rel q e2]; exact s, ok_here h rl .int_⟩
    · exact h.elim
  · exact h.elim
end

/-! ### sorted of ints -/
def sortI (ns : List Int) : List Int := ns.mergeSort fun a b => decide (a ≤ b)
theorem sortI_perm (ns : List Int) : (sortI ns).Perm ns := List.mergeSort_perm _ _
theorem sortI_pair (ns : List Int) : (sortI ns).Pairwise (· ≤ ·) := by
  have := List.pairwise_mergeSort (le := fun a b : Int => decide (a ≤ b)) (fun a b c h1 h2 => by simp at h1 h2 ⊢; omega) (fun a b => by simp; omega) ns
  exact this.imp fun h => by simpa using h
theorem sortI_eq {ns ys : List Int} (h1 : ys.Perm ns) (h2 : ys.Pairwise (· ≤ ·)) : ys = sortI ns :=
  List.Perm.eq_of_pairwise (le := (· ≤ ·)) (fun a b _ _ h1 h2 => Int.le_antisymm h1 h2) h2 (sortI_pair ns) (h1.trans (sortI_perm ns).symm)
def keyInts : List (Key × PV) → Option (List Int)
  | [] => some []
  | (.inl k, _) :: r => (keyInts r).map (k :: ·)
  | _ => none
def fSorted : List PV → MH → R PV
  | [v], μ => match (lstR v μ).bind intsOf with
    | some ns => if ns.length < 64 then .ok (.frl ((sortI ns).map PV.int)) μ else .bad
    | none => match v with
      | .ref n => match μ[n]? with
        | some (.dK kvs) => match keyInts kvs with
          | some ns => if ns.length < 64 then .ok (.frl ((sortI ns).map PV.int)) μ else .bad
          | none => .bad
        | _ => .bad
      | _ => .bad
  | _, _ => .bad
def rSortedA (K : PySem.W.Frag) : List V → Hp → VK → Prop := fun xs H Q => rSorted K xs H Q ∨ ∃ (a : Addr) (kvs : List (Key × V)) (ks : List Int), xs = [.ref a] ∧ Rd H a (.dK kvs) ∧ kvs.map (·.1) = ks.map Sum.inl ∧ ks.length < 64 ∧
    ∀ (ys : List Int) (p : Addr), ys.Perm ks → ys.Pairwise (· ≤ ·) → H p = none → Q (.ref p) (upd H p (.lst (ys.map V.int)))
theorem keyInts_ok : ∀ {kvs : List (Key × PV)} {ns : List Int}, keyInts kvs = some ns → kvs.map (·.1) = ns.map Sum.inl
  | [], ns, h => by unfold keyInts at h; cases h; rfl
  | (.inl k, v) :: r, ns, h => by
    simp only [keyInts, Option.map_eq_some_iff] at h
    obtain ⟨ms, e, rfl⟩ := h
    simp [keyInts_ok e]
  | (.inr k, v) :: r, ns, h => by unfold keyInts at h; cases h
section
variable {X : Cx} {XR : XRel} {K : PySem.W.Frag}
theorem cr_sortedA (hc : X.calm = true) : CallR X (.builtin "sorted") (rSortedA X.K) := cr_sorted.or (call_sortedDI hc)
theorem cm_sorted : CallM K XR fSorted (rSortedA K) := by
  intro av E H β μ v x Q rl pv h
  unfold fSorted at h
  split at h
  · obtain ⟨y, rfl, p⟩ := one_inv pv
    split at h
    · rename_i ns e
      rw [Option.bind_eq_some_iff] at e
      obtain ⟨xs, e1, e2⟩ := e
      obtain ⟨a, vs, rfl, s, q⟩ := lstR_ok rl p e1
      split at h
      · rename_i hl
        refine .inl ⟨a, ns, rfl, by rw [← ints_rel q e2]; exact s, hl, fun ys b h1 h2 h3 => ?_⟩
        rw [sortI_eq h1 h2]
        exact new_frl rl (rel_ints _) h b h3
      · exact h.elim
    · split at h
      · rename_i n _
        split at h
        · rename_i kvs e
          split at h
          · rename_i ns e2
            split at h
            · rename_i hl
              unfold PRel at p
              obtain ⟨a, rfl, ea⟩ := p
              obtain ⟨l, h1, h2⟩ := rl.obj n a _ ea e
              refine .inr ⟨a, l, ns, rfl, .inl h1, by rw [← h2.1]; exact keyInts_ok e2, hl, fun ys b q1 q2 q3 => ?_⟩
              rw [sortI_eq q1 q2]
              exact new_frl rl (rel_ints _) h b q3
            · exact h.elim
          · exact h.elim
        · exact h.elim
      · exact h.elim
  · exact h.elim
end
end Mini

/-! M10: membership, methods, slices, displays, what is walked. -/
namespace Mini
open PySem PySem.Spec PyProof.Rows L2

/-! ### values alike -/
mutual
def PV.same : PV → PV → Bool
  | .non, .non => true
  | .bl a, .bl b => a == b
  | .int a, .int b => a == b
  | .str a, .str b => a == b
  | .op a, .op b => decide (a = b)
  | .ref a, .ref b => a == b
  | .tup a, .tup b => PV.sames a b
  | .frl a, .frl b => PV.sames a b
  | .scr a, .scr b => PV.sames a b
  | .ctp a, .ctp b => PV.sames a b
  | _, _ => false
def PV.sames : List PV → List PV → Bool
  | [], [] => true
  | a :: as, b :: bs => a.same b && PV.sames as bs
  | _, _ => false
end
mutual
theorem PV.same_eq : ∀ (a b : PV), a.same b = true → a = b
  | .non, b, h => by cases b <;> simp [PV.same] at h <;> rfl
  | .bl _, b, h => by cases b <;> simp [PV.same] at h; subst h; rfl
  | .int _, b, h => by cases b <;> simp [PV.same] at h; subst h; rfl
  | .str _, b, h => by cases b <;> simp [PV.same] at h; subst h; rfl
  | .op _, b, h => by cases b <;> simp [PV.same] at h; subst h; rfl
  | .ref _, b, h => by cases b <;> simp [PV.same] at h; subst h; rfl
  | .tup xs, b, h => by cases b <;> simp [PV.same] at h; rw [PV.sames_eq _ _ h]
  | .frl xs, b, h => by cases b <;> simp [PV.same] at h; rw [PV.sames_eq _ _ h]
  | .scr xs, b, h => by cases b <;> simp [PV.same] at h; rw [PV.sames_eq _ _ h]
  | .ctp xs, b, h => by cases b <;> simp [PV.same] at h; rw [PV.sames_eq _ _ h]
theorem PV.sames_eq : ∀ (a b : List PV), PV.sames a b = true → a = b
  | [], b, h => by cases b <;> simp [PV.sames] at h; rfl
  | x :: xs, b, h => by
    cases b with
    | nil => simp [PV.sames] at h
    | cons y ys =>
      simp [PV.sames] at h
      rw [PV.same_eq x y h.1, PV.sames_eq xs ys h.2]
end
mutual
theorem PV.same_refl : ∀ (a : PV), a.same a = true
  | .non | .bl _ | .int _ | .str _ | .op _ | .ref _ => by simp [PV.same]
  | .tup xs | .frl xs | .scr xs | .ctp xs => by simp [PV.same, PV.sames_refl xs]
theorem PV.sames_refl : ∀ (a : List PV), PV.sames a a = true
  | [] => by simp [PV.sames]
  | x :: xs => by simp [PV.sames, PV.same_refl x, PV.sames_refl xs]
end

/-! ### what is walked -/
def always : MH → Bool := fun _ => true
/-- the list at a place, as long as it stays as it is -/
def stays (n : Nat) (xs : List PV) : MH → Bool := fun μ => match μ[n]? with
  | some (.lst ys) => PV.sames ys xs
  | _ => false
theorem stays_ok {n : Nat} {xs : List PV} {μ : MH} (h : stays n xs μ = true) : μ[n]? = some (.lst xs) := by
  unfold stays at h
  split at h
  · rename_i ys e; rw [e, PV.sames_eq _ _ h]
  · cases h
theorem stays_self {n : Nat} {xs : List PV} {μ : MH} (h : μ[n]? = some (.lst xs)) : stays n xs μ = true := by
  unfold stays; rw [h]; exact PV.sames_refl xs
def planOf (v : PV) (μ : MH) : Option Plan := match v with
  | .tup xs => some ⟨xs, always⟩
  | .ctp xs => some ⟨xs, always⟩
  | .frl xs => some ⟨xs, always⟩
  | .scr xs => some ⟨xs, always⟩
  | .ref n => match μ[n]? with
    | some (.lst xs) => some ⟨xs, stays n xs⟩
    | _ => none
  | _ => none
def mOver (a : ME) : MI := fun s μ => (a s μ).bind fun v μ1 => match planOf v μ1 with
  | some p => .ok p μ1
  | none => .bad
def rangeVals (lo : Int) (n : Nat) : List PV := (List.range n).map fun i => .int (lo + (i : Nat))
/-- small enough for range -/
def okRange : Int → Bool
  | .ofNat n => Nat.ble n 1000000000
  | .negSucc n => Nat.ble n 1000000000
theorem okRange_ok {j : Int} (h : okRange j = true) : j < 2 ^ 62 ∧ -(2 ^ 62) ≤ j := by
  cases j with
  | ofNat n =>
    have : n ≤ 1000000000 := Nat.le_of_ble_eq_true h
    have e : (Int.ofNat n) = (n : Int) := rfl
    rw [e]
    omega
  | negSucc n =>
    have : n ≤ 1000000000 := Nat.le_of_ble_eq_true h
    have e : (Int.negSucc n) = -((n : Int) + 1) := rfl
    rw [e]
    omega
theorem okRange_nat {n : Nat} (h : n ≤ 1000000000) : okRange ((n : Nat) : Int) = true := Nat.ble_eq_true_of_le h
def mRange1 (a : ME) : MI := fun s μ => (a s μ).bind fun v μ1 => match v with
  | .int j => if okRange j = true then .ok ⟨rangeVals 0 j.toNat, always⟩ μ1 else .bad
  | _ => .bad
def mRange2 (a b : ME) : MI := fun s μ => (a s μ).bind fun v μ1 => (b s μ1).bind fun w μ2 => match v, w with
  | .int i, .int j => if okRange i = true ∧ okRange j = true then .ok ⟨rangeVals i (j - i).toNat, always⟩ μ2 else .bad
  | _, _ => .bad
def zipVals : List PV → List PV → List PV
  | x :: xs, y :: ys => .tup [x, y] :: zipVals xs ys
  | _, _ => []
def isT : PV → Bool
  | .tup _ => true
  | .ctp _ => true
  | _ => false
def mZip (a b : ME) : MI := fun s μ => (a s μ).bind fun v μ1 => (b s μ1).bind fun w μ2 => match planOf v μ2, planOf w μ2 with
  | some p, some q => if isT v == isT w then .ok ⟨zipVals p.vals q.vals, fun μ => p.chk μ && q.chk μ⟩ μ2 else .bad
  | _, _ => .bad
def enumVals : Nat → List PV → List PV
  | _, [] => []
  | i, x :: xs => .tup [.int (i : Nat), x] :: enumVals (i + 1) xs
def mEnum (a : ME) : MI := fun s μ => (a s μ).bind fun v μ1 => match planOf v μ1 with
  | some p => .ok ⟨enumVals 0 p.vals, p.chk⟩ μ1
  | none => .bad
def mChars (a : ME) : MI := fun s μ => (a s μ).bind fun v μ1 => match v with
  | .str z => .ok ⟨z.cps.toList.map fun c => .str ⟨#[c]⟩, always⟩ μ1
  | _ => .bad
/-- how the items of a plan stand at a later heap -/
inductive PlanAt (K : PySem.W.Frag) (av : List Addr) (H : Hp) (β : List Addr) : PV → Plan → Addr → List V → Prop
  | tup {v xs a vs} (e : seqT v = some xs) (h : SqT K H a vs) (p : PRels ⟨K, av⟩ H β xs vs) (n : (H a = some (.tup vs) ∧ a ∉ β) ∨ CT ⟨K, av⟩ H β a vs) : PlanAt K av H β v ⟨xs, always⟩ a vs
section
variable {K : PySem.W.Frag} {av : List Addr} {XR : XRel} {H : Hp} {β : List Addr} {μ : MH}
theorem not_av {av' : List Addr} {a : Addr} (hv : ∀ a ∈ av', a ∈ av ∨ H a = none) (h : H a ≠ none) (hn : a ∉ av) : a ∉ av' := fun q => by
  rcases hv a q with z | z
  · exact hn z
  · exact h z
theorem planOf_tup {v : PV} {p : Plan} {x : V} (pv : PRel ⟨K, av⟩ H β v x) (h : planOf v μ = some p) (t : isT v = true) : ∃ a vs, x = .ref a ∧ p.chk = always ∧ PRels ⟨K, av⟩ H β p.vals vs ∧ SqT K H a vs ∧ ∀ av' : List Addr, (∀ a ∈ av', a ∈ av ∨ H a = none) → ∀ H' β', ExtW av' H β H' β' → SqT K H' a vs := by
  cases v <;> first
    | exact Bool.noConfusion (show false = true from t)
    | (unfold planOf at h
       cases h
       first
       | (obtain ⟨a, vs, rfl, s, q⟩ := tup_inv pv
          exact ⟨a, vs, rfl, rfl, q, s.sq, fun av' hv H' β' e => .inl (.inl (e.stay _ _ s.1 s.2.1 (not_av hv (by rw [s.1]; exact fun q => nomatch q) s.2.2)))⟩)
       | (obtain ⟨a, vs, rfl, s, q⟩ := ctp_inv pv
          exact ⟨a, vs, rfl, rfl, q, s.sq, fun av' hv H' β' e => by
            rcases s with ⟨⟨o, h, _⟩, n, na⟩ | s
            · exact .inl (.inr ⟨o, e.stay _ _ h n (not_av hv (by rw [h]; exact fun q => nomatch q) na)⟩)
            · exact CT.sq (K := ⟨K, av⟩) (β := β) (.inr s)⟩))
theorem SqLf.up {av' : List Addr} (hs : ∀ a, (H a ≠ none ∧ a ∉ β ∧ a ∉ av) → a ∉ β ∧ a ∉ av') {a : Addr} {vs : List V} (h : SqLf ⟨K, av⟩ H β a vs) : SqLf ⟨K, av'⟩ H β a vs := by
  rcases h with ⟨h, n, na⟩ | h
  · exact .inl ⟨h, hs a ⟨Rd.some h, n, na⟩⟩
  · exact .inr h
/-- a list that is walked: its items at each later heap at which the check holds -/
theorem planOf_lst {v : PV} {p : Plan} {x : V} (rl : Rl ⟨K, av⟩ H β μ) (pv : PRel ⟨K, av⟩ H β v x) (h : planOf v μ = some p) (t : isT v = false) : ∃ a, x = .ref a ∧ (∃ vs, SqL K H a vs) ∧
    ∀ av' : List Addr, (∀ a ∈ av', a ∈ av ∨ H a = none) → ∀ H' β' μ', ExtW av' H β H' β' → Rl ⟨K, av'⟩ H' β' μ' → p.chk μ' = true → ∃ vs, SqL K H' a vs ∧ PRels ⟨K, av'⟩ H' β' p.vals vs := by
  have up : ∀ av' : List Addr, (∀ a ∈ av', a ∈ av ∨ H a = none) → ∀ a, (H a ≠ none ∧ a ∉ β ∧ a ∉ av) → a ∉ β ∧ a ∉ av' := fun av' hv a ⟨h1, h2, h3⟩ => ⟨h2, fun q => by
    rcases hv a q with z | z
    · exact h3 z
    · exact h1 z⟩
  cases v <;> first
    | exact Bool.noConfusion (show true = false from t)
    | (unfold planOf at h; cases h; done)
    | skip
  · rename_i n
    unfold planOf at h
    simp only at h
    split at h
    · rename_i xs e
      cases h
      unfold PRel at pv
      obtain ⟨a, rfl, ea⟩ := pv
      obtain ⟨vs, h1, h2⟩ := rl.obj n a _ ea e
      refine ⟨a, rfl, ⟨vs, SqL.of h1⟩, fun av' _ H' β' μ' ex rl' ck => ?_⟩
      obtain ⟨ws, h3, h4⟩ := rl'.obj n a _ (ex.ix ea) (stays_ok ck)
      exact ⟨ws, SqL.of h3, h4⟩
    · cases h
  · rename_i xs
    unfold planOf at h
    cases h
    unfold PRel at pv
    obtain ⟨a, vs, rfl, ⟨h1, h2, h3⟩, q⟩ := pv
    exact ⟨a, rfl, ⟨vs, SqL.of h1⟩, fun av' hv H' β' μ' ex rl' _ => ⟨vs, SqL.of (ex.stay _ _ h1 h2 (not_av hv (by rw [h1]; exact fun q => nomatch q) h3)), PRels.extW ex _ (PRels.av_ (K := K) (up av' hv) (fun _ _ h => h) _ q)⟩⟩
  · rename_i xs
    unfold planOf at h
    cases h
    unfold PRel at pv
    obtain ⟨a, vs, rfl, s, q⟩ := pv
    exact ⟨a, rfl, ⟨vs, s.sq⟩, fun av' hv H' β' μ' ex rl' _ => ⟨vs, ((s.up (up av' hv)).extW ex).sq, PRels.extW ex _ (PRels.av_ (K := K) (up av' hv) (fun _ _ h => h) _ q)⟩⟩
theorem up_rels {av' : List Addr} {vs : List PV} {xs : List V} (hv : ∀ a ∈ av', a ∈ av ∨ H a = none) (q : PRels ⟨K, av⟩ H β vs xs) {H' : Hp} {β' : List Addr} (ex : ExtW av' H β H' β') : PRels ⟨K, av'⟩ H' β' vs xs :=
  PRels.extW ex _ (PRels.av_ (K := K) (fun a ⟨h1, h2, h3⟩ => ⟨h2, fun q => by
    rcases hv a q with z | z
    · exact h3 z
    · exact h1 z⟩) (fun _ _ h => h) _ q)
end
section
variable {X : Cx} {XR : XRel} {E : L2.St → XK} {tg : Expr}
theorem ti_e {K : PySem.W.Frag} {av : List Addr} {σ : L2.St} {H : Hp} {m : ME} {k : PV → MH → R Plan} {β : List Addr} {s : MS} {μ : MH} {Q : VK} {Q' : It → Hp → Prop} (rl : Rl ⟨K, av⟩ H β μ) (sr : SRel ⟨K, av⟩ H β s σ) (h : IOutOk ⟨K, av⟩ XR H β (E σ) Q' ((m s μ).bind k))
    (q : ∀ v μ' x H' β', Ext H β H' β' → Rl ⟨K, av⟩ H' β' μ' → SRel ⟨K, av⟩ H' β' s σ → PRel ⟨K, av⟩ H' β' v x → IOutOk ⟨K, av⟩ XR H' β' (E σ) Q' (k v μ') → Q x H') : tM K XR E m σ H Q := by
  refine ⟨av, β, s, μ, rl, sr, ?_⟩
  cases e : m s μ with
  | bad => rw [e] at h; exact h
  | err c p μ' => rw [e] at h; exact h
  | ok v μ' =>
    rw [e] at h
    refine fun x H' β' ex rl' pr => q v μ' x H' β' ex rl' (sr.ext ex) pr ?_
    cases e2 : k v μ' with
    | bad => simp only [R.bind, e2] at h; exact h
    | err c p μ2 => simp only [R.bind, e2] at h; exact fun cls d H2 β2 ex2 => h cls d H2 β2 (ex.trans ex2)
    | ok pl μ2 => simp only [R.bind, e2] at h; exact fun J H2 β2 ex2 => h J H2 β2 (ex.trans ex2)
theorem mi_over {e : Expr} {m : ME} (he : PM X XR E e m) : PIM X XR E tg e (mOver m) := by
  refine ⟨fun pins z σ H R I ⟨av, β, s, μ, rl, sr, h⟩ => ?_⟩
  have h' := ti_e (Q := fun x H1 => (∃ a, x = .ref a ∧ (∃ xs, SqL X.K H1 a xs) ∧ R (Itl X.K a) H1) ∨ (∃ a, x = .ref a ∧ (∃ xs, SqT X.K H1 a xs) ∧ R (Itt X.K a) H1)) rl sr h fun v μ1 x H1 β1 ex rl1 sr1 p q => by
    cases e1 : planOf v μ1 with
    | none => rw [e1] at q; exact q.elim
    | some pl =>
      rw [e1] at q
      by_cases t : isT v = true
      · obtain ⟨a, vs, rfl, ck, pr, st, keep⟩ := planOf_tup p e1 t
        refine .inr ⟨a, rfl, ⟨vs, st⟩, q _ H1 β1 .refl rl1 fun av' hv H2 β2 μ2 ex2 rl2 _ i => ?_⟩
        have st2 := keep av' hv H2 β2 ex2
        have pr2 := up_rels hv pr ex2
        cases e2 : pl.vals[i]? with
        | none => exact ⟨vs, st2, by rw [← pr2.length]; exact List.getElem?_eq_none_iff.mp e2⟩
        | some w =>
          obtain ⟨y, e3, p3⟩ := pr2.get e2
          refine ⟨⟨vs, y, st2, e3⟩, fun x' H3 ⟨e4, f⟩ => ?_⟩
          subst e4
          have := f vs st2
          rw [e3] at this
          cases this
          exact ⟨.refl, rl2, p3⟩
      · obtain ⟨a, rfl, st, keep⟩ := planOf_lst rl1 p e1 (by simpa using t)
        refine .inl ⟨a, rfl, st, q _ H1 β1 .refl rl1 fun av' hv H2 β2 μ2 ex2 rl2 ck i => ?_⟩
        obtain ⟨vs, st2, pr2⟩ := keep av' hv H2 β2 μ2 ex2 rl2 ck
        cases e2 : pl.vals[i]? with
        | none => exact ⟨vs, st2, by rw [← pr2.length]; exact List.getElem?_eq_none_iff.mp e2⟩
        | some w =>
          obtain ⟨y, e3, p3⟩ := pr2.get e2
          refine ⟨⟨vs, y, st2, e3⟩, fun x' H3 ⟨e4, f⟩ => ?_⟩
          subst e4
          have := f vs st2
          rw [e3] at this
          cases this
          exact ⟨.refl, rl2, p3⟩
  refine thn (he.run pins z σ H _ I h') fun v z1 ⟨x, H1, I1, r1, q1⟩ => ?_
  rcases q1 with ⟨a, rfl, ⟨xs, hq⟩, q⟩ | ⟨a, rfl, ⟨xs, hq⟩, q⟩
  · cases r1
    obtain ⟨its, rv, pl, hz⟩ := I1.list hq
    refine wpAny_pyIter_list pl.isList ⟨z1.heap.objs.size, [z1.heap.objs.size], _, _, H1, rfl, I1.kept (t' := z1.toks) fun b o e => Heap.get?_push_of_some _ e, turn_list a _, ⟨_, Heap.get?_push_size _ rfl, rfl, rfl⟩, fun b hb => ?_, q⟩
    obtain rfl : b = z1.heap.objs.size := by simpa using hb
    exact I1.fpOk (Nat.le_refl _) (I1.hok.fresh (Nat.le_refl _))
  · cases r1
    obtain ⟨its, rv, pl, hz⟩ := I1.tuple hq
    refine wpAny_pyIter_tuple (show z1.heap.IsTuple a its.toArray from pl) ⟨z1.heap.objs.size, [z1.heap.objs.size], _, _, H1, rfl, I1.kept (t' := z1.toks) fun b o e => Heap.get?_push_of_some _ e, turn_tuple a _, ⟨_, Heap.get?_push_size _ rfl, rfl, rfl⟩, fun b hb => ?_, q⟩
    obtain rfl : b = z1.heap.objs.size := by simpa using hb
    exact I1.fpOk (Nat.le_refl _) (I1.hok.fresh (Nat.le_refl _))
/-- a range -/
theorem range_plan {K : Gx} {H : Hp} {β : List Addr} {lo : Int} {n : Nat} : PlanOk K H β ⟨rangeVals lo n, always⟩ (Itr lo n) := by
  intro av' _ H2 β2 μ2 ex2 rl2 _ i
  show match (rangeVals lo n)[i]? with | some v => _ | none => _
  unfold rangeVals
  rw [List.getElem?_map]
  by_cases hi : i < n
  · rw [List.getElem?_range hi]
    refine ⟨hi, fun x H3 ⟨e1, e2⟩ => ?_⟩
    subst e1; subst e2
    exact ⟨.refl, rl2, .int_⟩
  · rw [List.getElem?_eq_none (by simpa using hi)]
    exact Nat.le_of_not_lt hi
theorem ti_args1 {K : PySem.W.Frag} {av : List Addr} {σ : L2.St} {H : Hp} {m : ME} {k : PV → MH → R Plan} {β : List Addr} {s : MS} {μ : MH} {Q : List V → Hp → Prop} {Q' : It → Hp → Prop} (rl : Rl ⟨K, av⟩ H β μ) (sr : SRel ⟨K, av⟩ H β s σ) (h : IOutOk ⟨K, av⟩ XR H β (E σ) Q' ((m s μ).bind k))
    (q : ∀ v μ' x H' β', Ext H β H' β' → Rl ⟨K, av⟩ H' β' μ' → SRel ⟨K, av⟩ H' β' s σ → PRel ⟨K, av⟩ H' β' v x → IOutOk ⟨K, av⟩ XR H' β' (E σ) Q' (k v μ') → Q [x] H') : tCons (tM K XR E m) tNil σ H Q :=
  ti_e rl sr h fun v μ' x H' β' a b c d e => q v μ' x H' β' a b c d e
theorem ti_args2 {K : PySem.W.Frag} {av : List Addr} {σ : L2.St} {H : Hp} {m m2 : ME} {k : PV → PV → MH → R Plan} {β : List Addr} {s : MS} {μ : MH} {Q : List V → Hp → Prop} {Q' : It → Hp → Prop} (rl : Rl ⟨K, av⟩ H β μ) (sr : SRel ⟨K, av⟩ H β s σ) (h : IOutOk ⟨K, av⟩ XR H β (E σ) Q' ((m s μ).bind fun v μ1 => (m2 s μ1).bind fun w μ2 => k v w μ2))
    (q : ∀ v w μ' x y H' β', Ext H β H' β' → Rl ⟨K, av⟩ H' β' μ' → SRel ⟨K, av⟩ H' β' s σ → PRel ⟨K, av⟩ H' β' v x → PRel ⟨K, av⟩ H' β' w y → IOutOk ⟨K, av⟩ XR H' β' (E σ) Q' (k v w μ') → Q [x, y] H') : tCons (tM K XR E m) (tCons (tM K XR E m2) tNil) σ H Q :=
  ti_e rl sr h fun v μ1 x H1 β1 ex1 rl1 sr1 p1 h1 => ti_e rl1 sr1 h1 fun w μ2 y H2 β2 ex2 rl2 sr2 p2 h2 => q v w μ2 x y H2 β2 (ex1.trans ex2) rl2 sr2 (p1.ext ex2) p2 h2
theorem pa1 {a : Expr} {ma : ME} (ha : PM X XR E a ma) (hs : starEach [a] X.env = (false, eval a X.env) :: starEach [] X.env := by rfl) : PA X [a] (tCons (tM X.K XR E ma) tNil) := pa_cons ha pa_nil hs
theorem pa2 {a b : Expr} {ma mb : ME} (ha : PM X XR E a ma) (hb : PM X XR E b mb) (hs : starEach [a, b] X.env = (false, eval a X.env) :: starEach [b] X.env := by rfl) (hs2 : starEach [b] X.env = (false, eval b X.env) :: starEach [] X.env := by rfl) : PA X [a, b] (tCons (tM X.K XR E ma) (tCons (tM X.K XR E mb) tNil)) := pa_cons ha (pa_cons hb pa_nil hs2) hs
theorem mi_range1 {a : Expr} {ma : ME} {p pos : Pos} (hg : Gl X "range") (hm : X.mg "range" = none) (ha : PM X XR E a ma) (hs : starEach [a] X.env = [(false, eval a X.env)] := by rfl) : PIM X XR E tg (.Call (.Name "range" p) [a] [] pos) (mRange1 ma) :=
  PI.imp (pi_range1 hg hm (pa1 ha hs) hs) fun σ H Q ⟨av, β, s, μ, rl, sr, h⟩ => by
    unfold iRng1
    refine ti_args1 rl sr h fun v μ1 x H1 β1 ex rl1 sr1 p q => ?_
    cases v <;> first
      | exact q.elim
      | (simp only at q
         split at q
         · rename_i hb
           exact ⟨_, by rw [int_inv p], (okRange_ok hb).2, (okRange_ok hb).1, q _ H1 β1 .refl rl1 range_plan⟩
         · exact q.elim)
theorem mi_range2 {a b : Expr} {ma mb : ME} {p pos : Pos} (hg : Gl X "range") (hm : X.mg "range" = none) (ha : PM X XR E a ma) (hb : PM X XR E b mb) (hs : starEach [a, b] X.env = [(false, eval a X.env), (false, eval b X.env)] := by rfl) (hs2 : starEach [b] X.env = [(false, eval b X.env)] := by rfl) :
    PIM X XR E tg (.Call (.Name "range" p) [a, b] [] pos) (mRange2 ma mb) :=
  PI.imp (pi_range2 hg hm (pa2 ha hb (by rw [hs, hs2]) hs2) hs hs2) fun σ H Q ⟨av, β, s, μ, rl, sr, h⟩ => by
    unfold iRng2
    refine ti_args2 rl sr h fun v w μ1 x y H1 β1 ex rl1 sr1 p p2 q => ?_
    cases v <;> first
      | exact q.elim
      | (cases w <;> first
          | exact q.elim
          | (simp only at q
             split at q
             · rename_i hb
               exact ⟨_, _, by rw [int_inv p, int_inv p2], ⟨(okRange_ok hb.1).2, (okRange_ok hb.1).1, (okRange_ok hb.2).2, (okRange_ok hb.2).1⟩, q _ H1 β1 .refl rl1 range_plan⟩
             · exact q.elim))
end
end Mini

/-! M11: zip, enumerate, signs of a text, two clauses. -/
namespace Mini
open PySem PySem.Spec PyProof.Rows L2 RZ

section
variable {X : Cx} {XR : XRel} {E : L2.St → XK} {tg : Expr}
theorem zip_get : ∀ {xs ys : List PV} {i : Nat}, (zipVals xs ys)[i]? = (match xs[i]?, ys[i]? with | some x, some y => some (.tup [x, y]) | _, _ => none)
  | [], ys, i => by simp [zipVals]
  | x :: xs, [], i => by simp [zipVals]
  | x :: xs, y :: ys, 0 => by simp [zipVals]
  | x :: xs, y :: ys, i + 1 => by simp only [zipVals, List.getElem?_cons_succ]; exact zip_get
theorem enum_get : ∀ {xs : List PV} {k i : Nat}, (enumVals k xs)[i]? = xs[i]?.map fun x => .tup [.int ((k + i : Nat) : Int), x]
  | [], k, i => by simp [enumVals]
  | x :: xs, k, 0 => by simp [enumVals]
  | x :: xs, k, i + 1 => by
    simp only [enumVals, List.getElem?_cons_succ]
    rw [enum_get]
    congr 1
    funext y
    rw [show k + 1 + i = k + (i + 1) by omega]
/-- a new pair at hand -/
theorem pair_new {K : PySem.W.Frag} {av : List Addr} {H : Hp} {β : List Addr} {μ : MH} {T : Addr} {ws : List PV} {vs : List V} (rl : Rl ⟨K, av⟩ H β μ) (hT : H T = none) (p : PRels ⟨K, av⟩ H β ws vs) :
    Ext H β (upd H T (.tup vs)) β ∧ Rl ⟨K, av⟩ (upd H T (.tup vs)) β μ ∧ PRel ⟨K, av⟩ (upd H T (.tup vs)) β (.tup ws) (.ref T) := by
  refine ⟨Ext.new rl hT _, rl.new hT _, ?_⟩
  unfold PRel
  exact ⟨T, vs, rfl, ⟨upd_same, rl.fresh hT⟩, PRels.ext (Ext.new rl hT _) _ p⟩
theorem mi_zip {a b : Expr} {ma mb : ME} {p pos tpos : Pos} {elts : List Expr} {kk : Nat} (hg : Gl X "zip") (hm : X.mg "zip" = none) (ha : PM X XR E a ma) (hb : PM X XR E b mb) (hs : starEach [a, b] X.env = (false, eval a X.env) :: starEach [b] X.env := by rfl) (hs2 : starEach [b] X.env = (false, eval b X.env) :: starEach [] X.env := by rfl)
    (hpl : (backTo pos (starEach [b] X.env)).any (·.1) = false := by rfl) : PIM X XR E (.Tuple elts kk tpos) (.Call (.Name "zip" p) [a, b] [] pos) (mZip ma mb) :=
  PI.imp (pi_zipA hg hm (pa2 ha hb hs hs2) hs hpl) fun σ H Q ⟨av, β, s, μ, rl, sr, h⟩ => by
    unfold iZipA
    refine ti_args2 rl sr h fun v w μ1 x y H1 β1 ex rl1 sr1 pv pw q => ?_
    cases e1 : planOf v μ1 with
    | none => rw [e1] at q; exact q.elim
    | some p1 =>
      cases e2 : planOf w μ1 with
      | none => rw [e1, e2] at q; exact q.elim
      | some p2 =>
        rw [e1, e2] at q
        simp only at q
        split at q
        · rename_i ht
          have ht' : isT v = isT w := by simpa using ht
          by_cases t : isT v = true
          · obtain ⟨a, vs, rfl, ck, pr, st, keep⟩ := planOf_tup pv e1 t
            obtain ⟨b, ws, rfl, ck2, pr2, st2, keep2⟩ := planOf_tup pw e2 (ht' ▸ t)
            refine ⟨a, b, vs, ws, rfl, .inr ⟨st, st2, q _ H1 β1 .refl rl1 fun av' hv H2 β2 μ2 ex2 rl2 _ i => ?_⟩⟩
            have s1 := keep av' hv H2 β2 ex2
            have s2 := keep2 av' hv H2 β2 ex2
            have q1 := up_rels hv pr ex2
            have q2 := up_rels hv pr2 ex2
            show match (zipVals p1.vals p2.vals)[i]? with | some v => _ | none => _
            rw [zip_get]
            cases e3 : p1.vals[i]? with
            | none => exact ⟨vs, ws, s1, s2, .inl (by rw [← q1.length]; exact List.getElem?_eq_none_iff.mp e3)⟩
            | some z1 =>
              cases e4 : p2.vals[i]? with
              | none => exact ⟨vs, ws, s1, s2, .inr (by rw [← q2.length]; exact List.getElem?_eq_none_iff.mp e4)⟩
              | some z2 =>
                obtain ⟨y1, f1, g1⟩ := q1.get e3
                obtain ⟨y2, f2, g2⟩ := q2.get e4
                refine ⟨⟨vs, ws, y1, y2, s1, s2, f1, f2⟩, fun x' H3 ⟨T, u1, u2, ex', hT, eH, k1, k2⟩ => ?_⟩
                have k1' := k1 vs s1
                have k2' := k2 ws s2
                rw [f1] at k1'; rw [f2] at k2'
                cases k1'; cases k2'
                subst ex'; subst eH
                exact pair_new rl2 hT (.cons g1 (.cons g2 .nil))
          · have t1 : isT v = false := by simpa using t
            obtain ⟨a, rfl, ⟨vs, st⟩, keep⟩ := planOf_lst rl1 pv e1 t1
            obtain ⟨b, rfl, ⟨ws, st2⟩, keep2⟩ := planOf_lst rl1 pw e2 (ht' ▸ t1)
            refine ⟨a, b, vs, ws, rfl, .inl ⟨st, st2, q _ H1 β1 .refl rl1 fun av' hv H2 β2 μ2 ex2 rl2 ck i => ?_⟩⟩
            have ck' : (p1.chk μ2 && p2.chk μ2) = true := ck
            rw [Bool.and_eq_true] at ck'
            obtain ⟨vs, s1, q1⟩ := keep av' hv H2 β2 μ2 ex2 rl2 ck'.1
            obtain ⟨ws, s2, q2⟩ := keep2 av' hv H2 β2 μ2 ex2 rl2 ck'.2
            show match (zipVals p1.vals p2.vals)[i]? with | some v => _ | none => _
            rw [zip_get]
            cases e3 : p1.vals[i]? with
            | none => exact ⟨vs, ws, s1, s2, .inl (by rw [← q1.length]; exact List.getElem?_eq_none_iff.mp e3)⟩
            | some z1 =>
              cases e4 : p2.vals[i]? with
              | none => exact ⟨vs, ws, s1, s2, .inr (by rw [← q2.length]; exact List.getElem?_eq_none_iff.mp e4)⟩
              | some z2 =>
                obtain ⟨y1, f1, g1⟩ := q1.get e3
                obtain ⟨y2, f2, g2⟩ := q2.get e4
                refine ⟨⟨vs, ws, y1, y2, s1, s2, f1, f2⟩, fun x' H3 ⟨T, u1, u2, ex', hT, eH, k1, k2⟩ => ?_⟩
                have k1' := k1 vs s1
                have k2' := k2 ws s2
                rw [f1] at k1'; rw [f2] at k2'
                cases k1'; cases k2'
                subst ex'; subst eH
                exact pair_new rl2 hT (.cons g1 (.cons g2 .nil))
        · exact q.elim

/-! ### enumerate, of a tuple too -/
/-- the tuple at a, each item in a new pair -/
def IteT (K : PySem.W.Frag) (a : Addr) : It where
  go i H := ∃ (xs : List V) (x : V), SqT K H a xs ∧ xs[i]? = some x
  yld i H v H' := ∃ T x, v = .ref T ∧ H T = none ∧ H' = upd H T (.tup [.int (i : Nat), x]) ∧ ∀ xs, SqT K H a xs → xs[i]? = some x
  stop i H := ∃ xs : List V, SqT K H a xs ∧ xs.length ≤ i
/-- where an enumerate over the tuple at a stands -/
structure AtT (e it a : Addr) (i : Nat) (h : Heap) : Prop where
  en : ∃ old, IsEnum h e it ((i : Nat) : Int) old
  it_ : h.IsTupleIter it a i
  ne1 : e ≠ it
  ne2 : a ≠ e
  ne3 : a ≠ it
/-- an iterator over the tuple at a that has come behind its end draws nothing -/
theorem draws_none {P : Program} {w : World} {A : Around} (hd : A.handled = none) {it a : Addr} {i : Nat} {its : Array Value} (out : its.size ≤ i) :
    Draws P w A it [it, a] 0 (fun _ _ => True) (fun _ h => h.IsTupleIter it a i ∧ h.IsTuple a its) where
  live _ _ st := st.1.elim fun o h => ⟨o, h.1⟩
  frame _ _ _ st k := ⟨st.1.at (k it (by simp)), st.2.at (k a (by simp))⟩
  item _ _ _ _ no := absurd no (Nat.not_lt_zero _)
  done _ _ _ st := wpAny_nextOf_tuple_end hd st.1 st.2 (by simp [out])
theorem turn_enumT {P : Program} {w : World} {K : PySem.W.Frag} {elts : List Expr} {kk : Nat} {tpos : Pos} (a e it : Addr) : Turn P w K (.Tuple elts kk tpos) (IteT K a) [e, it] e (AtT e it a) where
  mem := List.mem_cons_self
  obj i h st b hb := by
    obtain ⟨⟨old, he⟩, ⟨o, ho, _, hd⟩, _, _, _⟩ := st
    simp only [List.mem_cons, List.not_mem_nil, or_false] at hb
    cases hb with
    | inl q => subst q; exact ⟨_, he, by simp⟩
    | inr q => subst q; exact ⟨o, ho, by simp [hd]⟩
  keep i h h' st k := { st with en := st.en.imp fun _ he => k e (by simp) _ he, it_ := st.it_.at fun o q => k it (by simp) o q }
  self A i s Q E st h := st.en.elim fun _ he => wpAny_pyIter_enum he h
  item X hP hw hK hc i pins s σ H E I hf st hg := by
    cases hP; cases hw; cases hK
    obtain ⟨xs, x, sq, hx⟩ := hg
    obtain ⟨its, rv, p, _⟩ := I.tuple sq
    obtain ⟨u, hu, ru⟩ := rv.get hx
    have iu : its.toArray[i]? = some u := by simpa using hu
    have W := WalksT.enumerateD (Draws.tuple (prog := X.prog) (w := X.w) (A := X.A.in1) (I.ok.hd hc) it a st.ne3 its.toArray) e st.ne1 (by simp [st.ne1, st.ne2.symm]) (by simp)
    apply W.item i s _ _ (Array.getElem?_eq_some_iff.mp iu).1 ⟨st.en, st.it_, p⟩
    rintro T vals h1 tk ⟨t, y, hy, rfl⟩ above isT mid same1
    cases iu.symm.trans hy
    refine ⟨_, rfl, W.go elts kk tpos i T _ _ _ mid fun h2 st2 same2 => ?_⟩
    have same : ∀ b o, b ∉ [e, it] → s.heap.get? b = some o → h2.get? b = some o := fun b o hb q => same2 b o hb (same1 b o hb q)
    have apart : ∀ b ∈ [e, it], b ≠ T := fun b hb q => W.apart i T h1 mid (q ▸ hb)
    have isT2 : h2.IsTuple T #[.int (i : Nat) t, u] := isT.at fun o q => same2 T o (fun hb => apart T hb rfl) q
    refine ⟨.ref T, upd H T (.tup [.int (i : Nat), x]), I.turnedNew (ch := [e, it]) same hf above ?_, rfl, ⟨T, x, rfl, I.hok.fresh above, rfl, fun ys hy => ?_⟩, ?_, fun b hb => ?_⟩
    · exact ⟨by show 2 ≤ sizeLine; decide, [.int (i : Nat) t, u], .cons ⟨t, rfl⟩ (.cons ru .nil), isT2⟩
    · rw [I.tuple_inj hy sq]; exact hx
    · exact { st with en := st2.1, it_ := st2.2.1 }
    · rw [upd_ne (apart b hb)]; exact (hf b hb).1
  done X hP hw hK hc i pins s σ H E I hf st hg := by
    cases hP; cases hw; cases hK
    obtain ⟨xs, sq, hx⟩ := hg
    obtain ⟨its, rv, p, _⟩ := I.tuple sq
    obtain ⟨old, he⟩ := st.en
    have ended := draws_none (P := X.prog) (w := X.w) (A := X.A.in1) (it := it) (a := a) (i := i) (its := its.toArray) (I.ok.hd hc) (by rw [rv.length] at hx; simpa using hx)
    apply wpAny_pyNext_enum_endD ended he ⟨st.it_, p⟩
    intro h' eb
    have fp := hf it (by simp)
    exact ⟨rfl, I.turned (t' := s.toks) (fun b o hb q => eb b o hb q) fp.1 fp.2.1 fp.2.2.2.1 fp.2.2.2.2.1 fp.2.2.2.2.2⟩
/-- a Boolean at hand: both ways stand -/
theorem pure_bool {M : Model} {A : Around} {E : Value → Shared → Prop} {s : Shared} {Q : Bool → Shared → Prop} {b : Bool} (yes : Q true s) (no : Q false s) : wpAny M A (pure b) Q E s :=
  wpAny_pure (b.rec no yes)
/-- a new enumerate, of anything that an iterator begins -/
theorem enum_meets {v : Value} {o : Obj} {Hs : Heap → Prop} (B : Begins v o Hs) : Meets (Builtin.«enumerate.__new__» ⟨[.type "enumerate", v], []⟩) (fun _ R s => Hs s.heap ∧
    R (.ok (.ret (.ref (s.heap.push o).objs.size))) { s with heap := (s.heap.push o).push { cls := .type "enumerate", data := .fields #[.none, .bool false, .ref s.heap.objs.size, rawInt 0, .none, .none] } }) := by
  apply Meets.of_wp
  rintro prog w A R ⟨h, g, d, tk, os⟩ ⟨ok, fin⟩
  have is := sub_enumerate
  have iter : ∀ {A' : Around} {E : Value → Shared → Prop} {Q : Value → Shared → Prop}, Q (.ref h.objs.size) ⟨h.push o, g, d, tk, os⟩ → wpAny (model prog w) A' (pyIter v) Q E ⟨h, g, d, tk, os⟩ := B.iter prog w _ _ ⟨h, g, d, tk, os⟩ _ ok
  wp_walk using iter
  apply wpAny_stack_any
  intro st
  apply pure_bool <;> wp_walk using iter <;> exact ⟨_, rfl, fin⟩
def iEnumT (K : PySem.W.Frag) (ta : TA) : TI := fun σ H R => ta σ H fun vs H1 => ∃ a xs, vs = [.ref a] ∧ SqT K H1 a xs ∧ R (IteT K a) H1
/-- the call enumerate(t) of a tuple: a new tuple iterator, behind it the new enumerate -/
theorem enum_made {prog : Program} {w : World} {A : Around} {E : Value → Shared → Prop} {s : Shared} {a : Addr} {items : Array Value} {Q : Value → Shared → Prop} (tu : s.heap.IsTuple a items)
    (h : ∀ h', IsEnum h' (s.heap.objs.size + 1) s.heap.objs.size 0 .none → h'.IsTupleIter s.heap.objs.size a 0 → (∀ b o, s.heap.get? b = some o → h'.get? b = some o) → Q (.ref (s.heap.objs.size + 1)) { s with heap := h' }) :
    wpAny (model prog w) A (call (.type "enumerate") [.ref a]) Q E s := by
  apply callType_new F.called_enumerate (by decide) (F.typeCall_enumerate_1 _) (F.newCall_enumerate_1 _) (fun obj => F.args_object_init_2 obj _) F.entry_enumerate_new (enum_meets (begins_tuple a items))
  have size : (s.heap.push { cls := .type "tuple_iterator", data := .fields #[.ref a, .int 0 0] }).objs.size = s.heap.objs.size + 1 := Heap.size_push ..
  have new : ∀ (h0 : Heap) (o : Obj), o.isFreed = false → (h0.push o).get? h0.objs.size = some o := fun h0 o q => Heap.get?_push_size h0 q
  have old : ∀ {h0 : Heap} (o : Obj) {b : Addr} {o' : Obj}, h0.get? b = some o' → (h0.push o).get? b = some o' := fun o _ _ q => Heap.get?_push_of_some o q
  simp only [size]
  refine ⟨tu, ⟨_, ?en, rfl⟩, h _ ?en ⟨_, old _ (new _ _ rfl), rfl, rfl⟩ fun b o q => old _ (old _ q)⟩
  have := new (s.heap.push { cls := .type "tuple_iterator", data := .fields #[.ref a, .int 0 0] }) { cls := .type "enumerate", data := .fields #[.none, .bool false, .ref s.heap.objs.size, rawInt 0, .none, .none] } rfl
  rw [size] at this
  exact this
/-- enumerate of a list, of a tuple -/
theorem mi_enum {a : Expr} {ma : ME} {p pos tpos : Pos} {elts : List Expr} {kk : Nat} (hg : Gl X "enumerate") (hm : X.mg "enumerate" = none) (ha : PM X XR E a ma) (hs : starEach [a] X.env = [(false, eval a X.env)] := by rfl) :
    PIM X XR E (.Tuple elts kk tpos) (.Call (.Name "enumerate" p) [a] [] pos) (mEnum ma) := by
  refine ⟨fun pins z σ H R I ⟨av, β, s, μ, rl, sr, h⟩ => ?_⟩
  have h' := ti_e (Q := fun x H1 => (∃ a xs, x = .ref a ∧ SqL X.K H1 a xs ∧ R (Ite X.K a) H1) ∨ (∃ a xs, x = .ref a ∧ SqT X.K H1 a xs ∧ R (IteT X.K a) H1)) rl sr h fun v μ1 x H1 β1 ex rl1 sr1 p q => by
    cases e1 : planOf v μ1 with
    | none => rw [e1] at q; exact q.elim
    | some pl =>
      rw [e1] at q
      by_cases t : isT v = true
      · obtain ⟨a, vs, rfl, ck, pr, st, keep⟩ := planOf_tup p e1 t
        refine .inr ⟨a, vs, rfl, st, q _ H1 β1 .refl rl1 fun av' hv H2 β2 μ2 ex2 rl2 _ i => ?_⟩
        have st2 := keep av' hv H2 β2 ex2
        have pr2 := up_rels hv pr ex2
        show match (enumVals 0 pl.vals)[i]? with | some v => _ | none => _
        rw [enum_get]
        cases e2 : pl.vals[i]? with
        | none => exact ⟨vs, st2, by rw [← pr2.length]; exact List.getElem?_eq_none_iff.mp e2⟩
        | some w =>
          obtain ⟨y, e3, p3⟩ := pr2.get e2
          refine ⟨⟨vs, y, st2, e3⟩, fun x' H3 ⟨T, u, ex', hT, eH, f⟩ => ?_⟩
          have f' := f vs st2
          rw [e3] at f'
          cases f'; subst ex'; subst eH
          refine pair_new rl2 hT (.cons ?_ (.cons p3 .nil))
          rw [Nat.zero_add]
          exact .int_
      · obtain ⟨a, rfl, ⟨vs0, st⟩, keep⟩ := planOf_lst rl1 p e1 (by simpa using t)
        refine .inl ⟨a, vs0, rfl, st, q _ H1 β1 .refl rl1 fun av' hv H2 β2 μ2 ex2 rl2 ck i => ?_⟩
        obtain ⟨vs, st2, pr2⟩ := keep av' hv H2 β2 μ2 ex2 rl2 ck
        show match (enumVals 0 pl.vals)[i]? with | some v => _ | none => _
        rw [enum_get]
        cases e2 : pl.vals[i]? with
        | none => exact ⟨vs, st2, by rw [← pr2.length]; exact List.getElem?_eq_none_iff.mp e2⟩
        | some w =>
          obtain ⟨y, e3, p3⟩ := pr2.get e2
          refine ⟨⟨vs, y, st2, e3⟩, fun x' H3 ⟨T, u, ex', hT, eH, f⟩ => ?_⟩
          have f' := f vs st2
          rw [e3] at f'
          cases f'; subst ex'; subst eH
          refine pair_new rl2 hT (.cons ?_ (.cons p3 .nil))
          rw [Nat.zero_add]
          exact .int_
  refine Call_ (ld_blt I hg hm boot_enumerate (PyProof.Rows.callWith_type1 (thn ((pa1 ha hs).run pos pins z σ H (fun vs H1 => ∃ x, vs = [x] ∧ ((∃ a xs, x = .ref a ∧ SqL X.K H1 a xs ∧ R (Ite X.K a) H1) ∨ (∃ a xs, x = .ref a ∧ SqT X.K H1 a xs ∧ R (IteT X.K a) H1))) I ?_) fun us z1 ⟨vs, H1, I1, r1, q1⟩ => ?_) hs rfl))
  · obtain ⟨av, β, s, μ, rl, sr, o⟩ := h'
    refine ⟨av, β, s, μ, rl, sr, ?_⟩
    cases e : ma s μ with
    | bad => rw [e] at o; exact o
    | err c p μ' => rw [e] at o; exact o
    | ok v μ' => rw [e] at o; exact fun x H' β' a b c => ⟨x, rfl, o x H' β' a b c⟩
  · obtain ⟨x, rfl, q1⟩ := q1
    obtain ⟨u, rfl, rx⟩ := vals1 r1
    have fp : ∀ b, b ∈ [z1.heap.objs.size + 1, z1.heap.objs.size] → FpOk X pins H1 b := fun b hb => by
      have hb' : b = z1.heap.objs.size + 1 ∨ b = z1.heap.objs.size := by simpa using hb
      have hle : z1.heap.objs.size ≤ b := by rcases hb' with z | z <;> omega
      exact I1.fpOk hle (I1.hok.fresh hle)
    rcases q1 with ⟨a, xs, rfl, hq, q⟩ | ⟨a, xs, rfl, hq, q⟩
    · cases rx
      obtain ⟨its, rv, p', hz⟩ := I1.list hq
      exact call_enumerate_list p'.isList fun h' he hit hsz hk => wpAny_pyIter_enum he ⟨z1.heap.objs.size + 1, [z1.heap.objs.size + 1, z1.heap.objs.size], _, _, H1, rfl, I1.kept (t' := z1.toks) hk, turn_enum a (z1.heap.objs.size + 1) z1.heap.objs.size, ⟨⟨.none, he⟩, hit, Nat.succ_ne_self _⟩, fp, q⟩
    · cases rx
      obtain ⟨its, rv, p', hz⟩ := I1.tuple hq
      have hal : a < z1.heap.objs.size := p'.lt
      exact enum_made p' fun h' he hit hk => wpAny_pyIter_enum he ⟨z1.heap.objs.size + 1, [z1.heap.objs.size + 1, z1.heap.objs.size], _, _, H1, rfl, I1.kept (t' := z1.toks) hk, turn_enumT a (z1.heap.objs.size + 1) z1.heap.objs.size, ⟨⟨.none, he⟩, hit, Nat.succ_ne_self _, Nat.ne_of_lt (Nat.lt_succ_of_lt hal), Nat.ne_of_lt hal⟩, fp, q⟩
theorem chars_eq {z : Str} {i : Nat} : z.cps.toList[i]? = z.cps[i]? := by simp
theorem chars_stop {z : Str} {i : Nat} {H : Hp} (h : z.cps.toList[i]? = none) : (Its z).stop i H := by
  rw [List.getElem?_eq_none_iff] at h
  show z.cps.size ≤ i
  simpa using h
theorem chars_go {z : Str} {i : Nat} {c : Nat} {H : Hp} (h : z.cps.toList[i]? = some c) : (Its z).go i H := by
  obtain ⟨q, _⟩ := List.getElem?_eq_some_iff.mp h
  show i < z.cps.size
  simpa using q
theorem chars_yld {z : Str} {i : Nat} {c : Nat} {H H' : Hp} {v : V} (h : z.cps.toList[i]? = some c) (y : (Its z).yld i H v H') : H' = H ∧ v = .str ⟨#[c]⟩ := by
  obtain ⟨e, d, e1, e2⟩ := y
  rw [chars_eq, e1] at h
  cases h
  exact ⟨e, e2⟩
/-- the signs of a text -/
theorem mi_chars {e : Expr} {m : ME} (he : PM X XR E e m) : PIM X XR E tg e (mChars m) :=
  PI.imp (pi_str he) fun σ H Q ⟨av, β, s, μ, rl, sr, h⟩ => by
    unfold iStr
    refine ti_e rl sr h fun v μ1 x H1 β1 ex rl1 sr1 p q => ?_
    cases v <;> first
      | exact q.elim
      | (rename_i z
         refine ⟨z, str_inv p, q _ H1 β1 .refl rl1 fun av' hv H2 β2 μ2 ex2 rl2 _ i => ?_⟩
         show match (z.cps.toList.map fun c => PV.str ⟨#[c]⟩)[i]? with | some v => _ | none => _
         rw [List.getElem?_map]
         cases e2 : z.cps.toList[i]? with
         | none => exact chars_stop e2
         | some c => exact ⟨chars_go e2, fun x' H3 y => by
             obtain ⟨e3, e4⟩ := chars_yld e2 y
             subst e3; subst e4
             exact ⟨.refl, rl2, .str_⟩⟩)
end
end Mini

/-! M12: two clauses. -/
namespace Mini
open PySem PySem.Spec PyProof.Rows L2 RZ
section
variable {X : Cx} {XR : XRel} {E : L2.St → XK}
/-- the turns of the inner clause, then more -/
theorem COk.nil_bind {K : PySem.W.Frag} {av : List Addr} {H1 : Hp} {β1 : List Addr} {D : Addr} {Qe : Hp → Prop} {chk : MH → Bool} {t : MT} {c : MB} {body : MS → MH → List PV → R (List PV)} {s : MS} {μ : MH} {acc : List PV} {k : List PV → MH → R (List PV)}
    (h : COk K av H1 β1 D Qe ((compGo chk t c body s [] μ acc).bind k)) : chk μ = true ∧ COk K av H1 β1 D Qe (k acc μ) := by
  unfold compGo at h
  split at h
  · rename_i hk; exact ⟨hk, h⟩
  · exact h.elim
theorem COk.cons_bind {K : PySem.W.Frag} {av : List Addr} {H1 : Hp} {β1 : List Addr} {D : Addr} {Qe : Hp → Prop} {chk : MH → Bool} {t : MT} {c : MB} {body : MS → MH → List PV → R (List PV)} {s : MS} {v : PV} {vs : List PV} {μ : MH} {acc : List PV} {k : List PV → MH → R (List PV)}
    (h : COk K av H1 β1 D Qe ((compGo chk t c body s (v :: vs) μ acc).bind k)) : chk μ = true ∧ ∃ s1, bindT t v s = some s1 ∧
      COk K av H1 β1 D Qe ((c s1 μ).bind fun b μ1 => if b then (body s1 μ1 acc).bind fun acc1 μ2 => (compGo chk t c body s vs μ2 acc1).bind k else (compGo chk t c body s vs μ1 acc).bind k) := by
  unfold compGo at h
  split at h
  · rename_i hk
    refine ⟨hk, ?_⟩
    cases e : bindT t v s with
    | none => rw [e] at h; exact h.elim
    | some s1 =>
      rw [e] at h
      refine ⟨s1, rfl, ?_⟩
      simp only at h
      cases e2 : c s1 μ with
      | bad => rw [e2] at h; exact h.elim
      | err q p μ' => rw [e2] at h; exact h.elim
      | ok b μ1 =>
        rw [e2] at h
        simp only [R.bind] at h ⊢
        cases b with
        | false => simpa [R.bind] using h
        | true =>
          simp only [if_true] at h ⊢
          cases e3 : body s1 μ1 acc with
          | bad => rw [e3] at h; exact h.elim
          | err q p μ' => rw [e3] at h; exact h.elim
          | ok a μ2 => rw [e3] at h; simpa [R.bind] using h
  · exact h.elim
theorem bind_pure {r : R (List PV)} : r.bind (fun a μ => .ok a μ) = r := by cases r <;> rfl
def mLc2K (k : List PV → MH → R PV) (vs vs1 : List Nat) (i : MI) (t : MT) (c : MB) (i1 : MI) (t1 : MT) (c1 : MB) (e : ME) : ME := fun s μ => (i s μ).bind fun p μ1 =>
  (noErr (compGo p.chk t c (twoElt vs1 i1 t1 c1 e) (wipeM s vs) p.vals μ1 [])).bind k
def mLc2L (vs vs1 : List Nat) (i : MI) (t : MT) (c : MB) (i1 : MI) (t1 : MT) (c1 : MB) (e : ME) : ME := mLc2K (fun acc μ2 => .ok (.ref μ2.length) (μ2 ++ [.lst acc])) vs vs1 i t c i1 t1 c1 e
theorem lc2_read {σ : L2.St} {H : Hp} {Q : VK} {av : List Addr} {β : List Addr} {s : MS} {μ : MH} {mi mi1 : MI} {t t1 : MT} {mc mc1 : MB} {me : ME} {K : PySem.W.Frag} {vs vs1 : List Nat} (k : List PV → MH → R PV) (rl : Rl ⟨K, av⟩ H β μ) (sr : SRel ⟨K, av⟩ H β s σ) (hsl : ∀ i ∈ slotsT t, i ∈ vs) (hsl1 : ∀ i ∈ slotsT t1, i ∈ vs1)
    (h : OutOk ⟨K, av⟩ XR H β (E σ) Q (mLc2K k vs vs1 mi t mc mi1 t1 mc1 me s μ))
    (hk : ∀ acc μ2 H1 β1 D H' β' xs, H1 D = none → (∀ a ∈ av, H1 a ≠ none) → OutOk ⟨K, av⟩ XR H1 β1 (E σ) Q (k acc μ2) → Ext H1 β1 H' β' → Rl ⟨K, D :: av⟩ H' β' μ2 → H' D = some (.lst xs) → D ∉ β' → PRels ⟨K, D :: av⟩ H' β' acc xs → Q (.ref D) H') :
    tLc2 (tI K XR E mi) (tgOf K t) (tMb K XR EF mc) (tI K XR EF mi1) (tgOf K t1) (tMb K XR EF mc1) (tM K XR EF me) vs vs1 σ H Q := by
  unfold tLc2
  unfold mLc2K at h
  refine ⟨av, β, s, μ, rl, sr, ?_⟩
  cases e : mi s μ with
  | bad => rw [e] at h; exact h
  | err c p μ' => rw [e] at h; exact h
  | ok p μ1 =>
    rw [e] at h
    intro J H1 β1 ex1 rl1 pl D hD
    have h1 := OutOk.ext ex1 h
    simp only [R.bind] at h1
    have hc1 : COk K av H1 β1 D (fun H' => Q (.ref D) H') ((compGo p.chk t mc (twoElt vs1 mi1 t1 mc1 me) (wipeM s vs) p.vals μ1 []).bind fun a μ => .ok a μ) := by
      rw [bind_pure]
      cases e2 : compGo p.chk t mc (twoElt vs1 mi1 t1 mc1 me) (wipeM s vs) p.vals μ1 [] with
      | bad => rw [e2] at h1; exact h1
      | err c q μ' => rw [e2] at h1; exact h1
      | ok acc μ2 =>
        rw [e2] at h1
        exact fun H' β' xs a1 a2 a3 a4 a5 => hk acc μ2 H1 β1 D H' β' xs hD rl1.avt h1 a1 a2 a3 a4 a5
    have upD : ∀ a ∈ D :: av, a ∈ av ∨ H1 a = none := fun a ha => by
      rcases List.mem_cons.mp ha with z | z
      · rw [z]; exact .inr hD
      · exact .inl z
    refine ⟨fun i m H => m = p.vals.length - i ∧ ∃ β μ acc, CAt K av H1 β1 D (wipeM s vs) (wipe σ vs) H β μ acc ∧ COk K av H1 β1 D (fun H' => Q (.ref D) H') ((compGo p.chk t mc (twoElt vs1 mi1 t1 mc1 me) (wipeM s vs) (p.vals.drop i) μ acc).bind fun a μ => .ok a μ),
      ⟨_, rfl, β1, μ1, [], CAt.start rl1 (sr.ext ex1) hD vs, hc1⟩, ?_⟩
    rintro i m H2 ⟨rfl, β2, μ2, acc, c, h2⟩
    have pl2 := pl (D :: av) upD H2 β2 μ2 c.ext.toW c.rl
    cases hd : p.vals.drop i with
    | nil =>
      rw [hd] at h2
      obtain ⟨hk1, h3⟩ := COk.nil_bind h2
      have q := pl2 hk1 i
      have hn : p.vals[i]? = none := List.getElem?_eq_none_iff.mpr (List.drop_eq_nil_iff.mp hd)
      rw [hn] at q
      exact .inl ⟨q, c.fin h3⟩
    | cons v vals =>
      rw [hd] at h2
      obtain ⟨hv, hvs⟩ := drop_get hd
      have hlt : i < p.vals.length := (List.getElem?_eq_some_iff.mp hv).1
      obtain ⟨hk1, s3, eb, h3⟩ := COk.cons_bind h2
      have q := pl2 hk1 i
      rw [hv] at q
      refine .inr ⟨q.1, fun H' => ∃ β μ acc, CAt K av H1 β1 D (wipeM s vs) (wipe σ vs) H' β μ acc ∧ COk K av H1 β1 D (fun H' => Q (.ref D) H') ((compGo p.chk t mc (twoElt vs1 mi1 t1 mc1 me) (wipeM s vs) vals μ acc).bind fun a μ => .ok a μ),
        fun H' ⟨b, m, a, z1, z2⟩ => ⟨p.vals.length - (i + 1), by omega, rfl, b, m, a, z1, by rw [hvs]; exact z2⟩, fun x H3 y => ?_⟩
      obtain ⟨ex3, rl3, p3⟩ := q.2 x H3 y
      have c3 := c.step ex3 rl3
      refine tg_ok t c3.sr p3 eb fun σ3 sr3 sm3 => ⟨by rw [wipe_of_same sm3 hsl, wipe_wipe], ?_⟩
      refine tmb_c c3.rl sr3 h3 fun b μ4 H4 β4 ex4 rl4 h4 => ?_
      have c4 := c3.step ex4 rl4
      cases b with
      | false => exact ⟨β4, μ4, acc, c4, h4⟩
      | true =>
        simp only [if_true] at h4 ⊢
        have sr4 := sr3.ext ex4
        -- the inner source
        refine ⟨D :: av, β4, s3, μ4, c4.rl, sr4, ?_⟩
        have e6 : twoElt vs1 mi1 t1 mc1 me s3 μ4 acc = (mi1 s3 μ4).bind fun p1 μ3 => compGo p1.chk t1 mc1 (oneElt me) (wipeM s3 vs1) p1.vals μ3 acc := rfl
        rw [e6] at h4
        cases e5 : mi1 s3 μ4 with
        | bad => rw [e5] at h4; exact h4.elim
        | err c p μ' => rw [e5] at h4; exact h4.elim
        | ok p1 μ5 =>
          rw [e5] at h4
          intro J1 H5 β5 ex5 rl5 pl5
          have c5 := c4.step ex5 rl5
          have sr5 := (sr4.ext ex5).wipe vs1
          have h5 : COk K av H1 β1 D (fun H' => Q (.ref D) H') ((compGo p1.chk t1 mc1 (oneElt me) (wipeM s3 vs1) p1.vals μ5 acc).bind fun acc1 μ2 => (compGo p.chk t mc (twoElt vs1 mi1 t1 mc1 me) (wipeM s vs) vals μ2 acc1).bind fun a μ => .ok a μ) := h4
          refine ⟨fun j k H => k = p1.vals.length - j ∧ ∃ β μ acc, CAt K av H1 β1 D (wipeM s vs) (wipe σ vs) H β μ acc ∧ SRel ⟨K, D :: av⟩ H β (wipeM s3 vs1) (wipe σ3 vs1) ∧ ExtW (D :: av) H5 β5 H β ∧
              COk K av H1 β1 D (fun H' => Q (.ref D) H') ((compGo p1.chk t1 mc1 (oneElt me) (wipeM s3 vs1) (p1.vals.drop j) μ acc).bind fun acc1 μ2 => (compGo p.chk t mc (twoElt vs1 mi1 t1 mc1 me) (wipeM s vs) vals μ2 acc1).bind fun a μ => .ok a μ),
            ⟨_, rfl, β5, μ5, acc, c5, sr5, .refl, h5⟩, ?_⟩
          rintro j k H6 ⟨rfl, β6, μ6, acc6, c6, sr6, ew6, h6⟩
          have pl6 := pl5 (D :: av) (fun a ha => .inl ha) H6 β6 μ6 ew6 c6.rl
          cases hd1 : p1.vals.drop j with
          | nil =>
            rw [hd1] at h6
            obtain ⟨hk2, h7⟩ := COk.nil_bind h6
            have q1 := pl6 hk2 j
            have hn : p1.vals[j]? = none := List.getElem?_eq_none_iff.mpr (List.drop_eq_nil_iff.mp hd1)
            rw [hn] at q1
            exact .inl ⟨q1, β6, μ6, acc6, c6, h7⟩
          | cons v1 vals1 =>
            rw [hd1] at h6
            obtain ⟨hv1, hvs1⟩ := drop_get hd1
            have hlt1 : j < p1.vals.length := (List.getElem?_eq_some_iff.mp hv1).1
            obtain ⟨hk2, s7, eb7, h7⟩ := COk.cons_bind h6
            have q1 := pl6 hk2 j
            rw [hv1] at q1
            refine .inr ⟨q1.1, fun H => ∃ β μ acc, CAt K av H1 β1 D (wipeM s vs) (wipe σ vs) H β μ acc ∧ SRel ⟨K, D :: av⟩ H β (wipeM s3 vs1) (wipe σ3 vs1) ∧ ExtW (D :: av) H5 β5 H β ∧
              COk K av H1 β1 D (fun H' => Q (.ref D) H') ((compGo p1.chk t1 mc1 (oneElt me) (wipeM s3 vs1) vals1 μ acc).bind fun acc1 μ2 => (compGo p.chk t mc (twoElt vs1 mi1 t1 mc1 me) (wipeM s vs) vals μ2 acc1).bind fun a μ => .ok a μ),
              fun H' ⟨b, m, a, z1, z2, z3, z4⟩ => ⟨p1.vals.length - (j + 1), by omega, rfl, b, m, a, z1, z2, z3, by rw [hvs1]; exact z4⟩, fun x7 H7 y7 => ?_⟩
            obtain ⟨ex7, rl7, p7⟩ := q1.2 x7 H7 y7
            have c7 := c6.step ex7 rl7
            refine tg_ok t1 (sr6.ext ex7) p7 eb7 fun σ8 sr8 sm8 => ⟨by rw [wipe_of_same sm8 hsl1, wipe_wipe], ?_⟩
            refine tmb_c c7.rl sr8 h7 fun b8 μ8 H8 β8 ex8 rl8 h8 => ?_
            have c8 := c7.step ex8 rl8
            have sr9 := (sr6.ext ex7).ext ex8
            have ew8 := (ew6.trans ex7.toW).trans ex8.toW
            cases b8 with
            | false => exact ⟨β8, μ8, acc6, c8, sr9, ew8, h8⟩
            | true =>
              simp only [if_true] at h8 ⊢
              have e9 : oneElt me s7 μ8 acc6 = (me s7 μ8).bind fun v μ1 => if acc6.length < sizeLine then .ok (acc6 ++ [v]) μ1 else .bad := rfl
              rw [e9] at h8
              refine ⟨_, _, _, _, c8.rl, sr8.ext ex8, ?_⟩
              cases e10 : me s7 μ8 with
              | bad => rw [e10] at h8; exact h8.elim
              | err c p μ' => rw [e10] at h8; exact h8.elim
              | ok w9 μ9 =>
                rw [e10] at h8
                intro y9 H9 β9 ex9 rl9 p9
                have c9 := c8.step ex9 rl9
                by_cases hz : acc6.length < sizeLine
                · simp only [R.bind, if_pos hz] at h8
                  obtain ⟨xs, hx, px⟩ := c9.dl
                  have ew9 := ew8.trans ex9.toW
                  refine ⟨xs, hx, by rw [← px.length]; exact hz, β9, μ9, acc6 ++ [w9], c9.put hD hx p9, (sr9.ext ex9).acc, ⟨ew9.pre, fun a o u1 u2 u3 => ?_, fun a u => ?_⟩, h8⟩
                  · rw [upd_ne fun z => u3 (by rw [z]; exact List.mem_cons_self)]
                    exact ew9.stay a o u1 u2 u3
                  · by_cases z : a = D
                    · rw [z, upd_same] at u; cases u
                    · rw [upd_ne z] at u; exact ew9.live a u
                · simp only [R.bind, if_neg hz] at h8
                  exact h8.elim
section
variable {elt tg iter tg1 iter1 : Expr} {ifs ifs1 : List Expr} {scope : Scope} {own : List (Str × Nat)} {vs1 : List Nat} {pos : Pos} {mi mi1 : MI} {t t1 : MT} {mc mc1 : MB} {me : ME}
theorem me_lc2 (hc : X.calm = true) (hN : X.N.Nodup) (hi : PIM X XR E tg iter mi) (ok : BlkOk X.N X.env.scope scope own) (hv : ∀ i ∈ vs1, i ∈ own.map (·.2)) (hsl : ∀ i ∈ slotsT t, i ∈ own.map (·.2)) (hsl1 : ∀ i ∈ slotsT t1, i ∈ vs1)
    (hg : ∀ (s : Shared) (H : Hp) (C : Addr) (cl : List (Str × Addr)) (fp : List Addr), PG (X.blk s H scope (compEnvC scope cl C X.env) fp) tg (tgOf X.K t)) (ht : ∀ (s : Shared) (H : Hp) (C : Addr) (cl : List (Str × Addr)) (fp : List Addr), PTsM (X.blk s H scope (compEnvC scope cl C X.env) fp) XR ifs mc)
    (hi1 : ∀ (s : Shared) (H : Hp) (C : Addr) (cl : List (Str × Addr)) (fp : List Addr), PIM (X.blk s H scope (compEnvC scope cl C X.env) fp) XR EF tg1 iter1 mi1)
    (hg1 : ∀ (s : Shared) (H : Hp) (C : Addr) (cl : List (Str × Addr)) (fp : List Addr), PG (X.blk s H scope (compEnvC scope cl C X.env) fp) tg1 (tgOf X.K t1)) (ht1 : ∀ (s : Shared) (H : Hp) (C : Addr) (cl : List (Str × Addr)) (fp : List Addr), PTsM (X.blk s H scope (compEnvC scope cl C X.env) fp) XR ifs1 mc1)
    (he : ∀ (s : Shared) (H : Hp) (C : Addr) (cl : List (Str × Addr)) (fp : List Addr), PM (X.blk s H scope (compEnvC scope cl C X.env) fp) XR EF elt me) (hs : ∀ x, foldedSetIterable iter X.env x = pure x := by intro _; rfl) (hs1 : ∀ env x, foldedSetIterable iter1 env x = pure x := by intro _ _; rfl) :
    PM X XR E (.ListComp elt [⟨tg, iter, ifs, 0⟩, ⟨tg1, iter1, ifs1, 0⟩] scope pos) (mLc2 (own.map (·.2)) vs1 mi t mc mi1 t1 mc1 me) :=
  PE.imp (pe_lc2 hc hN hi ok hv hg ht hi1 hg1 ht1 he hs hs1) fun σ H Q ⟨av, β, s, μ, rl, sr, h⟩ => lc2_read (fun acc μ2 => .ok (.frl acc) μ2) rl sr hsl hsl1 h k_frl
theorem me_lc2L (hc : X.calm = true) (hN : X.N.Nodup) (hi : PIM X XR E tg iter mi) (ok : BlkOk X.N X.env.scope scope own) (hv : ∀ i ∈ vs1, i ∈ own.map (·.2)) (hsl : ∀ i ∈ slotsT t, i ∈ own.map (·.2)) (hsl1 : ∀ i ∈ slotsT t1, i ∈ vs1)
    (hg : ∀ (s : Shared) (H : Hp) (C : Addr) (cl : List (Str × Addr)) (fp : List Addr), PG (X.blk s H scope (compEnvC scope cl C X.env) fp) tg (tgOf X.K t)) (ht : ∀ (s : Shared) (H : Hp) (C : Addr) (cl : List (Str × Addr)) (fp : List Addr), PTsM (X.blk s H scope (compEnvC scope cl C X.env) fp) XR ifs mc)
    (hi1 : ∀ (s : Shared) (H : Hp) (C : Addr) (cl : List (Str × Addr)) (fp : List Addr), PIM (X.blk s H scope (compEnvC scope cl C X.env) fp) XR EF tg1 iter1 mi1)
    (hg1 : ∀ (s : Shared) (H : Hp) (C : Addr) (cl : List (Str × Addr)) (fp : List Addr), PG (X.blk s H scope (compEnvC scope cl C X.env) fp) tg1 (tgOf X.K t1)) (ht1 : ∀ (s : Shared) (H : Hp) (C : Addr) (cl : List (Str × Addr)) (fp : List Addr), PTsM (X.blk s H scope (compEnvC scope cl C X.env) fp) XR ifs1 mc1)
    (he : ∀ (s : Shared) (H : Hp) (C : Addr) (cl : List (Str × Addr)) (fp : List Addr), PM (X.blk s H scope (compEnvC scope cl C X.env) fp) XR EF elt me) (hs : ∀ x, foldedSetIterable iter X.env x = pure x := by intro _; rfl) (hs1 : ∀ env x, foldedSetIterable iter1 env x = pure x := by intro _ _; rfl) :
    PM X XR E (.ListComp elt [⟨tg, iter, ifs, 0⟩, ⟨tg1, iter1, ifs1, 0⟩] scope pos) (mLc2L (own.map (·.2)) vs1 mi t mc mi1 t1 mc1 me) :=
  PE.imp (pe_lc2 hc hN hi ok hv hg ht hi1 hg1 ht1 he hs hs1) fun σ H Q ⟨av, β, s, μ, rl, sr, h⟩ => lc2_read (mc := mc) (me := me) (fun acc μ2 => R.ok (PV.ref μ2.length) (μ2 ++ [MO.lst acc])) rl sr hsl hsl1 h k_lst
end
end
end Mini

/-! M13: membership, methods, slices, stars, dict displays. -/
namespace Mini
open PySem PySem.Spec PyProof.Rows L2 RZ

/-! ### in -/
def flatP : PV → Option V
  | .non => some .non
  | .bl b => some (.bl b)
  | .int i => some (.int i)
  | .str x => some (.str x)
  | _ => none
def flatPs : List PV → Option (List V)
  | [] => some []
  | x :: xs => match flatP x, flatPs xs with
    | some v, some vs => some (v :: vs)
    | _, _ => none
def seqR (v : PV) (μ : MH) : Option (List PV) := match seqT v with
  | some xs => some xs
  | none => lstR v μ
/-- is it in? none: not known here -/
def inOf (v c : PV) (μ : MH) : Option Bool := match seqR c μ with
  | some xs => match flatP v, flatPs xs with
    | some x, some ys => some (inV x ys)
    | _, _ => match toD μ v, toD μ c with
      | some d, some (.list ds) => if SeqAt.shaped d && SeqAt.shaped (.list ds) then some (ds.any fun z => PyData.eqv z d) else none
      | _, _ => none
  | none => match v, c with
    | .str ⟨⟨[k]⟩⟩, .str z => some (decide (k ∈ z.cps.toList))
    | _, _ => (dlook c v μ).map fun o => o.isSome
def fIn : PV → PV → MH → R PV := fun v c μ => match inOf v c μ with
  | some b => .ok (.bl b) μ
  | none => .bad
def fNotIn : PV → PV → MH → R PV := fun v c μ => match inOf v c μ with
  | some b => .ok (.bl (!b)) μ
  | none => .bad
def rInDi (neg : Bool) : R2 := fun y x H Q => ∃ a o, x = .ref a ∧ DGet H a y o ∧ Q (.bl (if neg then !o.isSome else o.isSome)) H
def rSign (neg : Bool) : R2 := fun x y H Q => ∃ (c : Nat) (z : Str), x = .str ⟨#[c]⟩ ∧ y = .str z ∧ Q (.bl (if neg then !decide (c ∈ z.cps.toList) else decide (c ∈ z.cps.toList))) H
def rInL (K : PySem.W.Frag) (neg : Bool) : R2 := fun x y H Q => ∃ d ds, Dp K H x d ∧ Dp K H y (.list ds) ∧ SeqAt.shaped d = true ∧ SeqAt.shaped (.list ds) = true ∧ Q (.bl (if neg then !ds.any (fun z => PyData.eqv z d) else ds.any fun z => PyData.eqv z d)) H
def rInA (K : PySem.W.Frag) (neg : Bool) : R2 := fun x y H Q => rIn K neg x y H Q ∨ rInL K neg x y H Q ∨ rSign neg x y H Q ∨ rInDi neg x y H Q
section
variable {X : Cx} {XR : XRel} {K : PySem.W.Frag}
theorem op_inA {k : Nat} (hr : RoomG (k + 1) X.A) : OpR X (compareOp .In) (rInA X.K false) := by
  refine op_in_seq.or (OpR.or (r := rInL X.K false) (fun pins s σ H x y v u Q I rx ry ⟨d, ds, h1, h2, h3, h4, q⟩ => ?_) (OpR.or (r := rSign false) (fun pins s σ H x y v u Q I rx ry ⟨c, z, h1, h2, q⟩ => ?_) fun pins s σ H x y v u Q I rx ry ⟨a, o, h1, h2, q⟩ => ?_))
  · exact op_inD (by have := hr.room.un; omega) pins s σ H x y v u Q I rx ry ⟨d, ds, h1, h2, h3, h4, q⟩
  · exact op_in_sign pins s σ H x y v u Q I rx ry ⟨c, z, h1, h2, q⟩
  · subst h1
    cases ry
    have hu := hr.room.units
    exact d_in (by omega) I h2 rx fun s3 I3 => ⟨V.bl o.isSome, H, I3, rfl, q⟩
theorem op_notInA {k : Nat} (hr : RoomG (k + 1) X.A) : OpR X (compareOp .NotIn) (rInA X.K true) := by
  refine op_notIn_seq.or (OpR.or (r := rInL X.K true) (fun pins s σ H x y v u Q I rx ry ⟨d, ds, h1, h2, h3, h4, q⟩ => ?_) (OpR.or (r := rSign true) (fun pins s σ H x y v u Q I rx ry ⟨c, z, h1, h2, q⟩ => ?_) fun pins s σ H x y v u Q I rx ry ⟨a, o, h1, h2, q⟩ => ?_))
  · exact op_notInD (by have := hr.room.un; omega) pins s σ H x y v u Q I rx ry ⟨d, ds, h1, h2, h3, h4, q⟩
  · exact op_notIn_sign pins s σ H x y v u Q I rx ry ⟨c, z, h1, h2, q⟩
  · subst h1
    cases ry
    have hu := hr.room.units
    exact d_notIn (by omega) I h2 rx fun s3 I3 => ⟨V.bl (!o.isSome), H, I3, rfl, q⟩
theorem flatP_rel {G : Gx} {H : Hp} {β : List Addr} {v : PV} {x y : V} (p : PRel G H β v x) (h : flatP v = some y) : x = y ∧ flatV y = true := by
  cases v <;> first
    | cases h
    | skip
  · exact ⟨non_inv p, rfl⟩
  · exact ⟨bl_inv p, rfl⟩
  · exact ⟨int_inv p, rfl⟩
  · exact ⟨str_inv p, rfl⟩
theorem flatPs_rel {G : Gx} {H : Hp} {β : List Addr} : ∀ {vs : List PV} {xs ys : List V}, PRels G H β vs xs → flatPs vs = some ys → xs = ys ∧ ys.all flatV = true
  | [], xs, ys, p, h => by rw [PRels.nil_iff] at p; unfold flatPs at h; cases h; exact ⟨p, rfl⟩
  | v :: vs, xs, ys, p, h => by
    obtain ⟨y, ys', rfl, p1, p2⟩ := p.inv
    unfold flatPs at h
    split at h
    · rename_i e1 e2
      cases h
      obtain ⟨f1, f2⟩ := flatP_rel p1 e1
      obtain ⟨f3, f4⟩ := flatPs_rel p2 e2
      exact ⟨by rw [f1, f3], by simp [f2, f4]⟩
    · cases h
theorem seqR_ok {G : Gx} {H : Hp} {β : List Addr} {μ : MH} {v : PV} {xs : List PV} {x : V} (rl : Rl G H β μ) (p : PRel G H β v x) (h : seqR v μ = some xs) : ∃ a vs, x = .ref a ∧ (SqL G.fr H a vs ∨ SqT G.fr H a vs) ∧ PRels G H β xs vs := by
  unfold seqR at h
  split at h
  · rename_i e
    cases h
    obtain ⟨a, vs, e1, s, q⟩ := seqT_ok p e
    exact ⟨a, vs, e1, .inr s, q⟩
  · obtain ⟨a, vs, e1, s, q⟩ := lstR_ok rl p h
    exact ⟨a, vs, e1, .inl s, q⟩
theorem inOf_ok {av : List Addr} {H : Hp} {β : List Addr} {μ : MH} {v c : PV} {x y : V} {b : Bool} {neg : Bool} {Q : VK} (rl : Rl ⟨K, av⟩ H β μ) (pv : PRel ⟨K, av⟩ H β v x) (pc : PRel ⟨K, av⟩ H β c y) (h : inOf v c μ = some b) (q : Q (.bl (if neg then !b else b)) H) : rInA K neg x y H Q := by
  unfold inOf at h
  split at h
  · rename_i xs e
    split at h
    · rename_i xv ys e1 e2
      cases h
      obtain ⟨a, vs, rfl, s, p⟩ := seqR_ok rl pc e
      obtain ⟨f1, f2⟩ := flatP_rel pv e1
      obtain ⟨f3, f4⟩ := flatPs_rel p e2
      refine .inl ⟨a, vs, rfl, s, by rw [f1]; exact f2, by rw [f3]; exact f4, ?_⟩
      rw [f1, f3]
      exact q
    · split at h
      · rename_i d ds e4 hd
        split at h
        · rename_i hs
          rw [Bool.and_eq_true] at hs
          cases h
          exact .inr (.inl ⟨d, ds, toD_ok rl v pv e4, toD_ok rl c pc hd, hs.1, hs.2, q⟩)
        · cases h
      · cases h
  · split at h
    · cases h
      exact .inr (.inr (.inl ⟨_, _, str_inv pv, str_inv pc, q⟩))
    · rw [Option.map_eq_some_iff] at h
      obtain ⟨o, e, rfl⟩ := h
      obtain ⟨a, o', rfl, g, r⟩ := dlook_ok rl pc pv e
      refine .inr (.inr (.inr ⟨a, o', rfl, g, ?_⟩))
      have : o'.isSome = o.isSome := by
        cases o with
        | none => have r' : o' = none := r; rw [r']; rfl
        | some w => obtain ⟨w', e', _⟩ := r; rw [e']; rfl
      rw [this]
      exact q
theorem me_in {k : Nat} {E : L2.St → XK} {a b : Expr} {ma mb : ME} {pos : Pos} (hr : RoomG (k + 1) X.A) (ha : PM X XR E a ma) (hb : PM X XR E b mb) (hm : behindInMarks .In b = false := by rfl) : PM X XR E (.Compare a [.In] [b] pos) (mOp fIn ma mb) :=
  me_cmp (op_inA hr) (fun av E H β μ v w x y Q rl pv pw h => by
    unfold fIn at h
    split at h
    · rename_i b e; exact inOf_ok (neg := false) rl pv pw e (ok_here h rl .bl_)
    · exact h.elim) ha hb hm
theorem me_notIn {k : Nat} {E : L2.St → XK} {a b : Expr} {ma mb : ME} {pos : Pos} (hr : RoomG (k + 1) X.A) (ha : PM X XR E a ma) (hb : PM X XR E b mb) (hm : behindInMarks .NotIn b = false := by rfl) : PM X XR E (.Compare a [.NotIn] [b] pos) (mOp fNotIn ma mb) :=
  me_cmp (op_notInA hr) (fun av E H β μ v w x y Q rl pv pw h => by
    unfold fNotIn at h
    split at h
    · rename_i b e; exact inOf_ok (neg := true) rl pv pw e (ok_here h rl .bl_)
    · exact h.elim) ha hb hm
theorem mb_in {k : Nat} {E : L2.St → XK} {a b : Expr} {ma mb : ME} {pos : Pos} (hr : RoomG (k + 1) X.A) (ha : PM X XR E a ma) (hb : PM X XR E b mb) (hm : behindInMarks .In b = false := by rfl) : PMb X XR E (.Compare a [.In] [b] pos) (mbE (mOp fIn ma mb)) :=
  mb_cmp (op_inA hr) (fun av E H β μ v w x y Q rl pv pw h => by
    unfold fIn at h
    split at h
    · rename_i b e; exact inOf_ok (neg := false) rl pv pw e (ok_here h rl .bl_)
    · exact h.elim) ha hb hm
theorem mb_notIn {k : Nat} {E : L2.St → XK} {a b : Expr} {ma mb : ME} {pos : Pos} (hr : RoomG (k + 1) X.A) (ha : PM X XR E a ma) (hb : PM X XR E b mb) (hm : behindInMarks .NotIn b = false := by rfl) : PMb X XR E (.Compare a [.NotIn] [b] pos) (mbE (mOp fNotIn ma mb)) :=
  mb_cmp (op_notInA hr) (fun av E H β μ v w x y Q rl pv pw h => by
    unfold fNotIn at h
    split at h
    · rename_i b e; exact inOf_ok (neg := true) rl pv pw e (ok_here h rl .bl_)
    · exact h.elim) ha hb hm
end

/-! ### methods of lists -/
/-- o.m(e, ..): the receiver's type is seen first -/
@[simp] def mMeth (ty : PV → MH → Bool) (f : PV → List PV → MH → R PV) (o : ME) (a : MEs) : ME := fun s μ => (o s μ).bind fun v μ1 => if ty v μ1 then (a s μ1).bind fun xs μ2 => f v xs μ2 else .bad
def isL (v : PV) (μ : MH) : Bool := (lstR v μ).isSome
def MethM (K : PySem.W.Frag) (XR : XRel) (f : PV → List PV → MH → R PV) (r : V → List V → Hp → VK → Prop) : Prop :=
  ∀ (av : List Addr) (E : XK) (H : Hp) (β : List Addr) (μ : MH) (v : PV) (x : V) (vs : List PV) (xs : List V) (Q : VK), Rl ⟨K, av⟩ H β μ → PRel ⟨K, av⟩ H β v x → PRels ⟨K, av⟩ H β vs xs → OutOk ⟨K, av⟩ XR H β E Q (f v vs μ) → r x xs H Q
section
variable {X : Cx} {XR : XRel} {E : L2.St → XK} {K : PySem.W.Frag}
theorem tm_meth {T : String} {ty : PV → MH → Bool} {f : PV → List PV → MH → R PV} {r : V → List V → Hp → VK → Prop} {mo : ME} {ma : MEs} (hf : MethM K XR f r) (ht : ∀ av H β μ v x, Rl ⟨K, av⟩ H β μ → PRel ⟨K, av⟩ H β v x → ty v μ = true → tyV K T x H) (σ : L2.St) (H : Hp) (Q : VK)
    (h : tM K XR E (mMeth ty f mo ma) σ H Q) : tBM K T r (tM K XR E mo) (tMs K XR E ma) σ H Q := by
  obtain ⟨av, β, s, μ, rl, sr, h⟩ := h
  unfold tBM
  refine tm_e rl sr h fun v μ1 x H1 β1 _ ex rl1 sr1 p q => ?_
  by_cases t : ty v μ1 = true
  · rw [if_pos t] at q
    exact ⟨ht av H1 β1 μ1 v x rl1 p t, tms_e rl1 sr1 q fun vs μ2 xs H2 β2 _ ex2 rl2 sr2 p2 q2 => hf av _ H2 β2 μ2 v x vs xs Q rl2 (p.ext ex2) p2 q2⟩
  · rw [if_neg t] at q; exact q.elim
theorem isL_ty : ∀ (av : List Addr) (H : Hp) (β : List Addr) (μ : MH) (v : PV) (x : V), Rl ⟨K, av⟩ H β μ → PRel ⟨K, av⟩ H β v x → isL v μ = true → tyV K "list" x H := by
  intro av H β μ v x rl p h
  unfold isL at h
  rw [Option.isSome_iff_exists] at h
  obtain ⟨xs, e⟩ := h
  obtain ⟨a, vs, rfl, s, _⟩ := lstR_ok rl p e
  exact .inl ⟨rfl, vs, s⟩
def fAppend : PV → List PV → MH → R PV
  | .ref n, [v], μ => match μ[n]? with
    | some (.lst xs) => if xs.length < sizeLine then .ok .non (μ.set n (.lst (xs ++ [v]))) else .bad
    | _ => .bad
  | _, _, _ => .bad
theorem om_append : MethM K XR fAppend rAppend := by
  intro av E H β μ v x vs xs Q rl p ps h
  unfold fAppend at h
  split at h
  · rename_i n w
    obtain ⟨y, rfl, pw⟩ := one_inv ps
    split at h
    · rename_i ys e
      split at h
      · rename_i hl
        unfold PRel at p
        obtain ⟨a, rfl, ea⟩ := p
        obtain ⟨us, h1, h2⟩ := rl.obj n a _ ea e
        exact ⟨a, us, y, rfl, rfl, h1, by rw [← h2.length]; exact hl, h _ _ β (Ext.write rl ea _) (rl.write ea ⟨_, upd_same, PRels.ext (Ext.write rl ea _) _ (h2.app (.cons pw .nil))⟩) .non_⟩
      · exact h.elim
    · exact h.elim
  · exact h.elim
def fExtend : PV → List PV → MH → R PV
  | .ref n, [v], μ => match μ[n]?, lstM v μ with
    | some (.lst xs), some ys => if xs.length + ys.length ≤ sizeLine then .ok .non (μ.set n (.lst (xs ++ ys))) else .bad
    | _, _ => .bad
  | _, _, _ => .bad
theorem om_extend : MethM K XR fExtend rExtend := by
  intro av E H β μ v x vs xs Q rl p ps h
  unfold fExtend at h
  split at h
  · rename_i n w
    obtain ⟨y, rfl, pw⟩ := one_inv ps
    split at h
    · rename_i ys zs e e2
      split at h
      · rename_i hl
        unfold PRel at p
        obtain ⟨a, rfl, ea⟩ := p
        obtain ⟨us, h1, h2⟩ := rl.obj n a _ ea e
        obtain ⟨b, ws, rfl, h3, h4⟩ := lstM_ok rl pw e2
        exact ⟨a, b, us, ws, rfl, rfl, h1, h3, by rw [← h2.length, ← h4.length]; exact hl, h _ _ β (Ext.write rl ea _) (rl.write ea ⟨_, upd_same, PRels.ext (Ext.write rl ea _) _ (h2.app h4)⟩) .non_⟩
      · exact h.elim
    · exact h.elim
  · exact h.elim
/-- a method of a built-in class, the library's rule pe_bm handed over -/
theorem me_bm {T : String} {r : V → List V → Hp → VK → Prop} {is : PV → MH → Bool} {f : PV → List PV → MH → R PV} {c : Expr} {mo : ME} {ma : MEs} (om : MethM X.K XR f r)
    (ty : ∀ (av : List Addr) (H : Hp) (β : List Addr) (μ : MH) (v : PV) (x : V), Rl ⟨X.K, av⟩ H β μ → PRel ⟨X.K, av⟩ H β v x → is v μ = true → tyV X.K T x H)
    (rule : PE X c (tBM X.K T r (tM X.K XR E mo) (tMs X.K XR E ma))) : PM X XR E c (mMeth is f mo ma) :=
  PE.imp rule (tm_meth om ty)
end
end Mini

/-! M14: dict displays, starred items, slices, tuple.index, constants of the module. -/
namespace Mini
open PySem PySem.Spec PyProof.Rows L2 StX
section
variable {K : PySem.W.Frag} {av : List Addr} {XR : XRel} {D : Addr} {H H1 H' : Hp} {β β1 β' : List Addr} {μ μ2 : MH}
theorem start_av {s : MS} {σ : L2.St} {o : HO} (rl : Rl ⟨K, av⟩ H1 β1 μ) (sr : SRel ⟨K, av⟩ H1 β1 s σ) (h0 : H1 D = none) : Rl ⟨K, D :: av⟩ (upd H1 D o) β1 μ ∧ SRel ⟨K, D :: av⟩ (upd H1 D o) β1 s σ := by
  have hn := rl.notMem h0
  refine ⟨⟨rl.len, rl.nd, fun n a m h1 h2 => ?_, fun a ha q => ?_⟩, ?_⟩
  · exact ((rl.obj n a m h1 h2).av_ (up_av h0) (fun _ _ h => h)).acc fun e => hn (by rw [← e]; exact List.mem_of_getElem? h1)
  · by_cases z : a = D
    · rw [z, upd_same] at q; cases q
    · rw [upd_ne z] at q
      rcases List.mem_cons.mp ha with e | ha
      · exact z e
      · exact rl.avt a ha q
  · exact (sr.av_ (up_av h0)).acc
theorem seal_av {mo : MO} (hD : H1 D = none) (ex : Ext H1 β1 H' β') (rl : Rl ⟨K, D :: av⟩ H' β' μ2) (hn : D ∉ β') (p : ORel ⟨K, D :: av⟩ H' β' D mo) : Ext H1 β1 H' (β' ++ [D]) ∧ Rl ⟨K, av⟩ H' (β' ++ [D]) (μ2 ++ [mo]) ∧ PRel ⟨K, av⟩ H' (β' ++ [D]) (.ref μ2.length) (.ref D) := by
  have hs : ∀ a, (H' a ≠ none ∧ a ∉ β' ∧ a ∉ D :: av) → a ∉ β' ++ [D] ∧ a ∉ av := fun a ⟨_, h2, h3⟩ => ⟨fun q => by
    rcases List.mem_append.mp q with q | q
    · exact h2 q
    · simp at q; exact h3 (by rw [q]; exact List.mem_cons_self), fun q => h3 (List.mem_cons_of_mem _ q)⟩
  have hβ : ∀ (n : Nat) (a : Addr), β'[n]? = some a → (β' ++ [D])[n]? = some a := fun n a h => by
    rw [List.getElem?_append_left (List.getElem?_eq_some_iff.mp h).1]; exact h
  refine ⟨?_, ⟨by simp [rl.len], ?_, fun n a m h1 h2 => ?_, fun a ha => rl.avt a (List.mem_cons_of_mem _ ha)⟩, ?_⟩
  · obtain ⟨nw, e1, f⟩ := ex.pre
    exact ⟨⟨nw ++ [D], by rw [e1, List.append_assoc], fun a ha => by
      rcases List.mem_append.mp ha with q | q
      · exact f a q
      · simp at q; rw [q]; exact hD⟩, ex.stay, ex.live⟩
  · rw [List.nodup_append]
    refine ⟨rl.nd, by simp, fun a ha b hb e => ?_⟩
    simp at hb; subst hb; subst e
    exact hn ha
  · by_cases hl : n < β'.length
    · rw [List.getElem?_append_left hl] at h1
      rw [List.getElem?_append_left (by rw [← rl.len]; exact hl)] at h2
      exact (rl.obj n a m h1 h2).av_ hs hβ
    · rw [List.getElem?_append_right (by omega)] at h1
      rw [List.getElem?_append_right (by rw [← rl.len]; omega)] at h2
      rw [← rl.len] at h2
      cases e : n - β'.length with
      | zero =>
        rw [e] at h1 h2
        simp at h1 h2
        subst h1; subst h2
        exact p.av_ hs hβ
      | succ k => rw [e] at h1; simp at h1
  · unfold PRel
    exact ⟨D, rfl, by rw [← rl.len]; simp⟩
theorem notin_ext {o : HO} (hn : D ∉ β1) (ex : Ext (upd H1 D o) β1 H' β') : D ∉ β' ∧ H' D = some o := by
  obtain ⟨nw, e1, f⟩ := ex.pre
  refine ⟨fun q => ?_, ex.stay D o upd_same hn⟩
  rw [e1] at q
  rcases List.mem_append.mp q with q | q
  · exact hn q
  · have := f D q; rw [upd_same] at this; cases this
end
/-! ### {k: v} -/
def mD1 (k v : ME) : ME := fun s μ => (noErr (k s μ)).bind fun kv μ1 => (noErr (v s μ1)).bind fun vv μ2 => match keyOf kv with
  | some key => .ok (.ref μ2.length) (μ2 ++ [.dK [(key, vv)]])
  | none => .bad
section
variable {X : Cx} {XR : XRel} {E : L2.St → XK}
theorem td1_ok {K : PySem.W.Frag} {mk mv : ME} (σ : L2.St) (H : Hp) (Q : VK) (h : tM K XR E (mD1 mk mv) σ H Q) : tDisp [(tM K XR E mk, tM K XR E mv)] σ H Q := by
  obtain ⟨av, β, s, μ, rl, sr, h⟩ := h
  intro p hp
  obtain ⟨rl1, sr1⟩ := start_av (o := .dK []) rl sr hp
  refine ⟨_, _, s, μ, rl1, sr1, ?_⟩
  unfold mD1 at h
  cases e1 : mk s μ with
  | bad => rw [e1] at h; exact h
  | err c p μ' => rw [e1] at h; exact h.elim
  | ok kv μ1 =>
    rw [e1] at h
    intro kx H1 β1 ex1 rl1' pk
    refine ⟨_, _, s, μ1, rl1', sr1.ext ex1, ?_⟩
    simp only [R.bind, noErr] at h
    cases e2 : mv s μ1 with
    | bad => rw [e2] at h; exact h
    | err c p μ' => rw [e2] at h; exact h.elim
    | ok vv μ2 =>
      rw [e2] at h
      simp only at h
      intro vx H2 β2 ex2 rl2 pv
      cases ek : keyOf kv with
      | none => rw [ek] at h; exact h.elim
      | some key =>
        rw [ek] at h
        have hn := rl.notMem hp
        have ex := ex1.trans ex2
        obtain ⟨hn2, hd⟩ := notin_ext hn ex
        have rl3 : Rl ⟨K, p :: av⟩ (upd H2 p (.dK [(key, vx)])) β2 μ2 := rl2.acc hn2
        have ex0 : Ext H β H2 β2 := (Ext.new rl hp (.dK [])).trans ex
        have ex3 : Ext H β (upd H2 p (.dK [(key, vx)])) β2 := Ext.acc hd ex0 hp
        obtain ⟨ex4, rl4, pr⟩ := seal_av (mo := .dK [(key, vv)]) hp ex3 rl3 hn2 ⟨[(key, vx)], upd_same, rfl, PRels.acc _ (.cons pv .nil)⟩
        refine ⟨hd, [(key, vx)], ?_, (by show 1 ≤ 15; decide), ?_⟩
        · simp only [List.map_cons, List.map_nil]
          rw [keyOf_ok (pk.ext ex2) ek]
        · exact h _ _ _ ex4 rl4 pr
theorem me_d1 {k v : Expr} {mk mv : ME} {pos : Pos} (hk : PM X XR E k mk) (hv : PM X XR E v mv) : PM X XR E (.Dict [some k] [v] pos) (mD1 mk mv) :=
  PE.imp (pe_disp (pps_cons hk hv pps_nil) rfl rfl (fun e => nomatch e) (by show 1 ≤ 15; decide)) td1_ok
/-! ### {} -/
def mD0K : ME := fun s μ => .ok (.ref μ.length) (μ ++ [.dK []])
def mD0T : ME := fun s μ => .ok (.ref μ.length) (μ ++ [.dT []])
/-! ### starred items -/
def starOf (v : PV) (μ : MH) : Option (List PV) := match seqT v with
  | some xs => some xs
  | none => lstR v μ
@[simp] def msStar (a : ME) (r : MEs) : MEs := fun s μ => (a s μ).bind fun v μ1 => match starOf v μ1 with
  | some xs => (r s μ1).bind fun ws μ2 => .ok (xs ++ ws) μ2
  | none => .bad
theorem starOf_ok {G : Gx} {H : Hp} {β : List Addr} {μ : MH} {v : PV} {xs : List PV} {x : V} (rl : Rl G H β μ) (p : PRel G H β v x) (h : starOf v μ = some xs) : ∃ a vs, x = .ref a ∧ (SqT G.fr H a vs ∨ SqL G.fr H a vs) ∧ PRels G H β xs vs := by
  unfold starOf at h
  split at h
  · rename_i e
    cases h
    obtain ⟨a, vs, e1, e2, e3⟩ := seqT_ok p e
    exact ⟨a, vs, e1, .inl e2, e3⟩
  · obtain ⟨a, vs, e1, e2, e3⟩ := lstR_ok rl p h
    exact ⟨a, vs, e1, .inr e2, e3⟩
theorem tms_star {K : PySem.W.Frag} {a : ME} {b : MEs} (σ : L2.St) (H : Hp) (Q : List V → Hp → Prop) (h : tMs K XR E (msStar a b) σ H Q) : tStar K (tM K XR E a) (tMs K XR E b) σ H Q := by
  obtain ⟨av, β, s, μ, rl, sr, h⟩ := h
  refine ⟨av, β, s, μ, rl, sr, ?_⟩
  unfold msStar at h
  cases e1 : a s μ with
  | bad => rw [e1] at h; exact h
  | err c p μ' => rw [e1] at h; exact h
  | ok v μ1 =>
    rw [e1] at h
    intro x H1 β1 ex1 rl1 p
    simp only [R.bind] at h
    cases e2 : starOf v μ1 with
    | none => rw [e2] at h; exact h.elim
    | some xs =>
      rw [e2] at h
      obtain ⟨ad, vs, rfl, sq, q⟩ := starOf_ok rl1 p e2
      refine ⟨ad, vs, rfl, sq, av, β1, s, μ1, rl1, sr.ext ex1, ?_⟩
      simp only at h
      cases e3 : b s μ1 with
      | bad => rw [e3] at h; exact h
      | err c p μ' => rw [e3] at h; exact fun cls d H' β' ex => h cls d H' β' (ex1.trans ex)
      | ok ws μ2 =>
        rw [e3] at h
        intro ys H2 β2 ex2 rl2 q2
        exact h _ H2 β2 (ex1.trans ex2) rl2 ((q.ext ex2).app q2)
theorem mas_star {e : Expr} {es : List Expr} {a : ME} {b : MEs} {p : Pos} (ha : PM X XR E e a) (hb : PMs X XR E es b) (hs : starEach (.Starred e p :: es) X.env = (true, eval e X.env) :: starEach es X.env := by rfl) : PMs X XR E (.Starred e p :: es) (msStar a b) :=
  PA.imp (pa_star ha hb hs) tms_star
/-! ### a tuple whose object is known -/
@[simp] def fCtp (xs : List PV) (μ : MH) : R PV := if xs.length ≤ sizeLine then .ok (.ctp xs) μ else .bad
def tCtp (t : TA) : TE := fun σ H Q => t σ H fun xs H1 => xs.length ≤ sizeLine ∧ ∀ p (o : Obj), H1 p = none → o.cls = .type "tuple" → o.dict = none → Q (.ref p) (upd H1 p (.frz o (.tup xs)))
def tupO (us : List Value) : Obj := { cls := .type "tuple", data := .seq us.toArray }
/-- a new tuple joins what is tracked, its object known -/
theorem ctp_new {pins : List (Addr × Obj)} {σ : L2.St} {H : Hp} {s : Shared} {us : List Value} {xs : List V} (I : Inv X pins σ H s) (r : Vals xs us) (z : xs.length ≤ sizeLine) :
    Inv X pins σ (upd H s.heap.objs.size (.frz (tupO us) (.tup xs))) { s with heap := s.heap.push (tupO us) } := by
  have at_ : (s.heap.push (tupO us)).get? s.heap.objs.size = some (tupO us) := Heap.get?_push_size _ rfl
  apply I.laid (t' := s.toks) (fun _ _ => Heap.get?_push_of_some _) (Nat.le_refl _)
  exact ⟨at_, z, us, r, _, at_, rfl, _, rfl⟩
theorem pe_ctp {es : List Expr} {t : TA} {x1 pos} (h : PA X es t) : PE X (.Tuple es x1 pos) (tCtp t) where
  run pins s σ H Q I hq := by
    apply wpAny_Tuple_spliced
    apply thn (h.run pos pins s σ H _ I hq)
    rintro us s1 ⟨xs, H1, I1, r, z, q⟩
    exact ⟨r.length ▸ z, .ref s1.heap.objs.size, _, ctp_new I1 r z, rfl, q _ _ (I1.hok.fresh (Nat.le_refl _)) rfl rfl⟩
theorem me_ctp {es : List Expr} {m : MEs} {x1} {pos : Pos} (h : PMs X XR E es m) : PM X XR E (.Tuple es x1 pos) (mCallP fCtp m) :=
  PE.imp (pe_ctp h) fun σ H Q ⟨av, β, s, μ, rl, sr, h⟩ => tms_e rl sr h fun v μ' x H' β' _ ex rl' _ p q => by
    unfold fCtp at q
    split at q
    · rename_i hl
      refine ⟨by rw [← p.length]; exact hl, fun a o ha hc hd => ?_⟩
      refine q _ _ β' (Ext.new rl' ha _) (rl'.new ha _) ?_
      unfold PRel
      exact ⟨a, x, rfl, .inl ⟨⟨o, upd_same, hc, hd⟩, rl'.fresh ha⟩, PRels.ext (Ext.new rl' ha _) _ p⟩
    · exact q.elim
/-! ### a method of such a tuple -/
def tBMT (K : PySem.W.Frag) (r : V → List V → Hp → VK → Prop) (to : TE) (t : TA) : TE := fun σ H Q => to σ H fun x H1 => (∃ av β a vs, x = .ref a ∧ CT ⟨K, av⟩ H1 β a vs) ∧ t σ H1 fun xs H2 => r x xs H2 Q
theorem ct_is {K : PySem.W.Frag} {pins : List (Addr × Obj)} {σ : L2.St} {H : Hp} {s : Shared} {av β : List Addr} {a : Addr} {vs : List V} (hK : X.K = K) (I : Inv X pins σ H s) (h : CT ⟨K, av⟩ H β a vs) : s.TypeIs (.ref a) "tuple" ∧ ∀ b, Value.ref a = .ref b → ∃ ob, s.heap.get? b = some ob ∧ ob.dict = none := by
  subst hK
  rcases h with ⟨⟨o, h, hc, hd⟩, _⟩ | ⟨o, its, n, hl, hc, hd, _⟩
  · have := (I.hok a _ h).1
    exact ⟨⟨o, this, hc⟩, fun b e => by cases e; exact ⟨o, this, hd⟩⟩
  · have := I.kIn a o hl
    exact ⟨⟨o, this, hc⟩, fun b e => by cases e; exact ⟨o, this, hd⟩⟩
/-- a call o.m(e, ..) as the library's wpAny_Call_method_late goes through it -/
def Late (X : Cx) (o : Expr) (name : Str) (apos : Pos) (es : List Expr) (cpos : Pos) : Prop := ∀ {Q E : Value → Shared → Prop} {s : Shared},
  wpAny (model X.prog X.w) X.A (eval o X.env) (fun ov z => MethodOn X.prog X.w X.A name cpos ov (backTo cpos (starEach es X.env)) Q E z) E s → wpAny (model X.prog X.w) X.A (eval (.Call (.Attribute o name apos) es [] cpos) X.env) Q E s
/-- a method of a tuple whose object is known -/
theorem pe_bmT {o e : Expr} {to : TE} {t : TA} {name : Str} {apos cpos : Pos} {id : String} {r : V → List V → Hp → VK → Prop} (slot : Slot "tuple" name id) (desc : typeOf (.builtin id) = pure (.type "method_descriptor")) (does : MtR X id r) (ho : PE X o to) (ha : PA X [e] t)
    (late : Late X o name apos [e] cpos) (one : starEach [e] X.env = [(false, eval e X.env)]) : PE X (.Call (.Attribute o name apos) [e] [] cpos) (tBMT X.K r to t) where
  run pins s σ H Q I h := by
    apply late
    apply thn (ho.run pins s σ H _ I h)
    rintro v s1 ⟨_, H1, I1, is, ⟨_, _, a, _, rfl, ct⟩, q⟩
    have : v = .ref a := is
    subst this
    have ⟨cl, bare⟩ := ct_is rfl I1 ct
    have args := ha.run cpos pins s1 σ H1 _ I1 q
    rw [one] at args
    unfold MethodOn
    rw [one]
    refine ⟨"tuple", id, PySem.F.plainAttrs_tuple, slot, desc, cl, bare, ?_⟩
    apply Calls.callWith_builtin rfl
    apply Calls.evalArgs_plain
    apply thn args
    rintro us s2 ⟨ws, H2, I2, rs, q2⟩
    exact does pins s2 σ H2 (.ref a) ws (.ref a) us Q I2 rfl rs q2
def idxOf (z : Str) : List Str → Option Nat
  | [] => none
  | y :: ys => if y = z then some 0 else (idxOf z ys).map (· + 1)
theorem idxOf_ok {z : Str} : ∀ {ys : List Str} {j : Nat}, idxOf z ys = some j → ys[j]? = some z ∧ ∀ m, m < j → ys[m]? ≠ some z
  | [], j, h => by unfold idxOf at h; cases h
  | y :: ys, j, h => by
    unfold idxOf at h
    split at h
    · rename_i e; cases h; subst e; exact ⟨rfl, fun m hm => absurd hm (Nat.not_lt_zero m)⟩
    · rename_i e
      rw [Option.map_eq_some_iff] at h
      obtain ⟨i, e2, rfl⟩ := h
      obtain ⟨h1, h2⟩ := idxOf_ok e2
      refine ⟨by simpa using h1, fun m hm => ?_⟩
      cases m with
      | zero => simp; exact e
      | succ m => simpa using h2 m (by omega)
def isCtp : PV → Bool
  | .ctp _ => true
  | _ => false
def fIndexT : PV → List PV → MH → R PV
  | .ctp xs, [.str z], μ => match strsOf xs with
    | some ys => match idxOf z ys with
      | some j => .ok (.int (j : Nat)) μ
      | none => .bad
    | none => .bad
  | _, _, _ => .bad
theorem tm_methT {K : PySem.W.Frag} {f : PV → List PV → MH → R PV} {r : V → List V → Hp → VK → Prop} {mo : ME} {ma : MEs} (hf : MethM K XR f r) (σ : L2.St) (H : Hp) (Q : VK)
    (h : tM K XR E (mMeth (fun v _ => isCtp v) f mo ma) σ H Q) : tBMT K r (tM K XR E mo) (tMs K XR E ma) σ H Q := by
  obtain ⟨av, β, s, μ, rl, sr, h⟩ := h
  unfold mMeth at h
  refine tm_e rl sr h fun v μ1 x H1 β1 _ ex1 rl1 sr1 p q => ?_
  split at q
  · rename_i hc
    cases v <;> first
      | exact Bool.noConfusion hc
      | skip
    rename_i xs
    refine ⟨?_, tms_e rl1 sr1 q fun ws μ2 ys H2 β2 _ ex2 rl2 sr2 p2 q2 => hf _ _ H2 β2 μ2 _ x ws ys Q rl2 (p.ext ex2) p2 q2⟩
    obtain ⟨a, vs, rfl, ct, _⟩ := ctp_inv p
    exact ⟨_, _, a, vs, rfl, ct⟩
  · exact q.elim
abbrev rIndexT (K : PySem.W.Frag) : V → List V → Hp → VK → Prop := fun x xs H Q => ∃ p, ∃ ys : List Str, ∃ z j, x = .ref p ∧ xs = [.str z] ∧ SqT K H p (ys.map V.str) ∧ ys[j]? = some z ∧ (∀ m, m < j → ys[m]? ≠ some z) ∧ Q (.int (j : Nat)) H
theorem om_indexT {K : PySem.W.Frag} : MethM K XR fIndexT (rIndexT K) := by
  intro av E H β μ v x vs xs Q rl p ps h
  unfold fIndexT at h
  split at h
  · rename_i us z
    obtain ⟨y, rfl, pw⟩ := one_inv ps
    split at h
    · rename_i zs e1
      split at h
      · rename_i j e2
        obtain ⟨a, ws, rfl, ct, q⟩ := ctp_inv p
        obtain ⟨h1, h2⟩ := idxOf_ok e2
        refine ⟨a, zs, z, j, rfl, by rw [str_inv pw], ?_, h1, h2, ok_here h rl .int_⟩
        rw [← strs_rel q e1]
        exact ct.sq
      · exact h.elim
    · exact h.elim
  · exact h.elim
theorem me_indexT {o e : Expr} {mo : ME} {ma : MEs} {apos cpos : Pos} (ho : PM X XR E o mo) (ha : PMs X XR E [e] ma) (late : Late X o "index" apos [e] cpos := by exact fun h => wpAny_Call_method_late rfl rfl rfl rfl h)
    (one : starEach [e] X.env = [(false, eval e X.env)] := by rfl) : PM X XR E (.Call (.Attribute o "index" apos) [e] [] cpos) (mMeth (fun v _ => isCtp v) fIndexT mo ma) :=
  PE.imp (pe_bmT PySem.F.slot_tuple_index PySem.F.type_tuple_index mt_tup_index ho ha late one) (tm_methT om_indexT)
/-! ### a tuple of the module -/
theorem me_globT {x : Str} {a : Addr} {xs : List PV} {vs : List V} {o : Obj} {its : Array Value} {n : Nat} {pos : Pos} (hg : Gl X x) (hm : X.mg x = some (.ref a)) (hl : X.K.lookup a = some o) (hc : o.cls = .type "tuple") (hd : o.dict = none) (hD : o.data = .seq its n) (hz : its.size ≤ sizeLine) (hv : Vals vs its.toList)
    (hr : ∀ (G : Gx) (H : Hp) (β : List Addr), PRels G H β xs vs) (hdb : (x == ("__debug__" : Str)) = false := by decide) : PM X XR E (.Name x pos) (mC (.ctp xs)) :=
  PE.imp (pe_glob (v := .ref a) hg hm rfl hdb) fun σ H Q ⟨av, β, s, μ, rl, sr, h⟩ => h _ H β .refl rl (by
    unfold PRel
    exact ⟨a, vs, rfl, .inr ⟨o, its, n, hl, hc, hd, hD, hz, hv⟩, hr _ H β⟩)
end
end Mini

/-! M15: slices. -/
namespace Mini
open PySem PySem.Spec PyProof.Rows L2
def cutL {α : Type} (xs : List α) (lo hi : Option Int) : List α := (xs.drop (HT.sIx xs.length 0 lo)).take (HT.sIx xs.length xs.length hi - HT.sIx xs.length 0 lo)
abbrev Part := Option ME
@[simp] def evPt : Part → MS → MH → R (Option Int)
  | none, _, μ => .ok none μ
  | some m, s, μ => (m s μ).bind fun v μ1 => match v with
    | .int i => .ok (some i) μ1
    | _ => .bad
def fSl (v : PV) (lo hi : Option Int) (μ : MH) : R PV := match seqT v with
  | some xs => if HT.sIx xs.length 0 lo = 0 ∧ HT.sIx xs.length xs.length hi = xs.length then .ok v μ else .ok (.tup (cutL xs lo hi)) μ
  | none => match lstR v μ with
    | some xs => .ok (.frl (cutL xs lo hi)) μ
    | none => match v with
      | .str z => if z.length ≤ sizeLine then .ok (.str (cutS z lo hi)) μ else .bad
      | _ => .bad
def mSl (o : ME) (l h : Part) : ME := fun s μ => (o s μ).bind fun v μ1 => (evPt l s μ1).bind fun lo μ2 => (evPt h s μ2).bind fun hi μ3 => fSl v lo hi μ3
section
variable {X : Cx} {XR : XRel} {E : L2.St → XK}
def ptT (K : PySem.W.Frag) (XR : XRel) (E : L2.St → XK) : Part → TO
  | none => tNoPart
  | some m => tPart (tM K XR E m)
theorem tpt {K : PySem.W.Frag} {av : List Addr} {σ : L2.St} {H : Hp} {β : List Addr} {s : MS} {μ : MH} {l : Part} {k : Option Int → MH → R PV} {Q : Option Int → Hp → Prop} {Q' : VK} (rl : Rl ⟨K, av⟩ H β μ) (sr : SRel ⟨K, av⟩ H β s σ) (h : OutOk ⟨K, av⟩ XR H β (E σ) Q' ((evPt l s μ).bind k))
    (q : ∀ i μ' H' β', Ext H β H' β' → Rl ⟨K, av⟩ H' β' μ' → SRel ⟨K, av⟩ H' β' s σ → OutOk ⟨K, av⟩ XR H' β' (E σ) Q' (k i μ') → Q i H') : ptT K XR E l σ H Q := by
  cases l with
  | none => exact q none μ H β .refl rl sr h
  | some m =>
    have e : (evPt (some m) s μ).bind k = (m s μ).bind fun v μ1 => (match v with | .int i => R.ok (some i) μ1 | _ => R.bad : R (Option Int)).bind k := by
      show ((m s μ).bind _).bind k = _
      cases m s μ <;> rfl
    rw [e] at h
    show tM K XR E m σ H _
    refine tm_e rl sr h fun v μ1 x H1 β1 _ ex1 rl1 sr1 p q1 => ?_
    cases v <;> first
      | exact q1.elim
      | exact ⟨_, int_inv p, q _ μ1 H1 β1 ex1 rl1 sr1 q1⟩
def rSlAll (K : PySem.W.Frag) : V → Option Int → Option Int → Hp → VK → Prop := fun x lo hi H Q => rSlA K x lo hi H Q ∨ rSlL K x lo hi H Q ∨ rSlS x lo hi H Q
theorem sl_all : SlR X (rSlAll X.K) := sl_tupA.or (sl_list.or sl_str)
theorem PRels.drop_ {G : Gx} {H : Hp} {β : List Addr} : ∀ {xs : List PV} {vs : List V} (n : Nat), PRels G H β xs vs → PRels G H β (xs.drop n) (vs.drop n)
  | xs, vs, 0, p => by simpa using p
  | [], vs, n + 1, p => by unfold PRels at p; subst p; simp; exact .nil
  | x :: xs, vs, n + 1, p => by
    unfold PRels at p
    obtain ⟨y, ys, rfl, p1, p2⟩ := p
    simpa using p2.drop_ n
theorem PRels.take_n {G : Gx} {H : Hp} {β : List Addr} : ∀ {xs : List PV} {vs : List V} (n : Nat), PRels G H β xs vs → PRels G H β (xs.take n) (vs.take n)
  | xs, vs, 0, p => by simp; exact .nil
  | [], vs, n + 1, p => by unfold PRels at p; subst p; simp; exact .nil
  | x :: xs, vs, n + 1, p => by
    unfold PRels at p
    obtain ⟨y, ys, rfl, p1, p2⟩ := p
    simp only [List.take_succ_cons]
    exact .cons p1 (p2.take_n n)
theorem PRels.cut {G : Gx} {H : Hp} {β : List Addr} {xs : List PV} {vs : List V} {lo hi : Option Int} (p : PRels G H β xs vs) : PRels G H β (cutL xs lo hi) (cutV vs lo hi) := by
  unfold cutL cutV
  rw [p.length]
  exact (p.drop_ _).take_n _
theorem tm_slice {K : PySem.W.Frag} {o : ME} {l u : Part} (σ : L2.St) (H : Hp) (Q : VK) (h : tM K XR E (mSl o l u) σ H Q) : tSl (rSlAll K) (tM K XR E o) (ptT K XR E l) (ptT K XR E u) σ H Q := by
  obtain ⟨av, β, s, μ, rl, sr, h⟩ := h
  unfold mSl at h
  refine tm_e rl sr h fun v μ1 x H1 β1 _ ex1 rl1 sr1 p q => ?_
  refine tpt rl1 sr1 q fun lo μ2 H2 β2 ex2 rl2 sr2 q2 => ?_
  refine tpt rl2 sr2 q2 fun hi μ3 H3 β3 ex3 rl3 sr3 q3 => ?_
  have p3 := (p.ext ex2).ext ex3
  unfold fSl at q3
  split at q3
  · rename_i xs e
    obtain ⟨a, vs, rfl, sq, ps⟩ := seqT_ok p3 e
    refine .inl ⟨a, vs, rfl, sq, fun hw => ?_, fun hw => ?_⟩
    · rw [if_pos (by rw [ps.length]; exact hw)] at q3
      exact ok_here q3 rl3 p3
    · rw [if_neg (by rw [ps.length]; exact hw)] at q3
      exact new_tup rl3 ps.cut q3
  · split at q3
    · rename_i xs e
      obtain ⟨a, vs, rfl, sq, ps⟩ := lstR_ok rl3 p3 e
      exact .inr (.inl ⟨a, vs, rfl, sq, new_frl rl3 ps.cut q3⟩)
    · split at q3
      · split at q3
        · rename_i hz
          exact .inr (.inr ⟨_, str_inv p3, hz, ok_here q3 rl3 .str_⟩)
        · exact q3.elim
      · exact q3.elim
theorem me_slice00 {e : Expr} {o : ME} {pos p2 : Pos} (he : PM X XR E e o) : PM X XR E (.Subscript e (.Slice none none none p2) pos) (mSl o none none) := PE.imp (pe_slice sl_all he po_none po_none) tm_slice
theorem me_slice01 {e h : Expr} {o mh : ME} {pos p2 : Pos} (he : PM X XR E e o) (hh : PM X XR E h mh) : PM X XR E (.Subscript e (.Slice none (some h) none p2) pos) (mSl o none (some mh)) := PE.imp (pe_slice sl_all he po_none (po_some hh)) tm_slice
theorem me_slice10 {e l : Expr} {o ml : ME} {pos p2 : Pos} (he : PM X XR E e o) (hl : PM X XR E l ml) : PM X XR E (.Subscript e (.Slice (some l) none none p2) pos) (mSl o (some ml) none) := PE.imp (pe_slice sl_all he (po_some hl) po_none) tm_slice
theorem me_slice11 {e l h : Expr} {o ml mh : ME} {pos p2 : Pos} (he : PM X XR E e o) (hl : PM X XR E l ml) (hh : PM X XR E h mh) : PM X XR E (.Subscript e (.Slice (some l) (some h) none p2) pos) (mSl o (some ml) (some mh)) := PE.imp (pe_slice sl_all he (po_some hl) (po_some hh)) tm_slice
/-! ### x += n -/
@[simp] def fAddI : PV → PV → MH → R PV
  | .int i, .int j, μ => .ok (.int (i + j)) μ
  | _, _, _ => .bad
theorem om_ipAdd {K : PySem.W.Frag} : OpM K XR fAddI (ipI fun i j => i + j) := by
  intro av E H β μ v w x y Q rl pv pw h
  unfold fAddI at h
  split at h
  · exact ⟨_, _, int_inv pv, int_inv pw, ok_here h rl .int_⟩
  · exact h.elim
/-! ### a tuple of the module -/
def GlobT (K : PySem.W.Frag) (mg : Str → Option Value) (x : Str) (xs : List PV) : Prop := ∃ (a : Addr) (vs : List V) (o : Obj) (its : Array Value) (n : Nat), mg x = some (.ref a) ∧ K.lookup a = some o ∧ o.cls = .type "tuple" ∧ o.dict = none ∧ o.data = .seq its n ∧ its.size ≤ sizeLine ∧ Vals vs its.toList ∧
  ∀ (G : Gx) (H : Hp) (β : List Addr), PRels G H β xs vs
theorem me_globK {x : Str} {xs : List PV} {pos : Pos} (hg : Gl X x) (h : GlobT X.K X.mg x xs) (hdb : (x == ("__debug__" : Str)) = false := by decide) : PM X XR E (.Name x pos) (mC (.ctp xs)) := by
  obtain ⟨a, vs, o, its, n, h1, h2, h3, h4, h5, h6, h7, h8⟩ := h
  exact me_globT hg h1 h2 h3 h4 h5 h6 h7 h8 hdb
end
end Mini

/-! M16: how long a text of data is; a def's raw worth cleaned. -/
namespace Mini
open PySem PySem.Spec PyProof.Rows L2
/-! ### shown -/
mutual
def shw : PyData → Nat
  | .none => 4
  | .bool _ => 5
  | .int i => i.natAbs.log2 + 3
  | .str x => 10 * x.length + 2
  | .list xs => shws xs + 4
  | .tuple xs => shws xs + 4
  | .dict _ => 0
def shws : List PyData → Nat
  | [] => 0
  | x :: xs => shw x + 2 + shws xs
end
mutual
def okD : PyData → Bool
  | .none => true
  | .bool _ => true
  | .int i => decide (i.natAbs.log2 < 1920)
  | .str x => x.cps.toList.all fun c => decide (c < 16 ^ 8)
  | .list xs => okDs xs
  | .tuple xs => okDs xs
  | .dict _ => false
def okDs : List PyData → Bool
  | [] => true
  | x :: xs => okD x && okDs xs
end
theorem piled_eq (x : Str) (ts : List Str) : piled (x :: ts) = x.length + 2 + piled ts := by simp [piled]
theorem listText_le : ∀ ts : List Str, (listText ts).length ≤ piled ts + 4
  | [] => by decide
  | t :: ts => by
    have h1 : (textFrom 0 "[" (t :: ts)).length ≤ 1 + piled (t :: ts) := by
      show (textFrom 1 (("[" : Str) ++ "" ++ t) ts).length ≤ _
      rw [textFrom_length_pos ts 1 _ (by decide), piled_eq, PySem.Str.length_append, PySem.Str.length_append]
      have : ("[" : Str).length = 1 := by decide
      have e : ("" : Str).length = 0 := by decide
      omega
    unfold listText
    rw [PySem.Str.length_append]
    have : ("]" : Str).length = 1 := by decide
    omega
theorem tupleText_le (ts : List Str) : (tupleText ts).length ≤ piled ts + 4 := by
  unfold tupleText
  rw [PySem.Str.length_append, PySem.Str.length_append]
  have h1 : ("(" : Str).length = 1 := by decide
  have h2 : ((if ts.length == 1 then ",)" else ")" : String) : Str).length ≤ 2 := by split <;> decide
  have h3 : (Str.join ", " ts).length ≤ piled ts := by
    cases ts with
    | nil => decide
    | cons t ts => have := join_length_add (t :: ts) (by simp); omega
  omega
mutual
theorem shown_le : ∀ d : PyData, okD d = true → d.shown.length ≤ shw d
  | .none, _ => by decide
  | .bool b, _ => by cases b <;> decide
  | .int i, h => by
    unfold okD at h
    have := int_text_length_le (a := i) (k := i.natAbs.log2 + 1) (by omega) (by omega)
    have e : (PyData.shown (.int i)).length = (Str.ofString (toString i)).length := by
      simp only [PyData.shown]
    unfold shw
    rw [e, PySem.ofString_length]
    omega
  | .str x, h => by
    unfold okD at h
    simp only [PyData.shown, shw]
    exact StrLaws.reprText_len x fun c hc => of_decide_eq_true (List.all_eq_true.mp h c hc)
  | .list xs, h => by
    unfold okD at h
    simp only [PyData.shown, shw]
    have := listText_le (PyData.shownAll xs)
    have := shownAll_le xs h
    omega
  | .tuple xs, h => by
    unfold okD at h
    simp only [PyData.shown, shw]
    have := tupleText_le (PyData.shownAll xs)
    have := shownAll_le xs h
    omega
  | .dict kvs, h => by unfold okD at h; cases h
theorem shownAll_le : ∀ ds : List PyData, okDs ds = true → piled (PyData.shownAll ds) ≤ shws ds
  | [], _ => by decide
  | d :: ds, h => by
    unfold okDs at h
    rw [Bool.and_eq_true] at h
    have h1 := shown_le d h.1
    have h2 := shownAll_le ds h.2
    simp only [PyData.shownAll, shws]
    rw [piled_eq]
    omega
end
mutual
theorem okD_show : ∀ d : PyData, okD d = true → d.showable = true
  | .none, _ => by unfold PyData.showable; rfl
  | .bool b, _ => by unfold PyData.showable; rfl
  | .int i, h => by unfold okD at h; unfold PyData.showable; exact h
  | .str x, h => by unfold PyData.showable; rfl
  | .list xs, h => by unfold okD at h; unfold PyData.showable; exact okDs_show xs h
  | .tuple xs, h => by unfold okD at h; unfold PyData.showable; exact okDs_show xs h
  | .dict kvs, h => by unfold okD at h; cases h
theorem okDs_show : ∀ ds : List PyData, okDs ds = true → PyData.showableAll ds = true
  | [], _ => by unfold PyData.showableAll; rfl
  | d :: ds, h => by
    unfold okDs at h
    rw [Bool.and_eq_true] at h
    unfold PyData.showableAll
    rw [okD_show d h.1, okDs_show ds h.2]
    rfl
end
/-- data that repr can show -/
def Fits (d : PyData) : Prop := okD d = true ∧ shw d ≤ 16000000 ∧ d.depth ≤ 58
theorem reprOf_fits {v : PV} {μ : MH} {d : PyData} (h : toD μ v = some d) (f1 : okD d = true) (f2 : shw d ≤ sizeLine) (f3 : d.depth ≤ 60) : reprOf v μ = .ok (.str d.shown) μ := by
  unfold reprOf
  rw [h]
  simp only
  rw [if_pos ⟨okD_show d f1, Nat.le_trans (shown_le d f1) f2, f3⟩]
/-! ### a raw worth, cleaned -/
def MO.same : MO → MO → Bool
  | .lst xs, .lst ys => PV.sames xs ys
  | .dK a, .dK b => decide (a.map (·.1) = b.map (·.1)) && PV.sames (a.map (·.2)) (b.map (·.2))
  | .dT a, .dT b => decide (a.map (·.1) = b.map (·.1)) && PV.sames (a.map (·.2)) (b.map (·.2))
  | _, _ => false
theorem map_pair {α β : Type} : ∀ {a b : List (α × β)}, a.map (·.1) = b.map (·.1) → a.map (·.2) = b.map (·.2) → a = b
  | [], [], _, _ => rfl
  | [], _ :: _, h, _ => by simp at h
  | _ :: _, [], h, _ => by simp at h
  | (x, y) :: a, (z, w) :: b, h1, h2 => by
    simp at h1 h2
    rw [h1.1, h2.1, map_pair h1.2 h2.2]
theorem MO.same_eq {a b : MO} (h : MO.same a b = true) : a = b := by
  unfold MO.same at h
  split at h
  · rw [PV.sames_eq _ _ h]
  · rw [Bool.and_eq_true, decide_eq_true_eq] at h; rw [map_pair h.1 (PV.sames_eq _ _ h.2)]
  · rw [Bool.and_eq_true, decide_eq_true_eq] at h; rw [map_pair h.1 (PV.sames_eq _ _ h.2)]
  · cases h
theorem MO.same_refl (a : MO) : MO.same a a = true := by
  cases a <;> unfold MO.same <;> simp [PV.sames_refl]
def keepsB (μ : MH) : MH → Nat → Nat → Bool
  | [], _, _ => true
  | o :: os, i, n => ((match μ[i]? with | some o' => MO.same o' o | none => false) || o.lo n) && keepsB μ os (i + 1) n
def keepOk (μ ν : MH) : Bool := decide (μ.length ≤ ν.length) && keepsB μ (ν.take μ.length) 0 μ.length
/-- a result as the callers see it -/
def fzV (n : Nat) (ν : MH) (v0 : PV) : Option PV := if v0.lo n then some v0 else match v0 with
  | .ref k => match ν[k]? with
    | some (.lst xs) => if decide (n ≤ k) && PV.los n xs then some (.frl xs) else none
    | _ => none
  | _ => none
def cl (μ : MH) : R PV → R PV
  | .ok v0 ν => match keepOk μ ν, fzV μ.length ν v0 with
    | true, some v => .ok v (ν.take μ.length)
    | _, _ => .bad
  | .err c p ν => match keepOk μ ν, PV.los μ.length p with
    | true, true => .err c p (ν.take μ.length)
    | _, _ => .bad
  | .bad => .bad
/-- the old places kept, what stands behind them dropped, a new list frozen -/
def cleanF (f : MF) : MF := fun args μ => cl μ (f args μ)
theorem keepsB_ok {μ : MH} : ∀ (os : MH) (i n : Nat), keepsB μ os i n = true → ∀ (j : Nat) (o : MO), os[j]? = some o → μ[i + j]? = some o ∨ o.lo n = true
  | [], i, n, _, j, o, e => by simp at e
  | x :: os, i, n, h, j, o, e => by
    unfold keepsB at h
    rw [Bool.and_eq_true, Bool.or_eq_true] at h
    cases j with
    | zero =>
      simp at e
      subst e
      rcases h.1 with q | q
      · left
        split at q
        · rename_i o' eo
          rw [Nat.add_zero, eo]
          rw [MO.same_eq q]
        · cases q
      · exact .inr q
    | succ j =>
      simp at e
      have := keepsB_ok os (i + 1) n h.2 j o e
      rw [show i + (j + 1) = i + 1 + j by omega]
      exact this
theorem drops_clean {μ ν : MH} (h1 : μ.length ≤ ν.length) (h2 : keepsB μ (ν.take μ.length) 0 μ.length = true) : ν = ν.take μ.length ++ ν.drop μ.length ∧ Drops μ (ν.take μ.length) (ν.drop μ.length) := by
  refine ⟨(List.take_append_drop _ _).symm, ⟨by rw [List.length_take]; omega, fun i o e => ?_⟩⟩
  have := keepsB_ok _ _ _ h2 i o e
  rw [Nat.zero_add] at this
  rw [List.length_take, Nat.min_eq_left h1]
  exact this
theorem fzV_ok {n : Nat} {ν : MH} {v0 v : PV} (h : fzV n ν v0 = some v) : Fz n ν v0 v := by
  unfold fzV at h
  by_cases hv : v0.lo n = true
  · rw [if_pos hv] at h; cases h; exact .inl ⟨rfl, hv⟩
  · rw [if_neg hv] at h
    cases v0 <;> simp only at h <;> first
      | (cases h; done)
      | skip
    rename_i k
    split at h
    · rename_i xs ex
      split at h
      · rename_i hx
        rw [Bool.and_eq_true, decide_eq_true_eq] at hx
        cases h
        exact .inr ⟨k, xs, rfl, hx.1, ex, hx.2, rfl⟩
      · cases h
    · cases h
theorem ref_clean (f : MF) : Ref (cleanF f) f := by
  intro args μ
  unfold cleanF
  cases e : f args μ with
  | bad => trivial
  | err c p ν =>
    unfold cl
    simp only
    cases hk : keepOk μ ν with
    | false => trivial
    | true =>
      cases hp : PV.los μ.length p with
      | false => trivial
      | true =>
        unfold keepOk at hk
        rw [Bool.and_eq_true, decide_eq_true_eq] at hk
        obtain ⟨e1, d⟩ := drops_clean hk.1 hk.2
        refine ⟨ν.drop μ.length, by rw [← e1], d, ?_⟩
        rw [List.length_take, Nat.min_eq_left hk.1]
        exact hp
  | ok v0 ν =>
    unfold cl
    simp only
    cases hk : keepOk μ ν with
    | false => trivial
    | true =>
      cases hf : fzV μ.length ν v0 with
      | none => trivial
      | some v =>
        unfold keepOk at hk
        rw [Bool.and_eq_true, decide_eq_true_eq] at hk
        obtain ⟨e1, d⟩ := drops_clean hk.1 hk.2
        refine ⟨ν.drop μ.length, v0, by rw [← e1], d, ?_⟩
        rw [← e1, List.length_take, Nat.min_eq_left hk.1]
        exact fzV_ok hf
/-! ### what cleans well -/
theorem keepsB_id {μ : MH} : ∀ (os : MH) (i n : Nat), (∀ (j : Nat) (o : MO), os[j]? = some o → μ[i + j]? = some o ∨ o.lo n = true) → keepsB μ os i n = true
  | [], i, n, _ => rfl
  | x :: os, i, n, h => by
    unfold keepsB
    rw [Bool.and_eq_true, Bool.or_eq_true]
    refine ⟨?_, keepsB_id os (i + 1) n fun j o e => ?_⟩
    · rcases h 0 x rfl with q | q
      · left
        rw [Nat.add_zero] at q
        rw [q]
        exact MO.same_refl x
      · exact .inr q
    · have := h (j + 1) o (by simpa using e)
      rw [show i + 1 + j = i + (j + 1) by omega]
      exact this
theorem cl_ok {μ ν : MH} {v0 v : PV} (h1 : μ.length ≤ ν.length) (h2 : ∀ (j : Nat) (o : MO), j < μ.length → ν[j]? = some o → μ[j]? = some o ∨ o.lo μ.length = true) (hf : fzV μ.length ν v0 = some v) : cl μ (.ok v0 ν) = .ok v (ν.take μ.length) := by
  have hk : keepOk μ ν = true := by
    unfold keepOk
    rw [Bool.and_eq_true, decide_eq_true_eq]
    refine ⟨h1, keepsB_id _ _ _ fun j o e => ?_⟩
    rw [List.getElem?_take] at e
    split at e
    · rename_i hj
      rw [Nat.zero_add]
      exact h2 j o hj e
    · cases e
  unfold cl
  simp only
  rw [hk, hf]
theorem cl_self {μ : MH} {v : PV} (h : v.lo μ.length = true) : cl μ (.ok v μ) = .ok v μ := by
  have := cl_ok (μ := μ) (ν := μ) (v0 := v) (v := v) (Nat.le_refl _) (fun j o _ e => .inl e) (by unfold fzV; rw [if_pos h])
  rw [this, List.take_length]
theorem cl_app {μ junk : MH} {v0 v : PV} (hf : fzV μ.length (μ ++ junk) v0 = some v) : cl μ (.ok v0 (μ ++ junk)) = .ok v μ := by
  have := cl_ok (μ := μ) (ν := μ ++ junk) (v0 := v0) (v := v) (by simp) (fun j o hj e => .inl (by rw [List.getElem?_append_left hj] at e; exact e)) hf
  rw [this, List.take_left]
theorem fz_lo {n : Nat} {ν : MH} {v : PV} (h : v.lo n = true) : fzV n ν v = some v := by unfold fzV; rw [if_pos h]
theorem fz_new {n k : Nat} {ν : MH} {xs : List PV} (h : n ≤ k) (e : ν[k]? = some (.lst xs)) (hx : PV.los n xs = true) : fzV n ν (.ref k) = some (.frl xs) := by
  unfold fzV
  rw [if_neg (by unfold PV.lo; simp; omega)]
  simp only
  rw [e]
  simp only
  rw [if_pos (by rw [Bool.and_eq_true, decide_eq_true_eq]; exact ⟨h, hx⟩)]
theorem le_bigN {n : Nat} (h : n ≤ 1000000000) : n ≤ bigN := by
  unfold bigN
  exact Nat.le_trans (Nat.le_trans h (by decide : 1000000000 ≤ 2 ^ 30)) (Nat.pow_le_pow_right (by decide) (by decide))
theorem pow_bigN {n k : Nat} (h : n < 2 ^ k) (hk : k ≤ 20000) : n < bigN := by
  unfold bigN
  exact Nat.lt_of_lt_of_le h (Nat.pow_le_pow_right (by decide) hk)
end Mini

/-! M17: how minis run. -/
namespace Mini
open PySem PySem.Spec PyProof.Rows L2
@[simp] theorem bindT_nm {i : Nat} {v : PV} {s : MS} : bindT (.nm i) v s = some (s.set i (some v)) := by simp only [bindT]
@[simp] theorem bindT_tup {ts : List MT} {vs : List PV} {s : MS} : bindT (.tp ts) (.tup vs) s = bindTs ts vs s := by simp only [bindT]
@[simp] theorem bindT_ctp {ts : List MT} {vs : List PV} {s : MS} : bindT (.tp ts) (.ctp vs) s = bindTs ts vs s := by simp only [bindT]
@[simp] theorem bindTs_nil {s : MS} : bindTs [] [] s = some s := by simp only [bindTs]
theorem bindTs_cons {t : MT} {ts : List MT} {v : PV} {vs : List PV} {s s1 : MS} (h : bindT t v s = some s1) : bindTs (t :: ts) (v :: vs) s = bindTs ts vs s1 := by simp only [bindTs, h]
@[simp] theorem bindTs_nm {i : Nat} {ts : List MT} {v : PV} {vs : List PV} {s : MS} : bindTs (.nm i :: ts) (v :: vs) s = bindTs ts vs (s.set i (some v)) := bindTs_cons bindT_nm
@[simp] theorem R.bind_ok {α β : Type} {a : α} {μ : MH} {f : α → MH → R β} : (R.ok a μ).bind f = f a μ := rfl
@[simp] theorem R.bind_err {α β : Type} {c : Str} {p : List PV} {μ : MH} {f : α → MH → R β} : (R.err c p μ : R α).bind f = .err c p μ := rfl
@[simp] theorem R.bind_bad {α β : Type} {f : α → MH → R β} : (R.bad : R α).bind f = .bad := rfl
@[simp] theorem sBind_ok {α : Type} {a : α} {μ : MH} {s : MS} {k : α → MH → RS} : sBind (.ok a μ) s k = k a μ := rfl
@[simp] theorem sBind_err {α : Type} {c : Str} {p : List PV} {μ : MH} {s : MS} {k : α → MH → RS} : sBind (.err c p μ : R α) s k = .er c p s μ := rfl
@[simp] theorem sBind_bad {α : Type} {s : MS} {k : α → MH → RS} : sBind (.bad : R α) s k = .bad := rfl
@[simp] theorem noErr_okE {α : Type} {a : α} {μ : MH} : noErr (R.ok a μ) = .ok a μ := rfl
@[simp] theorem bOf_bl {b : Bool} {μ : MH} : bOf (.bl b) μ = .ok b μ := rfl
@[simp] theorem fAdd_int {i j : Int} {μ : MH} : fAdd (.int i) (.int j) μ = .ok (.int (i + j)) μ := by unfold fAdd; rfl
@[simp] theorem fLt_int {i j : Int} {μ : MH} : fLt (.int i) (.int j) μ = .ok (.bl (decide (i < j))) μ := by unfold fLt; rfl
@[simp] theorem fEq_int {i j : Int} {μ : MH} : fEq (.int i) (.int j) μ = .ok (.bl (decide (i = j))) μ := by unfold fEq; rfl
@[simp] theorem fEq_str {i j : Str} {μ : MH} : fEq (.str i) (.str j) μ = .ok (.bl (decide (i = j))) μ := by unfold fEq; rfl
@[simp] theorem fNe_int {i j : Int} {μ : MH} : fNe (.int i) (.int j) μ = .ok (.bl (!decide (i = j))) μ := by unfold fNe; rfl
@[simp] theorem fInt_int {i : Int} {μ : MH} : fInt [.int i] μ = .ok (.int i) μ := by unfold fInt; rfl
@[simp] theorem fInt_bl {i : Bool} {μ : MH} : fInt [.bl i] μ = .ok (.int (if i then 1 else 0)) μ := by unfold fInt; rfl
@[simp] theorem fIx_tup {xs : List PV} {i : Int} {μ : MH} : fIx (.tup xs) (.int i) μ = match atI xs i with | some v => .ok v μ | none => .bad := by unfold fIx seqT; rfl
@[simp] theorem fIx_ctp {xs : List PV} {i : Int} {μ : MH} : fIx (.ctp xs) (.int i) μ = match atI xs i with | some v => .ok v μ | none => .bad := by unfold fIx seqT; rfl
@[simp] theorem fIx_frl {xs : List PV} {i : Int} {μ : MH} : fIx (.frl xs) (.int i) μ = match atI xs i with | some v => .ok v μ | none => .bad := by unfold fIx seqT lstR lstM; rfl
theorem fIx_ref {n : Nat} {xs : List PV} {i : Int} {μ : MH} (h : μ[n]? = some (.lst xs)) : fIx (.ref n) (.int i) μ = match atI xs i with | some v => .ok v μ | none => .bad := by unfold fIx seqT lstR lstM; simp only [h] <;> rfl
theorem fMod_ok {i j : Int} {μ : MH} (h : j ≠ 0) : fMod (.int i) (.int j) μ = .ok (.int (i.fmod j)) μ := by unfold fMod; exact if_pos h
theorem fMul_ok {i j : Int} {μ : MH} (h : okMul i j = true) : fMul (.int i) (.int j) μ = .ok (.int (i * j)) μ := by unfold fMul; exact if_pos h
theorem fFdiv_ok {i j : Int} {μ : MH} (h : 0 < j ∧ j.natAbs.log2 < 9000) : fFdiv (.int i) (.int j) μ = .ok (.int (i / j)) μ := by unfold fFdiv; exact if_pos h
theorem fFdiv_lt {i j : Int} {μ : MH} (h : 0 < j) (h2 : j < 1000000000000000000) : fFdiv (.int i) (.int j) μ = .ok (.int (i / j)) μ := fFdiv_ok ⟨h, by
  have : j.natAbs < 2 ^ 60 := by omega
  have h0 : j.natAbs ≠ 0 := by omega
  have := (Nat.log2_lt h0).mpr this
  omega⟩
theorem fPow_ok {i j : Int} {μ : MH} (h : 0 ≤ j ∧ j ≤ 1000000 ∧ i.natAbs < 2 ^ 64) : fPow (.int i) (.int j) μ = .ok (.int (i ^ j.toNat)) μ := by unfold fPow; exact if_pos h
/-! ### sizes -/
def Sz (k : Nat) (x : Int) : Prop := x.natAbs < 2 ^ k
theorem Sz.log {k : Nat} {x : Int} (h : Sz k x) (hk : 0 < k) : x.natAbs.log2 < k := by
  by_cases h0 : x.natAbs = 0
  · rw [h0]; simpa using hk
  · exact (Nat.log2_lt h0).mpr h
theorem Sz.mono {k m : Nat} {x : Int} (h : Sz k x) (hm : k ≤ m) : Sz m x := Nat.lt_of_lt_of_le h (Nat.pow_le_pow_right (by decide) hm)
theorem Sz.mul {k m : Nat} {x y : Int} (h : Sz k x) (h' : Sz m y) : Sz (k + m) (x * y) := by
  unfold Sz at *
  rw [Int.natAbs_mul, Nat.pow_add]
  by_cases h0 : y.natAbs = 0
  · rw [h0, Nat.mul_zero]; exact Nat.mul_pos (Nat.pow_pos (by decide)) (Nat.pow_pos (by decide))
  · exact Nat.mul_lt_mul'' h h'
theorem Sz.add {k : Nat} {x y : Int} (h : Sz k x) (h' : Sz k y) : Sz (k + 1) (x + y) := by
  unfold Sz at *
  have := Int.natAbs_add_le x y
  rw [Nat.pow_succ]
  omega
theorem Sz.neg {k : Nat} {x : Int} (h : Sz k x) : Sz k (-x) := by unfold Sz at *; rw [Int.natAbs_neg]; exact h
theorem Sz.okMul {k m : Nat} {x y : Int} (h : Sz k x) (h' : Sz m y) (hk : k + m ≤ 1000000) (k0 : 0 < k) (m0 : 0 < m) : okMul x y = true := by
  unfold Mini.okMul
  have := h.log k0
  have := h'.log m0
  exact decide_eq_true (by omega)
instance {k : Nat} {x : Int} : Decidable (Sz k x) := by unfold Sz; infer_instance
inductive All2 {α β : Type} (R : α → β → Prop) : List α → List β → Prop
  | nil : All2 R [] []
  | cons {a b as bs} : R a b → All2 R as bs → All2 R (a :: as) (b :: bs)
/-! ### loops -/
theorem comp_pure {chk : MH → Bool} {t : MT} {c : MB} {me : ME} {s : MS} {μ : MH} (F : PV → Option PV) (hchk : chk μ = true) : ∀ (vs acc : List PV),
    (∀ v ∈ vs, ∃ s1, bindT t v s = some s1 ∧ ((c s1 μ = .ok false μ ∧ F v = none) ∨ (c s1 μ = .ok true μ ∧ ∃ w, me s1 μ = .ok w μ ∧ F v = some w))) → acc.length + vs.length ≤ sizeLine →
    compGo chk t c (oneElt me) s vs μ acc = .ok (acc ++ vs.filterMap F) μ
  | [], acc, _, _ => by unfold compGo; rw [if_pos hchk]; simp
  | v :: vs, acc, h, hl => by
    unfold compGo
    rw [if_pos hchk]
    obtain ⟨s1, e1, q⟩ := h v (by simp)
    rw [e1]
    simp only [List.length_cons] at hl
    rcases q with ⟨e2, e3⟩ | ⟨e2, w, e3, e4⟩
    · simp only
      rw [e2]
      simp only [R.bind, Bool.false_eq_true, if_false]
      rw [comp_pure F hchk vs acc (fun u hu => h u (by simp [hu])) (by omega)]
      simp [List.filterMap_cons, e3]
    · simp only
      rw [e2]
      simp only [R.bind, if_true]
      have e5 : oneElt me s1 μ acc = .ok (acc ++ [w]) μ := by
        unfold oneElt
        rw [e3]
        exact if_pos (by omega)
      rw [e5]
      simp only [R.bind]
      rw [comp_pure F hchk vs (acc ++ [w]) (fun u hu => h u (by simp [hu])) (by simp; omega)]
      simp [List.filterMap_cons, e4]
theorem comp_inv {chk : MH → Bool} {t : MT} {c : MB} {body : MS → MH → List PV → R (List PV)} {s : MS} (I : Nat → MH → List PV → Prop) : ∀ (vs : List PV) (k : Nat) (μ : MH) (acc : List PV), I k μ acc →
    (∀ i v μ acc, vs[i]? = some v → I (k + i) μ acc → chk μ = true ∧ ∃ s1, bindT t v s = some s1 ∧ ∃ b μ1, c s1 μ = .ok b μ1 ∧ ((b = false ∧ I (k + i + 1) μ1 acc) ∨ (b = true ∧ ∃ acc2 μ2, body s1 μ1 acc = .ok acc2 μ2 ∧ I (k + i + 1) μ2 acc2))) →
    (∀ μ acc, I (k + vs.length) μ acc → chk μ = true) → ∃ μ' acc', compGo chk t c body s vs μ acc = .ok acc' μ' ∧ I (k + vs.length) μ' acc'
  | [], k, μ, acc, h, _, he => ⟨μ, acc, by unfold compGo; rw [if_pos (he μ acc h)], h⟩
  | v :: vs, k, μ, acc, h, hs, he => by
    obtain ⟨h1, s1, e1, b, μ1, e2, q⟩ := hs 0 v μ acc rfl h
    have hs' : ∀ i v μ acc, vs[i]? = some v → I (k + 1 + i) μ acc → chk μ = true ∧ ∃ s1, bindT t v s = some s1 ∧ ∃ b μ1, c s1 μ = .ok b μ1 ∧ ((b = false ∧ I (k + 1 + i + 1) μ1 acc) ∨ (b = true ∧ ∃ acc2 μ2, body s1 μ1 acc = .ok acc2 μ2 ∧ I (k + 1 + i + 1) μ2 acc2)) := fun i v μ acc e hi => by
      rw [show k + 1 + i = k + (i + 1) by omega] at hi ⊢
      exact hs (i + 1) v μ acc (by simpa using e) hi
    have he' : ∀ μ acc, I (k + 1 + vs.length) μ acc → chk μ = true := fun μ acc hi => he μ acc (by rw [List.length_cons, show k + (vs.length + 1) = k + 1 + vs.length by omega]; exact hi)
    rw [List.length_cons, show k + (vs.length + 1) = k + 1 + vs.length by omega]
    unfold compGo
    rw [if_pos h1, e1]
    simp only
    rw [e2]
    simp only [R.bind]
    rcases q with ⟨rfl, q⟩ | ⟨rfl, acc2, μ2, e3, q⟩
    · simp only [Bool.false_eq_true, if_false]
      exact comp_inv I vs (k + 1) μ1 acc q hs' he'
    · simp only [if_true]
      rw [e3]
      exact comp_inv I vs (k + 1) μ2 acc2 q hs' he'
theorem for_inv {chk : MH → Bool} {t : MT} {b : MSt} (I : Nat → MS → MH → Prop) (J : MS → MH → Prop) : ∀ (vs : List PV) (k : Nat) (s : MS) (μ : MH), I k s μ →
    (∀ i v s μ, vs[i]? = some v → I (k + i) s μ → chk μ = true ∧ ∃ s1, bindT t v s = some s1 ∧ ∃ s2 μ2, ((b s1 μ = .nx s2 μ2 ∨ b s1 μ = .ct s2 μ2) ∧ I (k + i + 1) s2 μ2) ∨ (b s1 μ = .bk s2 μ2 ∧ J s2 μ2)) →
    (∀ s μ, I (k + vs.length) s μ → chk μ = true ∧ J s μ) → ∃ s' μ', forGo chk t b vs s μ = .nx s' μ' ∧ J s' μ'
  | [], k, s, μ, h, _, he => ⟨s, μ, by unfold forGo; rw [if_pos (he s μ h).1], (he s μ h).2⟩
  | v :: vs, k, s, μ, h, hs, he => by
    obtain ⟨h1, s1, e1, s2, μ2, q⟩ := hs 0 v s μ rfl h
    have hs' : ∀ i v s μ, vs[i]? = some v → I (k + 1 + i) s μ → chk μ = true ∧ ∃ s1, bindT t v s = some s1 ∧ ∃ s2 μ2, ((b s1 μ = .nx s2 μ2 ∨ b s1 μ = .ct s2 μ2) ∧ I (k + 1 + i + 1) s2 μ2) ∨ (b s1 μ = .bk s2 μ2 ∧ J s2 μ2) := fun i v s μ e hi => by
      rw [show k + 1 + i = k + (i + 1) by omega] at hi ⊢
      exact hs (i + 1) v s μ (by simpa using e) hi
    have he' : ∀ s μ, I (k + 1 + vs.length) s μ → chk μ = true ∧ J s μ := fun s μ hi => he s μ (by rw [List.length_cons, show k + (vs.length + 1) = k + 1 + vs.length by omega]; exact hi)
    unfold forGo
    rw [if_pos h1, e1]
    simp only
    rcases q with ⟨e2 | e2, q⟩ | ⟨e2, q⟩
    · rw [e2]; exact for_inv I J vs (k + 1) s2 μ2 q hs' he'
    · rw [e2]; exact for_inv I J vs (k + 1) s2 μ2 q hs' he'
    · rw [e2]; exact ⟨s2, μ2, rfl, q⟩
theorem while_inv {c : MB} {b : MSt} (I : Nat → MS → MH → Prop) (J : MS → MH → Prop) (hs : ∀ m s μ, I m s μ → ∃ k μ1, c s μ = .ok k μ1 ∧ ((k = false ∧ J s μ1) ∨ (k = true ∧ ∃ s2 μ2, ((b s μ1 = .nx s2 μ2 ∨ b s μ1 = .ct s2 μ2) ∧ ∃ m', m' < m ∧ I m' s2 μ2) ∨ (b s μ1 = .bk s2 μ2 ∧ J s2 μ2)))) :
    ∀ (n m : Nat) (s : MS) (μ : MH), m < n → I m s μ → ∃ s' μ', whileGo c b n s μ = .nx s' μ' ∧ J s' μ'
  | 0, m, s, μ, hn, _ => absurd hn (Nat.not_lt_zero m)
  | n + 1, m, s, μ, hn, h => by
    obtain ⟨k, μ1, e, q⟩ := hs m s μ h
    unfold whileGo
    rw [e]
    simp only [sBind]
    rcases q with ⟨rfl, q⟩ | ⟨rfl, s2, μ2, ⟨e2, m', hm, q⟩ | ⟨e2, q⟩⟩
    · exact ⟨s, μ1, rfl, q⟩
    · simp only [if_true]
      rcases e2 with e2 | e2
      · rw [e2]; exact while_inv I J hs n m' s2 μ2 (by omega) q
      · rw [e2]; exact while_inv I J hs n m' s2 μ2 (by omega) q
    · simp only [if_true]
      rw [e2]
      exact ⟨s2, μ2, rfl, q⟩
@[simp] theorem isCtp_ctp {xs : List PV} : isCtp (.ctp xs) = true := rfl
/-! ### a new place -/
theorem get_new (μ : MH) (o : MO) : (μ ++ [o])[μ.length]? = some o := by simp
theorem set_new (μ : MH) (o o' : MO) : (μ ++ [o]).set μ.length o' = μ ++ [o'] := by simp [List.set_append]
theorem isL_new (μ : MH) (xs : List PV) : isL (.ref μ.length) (μ ++ [.lst xs]) = true := by unfold isL lstR lstM; simp
theorem append_new {μ : MH} {xs : List PV} {v : PV} (h : xs.length < 16777216) : fAppend (.ref μ.length) [v] (μ ++ [.lst xs]) = .ok .non (μ ++ [.lst (xs ++ [v])]) := by
  unfold fAppend
  simp only [get_new, set_new]
  exact if_pos h
theorem fLen_new {μ : MH} {xs : List PV} : fLen [.ref μ.length] (μ ++ [.lst xs]) = .ok (.int (xs.length : Nat)) (μ ++ [.lst xs]) := by
  unfold fLen lenOf
  simp [seqT, lstR, lstM]
theorem fLen_frl {μ : MH} {xs : List PV} : fLen [.frl xs] μ = .ok (.int (xs.length : Nat)) μ := rfl
theorem fLen_tup {μ : MH} {xs : List PV} : fLen [.tup xs] μ = .ok (.int (xs.length : Nat)) μ := rfl
theorem fLen_ctp {μ : MH} {xs : List PV} : fLen [.ctp xs] μ = .ok (.int (xs.length : Nat)) μ := rfl
theorem los_ints (n : Nat) : ∀ ns : List Int, PV.los n (ns.map PV.int) = true
  | [] => by unfold PV.los; rfl
  | x :: xs => by
    rw [List.map_cons]
    unfold PV.los
    rw [los_ints n xs]
    simp [PV.lo]
theorem los_nats (n : Nat) : ∀ ns : List Nat, PV.los n (ns.map fun k => PV.int (k : Nat)) = true
  | [] => by unfold PV.los; rfl
  | x :: xs => by
    rw [List.map_cons]
    unfold PV.los
    rw [los_nats n xs]
    simp [PV.lo]
theorem los_strs (n : Nat) : ∀ ns : List Str, PV.los n (ns.map PV.str) = true
  | [] => by unfold PV.los; rfl
  | x :: xs => by
    rw [List.map_cons]
    unfold PV.los
    rw [los_strs n xs]
    simp [PV.lo]
theorem range_ok {m : ME} {s : MS} {μ μ1 : MH} {n : Nat} (h : m s μ = .ok (.int (n : Nat)) μ1) (hn : n ≤ 1000000000) : mRange1 m s μ = .ok ⟨rangeVals 0 n, always⟩ μ1 := by
  unfold mRange1
  rw [h]
  show (if okRange ((n : Nat) : Int) = true then _ else _) = _
  rw [if_pos (okRange_nat hn)]
  rfl
@[simp] theorem range_lit60 {s : MS} {μ : MH} : mRange1 (mC (.int 60)) s μ = .ok ⟨rangeVals 0 60, always⟩ μ := range_ok (n := 60) rfl (by decide)
@[simp] theorem range_lit10 {s : MS} {μ : MH} : mRange1 (mC (.int 10)) s μ = .ok ⟨rangeVals 0 10, always⟩ μ := range_ok (n := 10) rfl (by decide)
@[simp] theorem range_lit20 {s : MS} {μ : MH} : mRange1 (mC (.int 20)) s μ = .ok ⟨rangeVals 0 20, always⟩ μ := range_ok (n := 20) rfl (by decide)
@[simp] theorem range_lit4 {s : MS} {μ : MH} : mRange1 (mC (.int 4)) s μ = .ok ⟨rangeVals 0 4, always⟩ μ := range_ok (n := 4) rfl (by decide)
@[simp] theorem always_true {μ : MH} : always μ = true := rfl
@[simp] theorem sizeLine_u : sizeLine = 16777216 := by decide
end Mini

/-! M18: dicts in plain runs. -/
namespace Mini
open PySem PySem.Spec PyProof.Rows L2
theorem lstR_dK {μ : MH} {n : Nat} {kvs : List (Key × PV)} (h : μ[n]? = some (.dK kvs)) : lstR (.ref n) μ = none := by
  unfold lstR lstM
  simp only [h]
theorem dlook_dK {μ : MH} {n : Nat} {kvs : List (Key × PV)} {i : Int} (h : μ[n]? = some (.dK kvs)) : dlook (.ref n) (.int i) μ = some (dval kvs (.inl i)) := by
  unfold dlook
  simp only [h]
  rfl
theorem fIx_dK {μ : MH} {n : Nat} {kvs : List (Key × PV)} {i : Int} {v : PV} (h : μ[n]? = some (.dK kvs)) (hv : dval kvs (.inl i) = some v) : fIx (.ref n) (.int i) μ = .ok v μ := by
  unfold fIx seqT
  simp only [lstR_dK h, dlook_dK h, hv]
theorem inOf_dK {μ : MH} {n : Nat} {kvs : List (Key × PV)} {i : Int} (h : μ[n]? = some (.dK kvs)) : inOf (.int i) (.ref n) μ = some (dval kvs (.inl i)).isSome := by
  unfold inOf seqR seqT
  simp only [lstR_dK h, dlook_dK h]
  rfl
theorem fNotIn_dK {μ : MH} {n : Nat} {kvs : List (Key × PV)} {i : Int} (h : μ[n]? = some (.dK kvs)) : fNotIn (.int i) (.ref n) μ = .ok (.bl (!(dval kvs (.inl i)).isSome)) μ := by
  unfold fNotIn
  rw [inOf_dK h]
theorem fIn_dK {μ : MH} {n : Nat} {kvs : List (Key × PV)} {i : Int} (h : μ[n]? = some (.dK kvs)) : fIn (.int i) (.ref n) μ = .ok (.bl (dval kvs (.inl i)).isSome) μ := by
  unfold fIn
  rw [inOf_dK h]
theorem fStore_dK {μ : MH} {n : Nat} {kvs : List (Key × PV)} {i : Int} {v : PV} (h : μ[n]? = some (.dK kvs)) (hl : kvs.length < 16777216) : fStore (.ref n) (.int i) v μ = some (μ.set n (.dK (dput kvs (.inl i) v))) := by
  have e : lstore (.ref n) (.int i) v μ = none := by
    unfold lstore
    simp only [h]
  unfold fStore
  rw [e]
  simp only
  unfold dstore
  simp only [h, keyOf]
  exact if_pos hl
theorem dput_new {κ : Type} [DecidableEq κ] {kvs : List (κ × PV)} {k : κ} {v : PV} (h : dval kvs k = none) : dput kvs k v = kvs ++ [(k, v)] := by
  unfold dput
  rw [if_neg]
  intro q
  rw [List.any_eq_true] at q
  obtain ⟨x, hx, e⟩ := q
  unfold dval at h
  rw [Option.map_eq_none_iff, List.find?_eq_none] at h
  exact h x hx e
theorem dval_mem {κ : Type} [DecidableEq κ] {kvs : List (κ × PV)} {k : κ} : (dval kvs k).isSome = true ↔ k ∈ kvs.map (·.1) := by
  unfold dval
  rw [Option.isSome_map, List.find?_isSome]
  simp
theorem dval_some {κ : Type} [DecidableEq κ] {kvs : List (κ × PV)} {k : κ} {v : PV} (h : dval kvs k = some v) : (k, v) ∈ kvs := by
  unfold dval at h
  rw [Option.map_eq_some_iff] at h
  obtain ⟨p, hp, rfl⟩ := h
  have h1 := List.mem_of_find?_eq_some hp
  have h2 := List.find?_some hp
  simp at h2
  subst h2
  exact h1
theorem nodup_len : ∀ (n : Nat) (ks : List Nat), ks.Nodup → (∀ k ∈ ks, k < n) → ks.length ≤ n
  | 0, [], _, _ => by simp
  | 0, k :: ks, _, h => absurd (h k (by simp)) (by omega)
  | n + 1, ks, hn, h => by
    have := nodup_len n (ks.erase n) (hn.erase n) fun k hk => by
      have h1 := (hn.mem_erase_iff.mp hk)
      have := h k h1.2
      have := h1.1
      omega
    rw [List.length_erase] at this
    split at this <;> omega
end Mini

/-! M19: from the top's facts to the defs. -/
namespace Mini
open PySem PySem.Spec PyProof.Rows L2
structure FactD (K : PySem.W.Frag) (x : Str) (st : Stmt) : Prop where
  ex : ∃ (f : Addr) (oc : Value) (od : Option Addr) (kV doc pm : Value) (an : Option Addr) (cdv ct : Value) (osl : Array (Option Value)), PySem.W.nsIn K mainGlobals x = some (some (.ref f)) ∧
    K.lookup f = some ⟨oc, od, .func (PySem.W.fnOf x x (defArgs st) (defBody st) (defScope st) .none kV doc pm an cdv ct), osl⟩ ∧ PySem.W.codeIn K cdv x = true ∧ PySem.W.keepIn K (.ref f) = true
theorem FactD.of {K : PySem.W.Frag} {x : Str} {st : Stmt} {f : Addr} {oc : Value} {od : Option Addr} {kV doc pm : Value} {an : Option Addr} {cdv ct : Value} {osl : Array (Option Value)} (a : PySem.W.nsIn K mainGlobals x = some (some (.ref f)))
    (l : K.lookup f = some ⟨oc, od, .func (PySem.W.fnOf x x (defArgs st) (defBody st) (defScope st) .none kV doc pm an cdv ct), osl⟩) (c : PySem.W.codeIn K cdv x = true) (k : PySem.W.keepIn K (.ref f) = true) : FactD K x st := ⟨f, oc, od, kV, doc, pm, an, cdv, ct, osl, a, l, c, k⟩
theorem FactD.get {K : PySem.W.Frag} {x : Str} {st : Stmt} {h : Heap} {mg : Str → Option Value} (D : FactD K x st) (KX : K.In h) (G : h.Ns mainGlobals mg) {ps : List Str}
    (hb : ∀ (kV doc pm : Value) (an : Option Addr) (cdv ct : Value) (us : List Value), us.length = ps.length → bindArgs (PySem.W.fnOf x x (defArgs st) (defBody st) (defScope st) .none kV doc pm an cdv ct) ⟨us, []⟩ = pure (ps.zip us)) :
    ∃ (f : Addr) (fd : FuncData), mg x = some (.ref f) ∧ Fun K x x st f fd ∧ Binds K fd ps [] := by
  obtain ⟨f, oc, od, kV, doc, pm, an, cdv, ct, osl, a, l, c, k⟩ := D.ex
  have F := fun_mk (st := st) l c k
  exact ⟨f, _, PySem.W.mg_of KX G a, F, F.binds hb⟩
def noXR : XRel := fun _ _ _ _ _ _ => False
theorem noXR_ok : XROk noXR := ⟨fun _ _ _ _ _ _ _ h => h.elim⟩
theorem DefOk.clean {P : Program} {w : World} {K : PySem.W.Frag} {mg : Str → Option Value} {base : Heap} {x : Str} {k : Nat} {f : MF} (D : DefOk P w K mg base x k (spM K noXR f)) : DefOk P w K mg base x k (spM K noXR (cleanF f)) :=
  D.imp (spM_ref noXR_ok (ref_clean f))
def GlobF (K : PySem.W.Frag) (x : Str) (xs : List PV) : Prop := ∃ (a : Addr) (vs : List V) (o : Obj) (its : Array Value) (n : Nat), PySem.W.nsIn K mainGlobals x = some (some (.ref a)) ∧ K.lookup a = some o ∧ o.cls = .type "tuple" ∧ o.dict = none ∧ o.data = .seq its n ∧ its.size ≤ sizeLine ∧ Vals vs its.toList ∧
  ∀ (G : Gx) (H : Hp) (β : List Addr), PRels G H β xs vs
theorem GlobF.get {K : PySem.W.Frag} {x : Str} {xs : List PV} {h : Heap} {mg : Str → Option Value} (g : GlobF K x xs) (KX : K.In h) (G : h.Ns mainGlobals mg) : GlobT K mg x xs := by
  obtain ⟨a, vs, o, its, n, h1, h2⟩ := g
  exact ⟨a, vs, o, its, n, PySem.W.mg_of KX G h1, h2⟩
end Mini

/-! M20: data that can be shown. -/
namespace Mini
open PySem PySem.Spec PyProof.Rows L2
structure Dat (n b : Nat) (v : PV) (d : PyData) : Prop where
  p : pD v = some d
  t : ∀ μ, toD μ v = some d
  ok : okD d = true
  w : shw d ≤ n
  dp : d.depth ≤ b
theorem Dat.mono {n b n' b' : Nat} {v : PV} {d : PyData} (h : Dat n b v d) (hn : n ≤ n') (hb : b ≤ b') : Dat n' b' v d := ⟨h.p, h.t, h.ok, Nat.le_trans h.w hn, Nat.le_trans h.dp hb⟩
theorem dat_int {k : Nat} {i : Int} (h : Sz k i) (k0 : 0 < k) (hk : k ≤ 1900) : Dat (k + 3) 0 (.int i) (.int i) := by
  have := h.log k0
  exact ⟨by simp [pD], fun μ => by simp [toD], by simp [okD]; omega, by simp [shw]; omega, by simp [PyData.depth]⟩
theorem dat_nat {i : Nat} (h : i < 2 ^ 60) : Dat 63 0 (.int (i : Nat)) (.int (i : Nat)) := dat_int (k := 60) (by unfold Sz; rw [Int.natAbs_natCast]; exact h) (by decide) (by decide)
theorem dat_bl {b : Bool} : Dat 5 0 (.bl b) (.bool b) := ⟨by simp [pD], fun μ => by simp [toD], by simp [okD], by simp [shw], by simp [PyData.depth]⟩
theorem dat_non : Dat 5 0 .non .none := ⟨by simp [pD], fun μ => by simp [toD], by simp [okD], by simp [shw], by simp [PyData.depth]⟩
theorem dat_str {x : Str} {n : Nat} (h : okD (.str x) = true) (hn : x.length ≤ n) : Dat (10 * n + 2) 0 (.str x) (.str x) := ⟨by simp [pD], fun μ => by simp [toD], h, by simp [shw]; omega, by simp [PyData.depth]⟩
theorem dats {n b : Nat} : ∀ xs : List PV, (∀ x ∈ xs, ∃ d, Dat n b x d) → ∃ ds, pDs xs = some ds ∧ (∀ μ, toDs μ xs = some ds) ∧ okDs ds = true ∧ shws ds ≤ xs.length * (n + 2) ∧ PyData.depthAll ds ≤ b
  | [], _ => ⟨[], by simp [pDs], fun μ => by simp [toDs], by simp [okDs], by simp [shws], by simp [PyData.depthAll]⟩
  | x :: xs, h => by
    obtain ⟨d, hd⟩ := h x (by simp)
    obtain ⟨ds, h1, h2, h3, h4, h5⟩ := dats xs fun y hy => h y (by simp [hy])
    refine ⟨d :: ds, by simp [pDs, hd.p, h1], fun μ => by simp [toDs, hd.t μ, h2 μ], by simp [okDs, hd.ok, h3], ?_, ?_⟩
    · have := hd.w
      simp only [shws, List.length_cons, Nat.add_mul]
      omega
    · have := hd.dp
      simp only [PyData.depthAll]
      omega
theorem dat_tup {n b : Nat} {xs : List PV} (h : ∀ x ∈ xs, ∃ d, Dat n b x d) : ∃ d, Dat (xs.length * (n + 2) + 4) (b + 1) (.tup xs) d := by
  obtain ⟨ds, h1, h2, h3, h4, h5⟩ := dats xs h
  exact ⟨.tuple ds, by simp [pD, h1], fun μ => by simp [toD, h2 μ], by simp [okD, h3], by simp [shw]; omega, by simp [PyData.depth]; omega⟩
theorem dat_ctp {n b : Nat} {xs : List PV} (h : ∀ x ∈ xs, ∃ d, Dat n b x d) : ∃ d, Dat (xs.length * (n + 2) + 4) (b + 1) (.ctp xs) d := by
  obtain ⟨ds, h1, h2, h3, h4, h5⟩ := dats xs h
  exact ⟨.tuple ds, by simp [pD, h1], fun μ => by simp [toD, h2 μ], by simp [okD, h3], by simp [shw]; omega, by simp [PyData.depth]; omega⟩
theorem dat_frl {n b : Nat} {xs : List PV} (h : ∀ x ∈ xs, ∃ d, Dat n b x d) : ∃ d, Dat (xs.length * (n + 2) + 4) (b + 1) (.frl xs) d := by
  obtain ⟨ds, h1, h2, h3, h4, h5⟩ := dats xs h
  exact ⟨.list ds, by simp [pD, h1], fun μ => by simp [toD, h2 μ], by simp [okD, h3], by simp [shw]; omega, by simp [PyData.depth]; omega⟩
/-- a place and the frozen list of the same items -/
theorem toD_ref {μ : MH} {n m b : Nat} {xs : List PV} {d : PyData} (h : μ[n]? = some (.lst xs)) (hd : Dat m b (.frl xs) d) : toD μ (.ref n) = some d := by
  have := hd.p
  unfold pD at this
  unfold toD
  rw [h]
  exact this
theorem repr_dat {v : PV} {d : PyData} {n b : Nat} {μ : MH} (hd : Dat n b v d) (hn : n ≤ 16000000) (hb : b ≤ 60) : reprOf v μ = .ok (.str d.shown) μ := reprOf_fits (hd.t μ) hd.ok (Nat.le_trans hd.w (Nat.le_trans hn (by decide))) (Nat.le_trans hd.dp hb)
end Mini

namespace K30
open PySem PySem.Spec PyProof.Rows L2 Mini
def top (i : Nat) : Stmt := PySem.Challenge.pw_tellapart_k30_ratios_and_weights.main.body.getD i (.Pass ⟨0, 0, 0, 0⟩)
theorem boot_abs_ : bootBuiltins "abs" = some (.builtin "abs") := by decide +kernel
theorem boot_any_ : bootBuiltins "any" = some (.builtin "any") := by decide +kernel
theorem boot_int_ : bootBuiltins "int" = some (.type "int") := by decide +kernel
theorem boot_len_ : bootBuiltins "len" = some (.builtin "len") := by decide +kernel
theorem boot_max_ : bootBuiltins "max" = some (.builtin "max") := by decide +kernel
theorem boot_min_ : bootBuiltins "min" = some (.builtin "min") := by decide +kernel
theorem boot_repr_ : bootBuiltins "repr" = some (.builtin "repr") := by decide +kernel
theorem boot_sorted_ : bootBuiltins "sorted" = some (.builtin "sorted") := by decide +kernel
theorem boot_tuple_ : bootBuiltins "tuple" = some (.type "tuple") := by decide +kernel
structure Txt (mg : Str → Option Value) : Prop where
  abs_ : mg "abs" = none
  any_ : mg "any" = none
  enumerate_ : mg "enumerate" = none
  int_ : mg "int" = none
  len_ : mg "len" = none
  max_ : mg "max" = none
  min_ : mg "min" = none
  range_ : mg "range" = none
  repr_ : mg "repr" = none
  sorted_ : mg "sorted" = none
  tuple_ : mg "tuple" = none
  zip_ : mg "zip" = none
def k_ZERO : List PV := [.int 0, .int 1]
variable {P : Program} {w : World} {K : PySem.W.Frag} {mg : Str → Option Value} {base : Heap} {XR : XRel}
theorem sc_common_part : FnScope ["one", "other"] ["one", "other"] (defScope (top 1)) := ⟨rfl, rfl, rfl, by decide +kernel, rfl, by decide +kernel, by decide +kernel⟩
abbrev C1_common_part : MB :=
  (mbE (mOp fNe (mVar 1) (mC (.int 0))))
abbrev L1_common_part : MSt :=
  (sPar 0 1 (msCons (mVar 1) (msCons (mOp fMod (mVar 0) (mVar 1)) msNil)))
def b_common_part : MSt :=
  (sSeq (sWhile (C1_common_part) (L1_common_part))
  (sRet (mCallP fAbs (msCons (mVar 0) msNil))))
abbrev raw_common_part : MF := mDef 2 2 (b_common_part)
theorem w_common_part {f : Addr} {fd : FuncData} (hm : mg "common_part" = some (.ref f)) (F : Fun K "common_part" "common_part" (top 1) f fd) (B : Binds K fd ["one", "other"] []) (T : Txt mg) : DefOk P w K mg base "common_part" 2 (spM K XR (raw_common_part)) :=
  def_ok hm F sc_common_part B fun cdv A outer s H E hr =>
     (ss_cons (sm_while own_def (mb_cmp (op_neA hr) om_ne (me_var (i := 1) rfl (.inl rfl)) me_int (nomark _))
      (ss_one (sm_par (ps_par (i := 0) (j := 1) rfl sc_common_part.nd rfl rfl (by decide) rfl rfl (mas_cons (me_var (i := 1) rfl (.inl rfl)) (mas_cons (me_op op_modN om_mod (me_var (i := 0) rfl (.inl rfl)) (me_var (i := 1) rfl (.inl rfl))) mas_nil)) (by rfl)))))
      (ss_one (sm_ret (me_callB call_abs cm_abs (by rfl) T.abs_ boot_abs_ (mas_cons (me_var (i := 0) rfl (.inl rfl)) mas_nil)))))
theorem sc_ratio : FnScope ["top", "bottom", "part", "sign"] ["top", "bottom"] (defScope (top 2)) := ⟨rfl, rfl, rfl, by decide +kernel, rfl, by decide +kernel, by decide +kernel⟩
def b_ratio (c_common_part : MF) : MSt :=
  (sSeq (sAsg (.nm 2) (mCallP c_common_part (msCons (mVar 0) (msCons (mVar 1) msNil))))
  (sSeq (sAsg (.nm 3) (mIf (mbE (mOp fGt (mVar 1) (mC (.int 0)))) (mC (.int 1)) (mUn fNeg (mC (.int 1)))))
  (sRet (mCallP fTup (msCons (mOp fFdiv (mOp fMul (mVar 3) (mVar 0)) (mVar 2)) (msCons (mOp fFdiv (mOp fMul (mVar 3) (mVar 1)) (mVar 2)) msNil))))))
abbrev raw_ratio (c_common_part : MF) : MF := mDef 2 4 (b_ratio c_common_part)
theorem w_ratio {c_common_part : MF} {f : Addr} {fd : FuncData} (hm : mg "ratio" = some (.ref f)) (F : Fun K "ratio" "ratio" (top 2) f fd) (B : Binds K fd ["top", "bottom"] []) (T : Txt mg) (D_common_part : DefOk P w K mg base "common_part" 2 (spM K XR c_common_part)) : DefOk P w K mg base "ratio" 3 (spM K XR (raw_ratio c_common_part)) :=
  def_ok hm F sc_ratio B fun cdv A outer s H E hr =>
     (ss_cons (sm_set (i := 2) sc_ratio.nd rfl (.inl rfl) (me_call D_common_part hr (by decide) (by rfl) at_def (mas_cons (me_var (i := 0) rfl (.inl rfl)) (mas_cons (me_var (i := 1) rfl (.inl rfl)) mas_nil))))
      (ss_cons (sm_set (i := 3) sc_ratio.nd rfl (.inl rfl) (me_if (mb_cmp op_gt om_gt (me_var (i := 1) rfl (.inl rfl)) me_int (nomark _)) me_int (me_un un_neg um_neg me_int)))
      (ss_one (sm_ret (me_tup (mas_cons (me_op op_fdivW om_fdiv (me_op op_mulW om_mul (me_var (i := 3) rfl (.inl rfl)) (me_var (i := 0) rfl (.inl rfl))) (me_var (i := 2) rfl (.inl rfl))) (mas_cons (me_op op_fdivW om_fdiv (me_op op_mulW om_mul (me_var (i := 3) rfl (.inl rfl)) (me_var (i := 1) rfl (.inl rfl))) (me_var (i := 2) rfl (.inl rfl))) mas_nil)))))))
theorem sc_is_ratio : FnScope ["pair"] ["pair"] (defScope (top 3)) := ⟨rfl, rfl, rfl, by decide +kernel, rfl, by decide +kernel, by decide +kernel⟩
def b_is_ratio (c_ratio : MF) : MSt :=
  (sRet (mAnd (mOp fEq (mCallP fLen (msCons (mVar 0) msNil)) (mC (.int 2))) (mAnd (mOp fGe (mOp fIx (mVar 0) (mC (.int 1))) (mC (.int 1))) (mOp fEq (mCallP c_ratio (msCons (mOp fIx (mVar 0) (mC (.int 0))) (msCons (mOp fIx (mVar 0) (mC (.int 1))) msNil))) (mVar 0)))))
abbrev raw_is_ratio (c_ratio : MF) : MF := mDef 1 1 (b_is_ratio c_ratio)
theorem w_is_ratio {c_ratio : MF} {f : Addr} {fd : FuncData} (hm : mg "is_ratio" = some (.ref f)) (F : Fun K "is_ratio" "is_ratio" (top 3) f fd) (B : Binds K fd ["pair"] []) (T : Txt mg) (D_ratio : DefOk P w K mg base "ratio" 3 (spM K XR c_ratio)) : DefOk P w K mg base "is_ratio" 4 (spM K XR (raw_is_ratio c_ratio)) :=
  def_ok hm F sc_is_ratio B fun cdv A outer s H E hr =>
     (ss_one (sm_ret (me_and (me_cmp (op_eqA hr) om_eq (me_callB call_len cm_len (by rfl) T.len_ boot_len_ (mas_cons (me_var (i := 0) rfl (.inl rfl)) mas_nil)) me_int (nomark _)) (me_and (me_cmp op_ge om_ge (me_ix hr (me_var (i := 0) rfl (.inl rfl)) me_int) me_int (nomark _)) (me_one (me_cmp (op_eqA hr) om_eq (me_call D_ratio hr (by decide) (by rfl) at_def (mas_cons (me_ix hr (me_var (i := 0) rfl (.inl rfl)) me_int) (mas_cons (me_ix hr (me_var (i := 0) rfl (.inl rfl)) me_int) mas_nil))) (me_var (i := 0) rfl (.inl rfl)) (nomark _)))))))
theorem sc_plus : FnScope ["one", "other"] ["one", "other"] (defScope (top 4)) := ⟨rfl, rfl, rfl, by decide +kernel, rfl, by decide +kernel, by decide +kernel⟩
def b_plus (c_ratio : MF) : MSt :=
  (sRet (mCallP c_ratio (msCons (mOp fAdd (mOp fMul (mOp fIx (mVar 0) (mC (.int 0))) (mOp fIx (mVar 1) (mC (.int 1)))) (mOp fMul (mOp fIx (mVar 1) (mC (.int 0))) (mOp fIx (mVar 0) (mC (.int 1))))) (msCons (mOp fMul (mOp fIx (mVar 0) (mC (.int 1))) (mOp fIx (mVar 1) (mC (.int 1)))) msNil))))
abbrev raw_plus (c_ratio : MF) : MF := mDef 2 2 (b_plus c_ratio)
theorem w_plus {c_ratio : MF} {f : Addr} {fd : FuncData} (hm : mg "plus" = some (.ref f)) (F : Fun K "plus" "plus" (top 4) f fd) (B : Binds K fd ["one", "other"] []) (T : Txt mg) (D_ratio : DefOk P w K mg base "ratio" 3 (spM K XR c_ratio)) : DefOk P w K mg base "plus" 4 (spM K XR (raw_plus c_ratio)) :=
  def_ok hm F sc_plus B fun cdv A outer s H E hr =>
     (ss_one (sm_ret (me_call D_ratio hr (by decide) (by rfl) at_def (mas_cons (me_op op_addA om_add (me_op op_mulW om_mul (me_ix hr (me_var (i := 0) rfl (.inl rfl)) me_int) (me_ix hr (me_var (i := 1) rfl (.inl rfl)) me_int)) (me_op op_mulW om_mul (me_ix hr (me_var (i := 1) rfl (.inl rfl)) me_int) (me_ix hr (me_var (i := 0) rfl (.inl rfl)) me_int))) (mas_cons (me_op op_mulW om_mul (me_ix hr (me_var (i := 0) rfl (.inl rfl)) me_int) (me_ix hr (me_var (i := 1) rfl (.inl rfl)) me_int)) mas_nil)))))
theorem sc_times : FnScope ["one", "other"] ["one", "other"] (defScope (top 5)) := ⟨rfl, rfl, rfl, by decide +kernel, rfl, by decide +kernel, by decide +kernel⟩
def b_times (c_ratio : MF) : MSt :=
  (sRet (mCallP c_ratio (msCons (mOp fMul (mOp fIx (mVar 0) (mC (.int 0))) (mOp fIx (mVar 1) (mC (.int 0)))) (msCons (mOp fMul (mOp fIx (mVar 0) (mC (.int 1))) (mOp fIx (mVar 1) (mC (.int 1)))) msNil))))
abbrev raw_times (c_ratio : MF) : MF := mDef 2 2 (b_times c_ratio)
theorem w_times {c_ratio : MF} {f : Addr} {fd : FuncData} (hm : mg "times" = some (.ref f)) (F : Fun K "times" "times" (top 5) f fd) (B : Binds K fd ["one", "other"] []) (T : Txt mg) (D_ratio : DefOk P w K mg base "ratio" 3 (spM K XR c_ratio)) : DefOk P w K mg base "times" 4 (spM K XR (raw_times c_ratio)) :=
  def_ok hm F sc_times B fun cdv A outer s H E hr =>
     (ss_one (sm_ret (me_call D_ratio hr (by decide) (by rfl) at_def (mas_cons (me_op op_mulW om_mul (me_ix hr (me_var (i := 0) rfl (.inl rfl)) me_int) (me_ix hr (me_var (i := 1) rfl (.inl rfl)) me_int)) (mas_cons (me_op op_mulW om_mul (me_ix hr (me_var (i := 0) rfl (.inl rfl)) me_int) (me_ix hr (me_var (i := 1) rfl (.inl rfl)) me_int)) mas_nil)))))
theorem sc_is_less : FnScope ["one", "other"] ["one", "other"] (defScope (top 6)) := ⟨rfl, rfl, rfl, by decide +kernel, rfl, by decide +kernel, by decide +kernel⟩
def b_is_less : MSt :=
  (sRet (mOp fLt (mOp fMul (mOp fIx (mVar 0) (mC (.int 0))) (mOp fIx (mVar 1) (mC (.int 1)))) (mOp fMul (mOp fIx (mVar 1) (mC (.int 0))) (mOp fIx (mVar 0) (mC (.int 1))))))
abbrev raw_is_less : MF := mDef 2 2 (b_is_less)
theorem w_is_less {f : Addr} {fd : FuncData} (hm : mg "is_less" = some (.ref f)) (F : Fun K "is_less" "is_less" (top 6) f fd) (B : Binds K fd ["one", "other"] []) (T : Txt mg) : DefOk P w K mg base "is_less" 2 (spM K XR (raw_is_less)) :=
  def_ok hm F sc_is_less B fun cdv A outer s H E hr =>
     (ss_one (sm_ret (me_cmp op_ltA om_lt (me_op op_mulW om_mul (me_ix hr (me_var (i := 0) rfl (.inl rfl)) me_int) (me_ix hr (me_var (i := 1) rfl (.inl rfl)) me_int)) (me_op op_mulW om_mul (me_ix hr (me_var (i := 1) rfl (.inl rfl)) me_int) (me_ix hr (me_var (i := 0) rfl (.inl rfl)) me_int)) (nomark _))))
theorem sc_first_logs : FnScope ["machine", "letters", "moves", "_", "found", "waiting", "at", "state", "letter", "after"] ["machine"] (defScope (top 8)) := ⟨rfl, rfl, rfl, by decide +kernel, rfl, by decide +kernel, by decide +kernel⟩
abbrev L1_first_logs : MSt :=
  (sIf (mbE (mOp fNotIn (mVar 9) (mVar 4)))
  (sSeq (sSub (mVar 4) (mVar 9) (mCallP fTup (msStar (mOp fIx (mVar 4) (mVar 7)) (msCons (mVar 8) msNil))) fStore)
  (sExpr (mMeth isL fAppend (mVar 5) (msCons (mVar 9) msNil))))
  sNil)
abbrev C1_first_logs : MB :=
  (mbE (mOp fLt (mVar 6) (mCallP fLen (msCons (mVar 5) msNil))))
abbrev L2_first_logs : MSt :=
  (sSeq (sAsg (.nm 7) (mOp fIx (mVar 5) (mVar 6)))
  (sSeq (sFor (.tp [(.nm 8), (.nm 9)]) (mZip (mVar 1) (mOp fIx (mVar 2) (mVar 7))) (L1_first_logs))
  (sAug 6 (mC (.int 1)) fAddI)))
def b_first_logs : MSt :=
  (sSeq (sAsg (.tp [(.nm 1), (.nm 2), (.nm 3)]) (mVar 0))
  (sSeq (sAsg (.nm 4) (mD1 (mC (.int 0)) (mCallP fTup msNil)))
  (sSeq (sAsg (.nm 5) (mCallP fLst (msCons (mC (.int 0)) msNil)))
  (sSeq (sAsg (.nm 6) (mC (.int 0)))
  (sSeq (sWhile (C1_first_logs) (L2_first_logs))
  (sRet (mVar 4)))))))
abbrev raw_first_logs : MF := mDef 1 10 (b_first_logs)
theorem w_first_logs {f : Addr} {fd : FuncData} (hm : mg "first_logs" = some (.ref f)) (F : Fun K "first_logs" "first_logs" (top 8) f fd) (B : Binds K fd ["machine"] []) (T : Txt mg) : DefOk P w K mg base "first_logs" 2 (spM K XR (raw_first_logs)) :=
  def_ok hm F sc_first_logs B fun cdv A outer s H E hr =>
     (ss_cons (sm_asg (me_var (i := 0) rfl (.inl rfl)) (mg_tp rfl (mgs_cons (mg_nm (i := 1) sc_first_logs.nd rfl (.inl rfl) (.inr rfl)) (mgs_cons (mg_nm (i := 2) sc_first_logs.nd rfl (.inl rfl) (.inr rfl)) (mgs_cons (mg_nm (i := 3) sc_first_logs.nd rfl (.inl rfl) (.inr rfl)) mgs_nil)))))
      (ss_cons (sm_set (i := 4) sc_first_logs.nd rfl (.inl rfl) (me_d1 me_int (me_tup mas_nil)))
      (ss_cons (sm_set (i := 5) sc_first_logs.nd rfl (.inl rfl) (me_lst (mas_cons me_int mas_nil)))
      (ss_cons (sm_set (i := 6) sc_first_logs.nd rfl (.inl rfl) me_int)
      (ss_cons (sm_while own_def (mb_cmp op_ltA om_lt (me_var (i := 6) rfl (.inl rfl)) (me_callB call_len cm_len (by rfl) T.len_ boot_len_ (mas_cons (me_var (i := 5) rfl (.inl rfl)) mas_nil)) (nomark _))
      (ss_cons (sm_set (i := 7) sc_first_logs.nd rfl (.inl rfl) (me_ix hr (me_var (i := 5) rfl (.inl rfl)) (me_var (i := 6) rfl (.inl rfl))))
      (ss_cons (sm_for own_def rfl (mi_zip (by rfl) T.zip_ (me_var (i := 1) rfl (.inl rfl)) (me_ix hr (me_var (i := 2) rfl (.inl rfl)) (me_var (i := 7) rfl (.inl rfl)))) (mg_tp rfl (mgs_cons (mg_nm (i := 8) sc_first_logs.nd rfl (.inl rfl) (.inr rfl)) (mgs_cons (mg_nm (i := 9) sc_first_logs.nd rfl (.inl rfl) (.inr rfl)) mgs_nil)))
      (ss_one (sm_if (mb_notIn hr (me_var (i := 9) rfl (.inl rfl)) (me_var (i := 4) rfl (.inl rfl)))
      (ss_cons (sm_sub (me_tup (mas_star (me_ix hr (me_var (i := 4) rfl (.inl rfl)) (me_var (i := 7) rfl (.inl rfl))) (mas_cons (me_var (i := 8) rfl (.inl rfl)) mas_nil))) (pg_sub (me_var (i := 4) rfl (.inl rfl)) (me_var (i := 9) rfl (.inl rfl)) (set_all hr)) sx_store)
      (ss_one (sm_expr (me_bm om_append isL_ty (pe_bm PySem.F.plainAttrs_list PySem.F.slot_list_append PySem.F.type_list_append mt_append (me_var (i := 5) rfl (.inl rfl)) (mas_cons (me_var (i := 9) rfl (.inl rfl)) mas_nil))))))
      ss_nil)))
      (ss_one (sm_aug (i := 6) sc_first_logs.nd rfl (.inl rfl) me_int ip_add om_ipAdd (.inr rfl))))))
      (ss_one (sm_ret (me_var (i := 4) rfl (.inl rfl)))))))))
theorem sc_reached : FnScope ["machine"] ["machine"] (defScope (top 9)) := ⟨rfl, rfl, rfl, by decide +kernel, rfl, by decide +kernel, by decide +kernel⟩
def b_reached (c_first_logs : MF) : MSt :=
  (sRet (mCallP fSorted (msCons (mCallP c_first_logs (msCons (mVar 0) msNil)) msNil)))
abbrev raw_reached (c_first_logs : MF) : MF := mDef 1 1 (b_reached c_first_logs)
theorem w_reached {c_first_logs : MF} {f : Addr} {fd : FuncData} (hm : mg "reached" = some (.ref f)) (F : Fun K "reached" "reached" (top 9) f fd) (B : Binds K fd ["machine"] []) (T : Txt mg) (D_first_logs : DefOk P w K mg base "first_logs" 2 (spM K XR c_first_logs)) : DefOk P w K mg base "reached" 3 (spM K XR (raw_reached c_first_logs)) :=
  def_ok hm F sc_reached B fun cdv A outer s H E hr =>
     (ss_one (sm_ret (me_callB (cr_sortedA rfl) cm_sorted (by rfl) T.sorted_ boot_sorted_ (mas_cons (me_call D_first_logs hr (by decide) (by rfl) at_def (mas_cons (me_var (i := 0) rfl (.inl rfl)) mas_nil)) mas_nil))))
theorem sc_alive : FnScope ["machine", "_", "moves", "ends", "living", "changed", "state", "row", "end", "after", "lives"] ["machine"] (defScope (top 10)) := ⟨rfl, rfl, rfl, by decide +kernel, rfl, by decide +kernel, by decide +kernel⟩
abbrev L1_alive : MSt :=
  (sIf (mbAnd (mbNot (mbE (mOp fIx (mVar 4) (mVar 6)))) (mbE (mCallP fAny (msCons (mLc [9] (mOver (mVar 7)) (.nm 9) mbYes (mOp fIx (mVar 4) (mVar 9))) msNil))))
  (sSeq (sSub (mVar 4) (mVar 6) (mC (.bl true)) fStore)
  (sAsg (.nm 5) (mC (.bl true))))
  sNil)
abbrev C1_alive : MB :=
  (mbE (mVar 5))
abbrev L2_alive : MSt :=
  (sSeq (sAsg (.nm 5) (mC (.bl false)))
  (sFor (.tp [(.nm 6), (.nm 7)]) (mEnum (mVar 2)) (L1_alive)))
def b_alive : MSt :=
  (sSeq (sAsg (.tp [(.nm 1), (.nm 2), (.nm 3)]) (mVar 0))
  (sSeq (sAsg (.nm 4) (mLcL [8] (mOver (mVar 3)) (.nm 8) mbYes (mOp fEq (mVar 8) (mC (.int 1)))))
  (sSeq (sAsg (.nm 5) (mC (.bl true)))
  (sSeq (sWhile (C1_alive) (L2_alive))
  (sRet (mLc [6, 10] (mEnum (mVar 4)) (.tp [(.nm 6), (.nm 10)]) (mbE (mVar 10)) (mVar 6)))))))
abbrev raw_alive : MF := mDef 1 11 (b_alive)
theorem w_alive {f : Addr} {fd : FuncData} (hm : mg "alive" = some (.ref f)) (F : Fun K "alive" "alive" (top 10) f fd) (B : Binds K fd ["machine"] []) (T : Txt mg) : DefOk P w K mg base "alive" 2 (spM K XR (raw_alive)) :=
  def_ok hm F sc_alive B fun cdv A outer s H E hr =>
     (ss_cons (sm_asg (me_var (i := 0) rfl (.inl rfl)) (mg_tp rfl (mgs_cons (mg_nm (i := 1) sc_alive.nd rfl (.inl rfl) (.inr rfl)) (mgs_cons (mg_nm (i := 2) sc_alive.nd rfl (.inl rfl) (.inr rfl)) (mgs_cons (mg_nm (i := 3) sc_alive.nd rfl (.inl rfl) (.inr rfl)) mgs_nil)))))
      (ss_cons (sm_set (i := 4) sc_alive.nd rfl (.inr rfl) (me_lcL (own := [("end", 8)]) rfl sc_alive.nd (mi_over (me_var (i := 3) rfl (.inl rfl))) (blkOk_by (by rfl)) (by decide) (fun _ _ _ _ _ => (mg_nm (i := 8) sc_alive.nd rfl (.inl rfl) (.inr rfl))) (fun _ _ _ _ _ => mts_nil) (fun _ _ _ _ _ => (me_cmp (op_eqA hr) om_eq (me_var (i := 8) rfl (.inl rfl)) me_int (nomark _)))))
      (ss_cons (sm_set (i := 5) sc_alive.nd rfl (.inl rfl) me_bl)
      (ss_cons (sm_while own_def (mb_val (me_var (i := 5) rfl (.inl rfl)))
      (ss_cons (sm_set (i := 5) sc_alive.nd rfl (.inl rfl) me_bl)
      (ss_one (sm_for own_def rfl (mi_enum (by rfl) T.enumerate_ (me_var (i := 2) rfl (.inl rfl))) (mg_tp rfl (mgs_cons (mg_nm (i := 6) sc_alive.nd rfl (.inl rfl) (.inr rfl)) (mgs_cons (mg_nm (i := 7) sc_alive.nd rfl (.inl rfl) (.inr rfl)) mgs_nil)))
      (ss_one (sm_if (mb_w (mw_and (mb_not (mb_val (me_ix hr (me_var (i := 4) rfl (.inr (.inl rfl))) (me_var (i := 6) rfl (.inl rfl))))) (mw_and1 (mb_val (me_callB (cr_any rfl) cm_any (by rfl) T.any_ boot_any_ (mas_cons (me_lc (own := [("after", 9)]) rfl sc_alive.nd (mi_over (me_var (i := 7) rfl (.inl rfl))) (blkOk_by (by rfl)) (by decide) (fun _ _ _ _ _ => (mg_nm (i := 9) sc_alive.nd rfl (.inl rfl) (.inr rfl))) (fun _ _ _ _ _ => mts_nil) (fun _ _ _ _ _ => (me_ix hr (me_var (i := 4) rfl (.inr (.inl rfl))) (me_var (i := 9) rfl (.inl rfl))))) mas_nil))))))
      (ss_cons (sm_sub me_bl (pg_sub (me_var (i := 4) rfl (.inr (.inl rfl))) (me_var (i := 6) rfl (.inl rfl)) (set_all hr)) sx_store)
      (ss_one (sm_set (i := 5) sc_alive.nd rfl (.inl rfl) me_bl)))
      ss_nil))))))
      (ss_one (sm_ret (me_lc (own := [("state", 6), ("lives", 10)]) rfl sc_alive.nd (mi_enum (by rfl) T.enumerate_ (me_var (i := 4) rfl (.inr (.inl rfl)))) (blkOk_by (by rfl)) (by decide) (fun _ _ _ _ _ => (mg_tp rfl (mgs_cons (mg_nm (i := 6) sc_alive.nd rfl (.inl rfl) (.inr rfl)) (mgs_cons (mg_nm (i := 10) sc_alive.nd rfl (.inl rfl) (.inr rfl)) mgs_nil)))) (fun _ _ _ _ _ => (mts_one (mb_val (me_var (i := 10) rfl (.inl rfl))))) (fun _ _ _ _ _ => (me_var (i := 6) rfl (.inl rfl))))))))))
theorem sc_useful : FnScope ["machine", "living", "state"] ["machine"] (defScope (top 13)) := ⟨rfl, rfl, rfl, by decide +kernel, rfl, by decide +kernel, by decide +kernel⟩
def b_useful (c_alive : MF) (c_reached : MF) : MSt :=
  (sSeq (sAsg (.nm 1) (mCallP c_alive (msCons (mVar 0) msNil)))
  (sRet (mLc [2] (mOver (mCallP c_reached (msCons (mVar 0) msNil))) (.nm 2) (mbE (mOp fIn (mVar 2) (mVar 1))) (mVar 2))))
abbrev raw_useful (c_alive : MF) (c_reached : MF) : MF := mDef 1 3 (b_useful c_alive c_reached)
theorem w_useful {c_alive : MF} {c_reached : MF} {f : Addr} {fd : FuncData} (hm : mg "useful" = some (.ref f)) (F : Fun K "useful" "useful" (top 13) f fd) (B : Binds K fd ["machine"] []) (T : Txt mg) (D_alive : DefOk P w K mg base "alive" 2 (spM K XR c_alive)) (D_reached : DefOk P w K mg base "reached" 3 (spM K XR c_reached)) : DefOk P w K mg base "useful" 4 (spM K XR (raw_useful c_alive c_reached)) :=
  def_ok hm F sc_useful B fun cdv A outer s H E hr =>
     (ss_cons (sm_set (i := 1) sc_useful.nd rfl (.inr rfl) (me_call D_alive hr (by decide) (by rfl) at_def (mas_cons (me_var (i := 0) rfl (.inl rfl)) mas_nil)))
      (ss_one (sm_ret (me_lc (own := [("state", 2)]) rfl sc_useful.nd (mi_over (me_call D_reached hr (by decide) (by rfl) at_def (mas_cons (me_var (i := 0) rfl (.inl rfl)) mas_nil))) (blkOk_by (by rfl)) (by decide) (fun _ _ _ _ _ => (mg_nm (i := 2) sc_useful.nd rfl (.inl rfl) (.inr rfl))) (fun _ _ _ _ _ => (mts_one (mb_in hr (me_var (i := 2) rfl (.inl rfl)) (me_var (i := 1) rfl (.inr (.inl rfl)))))) (fun _ _ _ _ _ => (me_var (i := 2) rfl (.inl rfl)))))))
theorem sc_steps_of : FnScope ["machine", "letters", "moves", "_", "states", "s", "letter", "after"] ["machine"] (defScope (top 14)) := ⟨rfl, rfl, rfl, by decide +kernel, rfl, by decide +kernel, by decide +kernel⟩
def b_steps_of (c_useful : MF) : MSt :=
  (sSeq (sAsg (.tp [(.nm 1), (.nm 2), (.nm 3)]) (mVar 0))
  (sSeq (sAsg (.nm 4) (mCallP c_useful (msCons (mVar 0) msNil)))
  (sRet (mLc2L [5, 6, 7] [6, 7] (mOver (mVar 4)) (.nm 5) mbYes (mZip (mVar 1) (mOp fIx (mVar 2) (mVar 5))) (.tp [(.nm 6), (.nm 7)]) (mbE (mOp fIn (mVar 7) (mVar 4))) (mCallP fTup (msCons (mVar 5) (msCons (mVar 6) msNil)))))))
abbrev raw_steps_of (c_useful : MF) : MF := mDef 1 8 (b_steps_of c_useful)
theorem w_steps_of {c_useful : MF} {f : Addr} {fd : FuncData} (hm : mg "steps_of" = some (.ref f)) (F : Fun K "steps_of" "steps_of" (top 14) f fd) (B : Binds K fd ["machine"] []) (T : Txt mg) (D_useful : DefOk P w K mg base "useful" 4 (spM K XR c_useful)) : DefOk P w K mg base "steps_of" 5 (spM K XR (raw_steps_of c_useful)) :=
  def_ok hm F sc_steps_of B fun cdv A outer s H E hr =>
     (ss_cons (sm_asg (me_var (i := 0) rfl (.inl rfl)) (mg_tp rfl (mgs_cons (mg_nm (i := 1) sc_steps_of.nd rfl (.inr rfl) (.inl rfl)) (mgs_cons (mg_nm (i := 2) sc_steps_of.nd rfl (.inr rfl) (.inl rfl)) (mgs_cons (mg_nm (i := 3) sc_steps_of.nd rfl (.inl rfl) (.inr rfl)) mgs_nil)))))
      (ss_cons (sm_set (i := 4) sc_steps_of.nd rfl (.inr rfl) (me_call D_useful hr (by decide) (by rfl) at_def (mas_cons (me_var (i := 0) rfl (.inl rfl)) mas_nil)))
      (ss_one (sm_ret (me_lc2L (own := [("s", 5), ("letter", 6), ("after", 7)]) (vs1 := [6, 7]) rfl sc_steps_of.nd (mi_over (me_var (i := 4) rfl (.inr (.inl rfl)))) (blkOk_by (by rfl)) (by decide) (by decide) (by decide) (fun _ _ _ _ _ => (mg_nm (i := 5) sc_steps_of.nd rfl (.inl rfl) (.inr rfl))) (fun _ _ _ _ _ => mts_nil) (fun _ _ _ _ _ => (mi_zip (by rfl) T.zip_ (me_var (i := 1) rfl (.inr (.inl rfl))) (me_ix hr (me_var (i := 2) rfl (.inr (.inl rfl))) (me_var (i := 5) rfl (.inl rfl))))) (fun _ _ _ _ _ => (mg_tp rfl (mgs_cons (mg_nm (i := 6) sc_steps_of.nd rfl (.inl rfl) (.inr rfl)) (mgs_cons (mg_nm (i := 7) sc_steps_of.nd rfl (.inl rfl) (.inr rfl)) mgs_nil)))) (fun _ _ _ _ _ => (mts_one (mb_in hr (me_var (i := 7) rfl (.inl rfl)) (me_var (i := 4) rfl (.inr (.inl rfl)))))) (fun _ _ _ _ _ => (me_tup (mas_cons (me_var (i := 5) rfl (.inl rfl)) (mas_cons (me_var (i := 6) rfl (.inl rfl)) mas_nil)))))))))
theorem sc_ends_of : FnScope ["machine", "state"] ["machine"] (defScope (top 15)) := ⟨rfl, rfl, rfl, by decide +kernel, rfl, by decide +kernel, by decide +kernel⟩
def b_ends_of (c_useful : MF) : MSt :=
  (sRet (mLcL [1] (mOver (mCallP c_useful (msCons (mVar 0) msNil))) (.nm 1) (mbE (mOp fEq (mOp fIx (mOp fIx (mVar 0) (mC (.int 2))) (mVar 1)) (mC (.int 1)))) (mVar 1)))
abbrev raw_ends_of (c_useful : MF) : MF := mDef 1 2 (b_ends_of c_useful)
theorem w_ends_of {c_useful : MF} {f : Addr} {fd : FuncData} (hm : mg "ends_of" = some (.ref f)) (F : Fun K "ends_of" "ends_of" (top 15) f fd) (B : Binds K fd ["machine"] []) (T : Txt mg) (D_useful : DefOk P w K mg base "useful" 4 (spM K XR c_useful)) : DefOk P w K mg base "ends_of" 5 (spM K XR (raw_ends_of c_useful)) :=
  def_ok hm F sc_ends_of B fun cdv A outer s H E hr =>
     (ss_one (sm_ret (me_lcL (own := [("state", 1)]) rfl sc_ends_of.nd (mi_over (me_call D_useful hr (by decide) (by rfl) at_def (mas_cons (me_var (i := 0) rfl (.inr (.inl rfl))) mas_nil))) (blkOk_by (by rfl)) (by decide) (fun _ _ _ _ _ => (mg_nm (i := 1) sc_ends_of.nd rfl (.inl rfl) (.inr rfl))) (fun _ _ _ _ _ => (mts_one (mb_cmp (op_eqA hr) om_eq (me_ix hr (me_ix hr (me_var (i := 0) rfl (.inr (.inl rfl))) me_int) (me_var (i := 1) rfl (.inl rfl))) me_int (nomark _)))) (fun _ _ _ _ _ => (me_var (i := 1) rfl (.inl rfl))))))
theorem sc_weight_of : FnScope ["letters", "weights", "log", "total", "letter"] ["letters", "weights", "log"] (defScope (top 16)) := ⟨rfl, rfl, rfl, by decide +kernel, rfl, by decide +kernel, by decide +kernel⟩
abbrev L1_weight_of (c_plus : MF) : MSt :=
  (sAsg (.nm 3) (mCallP c_plus (msCons (mVar 3) (msCons (mOp fIx (mVar 1) (mMeth (fun v _ => isCtp v) fIndexT (mVar 0) (msCons (mVar 4) msNil))) msNil))))
def b_weight_of (c_plus : MF) : MSt :=
  (sSeq (sAsg (.nm 3) (mC (.ctp k_ZERO)))
  (sSeq (sFor (.nm 4) (mOver (mVar 2)) (L1_weight_of c_plus))
  (sRet (mVar 3))))
abbrev raw_weight_of (c_plus : MF) : MF := mDef 3 5 (b_weight_of c_plus)
theorem w_weight_of {c_plus : MF} {f : Addr} {fd : FuncData} (hm : mg "weight_of" = some (.ref f)) (F : Fun K "weight_of" "weight_of" (top 16) f fd) (B : Binds K fd ["letters", "weights", "log"] []) (T : Txt mg) (D_plus : DefOk P w K mg base "plus" 4 (spM K XR c_plus)) (c_ZERO : GlobT K mg "ZERO" k_ZERO) : DefOk P w K mg base "weight_of" 5 (spM K XR (raw_weight_of c_plus)) :=
  def_ok hm F sc_weight_of B fun cdv A outer s H E hr =>
     (ss_cons (sm_set (i := 3) sc_weight_of.nd rfl (.inl rfl) (me_globK (by rfl) c_ZERO))
      (ss_cons (sm_for own_def rfl (mi_over (me_var (i := 2) rfl (.inl rfl))) (mg_nm (i := 4) sc_weight_of.nd rfl (.inl rfl) (.inr rfl))
      (ss_one (sm_set (i := 3) sc_weight_of.nd rfl (.inl rfl) (me_call D_plus hr (by decide) (by rfl) at_def (mas_cons (me_var (i := 3) rfl (.inl rfl)) (mas_cons (me_ix hr (me_var (i := 1) rfl (.inl rfl)) (me_indexT (me_var (i := 0) rfl (.inl rfl)) (mas_cons (me_var (i := 4) rfl (.inl rfl)) mas_nil))) mas_nil))))))
      (ss_one (sm_ret (me_var (i := 3) rfl (.inl rfl))))))
theorem sc__law_same : FnScope ["told", "due"] ["told", "due"] (defScope (top 18)) := ⟨rfl, rfl, rfl, by decide +kernel, rfl, by decide +kernel, by decide +kernel⟩
def b__law_same : MSt :=
  (sRet (mOp fEq (mCallP fRepr (msCons (mCallP fFrl (msCons (mVar 0) msNil)) msNil)) (mCallP fRepr (msCons (mCallP fFrl (msCons (mVar 1) msNil)) msNil))))
abbrev raw__law_same : MF := mDef 2 2 (b__law_same)
theorem w__law_same {f : Addr} {fd : FuncData} (hm : mg "_law_same" = some (.ref f)) (F : Fun K "_law_same" "_law_same" (top 18) f fd) (B : Binds K fd ["told", "due"] []) (T : Txt mg) : DefOk P w K mg base "_law_same" 2 (spM K XR (raw__law_same)) :=
  def_ok hm F sc__law_same B fun cdv A outer s H E hr =>
     (ss_one (sm_ret (me_cmp (op_eqA hr) om_eq (me_callB (cr_repr hr) cm_repr (by rfl) T.repr_ boot_repr_ (mas_cons (me_frl (mas_cons (me_var (i := 0) rfl (.inl rfl)) mas_nil)) mas_nil)) (me_callB (cr_repr hr) cm_repr (by rfl) T.repr_ boot_repr_ (mas_cons (me_frl (mas_cons (me_var (i := 1) rfl (.inl rfl)) mas_nil)) mas_nil)) (nomark _))))
theorem sc__law_stream : FnScope ["script", "numbers", "cell", "rest", "k", "stirred"] ["script"] (defScope (top 19)) := ⟨rfl, rfl, rfl, by decide +kernel, rfl, by decide +kernel, by decide +kernel⟩
abbrev L1__law_stream : MSt :=
  (sSeq (sExpr (mMeth isL fAppend (mVar 1) (msCons (mOp fMod (mCallP fInt (msCons (mVar 3) msNil)) (mC (.int 1009))) msNil)))
  (sSeq (sAsg (.nm 3) (mOp fFdiv (mVar 3) (mC (.int 1009))))
  (sIf (mbE (mOp fEq (mVar 3) (mC (.int 0))))
  sBreak
  sNil)))
abbrev L2__law_stream : MSt :=
  (sSeq (sAsg (.nm 5) (mOp fMod (mCallP fInt (msCons (mOp fAdd (mOp fAdd (mOp fMul (mVar 5) (mC (.int 48271))) (mOp fMul (mC (.int 7)) (mVar 4))) (mC (.int 11))) msNil)) (mC (.int 2147483647))))
  (sExpr (mMeth isL fAppend (mVar 1) (msCons (mOp fMod (mOp fMod (mCallP fInt (msCons (mOp fAdd (mOp fMul (mVar 5) (mC (.int 69621))) (mVar 4)) msNil)) (mC (.int 2147483629))) (mC (.int 1009))) msNil))))
abbrev L3__law_stream : MSt :=
  (sSeq (sAsg (.nm 3) (mCallP fAbs (msCons (mCallP fInt (msCons (mVar 2) msNil)) msNil)))
  (sIf (mbE (mOp fGe (mVar 3) (mOp fPow (mC (.int 10)) (mC (.int 18)))))
  (sFor (.nm 4) (mRange1 (mC (.int 60))) (L1__law_stream))
  (sSeq (sAsg (.nm 5) (mOp fMod (mCallP fInt (msCons (mVar 3) msNil)) (mC (.int 2147483647))))
  (sFor (.nm 4) (mRange1 (mC (.int 10))) (L2__law_stream)))))
def b__law_stream : MSt :=
  (sSeq (sAsg (.nm 1) (mCallP fLst msNil))
  (sSeq (sFor (.nm 2) (mOver (mSl (mVar 0) none (some (mC (.int 63))))) (L3__law_stream))
  (sSeq (sIf (mbE (mOp fEq (mCallP fLen (msCons (mVar 1) msNil)) (mC (.int 0))))
  (sExpr (mMeth isL fAppend (mVar 1) (msCons (mC (.int 0)) msNil)))
  sNil)
  (sRet (mVar 1)))))
abbrev raw__law_stream : MF := mDef 1 6 (b__law_stream)
theorem w__law_stream {f : Addr} {fd : FuncData} (hm : mg "_law_stream" = some (.ref f)) (F : Fun K "_law_stream" "_law_stream" (top 19) f fd) (B : Binds K fd ["script"] []) (T : Txt mg) : DefOk P w K mg base "_law_stream" 2 (spM K XR (raw__law_stream)) :=
  def_ok hm F sc__law_stream B fun cdv A outer s H E hr =>
     (ss_cons (sm_set (i := 1) sc__law_stream.nd rfl (.inl rfl) (me_lst mas_nil))
      (ss_cons (sm_for own_def rfl (mi_over (me_slice01 (me_var (i := 0) rfl (.inl rfl)) me_int)) (mg_nm (i := 2) sc__law_stream.nd rfl (.inl rfl) (.inr rfl))
      (ss_cons (sm_set (i := 3) sc__law_stream.nd rfl (.inl rfl) (me_callB call_abs cm_abs (by rfl) T.abs_ boot_abs_ (mas_cons (me_callTy cr_int cm_int (by rfl) T.int_ boot_int_ (mas_cons (me_var (i := 2) rfl (.inl rfl)) mas_nil)) mas_nil)))
      (ss_one (sm_if (mb_cmp op_ge om_ge (me_var (i := 3) rfl (.inl rfl)) (me_op op_pow om_pow me_int me_int) (nomark _))
      (ss_one (sm_for own_def rfl (mi_range1 (by rfl) T.range_ me_int) (mg_nm (i := 4) sc__law_stream.nd rfl (.inl rfl) (.inr rfl))
      (ss_cons (sm_expr (me_bm om_append isL_ty (pe_bm PySem.F.plainAttrs_list PySem.F.slot_list_append PySem.F.type_list_append mt_append (me_var (i := 1) rfl (.inl rfl)) (mas_cons (me_op op_modN om_mod (me_callTy cr_int cm_int (by rfl) T.int_ boot_int_ (mas_cons (me_var (i := 3) rfl (.inl rfl)) mas_nil)) me_int) mas_nil))))
      (ss_cons (sm_set (i := 3) sc__law_stream.nd rfl (.inl rfl) (me_op op_fdivW om_fdiv (me_var (i := 3) rfl (.inl rfl)) me_int))
      (ss_one (sm_if (mb_cmp (op_eqA hr) om_eq (me_var (i := 3) rfl (.inl rfl)) me_int (nomark _))
      (ss_one sm_break)
      ss_nil))))))
      (ss_cons (sm_set (i := 5) sc__law_stream.nd rfl (.inl rfl) (me_op op_modN om_mod (me_callTy cr_int cm_int (by rfl) T.int_ boot_int_ (mas_cons (me_var (i := 3) rfl (.inl rfl)) mas_nil)) me_int))
      (ss_one (sm_for own_def rfl (mi_range1 (by rfl) T.range_ me_int) (mg_nm (i := 4) sc__law_stream.nd rfl (.inl rfl) (.inr rfl))
      (ss_cons (sm_set (i := 5) sc__law_stream.nd rfl (.inl rfl) (me_op op_modN om_mod (me_callTy cr_int cm_int (by rfl) T.int_ boot_int_ (mas_cons (me_op op_addA om_add (me_op op_addA om_add (me_op op_mulW om_mul (me_var (i := 5) rfl (.inl rfl)) me_int) (me_op op_mulW om_mul me_int (me_var (i := 4) rfl (.inl rfl)))) me_int) mas_nil)) me_int))
      (ss_one (sm_expr (me_bm om_append isL_ty (pe_bm PySem.F.plainAttrs_list PySem.F.slot_list_append PySem.F.type_list_append mt_append (me_var (i := 1) rfl (.inl rfl)) (mas_cons (me_op op_modN om_mod (me_op op_modN om_mod (me_callTy cr_int cm_int (by rfl) T.int_ boot_int_ (mas_cons (me_op op_addA om_add (me_op op_mulW om_mul (me_var (i := 5) rfl (.inl rfl)) me_int) (me_var (i := 4) rfl (.inl rfl))) mas_nil)) me_int) me_int) mas_nil)))))))))))))
      (ss_cons (sm_if (mb_cmp (op_eqA hr) om_eq (me_callB call_len cm_len (by rfl) T.len_ boot_len_ (mas_cons (me_var (i := 1) rfl (.inl rfl)) mas_nil)) me_int (nomark _))
      (ss_one (sm_expr (me_bm om_append isL_ty (pe_bm PySem.F.plainAttrs_list PySem.F.slot_list_append PySem.F.type_list_append mt_append (me_var (i := 1) rfl (.inl rfl)) (mas_cons me_int mas_nil)))))
      ss_nil)
      (ss_one (sm_ret (me_var (i := 1) rfl (.inl rfl)))))))
theorem sc__law_next : FnScope ["state", "many", "turn"] ["state", "many"] (defScope (top 20)) := ⟨rfl, rfl, rfl, by decide +kernel, rfl, by decide +kernel, by decide +kernel⟩
def b__law_next : MSt :=
  (sSeq (sSub (mVar 0) (mC (.int 1)) (mOp fAdd (mOp fIx (mVar 0) (mC (.int 1))) (mC (.int 1))) fStore)
  (sSeq (sAsg (.nm 2) (mOp fFdiv (mOp fIx (mVar 0) (mC (.int 1))) (mCallP fLen (msCons (mOp fIx (mVar 0) (mC (.int 0))) msNil))))
  (sRet (mOp fMod (mCallP fInt (msCons (mOp fAdd (mOp fAdd (mOp fIx (mOp fIx (mVar 0) (mC (.int 0))) (mOp fMod (mOp fIx (mVar 0) (mC (.int 1))) (mCallP fLen (msCons (mOp fIx (mVar 0) (mC (.int 0))) msNil)))) (mOp fMul (mVar 2) (mC (.int 389)))) (mOp fMul (mOp fMul (mOp fIx (mVar 0) (mC (.int 1))) (mVar 2)) (mC (.int 17)))) msNil)) (mVar 1)))))
abbrev raw__law_next : MF := mDef 2 3 (b__law_next)
theorem w__law_next {f : Addr} {fd : FuncData} (hm : mg "_law_next" = some (.ref f)) (F : Fun K "_law_next" "_law_next" (top 20) f fd) (B : Binds K fd ["state", "many"] []) (T : Txt mg) : DefOk P w K mg base "_law_next" 2 (spM K XR (raw__law_next)) :=
  def_ok hm F sc__law_next B fun cdv A outer s H E hr =>
     (ss_cons (sm_sub (me_op op_addA om_add (me_ix hr (me_var (i := 0) rfl (.inl rfl)) me_int) me_int) (pg_sub (me_var (i := 0) rfl (.inl rfl)) me_int (set_all hr)) sx_store)
      (ss_cons (sm_set (i := 2) sc__law_next.nd rfl (.inl rfl) (me_op op_fdivW om_fdiv (me_ix hr (me_var (i := 0) rfl (.inl rfl)) me_int) (me_callB call_len cm_len (by rfl) T.len_ boot_len_ (mas_cons (me_ix hr (me_var (i := 0) rfl (.inl rfl)) me_int) mas_nil))))
      (ss_one (sm_ret (me_op op_modN om_mod (me_callTy cr_int cm_int (by rfl) T.int_ boot_int_ (mas_cons (me_op op_addA om_add (me_op op_addA om_add (me_ix hr (me_ix hr (me_var (i := 0) rfl (.inl rfl)) me_int) (me_op op_modN om_mod (me_ix hr (me_var (i := 0) rfl (.inl rfl)) me_int) (me_callB call_len cm_len (by rfl) T.len_ boot_len_ (mas_cons (me_ix hr (me_var (i := 0) rfl (.inl rfl)) me_int) mas_nil)))) (me_op op_mulW om_mul (me_var (i := 2) rfl (.inl rfl)) me_int)) (me_op op_mulW om_mul (me_op op_mulW om_mul (me_ix hr (me_var (i := 0) rfl (.inl rfl)) me_int) (me_var (i := 2) rfl (.inl rfl))) me_int)) mas_nil)) (me_var (i := 1) rfl (.inl rfl)))))))
theorem sc__law_letters : FnScope ["state"] ["state"] (defScope (top 21)) := ⟨rfl, rfl, rfl, by decide +kernel, rfl, by decide +kernel, by decide +kernel⟩
def b__law_letters (c__law_next : MF) : MSt :=
  (sRet (mOp fIx (mCallP fFrl (msCons (mCallP fCtp (msCons (mC (.str "a")) (msCons (mC (.str "b")) msNil))) (msCons (mCallP fCtp (msCons (mC (.str "a")) msNil)) (msCons (mCallP fCtp (msCons (mC (.str "in")) (msCons (mC (.str "out")) msNil))) (msCons (mCallP fCtp (msCons (mC (.str "a")) (msCons (mC (.str "b")) (msCons (mC (.str "c")) msNil)))) (msCons (mCallP fCtp (msCons (mC (.str "a")) (msCons (mC (.str "b")) msNil))) (msCons (mCallP fCtp (msCons (mC (.str "go")) (msCons (mC (.str "halt")) (msCons (mC (.str "no")) (msCons (mC (.str "yes")) msNil))))) msNil))))))) (mCallP c__law_next (msCons (mVar 0) (msCons (mC (.int 6)) msNil)))))
abbrev raw__law_letters (c__law_next : MF) : MF := mDef 1 1 (b__law_letters c__law_next)
theorem w__law_letters {c__law_next : MF} {f : Addr} {fd : FuncData} (hm : mg "_law_letters" = some (.ref f)) (F : Fun K "_law_letters" "_law_letters" (top 21) f fd) (B : Binds K fd ["state"] []) (T : Txt mg) (D__law_next : DefOk P w K mg base "_law_next" 2 (spM K XR c__law_next)) : DefOk P w K mg base "_law_letters" 3 (spM K XR (raw__law_letters c__law_next)) :=
  def_ok hm F sc__law_letters B fun cdv A outer s H E hr =>
     (ss_one (sm_ret (me_ix hr (me_frl (mas_cons (me_ctp (mas_cons me_str (mas_cons me_str mas_nil))) (mas_cons (me_ctp (mas_cons me_str mas_nil)) (mas_cons (me_ctp (mas_cons me_str (mas_cons me_str mas_nil))) (mas_cons (me_ctp (mas_cons me_str (mas_cons me_str (mas_cons me_str mas_nil)))) (mas_cons (me_ctp (mas_cons me_str (mas_cons me_str mas_nil))) (mas_cons (me_ctp (mas_cons me_str (mas_cons me_str (mas_cons me_str (mas_cons me_str mas_nil))))) mas_nil))))))) (me_call D__law_next hr (by decide) (by rfl) at_def (mas_cons (me_var (i := 0) rfl (.inl rfl)) (mas_cons me_int mas_nil))))))
theorem sc__law_machine : FnScope ["state", "letters", "most", "many", "way", "rows", "k", "row", "j", "near", "ends"] ["state", "letters", "most"] (defScope (top 22)) := ⟨rfl, rfl, rfl, by decide +kernel, rfl, by decide +kernel, by decide +kernel⟩
abbrev L1__law_machine (c__law_next : MF) : MSt :=
  (sSeq (sAsg (.nm 9) (mCallP fFrl (msCons (mCallP fMin2 (msCons (mOp fAdd (mVar 6) (mC (.int 1))) (msCons (mOp fSub (mVar 3) (mC (.int 1))) msNil))) (msCons (mVar 6) (msCons (mOp fSub (mVar 3) (mC (.int 1))) (msCons (mCallP c__law_next (msCons (mVar 0) (msCons (mVar 3) msNil))) msNil))))))
  (sExpr (mMeth isL fAppend (mVar 7) (msCons (mOp fIx (mCallP fFrl (msCons (mCallP c__law_next (msCons (mVar 0) (msCons (mVar 3) msNil))) (msCons (mOp fIx (mVar 9) (mCallP c__law_next (msCons (mVar 0) (msCons (mC (.int 4)) msNil)))) msNil))) (mCallP fInt (msCons (mOp fGt (mVar 4) (mC (.int 1))) msNil))) msNil))))
abbrev L2__law_machine (c__law_next : MF) : MSt :=
  (sSeq (sAsg (.nm 7) (mCallP fLst msNil))
  (sSeq (sFor (.nm 8) (mRange1 (mCallP fLen (msCons (mVar 1) msNil))) (L1__law_machine c__law_next))
  (sExpr (mMeth isL fAppend (mVar 5) (msCons (mCallP fTuple (msCons (mVar 7) msNil)) msNil)))))
def b__law_machine (c__law_next : MF) : MSt :=
  (sSeq (sAsg (.nm 3) (mOp fAdd (mC (.int 1)) (mCallP c__law_next (msCons (mVar 0) (msCons (mVar 2) msNil)))))
  (sSeq (sAsg (.nm 4) (mCallP c__law_next (msCons (mVar 0) (msCons (mC (.int 4)) msNil))))
  (sSeq (sAsg (.nm 5) (mCallP fLst msNil))
  (sSeq (sFor (.nm 6) (mRange1 (mVar 3)) (L2__law_machine c__law_next))
  (sSeq (sAsg (.nm 10) (mLcL [6] (mRange1 (mVar 3)) (.nm 6) mbYes (mCallP fInt (msCons (mOp fEq (mCallP c__law_next (msCons (mVar 0) (msCons (mC (.int 3)) msNil))) (mC (.int 0))) msNil))))
  (sSeq (sIf (mbE (mOp fEq (mVar 4) (mC (.int 3))))
  (sSub (mVar 10) (mOp fSub (mVar 3) (mC (.int 1))) (mC (.int 0)) fStore)
  sNil)
  (sRet (mCallP fTup (msCons (mVar 1) (msCons (mCallP fTuple (msCons (mVar 5) msNil)) (msCons (mCallP fTuple (msCons (mVar 10) msNil)) msNil)))))))))))
abbrev raw__law_machine (c__law_next : MF) : MF := mDef 3 11 (b__law_machine c__law_next)
theorem w__law_machine {c__law_next : MF} {f : Addr} {fd : FuncData} (hm : mg "_law_machine" = some (.ref f)) (F : Fun K "_law_machine" "_law_machine" (top 22) f fd) (B : Binds K fd ["state", "letters", "most"] []) (T : Txt mg) (D__law_next : DefOk P w K mg base "_law_next" 2 (spM K XR c__law_next)) : DefOk P w K mg base "_law_machine" 3 (spM K XR (raw__law_machine c__law_next)) :=
  def_ok hm F sc__law_machine B fun cdv A outer s H E hr =>
     (ss_cons (sm_set (i := 3) sc__law_machine.nd rfl (.inl rfl) (me_op op_addA om_add me_int (me_call D__law_next hr (by decide) (by rfl) at_def (mas_cons (me_var (i := 0) rfl (.inr (.inl rfl))) (mas_cons (me_var (i := 2) rfl (.inl rfl)) mas_nil)))))
      (ss_cons (sm_set (i := 4) sc__law_machine.nd rfl (.inl rfl) (me_call D__law_next hr (by decide) (by rfl) at_def (mas_cons (me_var (i := 0) rfl (.inr (.inl rfl))) (mas_cons me_int mas_nil))))
      (ss_cons (sm_set (i := 5) sc__law_machine.nd rfl (.inl rfl) (me_lst mas_nil))
      (ss_cons (sm_for own_def rfl (mi_range1 (by rfl) T.range_ (me_var (i := 3) rfl (.inl rfl))) (mg_nm (i := 6) sc__law_machine.nd rfl (.inl rfl) (.inr rfl))
      (ss_cons (sm_set (i := 7) sc__law_machine.nd rfl (.inl rfl) (me_lst mas_nil))
      (ss_cons (sm_for own_def rfl (mi_range1 (by rfl) T.range_ (me_callB call_len cm_len (by rfl) T.len_ boot_len_ (mas_cons (me_var (i := 1) rfl (.inl rfl)) mas_nil))) (mg_nm (i := 8) sc__law_machine.nd rfl (.inl rfl) (.inr rfl))
      (ss_cons (sm_set (i := 9) sc__law_machine.nd rfl (.inl rfl) (me_frl (mas_cons (me_callB (call_min2 rfl) cm_min2 (by rfl) T.min_ boot_min_ (mas_cons (me_op op_addA om_add (me_var (i := 6) rfl (.inl rfl)) me_int) (mas_cons (me_op op_sub om_sub (me_var (i := 3) rfl (.inl rfl)) me_int) mas_nil))) (mas_cons (me_var (i := 6) rfl (.inl rfl)) (mas_cons (me_op op_sub om_sub (me_var (i := 3) rfl (.inl rfl)) me_int) (mas_cons (me_call D__law_next hr (by decide) (by rfl) at_def (mas_cons (me_var (i := 0) rfl (.inr (.inl rfl))) (mas_cons (me_var (i := 3) rfl (.inl rfl)) mas_nil))) mas_nil))))))
      (ss_one (sm_expr (me_bm om_append isL_ty (pe_bm PySem.F.plainAttrs_list PySem.F.slot_list_append PySem.F.type_list_append mt_append (me_var (i := 7) rfl (.inl rfl)) (mas_cons (me_ix hr (me_frl (mas_cons (me_call D__law_next hr (by decide) (by rfl) at_def (mas_cons (me_var (i := 0) rfl (.inr (.inl rfl))) (mas_cons (me_var (i := 3) rfl (.inl rfl)) mas_nil))) (mas_cons (me_ix hr (me_var (i := 9) rfl (.inl rfl)) (me_call D__law_next hr (by decide) (by rfl) at_def (mas_cons (me_var (i := 0) rfl (.inr (.inl rfl))) (mas_cons me_int mas_nil)))) mas_nil))) (me_callTy cr_int cm_int (by rfl) T.int_ boot_int_ (mas_cons (me_cmp op_gt om_gt (me_var (i := 4) rfl (.inl rfl)) me_int (nomark _)) mas_nil))) mas_nil)))))))
      (ss_one (sm_expr (me_bm om_append isL_ty (pe_bm PySem.F.plainAttrs_list PySem.F.slot_list_append PySem.F.type_list_append mt_append (me_var (i := 5) rfl (.inl rfl)) (mas_cons (me_callTy call_tuple_of cm_tuple (by rfl) T.tuple_ boot_tuple_ (mas_cons (me_var (i := 7) rfl (.inl rfl)) mas_nil)) mas_nil))))))))
      (ss_cons (sm_setLcL (i := 10) (own := [("k", 6)]) rfl sc__law_machine.nd rfl rfl (by rfl) (mi_range1 (by rfl) T.range_ (me_var (i := 3) rfl (.inl rfl))) (blkOk_by (by rfl)) (by decide) (fun _ _ _ _ _ => (mg_nm (i := 6) sc__law_machine.nd rfl (.inl rfl) (.inr rfl))) (fun _ _ _ _ _ => mts_nil) (fun _ _ _ _ _ => (me_callTy cr_int cm_int (by rfl) T.int_ boot_int_ (mas_cons (me_cmp (op_eqA hr) om_eq (me_call D__law_next hr (by decide) (by rfl) at_blk (mas_cons (me_var (i := 0) rfl (.inr (.inl rfl))) (mas_cons me_int mas_nil))) me_int (nomark _)) mas_nil))))
      (ss_cons (sm_if (mb_cmp (op_eqA hr) om_eq (me_var (i := 4) rfl (.inl rfl)) me_int (nomark _))
      (ss_one (sm_sub me_int (pg_sub (me_var (i := 10) rfl (.inl rfl)) (me_op op_sub om_sub (me_var (i := 3) rfl (.inl rfl)) me_int) (set_all hr)) sx_store))
      ss_nil)
      (ss_one (sm_ret (me_tup (mas_cons (me_var (i := 1) rfl (.inl rfl)) (mas_cons (me_callTy call_tuple_of cm_tuple (by rfl) T.tuple_ boot_tuple_ (mas_cons (me_var (i := 5) rfl (.inl rfl)) mas_nil)) (mas_cons (me_callTy call_tuple_of cm_tuple (by rfl) T.tuple_ boot_tuple_ (mas_cons (me_var (i := 10) rfl (.inl rfl)) mas_nil)) mas_nil))))))))))))
theorem sc__law_log : FnScope ["state", "letters", "many", "k"] ["state", "letters", "many"] (defScope (top 23)) := ⟨rfl, rfl, rfl, by decide +kernel, rfl, by decide +kernel, by decide +kernel⟩
def b__law_log (c__law_next : MF) : MSt :=
  (sRet (mCallP fTuple (msCons (mLc [3] (mRange1 (mVar 2)) (.nm 3) mbYes (mOp fIx (mVar 1) (mCallP c__law_next (msCons (mVar 0) (msCons (mCallP fLen (msCons (mVar 1) msNil)) msNil))))) msNil)))
abbrev raw__law_log (c__law_next : MF) : MF := mDef 3 4 (b__law_log c__law_next)
theorem w__law_log {c__law_next : MF} {f : Addr} {fd : FuncData} (hm : mg "_law_log" = some (.ref f)) (F : Fun K "_law_log" "_law_log" (top 23) f fd) (B : Binds K fd ["state", "letters", "many"] []) (T : Txt mg) (D__law_next : DefOk P w K mg base "_law_next" 2 (spM K XR c__law_next)) : DefOk P w K mg base "_law_log" 3 (spM K XR (raw__law_log c__law_next)) :=
  def_ok hm F sc__law_log B fun cdv A outer s H E hr =>
     (ss_one (sm_ret (me_callTy call_tuple_of cm_tuple (by rfl) T.tuple_ boot_tuple_ (mas_cons (me_lc (own := [("k", 3)]) rfl sc__law_log.nd (mi_range1 (by rfl) T.range_ (me_var (i := 2) rfl (.inl rfl))) (blkOk_by (by rfl)) (by decide) (fun _ _ _ _ _ => (mg_nm (i := 3) sc__law_log.nd rfl (.inl rfl) (.inr rfl))) (fun _ _ _ _ _ => mts_nil) (fun _ _ _ _ _ => (me_ix hr (me_var (i := 1) rfl (.inr (.inl rfl))) (me_call D__law_next hr (by decide) (by rfl) at_blk (mas_cons (me_var (i := 0) rfl (.inr (.inl rfl))) (mas_cons (me_callB call_len cm_len (by rfl) T.len_ boot_len_ (mas_cons (me_var (i := 1) rfl (.inr (.inl rfl))) mas_nil)) mas_nil)))))) mas_nil))))
theorem sc__law_ratio : FnScope ["top", "bottom", "one", "other", "sign"] ["top", "bottom"] (defScope (top 24)) := ⟨rfl, rfl, rfl, by decide +kernel, rfl, by decide +kernel, by decide +kernel⟩
abbrev C1__law_ratio : MB :=
  (mbE (mOp fGt (mVar 3) (mC (.int 0))))
abbrev L1__law_ratio : MSt :=
  (sPar 2 3 (msCons (mVar 3) (msCons (mOp fMod (mCallP fInt (msCons (mVar 2) msNil)) (mVar 3)) msNil)))
def b__law_ratio : MSt :=
  (sSeq (sAsg (.nm 2) (mCallP fMax2 (msCons (mVar 0) (msCons (mOp fSub (mC (.int 0)) (mVar 0)) msNil))))
  (sSeq (sAsg (.nm 3) (mCallP fMax2 (msCons (mVar 1) (msCons (mOp fSub (mC (.int 0)) (mVar 1)) msNil))))
  (sSeq (sWhile (C1__law_ratio) (L1__law_ratio))
  (sSeq (sAsg (.nm 4) (mOp fIx (mCallP fFrl (msCons (mC (.int 1)) (msCons (mUn fNeg (mC (.int 1))) msNil))) (mCallP fInt (msCons (mOp fLt (mVar 1) (mC (.int 0))) msNil))))
  (sRet (mCallP fTup (msCons (mOp fFdiv (mOp fMul (mVar 4) (mVar 0)) (mVar 2)) (msCons (mOp fFdiv (mOp fMul (mVar 4) (mVar 1)) (mVar 2)) msNil))))))))
abbrev raw__law_ratio : MF := mDef 2 5 (b__law_ratio)
theorem w__law_ratio {f : Addr} {fd : FuncData} (hm : mg "_law_ratio" = some (.ref f)) (F : Fun K "_law_ratio" "_law_ratio" (top 24) f fd) (B : Binds K fd ["top", "bottom"] []) (T : Txt mg) : DefOk P w K mg base "_law_ratio" 2 (spM K XR (raw__law_ratio)) :=
  def_ok hm F sc__law_ratio B fun cdv A outer s H E hr =>
     (ss_cons (sm_set (i := 2) sc__law_ratio.nd rfl (.inl rfl) (me_callB (call_max2 rfl) cm_max2 (by rfl) T.max_ boot_max_ (mas_cons (me_var (i := 0) rfl (.inl rfl)) (mas_cons (me_op op_sub om_sub me_int (me_var (i := 0) rfl (.inl rfl))) mas_nil))))
      (ss_cons (sm_set (i := 3) sc__law_ratio.nd rfl (.inl rfl) (me_callB (call_max2 rfl) cm_max2 (by rfl) T.max_ boot_max_ (mas_cons (me_var (i := 1) rfl (.inl rfl)) (mas_cons (me_op op_sub om_sub me_int (me_var (i := 1) rfl (.inl rfl))) mas_nil))))
      (ss_cons (sm_while own_def (mb_cmp op_gt om_gt (me_var (i := 3) rfl (.inl rfl)) me_int (nomark _))
      (ss_one (sm_par (ps_par (i := 2) (j := 3) rfl sc__law_ratio.nd rfl rfl (by decide) rfl rfl (mas_cons (me_var (i := 3) rfl (.inl rfl)) (mas_cons (me_op op_modN om_mod (me_callTy cr_int cm_int (by rfl) T.int_ boot_int_ (mas_cons (me_var (i := 2) rfl (.inl rfl)) mas_nil)) (me_var (i := 3) rfl (.inl rfl))) mas_nil)) (by rfl)))))
      (ss_cons (sm_set (i := 4) sc__law_ratio.nd rfl (.inl rfl) (me_ix hr (me_frl (mas_cons me_int (mas_cons (me_un un_neg um_neg me_int) mas_nil))) (me_callTy cr_int cm_int (by rfl) T.int_ boot_int_ (mas_cons (me_cmp op_ltA om_lt (me_var (i := 1) rfl (.inl rfl)) me_int (nomark _)) mas_nil))))
      (ss_one (sm_ret (me_tup (mas_cons (me_op op_fdivW om_fdiv (me_op op_mulW om_mul (me_var (i := 4) rfl (.inl rfl)) (me_var (i := 0) rfl (.inl rfl))) (me_var (i := 2) rfl (.inl rfl))) (mas_cons (me_op op_fdivW om_fdiv (me_op op_mulW om_mul (me_var (i := 4) rfl (.inl rfl)) (me_var (i := 1) rfl (.inl rfl))) (me_var (i := 2) rfl (.inl rfl))) mas_nil)))))))))
theorem sc__law_sum : FnScope ["rows", "total", "top", "bottom"] ["rows"] (defScope (top 25)) := ⟨rfl, rfl, rfl, by decide +kernel, rfl, by decide +kernel, by decide +kernel⟩
abbrev L1__law_sum (c__law_ratio : MF) : MSt :=
  (sAsg (.nm 1) (mCallP c__law_ratio (msCons (mOp fAdd (mOp fMul (mOp fIx (mVar 1) (mC (.int 0))) (mVar 3)) (mOp fMul (mVar 2) (mOp fIx (mVar 1) (mC (.int 1))))) (msCons (mOp fMul (mOp fIx (mVar 1) (mC (.int 1))) (mVar 3)) msNil))))
def b__law_sum (c__law_ratio : MF) : MSt :=
  (sSeq (sAsg (.nm 1) (mCallP fTup (msCons (mC (.int 0)) (msCons (mC (.int 1)) msNil))))
  (sSeq (sFor (.tp [(.nm 2), (.nm 3)]) (mOver (mVar 0)) (L1__law_sum c__law_ratio))
  (sRet (mVar 1))))
abbrev raw__law_sum (c__law_ratio : MF) : MF := mDef 1 4 (b__law_sum c__law_ratio)
theorem w__law_sum {c__law_ratio : MF} {f : Addr} {fd : FuncData} (hm : mg "_law_sum" = some (.ref f)) (F : Fun K "_law_sum" "_law_sum" (top 25) f fd) (B : Binds K fd ["rows"] []) (T : Txt mg) (D__law_ratio : DefOk P w K mg base "_law_ratio" 2 (spM K XR c__law_ratio)) : DefOk P w K mg base "_law_sum" 3 (spM K XR (raw__law_sum c__law_ratio)) :=
  def_ok hm F sc__law_sum B fun cdv A outer s H E hr =>
     (ss_cons (sm_set (i := 1) sc__law_sum.nd rfl (.inl rfl) (me_tup (mas_cons me_int (mas_cons me_int mas_nil))))
      (ss_cons (sm_for own_def rfl (mi_over (me_var (i := 0) rfl (.inl rfl))) (mg_tp rfl (mgs_cons (mg_nm (i := 2) sc__law_sum.nd rfl (.inl rfl) (.inr rfl)) (mgs_cons (mg_nm (i := 3) sc__law_sum.nd rfl (.inl rfl) (.inr rfl)) mgs_nil)))
      (ss_one (sm_set (i := 1) sc__law_sum.nd rfl (.inl rfl) (me_call D__law_ratio hr (by decide) (by rfl) at_def (mas_cons (me_op op_addA om_add (me_op op_mulW om_mul (me_ix hr (me_var (i := 1) rfl (.inl rfl)) me_int) (me_var (i := 3) rfl (.inl rfl))) (me_op op_mulW om_mul (me_var (i := 2) rfl (.inl rfl)) (me_ix hr (me_var (i := 1) rfl (.inl rfl)) me_int))) (mas_cons (me_op op_mulW om_mul (me_ix hr (me_var (i := 1) rfl (.inl rfl)) me_int) (me_var (i := 3) rfl (.inl rfl))) mas_nil))))))
      (ss_one (sm_ret (me_var (i := 1) rfl (.inl rfl))))))
theorem sc__law_below : FnScope ["one", "other"] ["one", "other"] (defScope (top 26)) := ⟨rfl, rfl, rfl, by decide +kernel, rfl, by decide +kernel, by decide +kernel⟩
def b__law_below : MSt :=
  (sRet (mOp fLt (mOp fMul (mOp fIx (mVar 0) (mC (.int 0))) (mOp fIx (mVar 1) (mC (.int 1)))) (mOp fMul (mOp fIx (mVar 1) (mC (.int 0))) (mOp fIx (mVar 0) (mC (.int 1))))))
abbrev raw__law_below : MF := mDef 2 2 (b__law_below)
theorem w__law_below {f : Addr} {fd : FuncData} (hm : mg "_law_below" = some (.ref f)) (F : Fun K "_law_below" "_law_below" (top 26) f fd) (B : Binds K fd ["one", "other"] []) (T : Txt mg) : DefOk P w K mg base "_law_below" 2 (spM K XR (raw__law_below)) :=
  def_ok hm F sc__law_below B fun cdv A outer s H E hr =>
     (ss_one (sm_ret (me_cmp op_ltA om_lt (me_op op_mulW om_mul (me_ix hr (me_var (i := 0) rfl (.inl rfl)) me_int) (me_ix hr (me_var (i := 1) rfl (.inl rfl)) me_int)) (me_op op_mulW om_mul (me_ix hr (me_var (i := 1) rfl (.inl rfl)) me_int) (me_ix hr (me_var (i := 0) rfl (.inl rfl)) me_int)) (nomark _))))
theorem sc__law_first_logs : FnScope ["machine", "found", "order", "at", "here", "j", "after"] ["machine"] (defScope (top 27)) := ⟨rfl, rfl, rfl, by decide +kernel, rfl, by decide +kernel, by decide +kernel⟩
abbrev L1__law_first_logs : MSt :=
  (sSeq (sAsg (.nm 6) (mOp fIx (mOp fIx (mOp fIx (mVar 0) (mC (.int 1))) (mVar 4)) (mVar 5)))
  (sIf (mbE (mOp fNotIn (mVar 6) (mVar 1)))
  (sSeq (sSub (mVar 1) (mVar 6) (mOp fAdd (mOp fIx (mVar 1) (mVar 4)) (mCallP fTup (msCons (mOp fIx (mOp fIx (mVar 0) (mC (.int 0))) (mVar 5)) msNil))) fStore)
  (sExpr (mMeth isL fAppend (mVar 2) (msCons (mVar 6) msNil))))
  sNil))
abbrev C1__law_first_logs : MB :=
  (mbE (mOp fLt (mVar 3) (mCallP fLen (msCons (mVar 2) msNil))))
abbrev L2__law_first_logs : MSt :=
  (sSeq (sAsg (.nm 4) (mOp fIx (mVar 2) (mVar 3)))
  (sSeq (sFor (.nm 5) (mRange1 (mCallP fLen (msCons (mOp fIx (mVar 0) (mC (.int 0))) msNil))) (L1__law_first_logs))
  (sAsg (.nm 3) (mOp fAdd (mVar 3) (mC (.int 1))))))
def b__law_first_logs : MSt :=
  (sSeq (sAsg (.nm 1) (mD1 (mC (.int 0)) (mCallP fTup msNil)))
  (sSeq (sAsg (.nm 2) (mCallP fLst (msCons (mC (.int 0)) msNil)))
  (sSeq (sAsg (.nm 3) (mC (.int 0)))
  (sSeq (sWhile (C1__law_first_logs) (L2__law_first_logs))
  (sRet (mVar 1))))))
abbrev raw__law_first_logs : MF := mDef 1 7 (b__law_first_logs)
theorem w__law_first_logs {f : Addr} {fd : FuncData} (hm : mg "_law_first_logs" = some (.ref f)) (F : Fun K "_law_first_logs" "_law_first_logs" (top 27) f fd) (B : Binds K fd ["machine"] []) (T : Txt mg) : DefOk P w K mg base "_law_first_logs" 2 (spM K XR (raw__law_first_logs)) :=
  def_ok hm F sc__law_first_logs B fun cdv A outer s H E hr =>
     (ss_cons (sm_set (i := 1) sc__law_first_logs.nd rfl (.inl rfl) (me_d1 me_int (me_tup mas_nil)))
      (ss_cons (sm_set (i := 2) sc__law_first_logs.nd rfl (.inl rfl) (me_lst (mas_cons me_int mas_nil)))
      (ss_cons (sm_set (i := 3) sc__law_first_logs.nd rfl (.inl rfl) me_int)
      (ss_cons (sm_while own_def (mb_cmp op_ltA om_lt (me_var (i := 3) rfl (.inl rfl)) (me_callB call_len cm_len (by rfl) T.len_ boot_len_ (mas_cons (me_var (i := 2) rfl (.inl rfl)) mas_nil)) (nomark _))
      (ss_cons (sm_set (i := 4) sc__law_first_logs.nd rfl (.inl rfl) (me_ix hr (me_var (i := 2) rfl (.inl rfl)) (me_var (i := 3) rfl (.inl rfl))))
      (ss_cons (sm_for own_def rfl (mi_range1 (by rfl) T.range_ (me_callB call_len cm_len (by rfl) T.len_ boot_len_ (mas_cons (me_ix hr (me_var (i := 0) rfl (.inl rfl)) me_int) mas_nil))) (mg_nm (i := 5) sc__law_first_logs.nd rfl (.inl rfl) (.inr rfl))
      (ss_cons (sm_set (i := 6) sc__law_first_logs.nd rfl (.inl rfl) (me_ix hr (me_ix hr (me_ix hr (me_var (i := 0) rfl (.inl rfl)) me_int) (me_var (i := 4) rfl (.inl rfl))) (me_var (i := 5) rfl (.inl rfl))))
      (ss_one (sm_if (mb_notIn hr (me_var (i := 6) rfl (.inl rfl)) (me_var (i := 1) rfl (.inl rfl)))
      (ss_cons (sm_sub (me_op op_addA om_add (me_ix hr (me_var (i := 1) rfl (.inl rfl)) (me_var (i := 4) rfl (.inl rfl))) (me_tup (mas_cons (me_ix hr (me_ix hr (me_var (i := 0) rfl (.inl rfl)) me_int) (me_var (i := 5) rfl (.inl rfl))) mas_nil))) (pg_sub (me_var (i := 1) rfl (.inl rfl)) (me_var (i := 6) rfl (.inl rfl)) (set_all hr)) sx_store)
      (ss_one (sm_expr (me_bm om_append isL_ty (pe_bm PySem.F.plainAttrs_list PySem.F.slot_list_append PySem.F.type_list_append mt_append (me_var (i := 2) rfl (.inl rfl)) (mas_cons (me_var (i := 6) rfl (.inl rfl)) mas_nil))))))
      ss_nil))))
      (ss_one (sm_set (i := 3) sc__law_first_logs.nd rfl (.inl rfl) (me_op op_addA om_add (me_var (i := 3) rfl (.inl rfl)) me_int))))))
      (ss_one (sm_ret (me_var (i := 1) rfl (.inl rfl))))))))
theorem sc__law_alive : FnScope ["machine", "living", "turn", "k", "after"] ["machine"] (defScope (top 28)) := ⟨rfl, rfl, rfl, by decide +kernel, rfl, by decide +kernel, by decide +kernel⟩
abbrev L1__law_alive : MSt :=
  (sAsg (.nm 1) (mLc [3] (mRange1 (mCallP fLen (msCons (mOp fIx (mVar 0) (mC (.int 1))) msNil))) (.nm 3) (mbOr (mbE (mOp fIn (mVar 3) (mVar 1))) (mbE (mCallP fAny (msCons (mLc [4] (mOver (mOp fIx (mOp fIx (mVar 0) (mC (.int 1))) (mVar 3))) (.nm 4) mbYes (mOp fIn (mVar 4) (mVar 1))) msNil)))) (mVar 3)))
def b__law_alive : MSt :=
  (sSeq (sAsg (.nm 1) (mLc [3] (mRange1 (mCallP fLen (msCons (mOp fIx (mVar 0) (mC (.int 1))) msNil))) (.nm 3) (mbE (mOp fEq (mOp fIx (mOp fIx (mVar 0) (mC (.int 2))) (mVar 3)) (mC (.int 1)))) (mVar 3)))
  (sSeq (sFor (.nm 2) (mRange1 (mCallP fLen (msCons (mOp fIx (mVar 0) (mC (.int 1))) msNil))) (L1__law_alive))
  (sRet (mVar 1))))
abbrev raw__law_alive : MF := mDef 1 5 (b__law_alive)
theorem w__law_alive {f : Addr} {fd : FuncData} (hm : mg "_law_alive" = some (.ref f)) (F : Fun K "_law_alive" "_law_alive" (top 28) f fd) (B : Binds K fd ["machine"] []) (T : Txt mg) : DefOk P w K mg base "_law_alive" 2 (spM K XR (raw__law_alive)) :=
  def_ok hm F sc__law_alive B fun cdv A outer s H E hr =>
     (ss_cons (sm_set (i := 1) sc__law_alive.nd rfl (.inr rfl) (me_lc (own := [("k", 3)]) rfl sc__law_alive.nd (mi_range1 (by rfl) T.range_ (me_callB call_len cm_len (by rfl) T.len_ boot_len_ (mas_cons (me_ix hr (me_var (i := 0) rfl (.inr (.inl rfl))) me_int) mas_nil))) (blkOk_by (by rfl)) (by decide) (fun _ _ _ _ _ => (mg_nm (i := 3) sc__law_alive.nd rfl (.inl rfl) (.inr rfl))) (fun _ _ _ _ _ => (mts_one (mb_cmp (op_eqA hr) om_eq (me_ix hr (me_ix hr (me_var (i := 0) rfl (.inr (.inl rfl))) me_int) (me_var (i := 3) rfl (.inl rfl))) me_int (nomark _)))) (fun _ _ _ _ _ => (me_var (i := 3) rfl (.inl rfl)))))
      (ss_cons (sm_for own_def rfl (mi_range1 (by rfl) T.range_ (me_callB call_len cm_len (by rfl) T.len_ boot_len_ (mas_cons (me_ix hr (me_var (i := 0) rfl (.inr (.inl rfl))) me_int) mas_nil))) (mg_nm (i := 2) sc__law_alive.nd rfl (.inl rfl) (.inr rfl))
      (ss_one (sm_set (i := 1) sc__law_alive.nd rfl (.inr rfl) (me_lc (own := [("k", 3)]) rfl sc__law_alive.nd (mi_range1 (by rfl) T.range_ (me_callB call_len cm_len (by rfl) T.len_ boot_len_ (mas_cons (me_ix hr (me_var (i := 0) rfl (.inr (.inl rfl))) me_int) mas_nil))) (blkOk_by (by rfl)) (by decide) (fun _ _ _ _ _ => (mg_nm (i := 3) sc__law_alive.nd rfl (.inl rfl) (.inr rfl))) (fun _ _ _ _ _ => (mts_one (mb_w (mw_or (mb_in hr (me_var (i := 3) rfl (.inl rfl)) (me_var (i := 1) rfl (.inr (.inl rfl)))) (mw_or1 (mb_val (me_callB (cr_any rfl) cm_any (by rfl) T.any_ boot_any_ (mas_cons (me_lc (own := [("after", 4)]) rfl sc__law_alive.nd (mi_over (me_ix hr (me_ix hr (me_var (i := 0) rfl (.inr (.inl rfl))) me_int) (me_var (i := 3) rfl (.inl rfl)))) (blkOk_by (by rfl)) (by decide) (fun _ _ _ _ _ => (mg_nm (i := 4) sc__law_alive.nd rfl (.inl rfl) (.inr rfl))) (fun _ _ _ _ _ => mts_nil) (fun _ _ _ _ _ => (me_in hr (me_var (i := 4) rfl (.inl rfl)) (me_var (i := 1) rfl (.inr (.inl rfl)))))) mas_nil)))))))) (fun _ _ _ _ _ => (me_var (i := 3) rfl (.inl rfl)))))))
      (ss_one (sm_ret (me_var (i := 1) rfl (.inr (.inl rfl)))))))
theorem sc__law_useful : FnScope ["machine", "reach", "k"] ["machine"] (defScope (top 29)) := ⟨rfl, rfl, rfl, by decide +kernel, rfl, by decide +kernel, by decide +kernel⟩
def b__law_useful (c__law_first_logs : MF) (c__law_alive : MF) : MSt :=
  (sSeq (sAsg (.nm 1) (mCallP c__law_first_logs (msCons (mVar 0) msNil)))
  (sRet (mLc [2] (mOver (mCallP c__law_alive (msCons (mVar 0) msNil))) (.nm 2) (mbE (mOp fIn (mVar 2) (mVar 1))) (mVar 2))))
abbrev raw__law_useful (c__law_first_logs : MF) (c__law_alive : MF) : MF := mDef 1 3 (b__law_useful c__law_first_logs c__law_alive)
theorem w__law_useful {c__law_first_logs : MF} {c__law_alive : MF} {f : Addr} {fd : FuncData} (hm : mg "_law_useful" = some (.ref f)) (F : Fun K "_law_useful" "_law_useful" (top 29) f fd) (B : Binds K fd ["machine"] []) (T : Txt mg) (D__law_first_logs : DefOk P w K mg base "_law_first_logs" 2 (spM K XR c__law_first_logs)) (D__law_alive : DefOk P w K mg base "_law_alive" 2 (spM K XR c__law_alive)) : DefOk P w K mg base "_law_useful" 3 (spM K XR (raw__law_useful c__law_first_logs c__law_alive)) :=
  def_ok hm F sc__law_useful B fun cdv A outer s H E hr =>
     (ss_cons (sm_set (i := 1) sc__law_useful.nd rfl (.inr rfl) (me_call D__law_first_logs hr (by decide) (by rfl) at_def (mas_cons (me_var (i := 0) rfl (.inl rfl)) mas_nil)))
      (ss_one (sm_ret (me_lc (own := [("k", 2)]) rfl sc__law_useful.nd (mi_over (me_call D__law_alive hr (by decide) (by rfl) at_def (mas_cons (me_var (i := 0) rfl (.inl rfl)) mas_nil))) (blkOk_by (by rfl)) (by decide) (fun _ _ _ _ _ => (mg_nm (i := 2) sc__law_useful.nd rfl (.inl rfl) (.inr rfl))) (fun _ _ _ _ _ => (mts_one (mb_in hr (me_var (i := 2) rfl (.inl rfl)) (me_var (i := 1) rfl (.inr (.inl rfl)))))) (fun _ _ _ _ _ => (me_var (i := 2) rfl (.inl rfl)))))))
theorem sc__law_steps : FnScope ["machine", "states", "found", "k", "j"] ["machine"] (defScope (top 30)) := ⟨rfl, rfl, rfl, by decide +kernel, rfl, by decide +kernel, by decide +kernel⟩
abbrev L1__law_steps (c__law_useful : MF) : MSt :=
  (sExpr (mMeth isL fExtend (mVar 2) (msCons (mLc [4] (mRange1 (mCallP fLen (msCons (mOp fIx (mVar 0) (mC (.int 0))) msNil))) (.nm 4) (mbE (mOp fIn (mOp fIx (mOp fIx (mOp fIx (mVar 0) (mC (.int 1))) (mVar 3)) (mVar 4)) (mVar 1))) (mCallP fTup (msCons (mVar 3) (msCons (mOp fIx (mOp fIx (mVar 0) (mC (.int 0))) (mVar 4)) msNil)))) msNil)))
def b__law_steps (c__law_useful : MF) : MSt :=
  (sSeq (sAsg (.nm 1) (mCallP c__law_useful (msCons (mVar 0) msNil)))
  (sSeq (sAsg (.nm 2) (mCallP fLst msNil))
  (sSeq (sFor (.nm 3) (mOver (mVar 1)) (L1__law_steps c__law_useful))
  (sRet (mVar 2)))))
abbrev raw__law_steps (c__law_useful : MF) : MF := mDef 1 5 (b__law_steps c__law_useful)
theorem w__law_steps {c__law_useful : MF} {f : Addr} {fd : FuncData} (hm : mg "_law_steps" = some (.ref f)) (F : Fun K "_law_steps" "_law_steps" (top 30) f fd) (B : Binds K fd ["machine"] []) (T : Txt mg) (D__law_useful : DefOk P w K mg base "_law_useful" 3 (spM K XR c__law_useful)) : DefOk P w K mg base "_law_steps" 4 (spM K XR (raw__law_steps c__law_useful)) :=
  def_ok hm F sc__law_steps B fun cdv A outer s H E hr =>
     (ss_cons (sm_set (i := 1) sc__law_steps.nd rfl (.inr rfl) (me_call D__law_useful hr (by decide) (by rfl) at_def (mas_cons (me_var (i := 0) rfl (.inr (.inl rfl))) mas_nil)))
      (ss_cons (sm_set (i := 2) sc__law_steps.nd rfl (.inl rfl) (me_lst mas_nil))
      (ss_cons (sm_for own_def rfl (mi_over (me_var (i := 1) rfl (.inr (.inl rfl)))) (mg_nm (i := 3) sc__law_steps.nd rfl (.inr rfl) (.inl rfl))
      (ss_one (sm_expr (me_bm om_extend isL_ty (pe_bm PySem.F.plainAttrs_list PySem.F.slot_list_extend PySem.F.type_list_extend mt_extend (me_var (i := 2) rfl (.inl rfl)) (mas_cons (me_lc (own := [("j", 4)]) rfl sc__law_steps.nd (mi_range1 (by rfl) T.range_ (me_callB call_len cm_len (by rfl) T.len_ boot_len_ (mas_cons (me_ix hr (me_var (i := 0) rfl (.inr (.inl rfl))) me_int) mas_nil))) (blkOk_by (by rfl)) (by decide) (fun _ _ _ _ _ => (mg_nm (i := 4) sc__law_steps.nd rfl (.inl rfl) (.inr rfl))) (fun _ _ _ _ _ => (mts_one (mb_in hr (me_ix hr (me_ix hr (me_ix hr (me_var (i := 0) rfl (.inr (.inl rfl))) me_int) (me_var (i := 3) rfl (.inr (.inl rfl)))) (me_var (i := 4) rfl (.inl rfl))) (me_var (i := 1) rfl (.inr (.inl rfl)))))) (fun _ _ _ _ _ => (me_tup (mas_cons (me_var (i := 3) rfl (.inr (.inl rfl))) (mas_cons (me_ix hr (me_ix hr (me_var (i := 0) rfl (.inr (.inl rfl))) me_int) (me_var (i := 4) rfl (.inl rfl))) mas_nil))))) mas_nil))))))
      (ss_one (sm_ret (me_var (i := 2) rfl (.inl rfl)))))))
theorem sc__law_ends : FnScope ["machine", "k"] ["machine"] (defScope (top 31)) := ⟨rfl, rfl, rfl, by decide +kernel, rfl, by decide +kernel, by decide +kernel⟩
def b__law_ends (c__law_useful : MF) : MSt :=
  (sRet (mLc [1] (mOver (mCallP c__law_useful (msCons (mVar 0) msNil))) (.nm 1) (mbE (mOp fEq (mOp fIx (mOp fIx (mVar 0) (mC (.int 2))) (mVar 1)) (mC (.int 1)))) (mVar 1)))
abbrev raw__law_ends (c__law_useful : MF) : MF := mDef 1 2 (b__law_ends c__law_useful)
theorem w__law_ends {c__law_useful : MF} {f : Addr} {fd : FuncData} (hm : mg "_law_ends" = some (.ref f)) (F : Fun K "_law_ends" "_law_ends" (top 31) f fd) (B : Binds K fd ["machine"] []) (T : Txt mg) (D__law_useful : DefOk P w K mg base "_law_useful" 3 (spM K XR c__law_useful)) : DefOk P w K mg base "_law_ends" 4 (spM K XR (raw__law_ends c__law_useful)) :=
  def_ok hm F sc__law_ends B fun cdv A outer s H E hr =>
     (ss_one (sm_ret (me_lc (own := [("k", 1)]) rfl sc__law_ends.nd (mi_over (me_call D__law_useful hr (by decide) (by rfl) at_def (mas_cons (me_var (i := 0) rfl (.inr (.inl rfl))) mas_nil))) (blkOk_by (by rfl)) (by decide) (fun _ _ _ _ _ => (mg_nm (i := 1) sc__law_ends.nd rfl (.inl rfl) (.inr rfl))) (fun _ _ _ _ _ => (mts_one (mb_cmp (op_eqA hr) om_eq (me_ix hr (me_ix hr (me_var (i := 0) rfl (.inr (.inl rfl))) me_int) (me_var (i := 1) rfl (.inl rfl))) me_int (nomark _)))) (fun _ _ _ _ _ => (me_var (i := 1) rfl (.inl rfl))))))
theorem sc__law_number : FnScope ["state"] ["state"] (defScope (top 32)) := ⟨rfl, rfl, rfl, by decide +kernel, rfl, by decide +kernel, by decide +kernel⟩
def b__law_number (c__law_next : MF) : MSt :=
  (sRet (mOp fIx (mCallP fFrl (msCons (mOp fSub (mCallP c__law_next (msCons (mVar 0) (msCons (mC (.int 121)) msNil))) (mC (.int 60))) (msCons (mOp fSub (mCallP c__law_next (msCons (mVar 0) (msCons (mC (.int 9)) msNil))) (mC (.int 4))) (msCons (mOp fAdd (mOp fPow (mC (.int 10)) (mC (.int 18))) (mCallP c__law_next (msCons (mVar 0) (msCons (mC (.int 99)) msNil)))) msNil)))) (mCallP c__law_next (msCons (mVar 0) (msCons (mC (.int 3)) msNil)))))
abbrev raw__law_number (c__law_next : MF) : MF := mDef 1 1 (b__law_number c__law_next)
theorem w__law_number {c__law_next : MF} {f : Addr} {fd : FuncData} (hm : mg "_law_number" = some (.ref f)) (F : Fun K "_law_number" "_law_number" (top 32) f fd) (B : Binds K fd ["state"] []) (T : Txt mg) (D__law_next : DefOk P w K mg base "_law_next" 2 (spM K XR c__law_next)) : DefOk P w K mg base "_law_number" 3 (spM K XR (raw__law_number c__law_next)) :=
  def_ok hm F sc__law_number B fun cdv A outer s H E hr =>
     (ss_one (sm_ret (me_ix hr (me_frl (mas_cons (me_op op_sub om_sub (me_call D__law_next hr (by decide) (by rfl) at_def (mas_cons (me_var (i := 0) rfl (.inl rfl)) (mas_cons me_int mas_nil))) me_int) (mas_cons (me_op op_sub om_sub (me_call D__law_next hr (by decide) (by rfl) at_def (mas_cons (me_var (i := 0) rfl (.inl rfl)) (mas_cons me_int mas_nil))) me_int) (mas_cons (me_op op_addA om_add (me_op op_pow om_pow me_int me_int) (me_call D__law_next hr (by decide) (by rfl) at_def (mas_cons (me_var (i := 0) rfl (.inl rfl)) (mas_cons me_int mas_nil)))) mas_nil)))) (me_call D__law_next hr (by decide) (by rfl) at_def (mas_cons (me_var (i := 0) rfl (.inl rfl)) (mas_cons me_int mas_nil))))))
theorem sc__law_drawn_ratio : FnScope ["state", "bottom"] ["state"] (defScope (top 33)) := ⟨rfl, rfl, rfl, by decide +kernel, rfl, by decide +kernel, by decide +kernel⟩
def b__law_drawn_ratio (c__law_number : MF) (c__law_ratio : MF) : MSt :=
  (sSeq (sAsg (.nm 1) (mCallP c__law_number (msCons (mVar 0) msNil)))
  (sRet (mCallP c__law_ratio (msCons (mCallP c__law_number (msCons (mVar 0) msNil)) (msCons (mOp fIx (mCallP fFrl (msCons (mVar 1) (msCons (mC (.int 1)) msNil))) (mCallP fInt (msCons (mOp fEq (mVar 1) (mC (.int 0))) msNil))) msNil)))))
abbrev raw__law_drawn_ratio (c__law_number : MF) (c__law_ratio : MF) : MF := mDef 1 2 (b__law_drawn_ratio c__law_number c__law_ratio)
theorem w__law_drawn_ratio {c__law_number : MF} {c__law_ratio : MF} {f : Addr} {fd : FuncData} (hm : mg "_law_drawn_ratio" = some (.ref f)) (F : Fun K "_law_drawn_ratio" "_law_drawn_ratio" (top 33) f fd) (B : Binds K fd ["state"] []) (T : Txt mg) (D__law_number : DefOk P w K mg base "_law_number" 3 (spM K XR c__law_number)) (D__law_ratio : DefOk P w K mg base "_law_ratio" 2 (spM K XR c__law_ratio)) : DefOk P w K mg base "_law_drawn_ratio" 4 (spM K XR (raw__law_drawn_ratio c__law_number c__law_ratio)) :=
  def_ok hm F sc__law_drawn_ratio B fun cdv A outer s H E hr =>
     (ss_cons (sm_set (i := 1) sc__law_drawn_ratio.nd rfl (.inl rfl) (me_call D__law_number hr (by decide) (by rfl) at_def (mas_cons (me_var (i := 0) rfl (.inl rfl)) mas_nil)))
      (ss_one (sm_ret (me_call D__law_ratio hr (by decide) (by rfl) at_def (mas_cons (me_call D__law_number hr (by decide) (by rfl) at_def (mas_cons (me_var (i := 0) rfl (.inl rfl)) mas_nil)) (mas_cons (me_ix hr (me_frl (mas_cons (me_var (i := 1) rfl (.inl rfl)) (mas_cons me_int mas_nil))) (me_callTy cr_int cm_int (by rfl) T.int_ boot_int_ (mas_cons (me_cmp (op_eqA hr) om_eq (me_var (i := 1) rfl (.inl rfl)) me_int (nomark _)) mas_nil))) mas_nil))))))
theorem sc_law : FnScope ["script", "state", "turn", "top", "bottom", "pair", "good", "one", "other", "due", "letters", "machine", "kept", "told", "weights", "log", "more", "letter"] ["script"] (defScope (top 34)) := ⟨rfl, rfl, rfl, by decide +kernel, rfl, by decide +kernel, by decide +kernel⟩
abbrev L1_law (c__law_stream : MF) (c__law_number : MF) (c__law_same : MF) (c__law_ratio : MF) (c_ratio : MF) (c__law_next : MF) (c_is_ratio : MF) (c__law_drawn_ratio : MF) (c__law_below : MF) (c__law_sum : MF) (c_is_less : MF) (c_times : MF) (c_plus : MF) (c__law_letters : MF) (c__law_machine : MF) (c_ends_of : MF) (c_steps_of : MF) (c__law_ends : MF) (c__law_steps : MF) (c__law_log : MF) (c_weight_of : MF) : MSt :=
  (sSeq (sAsg (.nm 6) (mAnd (mOp fGe (mOp fIx (mVar 5) (mC (.int 1))) (mC (.int 1))) (mOp fEq (mCallP c__law_ratio (msCons (mOp fIx (mVar 5) (mC (.int 0))) (msCons (mOp fIx (mVar 5) (mC (.int 1))) msNil))) (mVar 5))))
  (sIf (mbNot (mbE (mCallP c__law_same (msCons (mCallP c_is_ratio (msCons (mVar 5) msNil)) (msCons (mVar 6) msNil)))))
  (sRet (mC (.bl false)))
  sNil))
abbrev L2_law (c__law_stream : MF) (c__law_number : MF) (c__law_same : MF) (c__law_ratio : MF) (c_ratio : MF) (c__law_next : MF) (c_is_ratio : MF) (c__law_drawn_ratio : MF) (c__law_below : MF) (c__law_sum : MF) (c_is_less : MF) (c_times : MF) (c_plus : MF) (c__law_letters : MF) (c__law_machine : MF) (c_ends_of : MF) (c_steps_of : MF) (c__law_ends : MF) (c__law_steps : MF) (c__law_log : MF) (c_weight_of : MF) : MSt :=
  (sSeq (sAsg (.nm 3) (mCallP c__law_number (msCons (mVar 1) msNil)))
  (sSeq (sAsg (.nm 4) (mCallP c__law_number (msCons (mVar 1) msNil)))
  (sSeq (sIf (mbAnd (mbE (mOp fNe (mVar 4) (mC (.int 0)))) (mbNot (mbE (mCallP c__law_same (msCons (mCallP c_ratio (msCons (mVar 3) (msCons (mVar 4) msNil))) (msCons (mCallP c__law_ratio (msCons (mVar 3) (msCons (mVar 4) msNil))) msNil))))))
  (sRet (mC (.bl false)))
  sNil)
  (sSeq (sFor (.nm 5) (mOver (mCallP fFrl (msCons (mCallP fTup (msCons (mVar 3) (msCons (mVar 4) msNil))) (msCons (mCallP fTup (msCons (mOp fSub (mCallP c__law_next (msCons (mVar 1) (msCons (mC (.int 9)) msNil))) (mC (.int 4))) (msCons (mCallP c__law_next (msCons (mVar 1) (msCons (mC (.int 6)) msNil))) msNil))) (msCons (mCallP fTup (msCons (mC (.int 0)) (msCons (mC (.int 1)) msNil))) (msCons (mCallP fTup (msCons (mC (.int 0)) (msCons (mC (.int 2)) msNil))) (msCons (mCallP fTup (msCons (mC (.int 3)) (msCons (mUn fNeg (mC (.int 1))) msNil))) msNil))))))) (L1_law c__law_stream c__law_number c__law_same c__law_ratio c_ratio c__law_next c_is_ratio c__law_drawn_ratio c__law_below c__law_sum c_is_less c_times c_plus c__law_letters c__law_machine c_ends_of c_steps_of c__law_ends c__law_steps c__law_log c_weight_of))
  (sSeq (sAsg (.nm 7) (mCallP c__law_drawn_ratio (msCons (mVar 1) msNil)))
  (sSeq (sAsg (.nm 8) (mCallP c__law_drawn_ratio (msCons (mVar 1) msNil)))
  (sSeq (sAsg (.nm 9) (mCallP fFrl (msCons (mCallP c__law_sum (msCons (mCallP fFrl (msCons (mVar 7) (msCons (mVar 8) msNil))) msNil)) (msCons (mCallP c__law_ratio (msCons (mOp fMul (mOp fIx (mVar 7) (mC (.int 0))) (mOp fIx (mVar 8) (mC (.int 0)))) (msCons (mOp fMul (mOp fIx (mVar 7) (mC (.int 1))) (mOp fIx (mVar 8) (mC (.int 1)))) msNil))) (msCons (mCallP c__law_below (msCons (mVar 7) (msCons (mVar 8) msNil))) msNil)))))
  (sIf (mbNot (mbE (mCallP c__law_same (msCons (mCallP fFrl (msCons (mCallP c_plus (msCons (mVar 7) (msCons (mVar 8) msNil))) (msCons (mCallP c_times (msCons (mVar 7) (msCons (mVar 8) msNil))) (msCons (mCallP c_is_less (msCons (mVar 7) (msCons (mVar 8) msNil))) msNil)))) (msCons (mVar 9) msNil)))))
  (sRet (mC (.bl false)))
  sNil))))))))
abbrev L3_law (c__law_stream : MF) (c__law_number : MF) (c__law_same : MF) (c__law_ratio : MF) (c_ratio : MF) (c__law_next : MF) (c_is_ratio : MF) (c__law_drawn_ratio : MF) (c__law_below : MF) (c__law_sum : MF) (c_is_less : MF) (c_times : MF) (c_plus : MF) (c__law_letters : MF) (c__law_machine : MF) (c_ends_of : MF) (c_steps_of : MF) (c__law_ends : MF) (c__law_steps : MF) (c__law_log : MF) (c_weight_of : MF) : MSt :=
  (sSeq (sAsg (.nm 10) (mCallP c__law_letters (msCons (mVar 1) msNil)))
  (sSeq (sAsg (.nm 11) (mCallP c__law_machine (msCons (mVar 1) (msCons (mVar 10) (msCons (mOp fIx (mCallP fFrl (msCons (mC (.int 6)) (msCons (mC (.int 6)) (msCons (mC (.int 6)) (msCons (mC (.int 30)) msNil))))) (mVar 2)) msNil)))))
  (sSeq (sAsg (.nm 12) (mCallP fRepr (msCons (mVar 11) msNil)))
  (sSeq (sAsg (.nm 13) (mCallP fFrl (msCons (mCallP c_steps_of (msCons (mVar 11) msNil)) (msCons (mCallP c_ends_of (msCons (mVar 11) msNil)) msNil))))
  (sSeq (sIf (mbNot (mbE (mCallP c__law_same (msCons (mVar 13) (msCons (mCallP fFrl (msCons (mCallP c__law_steps (msCons (mVar 11) msNil)) (msCons (mCallP c__law_ends (msCons (mVar 11) msNil)) msNil))) msNil)))))
  (sRet (mC (.bl false)))
  sNil)
  (sSeq (sExpr (mMeth isL fAppend (mOp fIx (mVar 13) (mC (.int 0))) (msCons (mCallP fTup (msCons (mC (.int 0)) (msCons (mC (.str "zz")) msNil))) msNil)))
  (sSeq (sExpr (mMeth isL fAppend (mOp fIx (mVar 13) (mC (.int 1))) (msCons (mC (.int 99)) msNil)))
  (sSeq (sIf (mbOr (mbNot (mbE (mCallP c__law_same (msCons (mCallP fFrl (msCons (mCallP c_steps_of (msCons (mVar 11) msNil)) (msCons (mCallP c_ends_of (msCons (mVar 11) msNil)) msNil))) (msCons (mCallP fFrl (msCons (mCallP c__law_steps (msCons (mVar 11) msNil)) (msCons (mCallP c__law_ends (msCons (mVar 11) msNil)) msNil))) msNil))))) (mbE (mOp fNe (mCallP fRepr (msCons (mVar 11) msNil)) (mVar 12))))
  (sRet (mC (.bl false)))
  sNil)
  (sSeq (sAsg (.nm 14) (mCallP fTuple (msCons (mLc [17] (mOver (mVar 10)) (.nm 17) mbYes (mCallP c__law_drawn_ratio (msCons (mVar 1) msNil))) msNil)))
  (sSeq (sAsg (.nm 15) (mCallP c__law_log (msCons (mVar 1) (msCons (mVar 10) (msCons (mCallP c__law_next (msCons (mVar 1) (msCons (mC (.int 9)) msNil))) msNil)))))
  (sSeq (sAsg (.nm 16) (mCallP c__law_log (msCons (mVar 1) (msCons (mVar 10) (msCons (mCallP c__law_next (msCons (mVar 1) (msCons (mC (.int 5)) msNil))) msNil)))))
  (sSeq (sAsg (.nm 9) (mCallP c__law_sum (msCons (mLc [17] (mOver (mVar 15)) (.nm 17) mbYes (mOp fIx (mVar 14) (mMeth (fun v _ => isCtp v) fIndexT (mVar 10) (msCons (mVar 17) msNil)))) msNil)))
  (sIf (mbOr (mbNot (mbE (mCallP c__law_same (msCons (mCallP c_weight_of (msCons (mVar 10) (msCons (mVar 14) (msCons (mVar 15) msNil)))) (msCons (mVar 9) msNil))))) (mbE (mOp fNe (mCallP c_plus (msCons (mVar 9) (msCons (mCallP c_weight_of (msCons (mVar 10) (msCons (mVar 14) (msCons (mVar 16) msNil)))) msNil))) (mCallP c_weight_of (msCons (mVar 10) (msCons (mVar 14) (msCons (mOp fAdd (mVar 15) (mVar 16)) msNil)))))))
  (sRet (mC (.bl false)))
  sNil)))))))))))))
def b_law (c__law_stream : MF) (c__law_number : MF) (c__law_same : MF) (c__law_ratio : MF) (c_ratio : MF) (c__law_next : MF) (c_is_ratio : MF) (c__law_drawn_ratio : MF) (c__law_below : MF) (c__law_sum : MF) (c_is_less : MF) (c_times : MF) (c_plus : MF) (c__law_letters : MF) (c__law_machine : MF) (c_ends_of : MF) (c_steps_of : MF) (c__law_ends : MF) (c__law_steps : MF) (c__law_log : MF) (c_weight_of : MF) : MSt :=
  (sSeq (sAsg (.nm 1) (mCallP fLst (msCons (mCallP c__law_stream (msCons (mVar 0) msNil)) (msCons (mC (.int 0)) msNil))))
  (sSeq (sFor (.nm 2) (mRange1 (mC (.int 20))) (L2_law c__law_stream c__law_number c__law_same c__law_ratio c_ratio c__law_next c_is_ratio c__law_drawn_ratio c__law_below c__law_sum c_is_less c_times c_plus c__law_letters c__law_machine c_ends_of c_steps_of c__law_ends c__law_steps c__law_log c_weight_of))
  (sSeq (sFor (.nm 2) (mRange1 (mC (.int 4))) (L3_law c__law_stream c__law_number c__law_same c__law_ratio c_ratio c__law_next c_is_ratio c__law_drawn_ratio c__law_below c__law_sum c_is_less c_times c_plus c__law_letters c__law_machine c_ends_of c_steps_of c__law_ends c__law_steps c__law_log c_weight_of))
  (sRet (mCallP c__law_same (msCons (mCallP c_ratio (msCons (mC (.int 6)) (msCons (mUn fNeg (mC (.int 4))) msNil))) (msCons (mCallP fTup (msCons (mUn fNeg (mC (.int 3))) (msCons (mC (.int 2)) msNil))) msNil)))))))
abbrev raw_law (c__law_stream : MF) (c__law_number : MF) (c__law_same : MF) (c__law_ratio : MF) (c_ratio : MF) (c__law_next : MF) (c_is_ratio : MF) (c__law_drawn_ratio : MF) (c__law_below : MF) (c__law_sum : MF) (c_is_less : MF) (c_times : MF) (c_plus : MF) (c__law_letters : MF) (c__law_machine : MF) (c_ends_of : MF) (c_steps_of : MF) (c__law_ends : MF) (c__law_steps : MF) (c__law_log : MF) (c_weight_of : MF) : MF := mDef 1 18 (b_law c__law_stream c__law_number c__law_same c__law_ratio c_ratio c__law_next c_is_ratio c__law_drawn_ratio c__law_below c__law_sum c_is_less c_times c_plus c__law_letters c__law_machine c_ends_of c_steps_of c__law_ends c__law_steps c__law_log c_weight_of)
theorem wf_law {c__law_stream : MF} {c__law_number : MF} {c__law_same : MF} {c__law_ratio : MF} {c_ratio : MF} {c__law_next : MF} {c_is_ratio : MF} {c__law_drawn_ratio : MF} {c__law_below : MF} {c__law_sum : MF} {c_is_less : MF} {c_times : MF} {c_plus : MF} {c__law_letters : MF} {c__law_machine : MF} {c_ends_of : MF} {c_steps_of : MF} {c__law_ends : MF} {c__law_steps : MF} {c__law_log : MF} {c_weight_of : MF} {f : Addr} {fd : FuncData} (F : Fun K "law" "law" (top 34) f fd) (T : Txt mg) (D__law_stream : DefOk P w K mg base "_law_stream" 2 (spM K XR c__law_stream)) (D__law_number : DefOk P w K mg base "_law_number" 3 (spM K XR c__law_number)) (D__law_same : DefOk P w K mg base "_law_same" 2 (spM K XR c__law_same)) (D__law_ratio : DefOk P w K mg base "_law_ratio" 2 (spM K XR c__law_ratio)) (D_ratio : DefOk P w K mg base "ratio" 3 (spM K XR c_ratio)) (D__law_next : DefOk P w K mg base "_law_next" 2 (spM K XR c__law_next)) (D_is_ratio : DefOk P w K mg base "is_ratio" 4 (spM K XR c_is_ratio)) (D__law_drawn_ratio : DefOk P w K mg base "_law_drawn_ratio" 4 (spM K XR c__law_drawn_ratio)) (D__law_below : DefOk P w K mg base "_law_below" 2 (spM K XR c__law_below)) (D__law_sum : DefOk P w K mg base "_law_sum" 3 (spM K XR c__law_sum)) (D_is_less : DefOk P w K mg base "is_less" 2 (spM K XR c_is_less)) (D_times : DefOk P w K mg base "times" 4 (spM K XR c_times)) (D_plus : DefOk P w K mg base "plus" 4 (spM K XR c_plus)) (D__law_letters : DefOk P w K mg base "_law_letters" 3 (spM K XR c__law_letters)) (D__law_machine : DefOk P w K mg base "_law_machine" 3 (spM K XR c__law_machine)) (D_ends_of : DefOk P w K mg base "ends_of" 5 (spM K XR c_ends_of)) (D_steps_of : DefOk P w K mg base "steps_of" 5 (spM K XR c_steps_of)) (D__law_ends : DefOk P w K mg base "_law_ends" 4 (spM K XR c__law_ends)) (D__law_steps : DefOk P w K mg base "_law_steps" 4 (spM K XR c__law_steps)) (D__law_log : DefOk P w K mg base "_law_log" 3 (spM K XR c__law_log)) (D_weight_of : DefOk P w K mg base "weight_of" 5 (spM K XR c_weight_of)) : FnG P w K mg base 6 f fd ["script"] (spM K XR (raw_law c__law_stream c__law_number c__law_same c__law_ratio c_ratio c__law_next c_is_ratio c__law_drawn_ratio c__law_below c__law_sum c_is_less c_times c_plus c__law_letters c__law_machine c_ends_of c_steps_of c__law_ends c__law_steps c__law_log c_weight_of)) :=
  def_fnG F sc_law fun cdv A outer s H E hr =>
     (ss_cons (sm_set (i := 1) sc_law.nd rfl (.inr rfl) (me_lst (mas_cons (me_call D__law_stream hr (by decide) (by rfl) at_def (mas_cons (me_var (i := 0) rfl (.inl rfl)) mas_nil)) (mas_cons me_int mas_nil))))
      (ss_cons (sm_for own_def rfl (mi_range1 (by rfl) T.range_ me_int) (mg_nm (i := 2) sc_law.nd rfl (.inl rfl) (.inr rfl))
      (ss_cons (sm_set (i := 3) sc_law.nd rfl (.inl rfl) (me_call D__law_number hr (by decide) (by rfl) at_def (mas_cons (me_var (i := 1) rfl (.inr (.inl rfl))) mas_nil)))
      (ss_cons (sm_set (i := 4) sc_law.nd rfl (.inl rfl) (me_call D__law_number hr (by decide) (by rfl) at_def (mas_cons (me_var (i := 1) rfl (.inr (.inl rfl))) mas_nil)))
      (ss_cons (sm_if (mb_w (mw_and (mb_cmp (op_neA hr) om_ne (me_var (i := 4) rfl (.inl rfl)) me_int (nomark _)) (mw_and1 (mb_not (mb_val (me_call D__law_same hr (by decide) (by rfl) at_def (mas_cons (me_call D_ratio hr (by decide) (by rfl) at_def (mas_cons (me_var (i := 3) rfl (.inl rfl)) (mas_cons (me_var (i := 4) rfl (.inl rfl)) mas_nil))) (mas_cons (me_call D__law_ratio hr (by decide) (by rfl) at_def (mas_cons (me_var (i := 3) rfl (.inl rfl)) (mas_cons (me_var (i := 4) rfl (.inl rfl)) mas_nil))) mas_nil))))))))
      (ss_one (sm_ret me_bl))
      ss_nil)
      (ss_cons (sm_for own_def rfl (mi_over (me_frl (mas_cons (me_tup (mas_cons (me_var (i := 3) rfl (.inl rfl)) (mas_cons (me_var (i := 4) rfl (.inl rfl)) mas_nil))) (mas_cons (me_tup (mas_cons (me_op op_sub om_sub (me_call D__law_next hr (by decide) (by rfl) at_def (mas_cons (me_var (i := 1) rfl (.inr (.inl rfl))) (mas_cons me_int mas_nil))) me_int) (mas_cons (me_call D__law_next hr (by decide) (by rfl) at_def (mas_cons (me_var (i := 1) rfl (.inr (.inl rfl))) (mas_cons me_int mas_nil))) mas_nil))) (mas_cons (me_tup (mas_cons me_int (mas_cons me_int mas_nil))) (mas_cons (me_tup (mas_cons me_int (mas_cons me_int mas_nil))) (mas_cons (me_tup (mas_cons me_int (mas_cons (me_un un_neg um_neg me_int) mas_nil))) mas_nil))))))) (mg_nm (i := 5) sc_law.nd rfl (.inl rfl) (.inr rfl))
      (ss_cons (sm_set (i := 6) sc_law.nd rfl (.inl rfl) (me_and (me_cmp op_ge om_ge (me_ix hr (me_var (i := 5) rfl (.inl rfl)) me_int) me_int (nomark _)) (me_one (me_cmp (op_eqA hr) om_eq (me_call D__law_ratio hr (by decide) (by rfl) at_def (mas_cons (me_ix hr (me_var (i := 5) rfl (.inl rfl)) me_int) (mas_cons (me_ix hr (me_var (i := 5) rfl (.inl rfl)) me_int) mas_nil))) (me_var (i := 5) rfl (.inl rfl)) (nomark _)))))
      (ss_one (sm_if (mb_not (mb_val (me_call D__law_same hr (by decide) (by rfl) at_def (mas_cons (me_call D_is_ratio hr (by decide) (by rfl) at_def (mas_cons (me_var (i := 5) rfl (.inl rfl)) mas_nil)) (mas_cons (me_var (i := 6) rfl (.inl rfl)) mas_nil)))))
      (ss_one (sm_ret me_bl))
      ss_nil))))
      (ss_cons (sm_set (i := 7) sc_law.nd rfl (.inl rfl) (me_call D__law_drawn_ratio hr (by decide) (by rfl) at_def (mas_cons (me_var (i := 1) rfl (.inr (.inl rfl))) mas_nil)))
      (ss_cons (sm_set (i := 8) sc_law.nd rfl (.inl rfl) (me_call D__law_drawn_ratio hr (by decide) (by rfl) at_def (mas_cons (me_var (i := 1) rfl (.inr (.inl rfl))) mas_nil)))
      (ss_cons (sm_set (i := 9) sc_law.nd rfl (.inl rfl) (me_frl (mas_cons (me_call D__law_sum hr (by decide) (by rfl) at_def (mas_cons (me_frl (mas_cons (me_var (i := 7) rfl (.inl rfl)) (mas_cons (me_var (i := 8) rfl (.inl rfl)) mas_nil))) mas_nil)) (mas_cons (me_call D__law_ratio hr (by decide) (by rfl) at_def (mas_cons (me_op op_mulW om_mul (me_ix hr (me_var (i := 7) rfl (.inl rfl)) me_int) (me_ix hr (me_var (i := 8) rfl (.inl rfl)) me_int)) (mas_cons (me_op op_mulW om_mul (me_ix hr (me_var (i := 7) rfl (.inl rfl)) me_int) (me_ix hr (me_var (i := 8) rfl (.inl rfl)) me_int)) mas_nil))) (mas_cons (me_call D__law_below hr (by decide) (by rfl) at_def (mas_cons (me_var (i := 7) rfl (.inl rfl)) (mas_cons (me_var (i := 8) rfl (.inl rfl)) mas_nil))) mas_nil)))))
      (ss_one (sm_if (mb_not (mb_val (me_call D__law_same hr (by decide) (by rfl) at_def (mas_cons (me_frl (mas_cons (me_call D_plus hr (by decide) (by rfl) at_def (mas_cons (me_var (i := 7) rfl (.inl rfl)) (mas_cons (me_var (i := 8) rfl (.inl rfl)) mas_nil))) (mas_cons (me_call D_times hr (by decide) (by rfl) at_def (mas_cons (me_var (i := 7) rfl (.inl rfl)) (mas_cons (me_var (i := 8) rfl (.inl rfl)) mas_nil))) (mas_cons (me_call D_is_less hr (by decide) (by rfl) at_def (mas_cons (me_var (i := 7) rfl (.inl rfl)) (mas_cons (me_var (i := 8) rfl (.inl rfl)) mas_nil))) mas_nil)))) (mas_cons (me_var (i := 9) rfl (.inl rfl)) mas_nil)))))
      (ss_one (sm_ret me_bl))
      ss_nil))))))))))
      (ss_cons (sm_for own_def rfl (mi_range1 (by rfl) T.range_ me_int) (mg_nm (i := 2) sc_law.nd rfl (.inl rfl) (.inr rfl))
      (ss_cons (sm_set (i := 10) sc_law.nd rfl (.inr rfl) (me_call D__law_letters hr (by decide) (by rfl) at_def (mas_cons (me_var (i := 1) rfl (.inr (.inl rfl))) mas_nil)))
      (ss_cons (sm_set (i := 11) sc_law.nd rfl (.inl rfl) (me_call D__law_machine hr (by decide) (by rfl) at_def (mas_cons (me_var (i := 1) rfl (.inr (.inl rfl))) (mas_cons (me_var (i := 10) rfl (.inr (.inl rfl))) (mas_cons (me_ix hr (me_frl (mas_cons me_int (mas_cons me_int (mas_cons me_int (mas_cons me_int mas_nil))))) (me_var (i := 2) rfl (.inl rfl))) mas_nil)))))
      (ss_cons (sm_set (i := 12) sc_law.nd rfl (.inl rfl) (me_callB (cr_repr hr) cm_repr (by rfl) T.repr_ boot_repr_ (mas_cons (me_var (i := 11) rfl (.inl rfl)) mas_nil)))
      (ss_cons (sm_set (i := 13) sc_law.nd rfl (.inl rfl) (me_frl (mas_cons (me_call D_steps_of hr (by decide) (by rfl) at_def (mas_cons (me_var (i := 11) rfl (.inl rfl)) mas_nil)) (mas_cons (me_call D_ends_of hr (by decide) (by rfl) at_def (mas_cons (me_var (i := 11) rfl (.inl rfl)) mas_nil)) mas_nil))))
      (ss_cons (sm_if (mb_not (mb_val (me_call D__law_same hr (by decide) (by rfl) at_def (mas_cons (me_var (i := 13) rfl (.inl rfl)) (mas_cons (me_frl (mas_cons (me_call D__law_steps hr (by decide) (by rfl) at_def (mas_cons (me_var (i := 11) rfl (.inl rfl)) mas_nil)) (mas_cons (me_call D__law_ends hr (by decide) (by rfl) at_def (mas_cons (me_var (i := 11) rfl (.inl rfl)) mas_nil)) mas_nil))) mas_nil)))))
      (ss_one (sm_ret me_bl))
      ss_nil)
      (ss_cons (sm_expr (me_bm om_append isL_ty (pe_bm PySem.F.plainAttrs_list PySem.F.slot_list_append PySem.F.type_list_append mt_append (me_ix hr (me_var (i := 13) rfl (.inl rfl)) me_int) (mas_cons (me_tup (mas_cons me_int (mas_cons me_str mas_nil))) mas_nil))))
      (ss_cons (sm_expr (me_bm om_append isL_ty (pe_bm PySem.F.plainAttrs_list PySem.F.slot_list_append PySem.F.type_list_append mt_append (me_ix hr (me_var (i := 13) rfl (.inl rfl)) me_int) (mas_cons me_int mas_nil))))
      (ss_cons (sm_if (mb_w (mw_or (mb_not (mb_val (me_call D__law_same hr (by decide) (by rfl) at_def (mas_cons (me_frl (mas_cons (me_call D_steps_of hr (by decide) (by rfl) at_def (mas_cons (me_var (i := 11) rfl (.inl rfl)) mas_nil)) (mas_cons (me_call D_ends_of hr (by decide) (by rfl) at_def (mas_cons (me_var (i := 11) rfl (.inl rfl)) mas_nil)) mas_nil))) (mas_cons (me_frl (mas_cons (me_call D__law_steps hr (by decide) (by rfl) at_def (mas_cons (me_var (i := 11) rfl (.inl rfl)) mas_nil)) (mas_cons (me_call D__law_ends hr (by decide) (by rfl) at_def (mas_cons (me_var (i := 11) rfl (.inl rfl)) mas_nil)) mas_nil))) mas_nil))))) (mw_or1 (mb_cmp (op_neA hr) om_ne (me_callB (cr_repr hr) cm_repr (by rfl) T.repr_ boot_repr_ (mas_cons (me_var (i := 11) rfl (.inl rfl)) mas_nil)) (me_var (i := 12) rfl (.inl rfl)) (nomark _)))))
      (ss_one (sm_ret me_bl))
      ss_nil)
      (ss_cons (sm_set (i := 14) sc_law.nd rfl (.inr rfl) (me_callTy call_tuple_of cm_tuple (by rfl) T.tuple_ boot_tuple_ (mas_cons (me_lc (own := [("letter", 17)]) rfl sc_law.nd (mi_over (me_var (i := 10) rfl (.inr (.inl rfl)))) (blkOk_by (by rfl)) (by decide) (fun _ _ _ _ _ => (mg_nm (i := 17) sc_law.nd rfl (.inl rfl) (.inr rfl))) (fun _ _ _ _ _ => mts_nil) (fun _ _ _ _ _ => (me_call D__law_drawn_ratio hr (by decide) (by rfl) at_blk (mas_cons (me_var (i := 1) rfl (.inr (.inl rfl))) mas_nil)))) mas_nil)))
      (ss_cons (sm_set (i := 15) sc_law.nd rfl (.inl rfl) (me_call D__law_log hr (by decide) (by rfl) at_def (mas_cons (me_var (i := 1) rfl (.inr (.inl rfl))) (mas_cons (me_var (i := 10) rfl (.inr (.inl rfl))) (mas_cons (me_call D__law_next hr (by decide) (by rfl) at_def (mas_cons (me_var (i := 1) rfl (.inr (.inl rfl))) (mas_cons me_int mas_nil))) mas_nil)))))
      (ss_cons (sm_set (i := 16) sc_law.nd rfl (.inl rfl) (me_call D__law_log hr (by decide) (by rfl) at_def (mas_cons (me_var (i := 1) rfl (.inr (.inl rfl))) (mas_cons (me_var (i := 10) rfl (.inr (.inl rfl))) (mas_cons (me_call D__law_next hr (by decide) (by rfl) at_def (mas_cons (me_var (i := 1) rfl (.inr (.inl rfl))) (mas_cons me_int mas_nil))) mas_nil)))))
      (ss_cons (sm_set (i := 9) sc_law.nd rfl (.inl rfl) (me_call D__law_sum hr (by decide) (by rfl) at_def (mas_cons (me_lc (own := [("letter", 17)]) rfl sc_law.nd (mi_over (me_var (i := 15) rfl (.inl rfl))) (blkOk_by (by rfl)) (by decide) (fun _ _ _ _ _ => (mg_nm (i := 17) sc_law.nd rfl (.inl rfl) (.inr rfl))) (fun _ _ _ _ _ => mts_nil) (fun _ _ _ _ _ => (me_ix hr (me_var (i := 14) rfl (.inr (.inl rfl))) (me_indexT (me_var (i := 10) rfl (.inr (.inl rfl))) (mas_cons (me_var (i := 17) rfl (.inl rfl)) mas_nil))))) mas_nil)))
      (ss_one (sm_if (mb_w (mw_or (mb_not (mb_val (me_call D__law_same hr (by decide) (by rfl) at_def (mas_cons (me_call D_weight_of hr (by decide) (by rfl) at_def (mas_cons (me_var (i := 10) rfl (.inr (.inl rfl))) (mas_cons (me_var (i := 14) rfl (.inr (.inl rfl))) (mas_cons (me_var (i := 15) rfl (.inl rfl)) mas_nil)))) (mas_cons (me_var (i := 9) rfl (.inl rfl)) mas_nil))))) (mw_or1 (mb_cmp (op_neA hr) om_ne (me_call D_plus hr (by decide) (by rfl) at_def (mas_cons (me_var (i := 9) rfl (.inl rfl)) (mas_cons (me_call D_weight_of hr (by decide) (by rfl) at_def (mas_cons (me_var (i := 10) rfl (.inr (.inl rfl))) (mas_cons (me_var (i := 14) rfl (.inr (.inl rfl))) (mas_cons (me_var (i := 16) rfl (.inl rfl)) mas_nil)))) mas_nil))) (me_call D_weight_of hr (by decide) (by rfl) at_def (mas_cons (me_var (i := 10) rfl (.inr (.inl rfl))) (mas_cons (me_var (i := 14) rfl (.inr (.inl rfl))) (mas_cons (me_op op_addA om_add (me_var (i := 15) rfl (.inl rfl)) (me_var (i := 16) rfl (.inl rfl))) mas_nil)))) (nomark _)))))
      (ss_one (sm_ret me_bl))
      ss_nil)))))))))))))))
      (ss_one (sm_ret (me_call D__law_same hr (by decide) (by rfl) at_def (mas_cons (me_call D_ratio hr (by decide) (by rfl) at_def (mas_cons me_int (mas_cons (me_un un_neg um_neg me_int) mas_nil))) (mas_cons (me_tup (mas_cons (me_un un_neg um_neg me_int) (mas_cons me_int mas_nil))) mas_nil))))))))
end K30

namespace K30
open PySem PySem.Spec PyProof.Rows L2 Mini
/-! ### ratios -/
theorem fmod_small {a b : Int} (h : b ≠ 0) : (a.fmod b).natAbs < b.natAbs := by
  rcases Int.lt_trichotomy b 0 with hb | hb | hb
  · have h1 := Int.neg_fmod_neg (a := -a) (b := -b)
    rw [Int.neg_neg, Int.neg_neg] at h1
    have h2 := Int.fmod_nonneg_of_pos (-a) (b := -b) (by omega)
    have h3 := Int.fmod_lt_of_pos (-a) (b := -b) (by omega)
    rw [h1]
    omega
  · exact absurd hb h
  · have h2 := Int.fmod_nonneg_of_pos a hb
    have h3 := Int.fmod_lt_of_pos a hb
    omega
theorem gcd_fmod (a b : Int) : Int.gcd b (a.fmod b) = Int.gcd a b := by
  rw [Int.fmod_def, Int.sub_eq_add_neg, ← Int.mul_neg, Int.mul_comm b, Int.gcd_add_mul_right_right, Int.gcd_comm]
def LawGcd (c : MF) : Prop := ∀ (a b : Int) (μ : MH), Sz 8000 a → Sz 8000 b → c [.int a, .int b] μ = .ok (.int ((Int.gcd a b : Nat) : Int)) μ
theorem law_common_part : LawGcd (cleanF raw_common_part) := by
  intro a b μ ha hb
  have loop : ∀ (n : Nat) (a b : Int), b.natAbs < n → ∃ g : Int, whileGo (mbE (mOp fNe (mVar 1) (mC (.int 0)))) (sPar 0 1 (msCons (mVar 1) (msCons (mOp fMod (mVar 0) (mVar 1)) msNil))) n [some (.int a), some (.int b)] μ = .nx [some (.int g), some (.int 0)] μ ∧ g.natAbs = Int.gcd a b := by
    intro n
    induction n with
    | zero => intro a b h; omega
    | succ n ih =>
      intro a b h
      unfold whileGo
      by_cases h0 : b = 0
      · subst h0
        refine ⟨a, by simp, by simp⟩
      · obtain ⟨g, e, eg⟩ := ih b (a.fmod b) (by have := fmod_small (a := a) h0; omega)
        refine ⟨g, ?_, by rw [eg, gcd_fmod]⟩
        simp [h0, fMod_ok h0, e]
  obtain ⟨g, e, eg⟩ := loop bigN a b (pow_bigN hb (by decide))
  unfold cleanF
  have : raw_common_part [.int a, .int b] μ = .ok (.int ((Int.gcd a b : Nat) : Int)) μ := by
    unfold raw_common_part mDef b_common_part sWhile
    simp [e]
    rw [← eg]
    split <;> omega
  rw [this]
  exact cl_self (by simp [PV.lo])
def PQ (q : Rat) : PV := .tup [.int q.num, .int (q.den : Nat)]
def LawRatio (c : MF) : Prop := ∀ (t b : Int) (μ : MH), b ≠ 0 → Sz 8000 t → Sz 8000 b → c [.int t, .int b] μ = .ok (PQ (Rat.divInt t b)) μ
theorem lo_PQ (q : Rat) (n : Nat) : (PQ q).lo n = true := by unfold PQ; simp [PV.lo, PV.los]
theorem sz_gcd {t b : Int} (h : b ≠ 0) (hb : Sz 8000 b) : 0 < ((Int.gcd t b : Nat) : Int) ∧ ((Int.gcd t b : Nat) : Int).natAbs.log2 < 9000 := by
  have h1 : 0 < Int.gcd t b := Int.gcd_pos_of_ne_zero_right _ h
  refine ⟨by omega, ?_⟩
  rw [Int.natAbs_natCast]
  have h2 : Int.gcd t b ≤ b.natAbs := Int.gcd_le_natAbs_right _ h
  have : Sz 8000 ((Int.gcd t b : Nat) : Int) := by unfold Sz at *; rw [Int.natAbs_natCast]; omega
  have := this.log (by decide)
  rw [Int.natAbs_natCast] at this
  omega
theorem pq_eq {t b : Int} (h : b ≠ 0) : PQ (Rat.divInt t b) = .tup [.int ((if 0 < b then 1 else -1) * t / (Int.gcd t b : Nat)), .int ((if 0 < b then 1 else -1) * b / (Int.gcd t b : Nat))] := by
  unfold PQ
  rw [Rat.num_divInt, Rat.den_divInt, if_neg h, Int.gcd_comm b t]
  have e : b.sign = if 0 < b then 1 else -1 := by
    split
    · rename_i hp; exact Int.sign_eq_one_of_pos hp
    · exact Int.sign_eq_neg_one_of_neg (by omega)
  rw [e]
  have e2 : (if 0 < b then 1 else -1) * b = ((b.natAbs : Nat) : Int) := by split <;> omega
  rw [e2, Int.natCast_ediv]
theorem sz_sign (p : Prop) [Decidable p] : Sz 1 (if p then (1 : Int) else -1) := by unfold Sz; split <;> decide
theorem law_ratio {g : MF} (hg : LawGcd g) : LawRatio (cleanF (raw_ratio g)) := by
  intro t b μ h ht hb
  have e : raw_ratio g [.int t, .int b] μ = .ok (PQ (Rat.divInt t b)) μ := by
    unfold raw_ratio mDef b_ratio
    simp [hg t b μ ht hb]
    by_cases hp : 0 < b
    · have m1 := (sz_sign (0 < b)).okMul ht (by decide) (by decide) (by decide)
      have m2 := (sz_sign (0 < b)).okMul hb (by decide) (by decide) (by decide)
      rw [if_pos hp] at m1 m2
      simp [hp, fMul_ok m1, fMul_ok m2, fFdiv_ok (sz_gcd (t := t) h hb), pq_eq h]
    · have m1 := (sz_sign (0 < b)).okMul ht (by decide) (by decide) (by decide)
      have m2 := (sz_sign (0 < b)).okMul hb (by decide) (by decide) (by decide)
      rw [if_neg hp] at m1 m2
      simp [hp, fMul_ok m1, fMul_ok m2, fFdiv_ok (sz_gcd (t := t) h hb), pq_eq h]
  unfold cleanF
  rw [e]
  exact cl_self (lo_PQ _ _)
theorem law__law_ratio : LawRatio (cleanF raw__law_ratio) := by
  intro t b μ h ht hb
  have loop : ∀ (n : Nat) (x y : Int) (a1 a2 a3 : Option PV), 0 ≤ x → 0 ≤ y → y.natAbs < n → whileGo (mbE (mOp fGt (mVar 3) (mC (.int 0)))) (sPar 2 3 (msCons (mVar 3) (msCons (mOp fMod (mCallP fInt (msCons (mVar 2) msNil)) (mVar 3)) msNil))) n [a1, a2, some (.int x), some (.int y), a3] μ = .nx [a1, a2, some (.int (Int.gcd x y : Nat)), some (.int 0), a3] μ := by
    intro n
    induction n with
    | zero => intro x y _ _ _ _ _ h; omega
    | succ n ih =>
      intro x y a1 a2 a3 hx hy h
      unfold whileGo
      by_cases h0 : y = 0
      · subst h0
        simp
        omega
      · have hp : 0 < y := by omega
        have := ih y (x.fmod y) a1 a2 a3 hy (Int.fmod_nonneg_of_pos _ hp) (by have := fmod_small (a := x) h0; omega)
        rw [gcd_fmod] at this
        simp [hp, fMod_ok h0, this]
  have e : raw__law_ratio [.int t, .int b] μ = .ok (PQ (Rat.divInt t b)) μ := by
    have et : (if t < -t then -t else t) = (t.natAbs : Int) := by split <;> omega
    have eb : (if b < -b then -b else b) = (b.natAbs : Int) := by split <;> omega
    have l := loop bigN (t.natAbs : Int) (b.natAbs : Int) (some (.int t)) (some (.int b)) none (by omega) (by omega) (by rw [Int.natAbs_natCast]; exact pow_bigN hb (by decide))
    have eg : Int.gcd (t.natAbs : Int) (b.natAbs : Int) = Int.gcd t b := by rw [Int.gcd_natCast_natCast, Int.gcd_eq_natAbs_gcd_natAbs]
    rw [eg] at l
    unfold raw__law_ratio mDef b__law_ratio sWhile
    have m1 := (sz_sign (0 < b)).okMul ht (by decide) (by decide) (by decide)
    have m2 := (sz_sign (0 < b)).okMul hb (by decide) (by decide) (by decide)
    by_cases hp : 0 < b
    · have hn : ¬ b < 0 := by omega
      rw [if_pos hp] at m1 m2
      simp [et, eb, l, hn, atI, ixN, hp, fMul_ok m1, fMul_ok m2, fFdiv_ok (sz_gcd (t := t) h hb), pq_eq h]
    · have hn : b < 0 := by omega
      rw [if_neg hp] at m1 m2
      simp [et, eb, l, hn, atI, ixN, hp, fMul_ok m1, fMul_ok m2, fFdiv_ok (sz_gcd (t := t) h hb), pq_eq h]
  unfold cleanF
  rw [e]
  exact cl_self (lo_PQ _ _)
/-! ### sums, products -/
def QV (v : PV) (q : Rat) : Prop := v = PQ q ∨ v = .ctp [.int q.num, .int (q.den : Nat)]
def Qz (k : Nat) (q : Rat) : Prop := Sz k q.num ∧ q.den < 2 ^ k
theorem Qz.mono {k m : Nat} {q : Rat} (h : Qz k q) (hm : k ≤ m) : Qz m q := ⟨h.1.mono hm, Nat.lt_of_lt_of_le h.2 (Nat.pow_le_pow_right (by decide) hm)⟩
theorem Qz.den {k : Nat} {q : Rat} (h : Qz k q) : Sz k (q.den : Nat) := by unfold Sz; rw [Int.natAbs_natCast]; exact h.2
theorem den_ne (q : Rat) : ((q.den : Nat) : Int) ≠ 0 := by have := q.den_nz; omega
theorem qz_div {k : Nat} {t b : Int} (h : b ≠ 0) (ht : Sz k t) (hb : Sz k b) : Qz k (Rat.divInt t b) := by
  constructor
  · unfold Sz at *
    rw [Rat.num_divInt]
    have h1 : (b.sign * t / ((b.gcd t : Nat) : Int)).natAbs ≤ (b.sign * t).natAbs := by
      have := Int.natAbs_ediv_le_natAbs (b.sign * t) ((b.gcd t : Nat) : Int)
      exact this
    rw [Int.natAbs_mul, Int.natAbs_sign, if_neg h, Nat.one_mul] at h1
    omega
  · rw [Rat.den_divInt, if_neg h]
    exact Nat.lt_of_le_of_lt (Nat.div_le_self _ _) hb
theorem add_eq (p q : Rat) : Rat.divInt (p.num * (q.den : Nat) + q.num * (p.den : Nat)) ((p.den : Nat) * (q.den : Nat)) = p + q := by
  rw [← Rat.divInt_add_divInt _ _ (den_ne p) (den_ne q), Rat.num_divInt_den, Rat.num_divInt_den]
theorem mul_eq (p q : Rat) : Rat.divInt (p.num * q.num) ((p.den : Nat) * (q.den : Nat)) = p * q := by
  rw [← Rat.divInt_mul_divInt, Rat.num_divInt_den, Rat.num_divInt_den]
theorem mul_ne {a b : Int} (h : a ≠ 0) (h' : b ≠ 0) : a * b ≠ 0 := Int.mul_ne_zero h h'
theorem sz_sum {k m : Nat} {p q : Rat} (h : Qz k p) (h' : Qz m q) : Sz (k + m + 1) (p.num * (q.den : Nat) + q.num * (p.den : Nat)) := (h.1.mul h'.den).add (by rw [Nat.add_comm k m]; exact h'.1.mul h.den)
theorem qz_add {k m : Nat} {p q : Rat} (h : Qz k p) (h' : Qz m q) : Qz (k + m + 1) (p + q) := by
  rw [← add_eq]
  exact qz_div (mul_ne (den_ne p) (den_ne q)) (sz_sum h h') ((h.den.mul h'.den).mono (by omega))
theorem qz_mul {k m : Nat} {p q : Rat} (h : Qz k p) (h' : Qz m q) : Qz (k + m) (p * q) := by
  rw [← mul_eq]
  exact qz_div (mul_ne (den_ne p) (den_ne q)) (h.1.mul h'.1) (h.den.mul h'.den)
def LawPlus (c : MF) : Prop := ∀ (v w : PV) (p q : Rat) (k m : Nat) (μ : MH), QV v p → QV w q → Qz k p → Qz m q → 0 < k → 0 < m → k + m + 1 ≤ 8000 → c [v, w] μ = .ok (PQ (p + q)) μ
def LawTimes (c : MF) : Prop := ∀ (v w : PV) (p q : Rat) (k m : Nat) (μ : MH), QV v p → QV w q → Qz k p → Qz m q → 0 < k → 0 < m → k + m + 1 ≤ 8000 → c [v, w] μ = .ok (PQ (p * q)) μ
@[simp] theorem at0 {α : Type} {a b : α} : atI [a, b] 0 = some a := rfl
@[simp] theorem at1 {α : Type} {a b : α} : atI [a, b] 1 = some b := rfl
theorem law_plus {r : MF} (hr : LawRatio r) : LawPlus (cleanF (raw_plus r)) := by
  intro v w p q k m μ hv hw hp hq k0 m0 hk
  have e : raw_plus r [v, w] μ = .ok (PQ (p + q)) μ := by
    have m1 := hp.1.okMul hq.den (by omega) k0 m0
    have m2 := hq.1.okMul hp.den (by omega) m0 k0
    have m3 := hp.den.okMul hq.den (by omega) k0 m0
    have := hr _ _ μ (mul_ne (den_ne p) (den_ne q)) ((sz_sum hp hq).mono hk) ((hp.den.mul hq.den).mono (by omega))
    rw [add_eq] at this
    unfold raw_plus mDef b_plus
    rcases hv with rfl | rfl <;> rcases hw with rfl | rfl <;> simp [PQ, fMul_ok m1, fMul_ok m2, fMul_ok m3, this]
  unfold cleanF
  rw [e]
  exact cl_self (lo_PQ _ _)
theorem law_times {r : MF} (hr : LawRatio r) : LawTimes (cleanF (raw_times r)) := by
  intro v w p q k m μ hv hw hp hq k0 m0 hk
  have e : raw_times r [v, w] μ = .ok (PQ (p * q)) μ := by
    have m1 := hp.1.okMul hq.1 (by omega) k0 m0
    have m3 := hp.den.okMul hq.den (by omega) k0 m0
    have := hr _ _ μ (mul_ne (den_ne p) (den_ne q)) ((hp.1.mul hq.1).mono (by omega)) ((hp.den.mul hq.den).mono (by omega))
    rw [mul_eq] at this
    unfold raw_times mDef b_times
    rcases hv with rfl | rfl <;> rcases hw with rfl | rfl <;> simp [PQ, fMul_ok m1, fMul_ok m3, this]
  unfold cleanF
  rw [e]
  exact cl_self (lo_PQ _ _)
def LawLess (c : MF) : Prop := ∀ (v w : PV) (p q : Rat) (k m : Nat) (μ : MH), QV v p → QV w q → Qz k p → Qz m q → 0 < k → 0 < m → k + m + 1 ≤ 8000 → c [v, w] μ = .ok (.bl (decide (p.num * (q.den : Nat) < q.num * (p.den : Nat)))) μ
theorem law_is_less : LawLess (cleanF raw_is_less) := by
  intro v w p q k m μ hv hw hp hq k0 m0 hk
  have e : raw_is_less [v, w] μ = .ok (.bl (decide (p.num * (q.den : Nat) < q.num * (p.den : Nat)))) μ := by
    have m1 := hp.1.okMul hq.den (by omega) k0 m0
    have m2 := hq.1.okMul hp.den (by omega) m0 k0
    unfold raw_is_less mDef b_is_less
    rcases hv with rfl | rfl <;> rcases hw with rfl | rfl <;> simp [PQ, fMul_ok m1, fMul_ok m2]
  unfold cleanF
  rw [e]
  exact cl_self (by simp [PV.lo])
theorem law__law_below : LawLess (cleanF raw__law_below) := law_is_less
/-! ### sums of rows -/
inductive QVs : List PV → List Rat → Prop
  | nil : QVs [] []
  | cons {v q vs qs} : QV v q → QVs vs qs → QVs (v :: vs) (q :: qs)
def LawSum (c : MF) : Prop := ∀ (vs : List PV) (qs : List Rat) (μ : MH), QVs vs qs → (∀ q ∈ qs, Qz 200 q) → vs.length ≤ 20 → c [.frl vs] μ = .ok (PQ (qs.foldl (· + ·) 0)) μ
theorem law__law_sum {r : MF} (hr : LawRatio r) : LawSum (cleanF (raw__law_sum r)) := by
  intro vs qs μ hq hz hl
  have loop : ∀ (vs : List PV) (qs : List Rat), QVs vs qs → ∀ (p : Rat) (k : Nat) (a1 a2 a3 : Option PV), (∀ q ∈ qs, Qz 200 q) → Qz k p → 0 < k → k + 201 * vs.length ≤ 7000 → ∃ b1 b2, forGo always (.tp [(.nm 2), (.nm 3)])
      (sAsg (.nm 1) (mCallP r (msCons (mOp fAdd (mOp fMul (mOp fIx (mVar 1) (mC (.int 0))) (mVar 3)) (mOp fMul (mVar 2) (mOp fIx (mVar 1) (mC (.int 1))))) (msCons (mOp fMul (mOp fIx (mVar 1) (mC (.int 1))) (mVar 3)) msNil)))) vs [a1, some (PQ p), a2, a3] μ = .nx [a1, some (PQ (qs.foldl (· + ·) p)), b1, b2] μ := by
    intro vs qs h
    induction h with
    | nil => intro p k a1 a2 a3 _ _ _ _; exact ⟨a2, a3, by unfold forGo; rfl⟩
    | @cons v q vs qs hv hvs ih =>
      intro p k a1 a2 a3 hz hp k0 hl
      have hq := hz q (by simp)
      simp only [List.length_cons] at hl
      obtain ⟨b1, b2, e⟩ := ih (p + q) (k + 200 + 1) a1 (some (.int q.num)) (some (.int (q.den : Nat))) (fun u hu => hz u (by simp [hu])) (qz_add hp hq) (by omega) (by omega)
      refine ⟨b1, b2, ?_⟩
      unfold forGo
      rw [if_pos always_true]
      have m1 := hp.1.okMul hq.den (by omega) k0 (by omega)
      have m2 := hq.1.okMul hp.den (by omega) (by omega) k0
      have m3 := hp.den.okMul hq.den (by omega) k0 (by omega)
      have := hr _ _ μ (mul_ne (den_ne p) (den_ne q)) ((sz_sum hp hq).mono (by omega)) ((hp.den.mul hq.den).mono (by omega))
      rw [add_eq] at this
      have e3 : List.foldl (· + ·) p (q :: qs) = List.foldl (· + ·) (p + q) qs := rfl
      rw [e3, ← e]
      rcases hv with rfl | rfl <;> simp [PQ, fMul_ok m1, fMul_ok m2, fMul_ok m3, this]
  obtain ⟨b1, b2, e⟩ := loop vs qs hq 0 1 (some (.frl vs)) none none hz ⟨by decide, by decide⟩ (by decide) (by omega)
  have e0 : PQ 0 = .tup [.int 0, .int 1] := rfl
  rw [e0] at e
  have e2 : raw__law_sum r [.frl vs] μ = .ok (PQ (qs.foldl (· + ·) 0)) μ := by
    unfold raw__law_sum mDef b__law_sum sFor mOver
    simp [planOf, e, sizeLine]
  unfold cleanF
  rw [e2]
  exact cl_self (lo_PQ _ _)
/-! ### is_ratio, weight_of -/
theorem eqd_pairs (a b c d : Int) (μ : MH) : ∃ k : Bool, eqD (.tup [.int a, .int b]) (.tup [.int c, .int d]) μ = some k := by
  unfold eqD
  simp only [toD, toDs, Option.map]
  rw [if_pos (by with_unfolding_all rfl)]
  exact ⟨_, rfl⟩
def eqPB (a b c d : Int) : Bool := (eqD (.tup [.int a, .int b]) (.tup [.int c, .int d]) []).getD false
theorem eqD_pairs (a b c d : Int) (μ : MH) : eqD (.tup [.int a, .int b]) (.tup [.int c, .int d]) μ = some (eqPB a b c d) := by
  unfold eqPB eqD
  simp only [toD, toDs, Option.map]
  rw [if_pos (by with_unfolding_all rfl)]
  rfl
theorem fEq_pairs (a b c d : Int) (μ : MH) : fEq (.tup [.int a, .int b]) (.tup [.int c, .int d]) μ = .ok (.bl (eqPB a b c d)) μ := by
  unfold fEq
  simp only
  rw [eqD_pairs]
def isR (a b : Int) : Bool := decide (1 ≤ b) && eqPB (Rat.divInt a b).num ((Rat.divInt a b).den : Nat) a b
def LawIs (c : MF) : Prop := ∀ (a b : Int) (μ : MH), Sz 8000 a → Sz 8000 b → c [.tup [.int a, .int b]] μ = .ok (.bl (isR a b)) μ
theorem law_is_ratio {r : MF} (hr : LawRatio r) : LawIs (cleanF (raw_is_ratio r)) := by
  intro a b μ ha hb
  have e : raw_is_ratio r [.tup [.int a, .int b]] μ = .ok (.bl (isR a b)) μ := by
    unfold raw_is_ratio mDef b_is_ratio isR
    have el : fLen [.tup [.int a, .int b]] μ = .ok (.int 2) μ := rfl
    by_cases h : 1 ≤ b
    · have := hr a b μ (by omega) ha hb
      simp [el, h, this, PQ, fEq_pairs]
    · simp [el, h]
  unfold cleanF
  rw [e]
  exact cl_self (by simp [PV.lo])
def LawWeight (c : MF) : Prop := ∀ (ls : List Str) (vs : List PV) (qs : List Rat) (zs : List Str) (ps : List Rat) (μ : MH), QVs vs qs → (∀ q ∈ qs, Qz 200 q) → (All2 (fun z p => ∃ j, idxOf z ls = some j ∧ qs[j]? = some p) zs ps) → zs.length ≤ 20 →
  ∃ v, c [.ctp (ls.map .str), .tup vs, .tup (zs.map .str)] μ = .ok v μ ∧ QV v (ps.foldl (· + ·) 0)
theorem QVs.get {vs : List PV} {qs : List Rat} (h : QVs vs qs) : ∀ {j : Nat} {q : Rat}, qs[j]? = some q → ∃ v, vs[j]? = some v ∧ QV v q := by
  induction h with
  | nil => intro j q e; simp at e
  | cons hv _ ih =>
    intro j q e
    cases j with
    | zero => simp at e; subst e; exact ⟨_, rfl, hv⟩
    | succ j => simpa using ih (by simpa using e)
theorem atI_nat {α : Type} {xs : List α} {j : Nat} {x : α} (h : xs[j]? = some x) : atI xs (j : Nat) = some x := by
  have hj := (List.getElem?_eq_some_iff.mp h).1
  unfold atI ixN
  rw [if_pos (by omega), if_pos (by omega)]
  simp [h]
theorem fIndexT_ok {ls : List Str} {z : Str} {j : Nat} {μ : MH} (h : idxOf z ls = some j) : fIndexT (.ctp (ls.map .str)) [.str z] μ = .ok (.int (j : Nat)) μ := by
  unfold fIndexT
  simp only
  rw [strsOf_map]
  simp only
  rw [h]
theorem law_weight_of {p : MF} (hp : LawPlus p) : LawWeight (cleanF (raw_weight_of p)) := by
  intro ls vs qs zs ps μ hq hz hi hl
  have loop : ∀ (zs : List Str) (ps : List Rat), All2 (fun z p => ∃ j, idxOf z ls = some j ∧ qs[j]? = some p) zs ps → ∀ (v : PV) (q : Rat) (k : Nat) (a2 a4 : Option PV), QV v q → Qz k q → 0 < k → k + 201 * zs.length ≤ 7000 → ∃ w b4, forGo always (.nm 4)
      (sAsg (.nm 3) (mCallP p (msCons (mVar 3) (msCons (mOp fIx (mVar 1) (mMeth (fun v _ => isCtp v) fIndexT (mVar 0) (msCons (mVar 4) msNil))) msNil)))) (zs.map .str) [some (.ctp (ls.map .str)), some (.tup vs), a2, some v, a4] μ = .nx [some (.ctp (ls.map .str)), some (.tup vs), a2, some w, b4] μ ∧ QV w (ps.foldl (· + ·) q) := by
    intro zs ps h
    induction h with
    | nil => intro v q k a2 a4 hv _ _ _; exact ⟨v, a4, by unfold forGo; rfl, hv⟩
    | @cons z r zs ps hzr _ ih =>
      intro v q k a2 a4 hv hq0 k0 hl
      obtain ⟨j, hj, hr⟩ := hzr
      obtain ⟨u, hu, qu⟩ := hq.get hr
      have hqr : Qz 200 r := hz r (List.mem_of_getElem? hr)
      simp only [List.length_cons] at hl
      obtain ⟨w, b4, e, qw⟩ := ih (PQ (q + r)) (q + r) (k + 200 + 1) a2 (some (.str z)) (.inl rfl) (qz_add hq0 hqr) (by omega) (by omega)
      refine ⟨w, b4, ?_, qw⟩
      rw [List.map_cons]
      unfold forGo
      rw [if_pos always_true]
      simp [fIndexT_ok hj, atI_nat hu, hp v u q r k 200 μ hv qu hq0 hqr k0 (by omega) (by omega), e]
  obtain ⟨w, b4, e, qw⟩ := loop zs ps hi (.ctp k_ZERO) 0 1 (some (.tup (zs.map .str))) none (.inr rfl) ⟨by decide, by decide⟩ (by decide) (by omega)
  refine ⟨w, ?_, qw⟩
  have e2 : raw_weight_of p [.ctp (ls.map .str), .tup vs, .tup (zs.map .str)] μ = .ok w μ := by
    unfold raw_weight_of mDef b_weight_of sFor mOver
    simp [planOf, e]
  unfold cleanF
  rw [e2]
  refine cl_self ?_
  rcases qw with rfl | rfl
  · exact lo_PQ _ _
  · simp [PV.lo, PV.los]
/-! ### the law's eyes -/
def LawSame (c : MF) : Prop := ∀ (x y : PV) (μ : MH) (d : PyData), toD μ x = some d → toD μ y = some d → okD d = true → shw d ≤ 16000000 → d.depth ≤ 50 → c [x, y] μ = .ok (.bl true) μ
theorem law__law_same : LawSame (cleanF raw__law_same) := by
  intro x y μ d hx hy h1 h2 h3
  have r : ∀ v, toD μ v = some d → fRepr [.frl [v]] μ = .ok (.str (PyData.shown (.list [d]))) μ := fun v hv => by
    show reprOf (.frl [v]) μ = _
    refine reprOf_fits (d := .list [d]) ?_ ?_ ?_ ?_
    · simp only [toD, toDs, hv, Option.map]
    · simp [okD, okDs, h1]
    · simp [shw, shws]; omega
    · simp [PyData.depth, PyData.depthAll]; omega
  have e2 : raw__law_same [x, y] μ = .ok (.bl true) μ := by
    unfold raw__law_same mDef b__law_same
    simp [r x hx, r y hy]
  unfold cleanF
  rw [e2]
  exact cl_self (by simp [PV.lo])
end K30

namespace K30
open PySem PySem.Spec PyProof.Rows L2 Mini
/-! ### draws -/
def GoodN (ms : List Int) : Prop := ms ≠ [] ∧ ms.length ≤ 4000 ∧ ∀ m ∈ ms, 0 ≤ m ∧ m < 1009
def stM (ms : List Int) (c : Int) : MO := .lst [.frl (ms.map .int), .int c]
theorem cutL_map {α β : Type} (f : α → β) (xs : List α) (lo hi : Option Int) : cutL (xs.map f) lo hi = (cutL xs lo hi).map f := by
  unfold cutL
  rw [List.length_map, ← List.map_drop, ← List.map_take]
theorem cutL_len {α : Type} (xs : List α) (lo hi : Option Int) : (cutL xs lo hi).length ≤ xs.length := by
  unfold cutL
  rw [List.length_take, List.length_drop]
  omega
theorem fmod_range (a : Int) {m : Int} (h : 0 < m) : 0 ≤ a.fmod m ∧ a.fmod m < m := ⟨Int.fmod_nonneg_of_pos a h, Int.fmod_lt_of_pos a h⟩
theorem stream_big {μ : MH} : ∀ (vs : List PV) (a0 a2 a4 a5 : Option PV) (r : Int) (ms : List Int), 0 ≤ r → (∀ m ∈ ms, 0 ≤ m ∧ m < 1009) → ms.length + vs.length ≤ 10000 →
    ∃ (r' : Int) (a4' : Option PV) (ms' : List Int), forGo always (.nm 4) L1__law_stream vs [a0, some (.ref μ.length), a2, some (.int r), a4, a5] (μ ++ [.lst (ms.map .int)]) = .nx [a0, some (.ref μ.length), a2, some (.int r'), a4', a5] (μ ++ [.lst (ms'.map .int)]) ∧ (∀ m ∈ ms', 0 ≤ m ∧ m < 1009) ∧ ms'.length ≤ ms.length + vs.length
  | [], a0, a2, a4, a5, r, ms, hr, hm, hl => ⟨r, a4, ms, by unfold forGo; rfl, hm, by simp⟩
  | v :: vs, a0, a2, a4, a5, r, ms, hr, hm, hl => by
    simp only [List.length_cons] at hl ⊢
    have hr2 : 0 ≤ r / 1009 := Int.ediv_nonneg hr (by decide)
    have hm2 : ∀ m ∈ ms ++ [r.fmod 1009], 0 ≤ m ∧ m < 1009 := fun m h => by
      rcases List.mem_append.mp h with h | h
      · exact hm m h
      · simp at h; rw [h]; exact fmod_range r (by decide)
    have e1 := append_new (μ := μ) (xs := ms.map .int) (v := .int (r.fmod 1009)) (by rw [List.length_map]; omega)
    have e2 : ms.map PV.int ++ [.int (r.fmod 1009)] = (ms ++ [r.fmod 1009]).map PV.int := by simp
    rw [e2] at e1
    unfold forGo
    rw [if_pos always_true]
    by_cases h0 : r / 1009 = 0
    · refine ⟨0, some v, ms ++ [r.fmod 1009], ?_, hm2, by simp⟩
      simp [isL_new, fMod_ok, e1, fFdiv_lt, h0]
    · obtain ⟨r', a4', ms', e, q1, q2⟩ := stream_big (μ := μ) vs a0 a2 (some v) a5 (r / 1009) (ms ++ [r.fmod 1009]) hr2 hm2 (by simp; omega)
      refine ⟨r', a4', ms', ?_, q1, by simp at q2; omega⟩
      simp [isL_new, fMod_ok, e1, fFdiv_lt, h0, -List.map_append]
      simpa using e
theorem stream_small {μ : MH} : ∀ (ks : List Nat) (a0 a2 a3 a4 : Option PV) (r : Int) (ms : List Int), (∀ k ∈ ks, k < 10) → 0 ≤ r → r < 2147483647 → (∀ m ∈ ms, 0 ≤ m ∧ m < 1009) → ms.length + ks.length ≤ 10000 →
    ∃ (r' : Int) (a4' : Option PV) (ms' : List Int), forGo always (.nm 4) L2__law_stream (ks.map fun k => .int (k : Nat)) [a0, some (.ref μ.length), a2, a3, a4, some (.int r)] (μ ++ [.lst (ms.map .int)]) = .nx [a0, some (.ref μ.length), a2, a3, a4', some (.int r')] (μ ++ [.lst (ms'.map .int)]) ∧ (∀ m ∈ ms', 0 ≤ m ∧ m < 1009) ∧ ms'.length ≤ ms.length + ks.length
  | [], a0, a2, a3, a4, r, ms, _, _, _, hm, hl => ⟨r, a4, ms, by unfold forGo; rfl, hm, by simp⟩
  | k :: ks, a0, a2, a3, a4, r, ms, hk, hr, hr2, hm, hl => by
    simp only [List.length_cons] at hl ⊢
    have hk0 := hk k (by simp)
    have s1 : Sz 31 r := by unfold Sz; omega
    have s2 : Sz 16 48271 := by decide
    have s3 : Sz 4 7 := by decide
    have s4 : Sz 4 (k : Nat) := by unfold Sz; omega
    have m1 := s1.okMul s2 (by decide) (by decide) (by decide)
    have m2 := s3.okMul s4 (by decide) (by decide) (by decide)
    have b1 := fmod_range (r * 48271 + 7 * (k : Nat) + 11) (m := 2147483647) (by decide)
    generalize hq : (r * 48271 + 7 * (k : Nat) + 11).fmod 2147483647 = q at b1
    have s5 : Sz 31 q := by unfold Sz; omega
    have s6 : Sz 17 69621 := by decide
    have m3 := s5.okMul s6 (by decide) (by decide) (by decide)
    generalize hp : (q * 69621 + (k : Nat)).fmod 2147483629 = p
    have hm2 : ∀ m ∈ ms ++ [p.fmod 1009], 0 ≤ m ∧ m < 1009 := fun m h => by
      rcases List.mem_append.mp h with h | h
      · exact hm m h
      · simp at h; rw [h]; exact fmod_range p (by decide)
    have e1 := append_new (μ := μ) (xs := ms.map .int) (v := .int (p.fmod 1009)) (by rw [List.length_map]; omega)
    obtain ⟨r', a4', ms', e, q1, q2⟩ := stream_small (μ := μ) ks a0 a2 a3 (some (.int (k : Nat))) q (ms ++ [p.fmod 1009]) (fun k h => hk k (by simp [h])) b1.1 b1.2 hm2 (by simp; omega)
    refine ⟨r', a4', ms', ?_, q1, by simp at q2; omega⟩
    rw [List.map_cons]
    unfold forGo
    rw [if_pos always_true]
    simp [isL_new, fMod_ok, e1, fMul_ok m1, fMul_ok m2, fMul_ok m3, hq, hp]
    simpa using e
theorem rangeVals_nat (n : Nat) : rangeVals 0 n = (List.range n).map fun i => .int (i : Nat) := by
  unfold rangeVals
  simp
theorem stream_all {μ : MH} : ∀ (vs : List Int) (a0 a2 a3 a4 a5 : Option PV) (ms : List Int), (∀ m ∈ ms, 0 ≤ m ∧ m < 1009) → ms.length + 60 * vs.length ≤ 9000 →
    ∃ (a2' a3' a4' a5' : Option PV) (ms' : List Int), forGo always (.nm 2) L3__law_stream (vs.map .int) [a0, some (.ref μ.length), a2, a3, a4, a5] (μ ++ [.lst (ms.map .int)]) = .nx [a0, some (.ref μ.length), a2', a3', a4', a5'] (μ ++ [.lst (ms'.map .int)]) ∧ (∀ m ∈ ms', 0 ≤ m ∧ m < 1009) ∧ ms'.length ≤ ms.length + 60 * vs.length
  | [], a0, a2, a3, a4, a5, ms, hm, hl => ⟨a2, a3, a4, a5, ms, by unfold forGo; rfl, hm, by simp⟩
  | v :: vs, a0, a2, a3, a4, a5, ms, hm, hl => by
    simp only [List.length_cons] at hl ⊢
    generalize hab : (if v < 0 then -v else v) = w
    have hw : 0 ≤ w := by rw [← hab]; split <;> omega
    have e3 : (10 : Int) ^ (18 : Int).toNat = 1000000000000000000 := by decide
    rw [List.map_cons]
    unfold forGo
    rw [if_pos always_true]
    by_cases hb : 1000000000000000000 ≤ w
    · obtain ⟨r', a4', ms1, e, q1, q2⟩ := stream_big (μ := μ) (rangeVals 0 60) a0 (some (.int v)) a4 a5 w ms hw hm (by simp [rangeVals]; omega)
      obtain ⟨b2, b3, b4, b5, ms', e', p1, p2⟩ := stream_all (μ := μ) vs a0 (some (.int v)) (some (.int r')) a4' a5 ms1 q1 (by simp [rangeVals] at q2; omega)
      refine ⟨b2, b3, b4, b5, ms', ?_, p1, by simp [rangeVals] at q2; omega⟩
      simp [hab, fPow_ok, hb, sFor, e]
      simpa using e'
    · have b1 := fmod_range w (m := 2147483647) (by decide)
      obtain ⟨r', a4', ms1, e, q1, q2⟩ := stream_small (μ := μ) (List.range 10) a0 (some (.int v)) (some (.int w)) a4 (w.fmod 2147483647) ms (fun k h => by simpa using h) b1.1 b1.2 hm (by simp; omega)
      rw [← rangeVals_nat] at e
      obtain ⟨b2, b3, b4, b5, ms', e', p1, p2⟩ := stream_all (μ := μ) vs a0 (some (.int v)) (some (.int w)) a4' (some (.int r')) ms1 q1 (by simp at q2; omega)
      refine ⟨b2, b3, b4, b5, ms', ?_, p1, by simp at q2; omega⟩
      simp [hab, fPow_ok, hb, sFor, fMod_ok, e]
      simpa using e'
def LawStream (c : MF) : Prop := ∀ (ns : List Int) (μ : MH), ns.length ≤ 63 → ∃ ms, GoodN ms ∧ c [.scr (ns.map .int)] μ = .ok (.frl (ms.map .int)) μ
theorem law__law_stream : LawStream (cleanF raw__law_stream) := by
  intro ns μ hn
  have hc := cutL_len ns none (some 63)
  obtain ⟨b2, b3, b4, b5, ms, e, h1, h2⟩ := stream_all (μ := μ) (cutL ns none (some 63)) (some (.scr (ns.map .int))) none none none none [] (by simp) (by simp; omega)
  have e1 : ∀ μ, fSl (.scr (ns.map .int)) none (some 63) μ = .ok (.frl ((cutL ns none (some 63)).map .int)) μ := fun μ => by
    unfold fSl
    simp [seqT, lstR, cutL_map]
  simp only [List.map_nil] at e
  have hl : ms.length ≤ 60 * 63 := by simp at h2; omega
  have fin : ∀ ms' : List Int, cl μ (.ok (.ref μ.length) (μ ++ [.lst (ms'.map .int)])) = .ok (.frl (ms'.map .int)) μ := fun ms' => cl_app (fz_new (Nat.le_refl _) (by simp) (los_ints _ _))
  unfold cleanF
  by_cases h0 : ms = []
  · subst h0
    refine ⟨[0], ⟨by simp, by simp, by simp⟩, ?_⟩
    have e2 : fAppend (.ref μ.length) [.int 0] (μ ++ [.lst []]) = .ok .non (μ ++ [.lst [.int 0]]) := append_new (by simp)
    have : raw__law_stream [.scr (ns.map .int)] μ = .ok (.ref μ.length) (μ ++ [.lst (([0] : List Int).map .int)]) := by
      unfold raw__law_stream mDef b__law_stream sFor mOver
      simp [mSl, e1, planOf, e, fLen_new, isL_new, e2]
    rw [this]
    exact fin [0]
  · refine ⟨ms, ⟨h0, by omega, h1⟩, ?_⟩
    have : raw__law_stream [.scr (ns.map .int)] μ = .ok (.ref μ.length) (μ ++ [.lst (ms.map .int)]) := by
      unfold raw__law_stream mDef b__law_stream sFor mOver
      simp [mSl, e1, planOf, e, fLen_new, h0]
    rw [this]
    exact fin ms
/-! ### draws one by one -/
def DrawF (n : Nat) (P : PV → Prop) (f : MF) (args : List PV) : Prop := ∀ (ms : List Int) (c : Int) (rest : MH), GoodN ms → 0 ≤ c → c + n ≤ 1000000 → ∃ v c', P v ∧ c ≤ c' ∧ c' ≤ c + n ∧ f args (stM ms c :: rest) = .ok v (stM ms c' :: rest)
theorem lo_stM (ms : List Int) (c : Int) (n : Nat) : (stM ms c).lo n = true := by
  unfold stM MO.lo
  simp [PV.los, PV.lo, los_ints]
/-- how the worth of a drawing def is cleaned -/
theorem cl_st {ms : List Int} {c c' : Int} {rest junk : MH} {v0 v : PV} (h : fzV (rest.length + 1) (stM ms c' :: (rest ++ junk)) v0 = some v) : cl (stM ms c :: rest) (.ok v0 (stM ms c' :: (rest ++ junk))) = .ok v (stM ms c' :: rest) := by
  have := cl_ok (μ := stM ms c :: rest) (ν := stM ms c' :: (rest ++ junk)) (v0 := v0) (v := v) (by simp) (fun j o hj e => by
    cases j with
    | zero => simp at e; subst e; exact .inr (lo_stM _ _ _)
    | succ j =>
      left
      simp at hj
      simp only [List.getElem?_cons_succ] at e ⊢
      rw [List.getElem?_append_left hj] at e
      exact e) (by simpa using h)
  rw [this]
  simp
theorem cl_st0 {ms : List Int} {c c' : Int} {rest : MH} {v : PV} (h : v.lo (rest.length + 1) = true) : cl (stM ms c :: rest) (.ok v (stM ms c' :: rest)) = .ok v (stM ms c' :: rest) := by
  have := cl_st (ms := ms) (c := c) (c' := c') (rest := rest) (junk := []) (v0 := v) (v := v) (fz_lo h)
  simpa using this
def isIn (lo hi : Int) (v : PV) : Prop := ∃ d : Int, v = .int d ∧ lo ≤ d ∧ d < hi
def LawNext (f : MF) : Prop := ∀ many : Int, 1 ≤ many → many ≤ 1000000 → DrawF 1 (isIn 0 many) f [.ref 0, .int many]
@[simp] theorem ix_st1 {ms : List Int} {c : Int} {rest : MH} : fIx (.ref 0) (.int 1) (stM ms c :: rest) = .ok (.int c) (stM ms c :: rest) := rfl
@[simp] theorem ix_st0 {ms : List Int} {c : Int} {rest : MH} : fIx (.ref 0) (.int 0) (stM ms c :: rest) = .ok (.frl (ms.map .int)) (stM ms c :: rest) := rfl
@[simp] theorem store_st {ms : List Int} {c d : Int} {rest : MH} : fStore (.ref 0) (.int 1) (.int d) (stM ms c :: rest) = some (stM ms d :: rest) := rfl
theorem law__law_next : LawNext (cleanF raw__law_next) := by
  intro many h1 h2 ms c rest ⟨g1, g2, g3⟩ hc hc2
  have hl : 0 < (ms.length : Int) := by
    cases ms with
    | nil => exact absurd rfl g1
    | cons => simp
  have r1 := fmod_range (c + 1) hl
  obtain ⟨m, hm⟩ : ∃ m, ms[((c + 1).fmod ms.length).toNat]? = some m := ⟨_, List.getElem?_eq_getElem (by omega)⟩
  have hi : atI (ms.map PV.int) ((c + 1).fmod ms.length) = some (.int m) := by
    have := atI_nat (xs := ms.map PV.int) (j := ((c + 1).fmod ms.length).toNat) (x := .int m) (by rw [List.getElem?_map, hm]; rfl)
    rwa [Int.toNat_of_nonneg r1.1] at this
  have t0 : 0 ≤ (c + 1) / (ms.length : Int) := Int.ediv_nonneg (by omega) (by omega)
  have t1 : (c + 1) / (ms.length : Int) ≤ c + 1 := Int.ediv_le_self _ (by omega)
  have s1 : Sz 21 ((c + 1) / (ms.length : Int)) := by unfold Sz; omega
  have s2 : Sz 21 (c + 1) := by unfold Sz; omega
  have m1 := s1.okMul (show Sz 9 389 by decide) (by decide) (by decide) (by decide)
  have m2 := s2.okMul s1 (by decide) (by decide) (by decide)
  have m3 := (s2.mul s1).okMul (show Sz 5 17 by decide) (by decide) (by decide) (by decide)
  have hz : (ms.length : Int) ≠ 0 := by omega
  refine ⟨_, c + 1, ⟨_, rfl, fmod_range (m + (c + 1) / (ms.length : Int) * 389 + (c + 1) * ((c + 1) / (ms.length : Int)) * 17) (by omega)⟩, by omega, by omega, ?_⟩
  have e : raw__law_next [.ref 0, .int many] (stM ms c :: rest) = .ok (.int ((m + (c + 1) / (ms.length : Int) * 389 + (c + 1) * ((c + 1) / (ms.length : Int)) * 17).fmod many)) (stM ms (c + 1) :: rest) := by
    unfold raw__law_next mDef b__law_next
    have hm0 : many ≠ 0 := by omega
    have eF : ∀ ν, fFdiv (.int (c + 1)) (.int (ms.length : Nat)) ν = .ok (.int ((c + 1) / (ms.length : Int))) ν := fun ν => fFdiv_lt hl (by omega)
    have eM : ∀ ν, fMod (.int (c + 1)) (.int (ms.length : Nat)) ν = .ok (.int ((c + 1).fmod (ms.length : Int))) ν := fun ν => fMod_ok hz
    simp [fLen_frl, eF, eM, hi, fMul_ok m1, fMul_ok m2, fMul_ok m3, fMod_ok hm0]
  unfold cleanF
  rw [e]
  exact cl_st0 (by simp [PV.lo])
def letterSets : List (List Str) := [["a", "b"], ["a"], ["in", "out"], ["a", "b", "c"], ["a", "b"], ["go", "halt", "no", "yes"]]
def LawLetters (f : MF) : Prop := DrawF 1 (fun v => ∃ ls ∈ letterSets, v = .ctp (ls.map .str)) f [.ref 0]
theorem atI_int {α : Type} {xs : List α} {d : Int} (h : 0 ≤ d) (h2 : d < xs.length) : ∃ x, xs[d.toNat]? = some x ∧ atI xs d = some x := by
  have hx : xs[d.toNat]? = some (xs[d.toNat]'(by omega)) := List.getElem?_eq_getElem (by omega)
  refine ⟨_, hx, ?_⟩
  have := atI_nat hx
  rwa [Int.toNat_of_nonneg h] at this
theorem law__law_letters {nx : MF} (hn : LawNext nx) : LawLetters (cleanF (raw__law_letters nx)) := by
  intro ms c rest g hc hc2
  obtain ⟨v, c', ⟨d, rfl, d0, d1⟩, h1, h2, e⟩ := hn 6 (by decide) (by decide) ms c rest g hc hc2
  obtain ⟨ls, hls, ea⟩ : ∃ ls ∈ letterSets, atI (letterSets.map fun ls => PV.ctp (ls.map .str)) d = some (.ctp (ls.map .str)) := by
    obtain ⟨x, h3, h4⟩ := atI_int (xs := letterSets.map fun ls => PV.ctp (ls.map .str)) d0 (by simpa [letterSets] using d1)
    rw [List.getElem?_map, Option.map_eq_some_iff] at h3
    obtain ⟨ls, h5, rfl⟩ := h3
    exact ⟨ls, List.mem_of_getElem? h5, h4⟩
  refine ⟨.ctp (ls.map .str), c', ⟨ls, hls, rfl⟩, h1, h2, ?_⟩
  have e2 : raw__law_letters nx [.ref 0] (stM ms c :: rest) = .ok (.ctp (ls.map .str)) (stM ms c' :: rest) := by
    unfold raw__law_letters mDef b__law_letters
    simp [letterSets] at ea
    simp [e, ea]
  unfold cleanF
  rw [e2]
  exact cl_st0 (by unfold PV.lo; exact los_strs _ _)
def isNum (v : PV) : Prop := ∃ d : Int, v = .int d ∧ Sz 61 d
def LawNumber (f : MF) : Prop := DrawF 4 isNum f [.ref 0]
theorem law__law_number {nx : MF} (hn : LawNext nx) : LawNumber (cleanF (raw__law_number nx)) := by
  intro ms c rest g hc hc2
  obtain ⟨v1, c1, ⟨d1, rfl, l1, u1⟩, p1, q1, e1⟩ := hn 121 (by decide) (by decide) ms c rest g hc (by omega)
  obtain ⟨v2, c2, ⟨d2, rfl, l2, u2⟩, p2, q2, e2⟩ := hn 9 (by decide) (by decide) ms c1 rest g (by omega) (by omega)
  obtain ⟨v3, c3, ⟨d3, rfl, l3, u3⟩, p3, q3, e3⟩ := hn 99 (by decide) (by decide) ms c2 rest g (by omega) (by omega)
  obtain ⟨v4, c4, ⟨d4, rfl, l4, u4⟩, p4, q4, e4⟩ := hn 3 (by decide) (by decide) ms c3 rest g (by omega) (by omega)
  obtain ⟨x, hx, ea⟩ : ∃ x, Sz 61 x ∧ atI [PV.int (d1 - 60), .int (d2 - 4), .int (1000000000000000000 + d3)] d4 = some (.int x) := by
    rcases (show d4 = 0 ∨ d4 = 1 ∨ d4 = 2 by omega) with rfl | rfl | rfl
    · exact ⟨_, by unfold Sz; omega, rfl⟩
    · exact ⟨_, by unfold Sz; omega, rfl⟩
    · exact ⟨_, by unfold Sz; omega, rfl⟩
  refine ⟨.int x, c4, ⟨x, rfl, hx⟩, by omega, by omega, ?_⟩
  have e : raw__law_number nx [.ref 0] (stM ms c :: rest) = .ok (.int x) (stM ms c4 :: rest) := by
    unfold raw__law_number mDef b__law_number
    simp [e1, e2, e3, e4, fPow_ok, ea]
  unfold cleanF
  rw [e]
  exact cl_st0 (by simp [PV.lo])
def isQ (v : PV) : Prop := ∃ q : Rat, v = PQ q ∧ Qz 61 q
def LawDrawn (f : MF) : Prop := DrawF 8 isQ f [.ref 0]
theorem law__law_drawn_ratio {nm r : MF} (hn : LawNumber nm) (hr : LawRatio r) : LawDrawn (cleanF (raw__law_drawn_ratio nm r)) := by
  intro ms c rest g hc hc2
  obtain ⟨v1, c1, ⟨d1, rfl, l1⟩, p1, q1, e1⟩ := hn ms c rest g hc (by omega)
  obtain ⟨v2, c2, ⟨d2, rfl, l2⟩, p2, q2, e2⟩ := hn ms c1 rest g (by omega) (by omega)
  have hb : (if d1 = 0 then 1 else d1) ≠ 0 := by split <;> omega
  have sb : Sz 61 (if d1 = 0 then 1 else d1) := by split; decide; exact l1
  have e3 := hr d2 (if d1 = 0 then 1 else d1) (stM ms c2 :: rest) hb (l2.mono (by decide)) (sb.mono (by decide))
  refine ⟨PQ (Rat.divInt d2 (if d1 = 0 then 1 else d1)), c2, ⟨_, rfl, qz_div hb l2 sb⟩, by omega, by omega, ?_⟩
  have e : raw__law_drawn_ratio nm r [.ref 0] (stM ms c :: rest) = .ok (PQ (Rat.divInt d2 (if d1 = 0 then 1 else d1))) (stM ms c2 :: rest) := by
    unfold raw__law_drawn_ratio mDef b__law_drawn_ratio
    by_cases h0 : d1 = 0
    · rw [if_pos h0] at e3 ⊢
      simp [e1, e2, h0, e3]
    · rw [if_neg h0] at e3 ⊢
      simp [e1, e2, h0, e3]
  unfold cleanF
  rw [e]
  exact cl_st0 (lo_PQ _ _)
end K30

namespace K30
open PySem PySem.Spec PyProof.Rows L2 Mini
/-! ### drawn machines -/
abbrev nP (k : Nat) : PV := .int (k : Nat)
def rowP (r : List Nat) : PV := .tup (r.map nP)
def machP (ls : List Str) (rows : List (List Nat)) (ends : List Nat) : PV := .tup [.ctp (ls.map .str), .tup (rows.map rowP), .tup (ends.map nP)]
structure Mach (ls : List Str) (rows : List (List Nat)) (ends : List Nat) : Prop where
  hls : ls ∈ letterSets
  n1 : 1 ≤ rows.length
  n2 : rows.length ≤ 30
  row : ∀ r ∈ rows, r.length = ls.length ∧ ∀ k ∈ r, k < rows.length
  hends : ends.length = rows.length
  end1 : ∀ e ∈ ends, e ≤ 1
theorem get_st {ms : List Int} {c : Int} {rest J : MH} {o : MO} : (stM ms c :: (rest ++ o :: J))[rest.length + 1]? = some o := by simp
theorem isL_st {ms : List Int} {c : Int} {rest J : MH} {xs : List PV} : isL (.ref (rest.length + 1)) (stM ms c :: (rest ++ .lst xs :: J)) = true := by unfold isL lstR lstM; simp
theorem append_st {ms : List Int} {c : Int} {rest J : MH} {xs : List PV} {v : PV} (h : xs.length < 16777216) : fAppend (.ref (rest.length + 1)) [v] (stM ms c :: (rest ++ .lst xs :: J)) = .ok .non (stM ms c :: (rest ++ .lst (xs ++ [v]) :: J)) := by
  unfold fAppend
  simp only [get_st]
  rw [if_pos (show xs.length < sizeLine from h)]
  simp [List.set_append]
theorem tuple_st {ms : List Int} {c : Int} {rest J : MH} {xs : List PV} : fTuple [.ref (rest.length + 1)] (stM ms c :: (rest ++ .lst xs :: J)) = .ok (.tup xs) (stM ms c :: (rest ++ .lst xs :: J)) := by
  unfold fTuple seqT lstR lstM
  simp
theorem row_loop {nx : MF} (hn : LawNext nx) {ms : List Int} (g : GoodN ms) {rest : MH} {many k : Nat} {way : Int} (hm : 1 ≤ many) (hm2 : many ≤ 30) (hk : k < many) {a1 a2 a5 a10 : Option PV} : ∀ (vs : List PV) (c : Int) (row : List Nat) (a8 a9 : Option PV), 0 ≤ c → c + 3 * (vs.length : Int) ≤ 1000000 → (∀ x ∈ row, x < many) → row.length + vs.length ≤ 1000 →
    ∃ (c' : Int) (row' : List Nat) (a8' a9' : Option PV), forGo always (.nm 8) (L1__law_machine nx) vs [some (.ref 0), a1, a2, some (nP many), some (.int way), a5, some (nP k), some (.ref (rest.length + 1)), a8, a9, a10] (stM ms c :: (rest ++ [.lst (row.map nP)])) =
      .nx [some (.ref 0), a1, a2, some (nP many), some (.int way), a5, some (nP k), some (.ref (rest.length + 1)), a8', a9', a10] (stM ms c' :: (rest ++ [.lst (row'.map nP)])) ∧ row'.length = row.length + vs.length ∧ (∀ x ∈ row', x < many) ∧ c ≤ c' ∧ c' ≤ c + 3 * (vs.length : Int)
  | [], c, row, a8, a9, _, _, hr, _ => ⟨c, row, a8, a9, by unfold forGo; rfl, by simp, hr, by omega, by simp⟩
  | v :: vs, c, row, a8, a9, hc, hc2, hr, hl => by
    simp only [List.length_cons] at hc2 hl ⊢
    obtain ⟨_, c1, ⟨d1, rfl, l1, u1⟩, p1, q1, e1⟩ := hn (many : Nat) (by omega) (by omega) ms c (rest ++ [.lst (row.map nP)]) g hc (by omega)
    obtain ⟨_, c2, ⟨d2, rfl, l2, u2⟩, p2, q2, e2⟩ := hn (many : Nat) (by omega) (by omega) ms c1 (rest ++ [.lst (row.map nP)]) g (by omega) (by omega)
    obtain ⟨_, c3, ⟨d3, rfl, l3, u3⟩, p3, q3, e3⟩ := hn 4 (by omega) (by omega) ms c2 (rest ++ [.lst (row.map nP)]) g (by omega) (by omega)
    obtain ⟨y, hy, ey⟩ : ∃ y : Nat, y < many ∧ atI [PV.int (if (many : Int) - 1 < (k : Int) + 1 then (many : Int) - 1 else (k : Int) + 1), nP k, .int ((many : Int) - 1), .int d1] d3 = some (nP y) := by
      rcases (show d3 = 0 ∨ d3 = 1 ∨ d3 = 2 ∨ d3 = 3 by omega) with rfl | rfl | rfl | rfl
      · refine ⟨(if (many : Int) - 1 < (k : Int) + 1 then (many : Int) - 1 else (k : Int) + 1).toNat, by split <;> omega, ?_⟩
        show some (PV.int _) = some (PV.int _)
        congr 2
        split <;> omega
      · exact ⟨k, hk, rfl⟩
      · refine ⟨many - 1, by omega, ?_⟩
        show some (PV.int _) = some (PV.int _)
        congr 2
        omega
      · refine ⟨d1.toNat, by omega, ?_⟩
        show some (PV.int _) = some (PV.int _)
        congr 2
        omega
    obtain ⟨z, hz, ez⟩ : ∃ z : Nat, z < many ∧ atI [PV.int d2, nP y] (if decide (1 < way) = true then 1 else 0) = some (nP z) := by
      by_cases hw : 1 < way
      · refine ⟨y, hy, by simp [hw]⟩
      · refine ⟨d2.toNat, by omega, ?_⟩
        simp [hw]
        omega
    have ea := append_st (ms := ms) (c := c3) (rest := rest) (J := []) (xs := row.map nP) (v := nP z) (by rw [List.length_map]; omega)
    obtain ⟨c', row', a8', a9', e, q5, q6, q7, q8⟩ := row_loop hn g (rest := rest) (way := way) hm hm2 hk (a1 := a1) (a2 := a2) (a5 := a5) (a10 := a10) vs c3 (row ++ [z]) (some v) (some (.frl [PV.int (if (many : Int) - 1 < (k : Int) + 1 then (many : Int) - 1 else (k : Int) + 1), nP k, .int ((many : Int) - 1), .int d1])) (by omega) (by omega) (fun x hx => by
      rcases List.mem_append.mp hx with h | h
      · exact hr x h
      · simp at h; rw [h]; exact hz) (by simp; omega)
    refine ⟨c', row', a8', a9', ?_, by simp at q5; omega, q6, by omega, by omega⟩
    unfold forGo
    rw [if_pos always_true]
    simp at ez
    simp [e1, e2, e3, ey, isL_st, ez, ea]
    simpa using e
theorem rows_loop {nx : MF} (hn : LawNext nx) {ms : List Int} (g : GoodN ms) {rest : MH} {ls : List Str} (hls : ls.length ≤ 4) {many : Nat} {way : Int} (hm : 1 ≤ many) (hm2 : many ≤ 30) {a2 a10 : Option PV} : ∀ (ks : List Nat) (c : Int) (rows : List (List Nat)) (J : MH) (a6 a7 a8 a9 : Option PV), 0 ≤ c → c + 12 * (ks.length : Int) ≤ 1000000 →
    (∀ k ∈ ks, k < many) → (∀ r ∈ rows, r.length = ls.length ∧ ∀ x ∈ r, x < many) → rows.length + ks.length ≤ 100 →
    ∃ (c' : Int) (rows' : List (List Nat)) (J' : MH) (a6' a7' a8' a9' : Option PV), forGo always (.nm 6) (L2__law_machine nx) (ks.map nP) [some (.ref 0), some (.ctp (ls.map .str)), a2, some (nP many), some (.int way), some (.ref (rest.length + 1)), a6, a7, a8, a9, a10] (stM ms c :: (rest ++ .lst (rows.map rowP) :: J)) =
      .nx [some (.ref 0), some (.ctp (ls.map .str)), a2, some (nP many), some (.int way), some (.ref (rest.length + 1)), a6', a7', a8', a9', a10] (stM ms c' :: (rest ++ .lst (rows'.map rowP) :: J')) ∧ rows'.length = rows.length + ks.length ∧ (∀ r ∈ rows', r.length = ls.length ∧ ∀ x ∈ r, x < many) ∧ c ≤ c' ∧ c' ≤ c + 12 * (ks.length : Int) :=
  by
  intro ks
  induction ks with
  | nil => exact fun c rows J a6 a7 a8 a9 _ _ _ hr _ => ⟨c, rows, J, a6, a7, a8, a9, by unfold forGo; rfl, by simp, hr, by omega, by simp⟩
  | cons k ks ih =>
    intro c rows J a6 a7 a8 a9 hc hc2 hk hr hl
    simp only [List.length_cons] at hc2 hl ⊢
    obtain ⟨c1, row, b8, b9, e1, q1, q2, q3, q4⟩ := row_loop hn g (rest := rest ++ .lst (rows.map rowP) :: J) (many := many) (k := k) (way := way) hm hm2 (hk k (by simp)) (a1 := some (.ctp (ls.map .str))) (a2 := a2) (a5 := some (.ref (rest.length + 1))) (a10 := a10) (rangeVals 0 ls.length) c [] a8 a9 hc (by simp [rangeVals]; omega) (by simp) (by simp [rangeVals]; omega)
    have hrl : row.length = ls.length := by simpa [rangeVals] using q1
    simp [rangeVals] at q4
    have hr2 : ∀ r ∈ rows ++ [row], r.length = ls.length ∧ ∀ x ∈ r, x < many := fun r h => by
      rcases List.mem_append.mp h with h | h
      · exact hr r h
      · simp at h; rw [h]; exact ⟨hrl, q2⟩
    obtain ⟨c', rows', J', b6, b7, b8', b9', e2, p1, p2, p3, p4⟩ := ih c1 (rows ++ [row]) (J ++ [.lst (row.map nP)]) (some (nP k)) (some (.ref (rest.length + J.length + 1 + 1))) b8 b9 (by omega) (by omega) (fun x hx => hk x (by simp [hx])) hr2 (by simp; omega)
    refine ⟨c', rows', J', b6, b7, b8', b9', ?_, by simp at p1; omega, p2, by omega, by omega⟩
    have ea := append_st (ms := ms) (c := c1) (rest := rest) (J := J ++ [.lst (row.map nP)]) (xs := rows.map rowP) (v := rowP row) (by rw [List.length_map]; omega)
    have et := tuple_st (ms := ms) (c := c1) (rest := rest ++ .lst (rows.map rowP) :: J) (J := []) (xs := row.map nP)
    have ei := isL_st (ms := ms) (c := c1) (rest := rest) (J := J ++ [.lst (row.map nP)]) (xs := rows.map rowP)
    have el : (rest ++ .lst (rows.map rowP) :: J).length + 1 = rest.length + J.length + 1 + 1 := by simp; omega
    rw [el] at e1 et
    simp only [List.append_assoc, List.cons_append] at e1 et
    simp only [List.map_nil] at e1
    rw [List.map_cons]
    unfold forGo
    rw [if_pos always_true]
    have e0 : rest.length + (J.length + 1) + 1 = rest.length + J.length + 1 + 1 := by omega
    have er : ∀ (s : MS) (μ : MH), s[1]? = some (some (.ctp (ls.map .str))) → mRange1 (mCallP fLen (msCons (mVar 1) msNil)) s μ = .ok ⟨rangeVals 0 ls.length, always⟩ μ := fun s μ hs => range_ok (by simp [hs, fLen_ctp]) (by omega)
    simp [sFor, er, e0]
    simp [e1, et, ea, ei]
    rw [show PV.tup (row.map nP) = rowP row from rfl, ea]
    simpa using e2
theorem store_lst {ms : List Int} {c : Int} {rest J : MH} {xs : List PV} {v : PV} {k : Nat} (h : k < xs.length) : fStore (.ref (rest.length + 1)) (.int (k : Nat)) v (stM ms c :: (rest ++ .lst xs :: J)) = some (stM ms c :: (rest ++ .lst (xs.set k v) :: J)) := by
  have e : lstore (.ref (rest.length + 1)) (.int (k : Nat)) v (stM ms c :: (rest ++ .lst xs :: J)) = some (stM ms c :: (rest ++ .lst (xs.set k v) :: J)) := by
    unfold lstore
    simp only [get_st]
    have : ixN xs.length ((k : Nat) : Int) = some k := by
      unfold ixN
      rw [if_pos (by omega), if_pos (by omega)]
      simp
    rw [this]
    simp [List.set_append]
  unfold fStore
  rw [e]
theorem ends_comp {nx : MF} (hn : LawNext nx) {ms : List Int} (g : GoodN ms) {rest : MH} {s : MS} (hs : s[0]? = some (some (.ref 0))) : ∀ (ks : List Nat) (c : Int) (es : List Nat), 0 ≤ c → c + (ks.length : Int) ≤ 1000000 → (∀ e ∈ es, e ≤ 1) → es.length + ks.length ≤ 1000 →
    ∃ (c' : Int) (es' : List Nat), compGo always (.nm 6) mbYes (oneElt (mCallP fInt (msCons (mOp fEq (mCallP nx (msCons (mVar 0) (msCons (mC (.int 3)) msNil))) (mC (.int 0))) msNil))) s (ks.map nP) (stM ms c :: rest) (es.map nP) = .ok (es'.map nP) (stM ms c' :: rest) ∧ es'.length = es.length + ks.length ∧ (∀ e ∈ es', e ≤ 1) ∧ c ≤ c' ∧ c' ≤ c + (ks.length : Int) := by
  intro ks
  induction ks with
  | nil => exact fun c es _ _ he _ => ⟨c, es, by unfold compGo; rfl, by simp, he, by omega, by simp⟩
  | cons k ks ih =>
    intro c es hc hc2 he hl
    simp only [List.length_cons] at hc2 hl ⊢
    obtain ⟨_, c1, ⟨d, rfl, l1, u1⟩, p1, q1, e1⟩ := hn 3 (by omega) (by omega) ms c rest g hc (by omega)
    obtain ⟨c', es', e2, r1, r2, r3, r4⟩ := ih c1 (es ++ [if d = 0 then 1 else 0]) (by omega) (by omega) (fun x hx => by
      rcases List.mem_append.mp hx with h | h
      · exact he x h
      · simp at h; rw [h]; split <;> omega) (by simp; omega)
    refine ⟨c', es', ?_, by simp at r1; omega, r2, by omega, by omega⟩
    rw [List.map_cons]
    unfold compGo
    rw [if_pos always_true]
    have hs2 : (s.set 6 (some (nP k)))[0]? = some (some (.ref 0)) := by rw [List.getElem?_set_ne (by decide)]; exact hs
    have eo : oneElt (mCallP fInt (msCons (mOp fEq (mCallP nx (msCons (mVar 0) (msCons (mC (.int 3)) msNil))) (mC (.int 0))) msNil)) (s.set 6 (some (nP k))) (stM ms c :: rest) (es.map nP) = .ok ((es ++ [if d = 0 then 1 else 0]).map nP) (stM ms c1 :: rest) := by
      unfold oneElt
      simp [hs2, e1, show es.length < 16777216 by omega]
      split <;> rfl
    simp only [bindT, mbYes, R.bind_ok, if_true]
    rw [eo]
    simp only [R.bind_ok]
    exact e2
def LawMachine (f : MF) : Prop := ∀ (ls : List Str) (most : Int), ls ∈ letterSets → 1 ≤ most → most ≤ 30 → DrawF 500 (fun v => ∃ rows ends, v = machP ls rows ends ∧ Mach ls rows ends) f [.ref 0, .ctp (ls.map .str), .int most]
theorem los_rows (n : Nat) : ∀ rows : List (List Nat), PV.los n (rows.map rowP) = true
  | [] => by unfold PV.los; rfl
  | r :: rs => by
    rw [List.map_cons]
    unfold PV.los
    rw [los_rows n rs]
    have : (rowP r).lo n = true := by unfold rowP PV.lo; exact los_nats n r
    rw [this]
    rfl
theorem lo_mach (ls : List Str) (rows : List (List Nat)) (ends : List Nat) (n : Nat) : (machP ls rows ends).lo n = true := by
  unfold machP
  have h1 : (PV.ctp (ls.map .str)).lo n = true := by unfold PV.lo; exact los_strs n ls
  have h2 : (PV.tup (rows.map rowP)).lo n = true := by unfold PV.lo; exact los_rows n rows
  have h3 : (PV.tup (ends.map nP)).lo n = true := by unfold PV.lo; exact los_nats n ends
  unfold PV.lo PV.los PV.los PV.los PV.los
  rw [h1, h2, h3]
  rfl
theorem letters_len {ls : List Str} (h : ls ∈ letterSets) : 1 ≤ ls.length ∧ ls.length ≤ 4 := by
  simp [letterSets] at h
  rcases h with rfl | rfl | rfl | rfl | rfl | rfl <;> exact ⟨by decide, by decide⟩
theorem law__law_machine {nx : MF} (hn : LawNext nx) : LawMachine (cleanF (raw__law_machine nx)) := by
  intro ls most hls h1 h2 ms c rest g hc hc2
  have hll := letters_len hls
  obtain ⟨_, c1, ⟨d1, rfl, l1, u1⟩, p1, q1, e1⟩ := hn most h1 (by omega) ms c rest g hc (by omega)
  obtain ⟨_, c2, ⟨way, rfl, l2, u2⟩, p2, q2, e2⟩ := hn 4 (by omega) (by omega) ms c1 rest g (by omega) (by omega)
  obtain ⟨many, hm⟩ : ∃ many : Nat, (many : Int) = 1 + d1 := ⟨(1 + d1).toNat, by omega⟩
  obtain ⟨c3, rows, J, b6, b7, b8, b9, e3, r1, r2, r3, r4⟩ := rows_loop hn g (rest := rest) (way := way) hll.2 (many := many) (by omega) (by omega) (a2 := some (.int most)) (a10 := none) (List.range many) c2 [] [] none none none none (by omega) (by simp; omega) (fun k hk => by simpa using hk) (by simp) (by simp; omega)
  simp at r1 r4
  simp only [List.map_nil] at e3
  have hr1 : mRange1 (mVar 3) [some (.ref 0), some (.ctp (ls.map .str)), some (.int most), some (nP many), some (.int way), some (.ref (rest.length + 1)), none, none, none, none, none] (stM ms c2 :: (rest ++ [.lst []])) = .ok ⟨rangeVals 0 many, always⟩ (stM ms c2 :: (rest ++ [.lst []])) := range_ok rfl (by omega)
  have hs : (wipeM [some (.ref 0), some (.ctp (ls.map .str)), some (.int most), some (nP many), some (.int way), some (.ref (rest.length + 1)), b6, b7, b8, b9, none] [6])[0]? = some (some (.ref 0)) := rfl
  obtain ⟨c4, es, e4, t1, t2, t3, t4⟩ := ends_comp hn g (rest := rest ++ .lst (rows.map rowP) :: J) hs (List.range many) c3 [] (by omega) (by simp; omega) (by simp) (by simp; omega)
  simp at t1 t4
  simp only [List.map_nil] at e4
  have hr2 : mRange1 (mVar 3) [some (.ref 0), some (.ctp (ls.map .str)), some (.int most), some (nP many), some (.int way), some (.ref (rest.length + 1)), b6, b7, b8, b9, none] (stM ms c3 :: (rest ++ .lst (rows.map rowP) :: J)) = .ok ⟨rangeVals 0 many, always⟩ (stM ms c3 :: (rest ++ .lst (rows.map rowP) :: J)) := range_ok rfl (by omega)
  have fin : ∀ es' : List Nat, es'.length = many → (∀ e ∈ es', e ≤ 1) → ∃ rows' ends', machP ls rows es' = machP ls rows' ends' ∧ Mach ls rows' ends' := fun es' hl he => ⟨rows, es', rfl, hls, by omega, by omega, fun r hr => by rw [r1]; exact r2 r hr, by omega, he⟩
  have el : (stM ms c4 :: (rest ++ .lst (rows.map rowP) :: J)).length = (rest ++ .lst (rows.map rowP) :: J).length + 1 := rfl
  have ec : ∀ es' : List Nat, cl (stM ms c :: rest) (.ok (machP ls rows es') (stM ms c4 :: (rest ++ .lst (rows.map rowP) :: (J ++ [.lst (es'.map nP)])))) = .ok (machP ls rows es') (stM ms c4 :: rest) := fun es' => cl_st (fz_lo (lo_mach _ _ _ _))
  have et : ∀ es' : List Nat, fTuple [.ref (rest.length + 1)] (stM ms c4 :: (rest ++ .lst (rows.map rowP) :: (J ++ [.lst (es'.map nP)]))) = .ok (.tup (rows.map rowP)) (stM ms c4 :: (rest ++ .lst (rows.map rowP) :: (J ++ [.lst (es'.map nP)]))) := fun es' => tuple_st
  have et2 : ∀ es' : List Nat, fTuple [.ref (rest.length + J.length + 1 + 1)] (stM ms c4 :: (rest ++ .lst (rows.map rowP) :: (J ++ [.lst (es'.map nP)]))) = .ok (.tup (es'.map nP)) (stM ms c4 :: (rest ++ .lst (rows.map rowP) :: (J ++ [.lst (es'.map nP)]))) := fun es' => by
    have := tuple_st (ms := ms) (c := c4) (rest := rest ++ .lst (rows.map rowP) :: J) (J := []) (xs := es'.map nP)
    rw [show (rest ++ .lst (rows.map rowP) :: J).length + 1 = rest.length + J.length + 1 + 1 by simp; omega] at this
    simpa only [List.append_assoc, List.cons_append] using this
  have est : ∀ k : Nat, k < many → fStore (.ref (rest.length + J.length + 1 + 1)) (.int (k : Nat)) (.int 0) (stM ms c4 :: (rest ++ .lst (rows.map rowP) :: (J ++ [.lst (es.map nP)]))) = some (stM ms c4 :: (rest ++ .lst (rows.map rowP) :: (J ++ [.lst ((es.set k 0).map nP)]))) := fun k hk => by
    have := store_lst (ms := ms) (c := c4) (rest := rest ++ .lst (rows.map rowP) :: J) (J := []) (xs := es.map nP) (v := .int 0) (k := k) (by rw [List.length_map]; omega)
    rw [show (rest ++ .lst (rows.map rowP) :: J).length + 1 = rest.length + J.length + 1 + 1 by simp; omega] at this
    rw [show PV.int 0 = nP 0 from rfl, ← List.map_set] at this
    simp only [List.append_assoc, List.cons_append] at this
    exact this
  have e0 : rest.length + (J.length + 1) + 1 = rest.length + J.length + 1 + 1 := by omega
  have hmi : (1 : Int) + d1 = (many : Nat) := hm.symm
  have hm1 : ((many : Nat) : Int) - 1 = ((many - 1 : Nat) : Int) := by omega
  by_cases hw : way = 3
  · refine ⟨machP ls rows (es.set (many - 1) 0), c4, fin _ (by rw [List.length_set]; exact t1) (fun e he => ?_), by omega, by omega, ?_⟩
    · rcases List.mem_or_eq_of_mem_set he with h | h
      · exact t2 e h
      · omega
    · have : raw__law_machine nx [.ref 0, .ctp (ls.map .str), .int most] (stM ms c :: rest) = .ok (machP ls rows (es.set (many - 1) 0)) (stM ms c4 :: (rest ++ .lst (rows.map rowP) :: (J ++ [.lst ((es.set (many - 1) 0).map nP)]))) := by
        unfold raw__law_machine mDef b__law_machine
        subst hw
        simp [e1, e2, hmi, sFor, hr1, rangeVals_nat, e3, mLcL, hr2, e4, e0, hm1, est (many - 1) (by omega), et, et2, -List.map_set]
        rfl
      unfold cleanF
      rw [this]
      exact ec _
  · refine ⟨machP ls rows es, c4, fin _ t1 t2, by omega, by omega, ?_⟩
    have : raw__law_machine nx [.ref 0, .ctp (ls.map .str), .int most] (stM ms c :: rest) = .ok (machP ls rows es) (stM ms c4 :: (rest ++ .lst (rows.map rowP) :: (J ++ [.lst (es.map nP)]))) := by
      unfold raw__law_machine mDef b__law_machine
      simp [e1, e2, hmi, sFor, hr1, rangeVals_nat, e3, mLcL, hr2, e4, e0, hw, et, et2]
      rfl
    unfold cleanF
    rw [this]
    exact ec _
end K30

namespace K30
open PySem PySem.Spec PyProof.Rows L2 Mini
/-! ### first logs -/
def rowOf (rows : List (List Nat)) (s : Nat) : List Nat := rows[s]?.getD []
inductive Reach (rows : List (List Nat)) : Nat → Prop
  | zero : Reach rows 0
  | step {s k : Nat} : Reach rows s → k ∈ rowOf rows s → Reach rows k
structure BI (n : Nat) (R : Nat → Prop) (ks : List Nat) (kvs : List (Key × PV)) : Prop where
  keys : kvs.map (·.1) = ks.map fun k => (Sum.inl ((k : Nat) : Int) : Key)
  vals : ∀ p ∈ kvs, ∃ zs : List Str, p.2 = .tup (zs.map .str) ∧ zs.length + 1 ≤ ks.length
  nd : ks.Nodup
  lt : ∀ k ∈ ks, k < n ∧ R k
theorem BI.len {n : Nat} {R : Nat → Prop} {ks : List Nat} {kvs : List (Key × PV)} (b : BI n R ks kvs) : ks.length ≤ n := nodup_len n ks b.nd fun k hk => (b.lt k hk).1
theorem BI.klen {n : Nat} {R : Nat → Prop} {ks : List Nat} {kvs : List (Key × PV)} (b : BI n R ks kvs) : kvs.length = ks.length := by
  have := congrArg List.length b.keys
  simpa using this
theorem BI.mem {n : Nat} {R : Nat → Prop} {ks : List Nat} {kvs : List (Key × PV)} (b : BI n R ks kvs) (a : Nat) : (dval kvs (.inl ((a : Nat) : Int))).isSome = decide (a ∈ ks) := by
  rw [Bool.eq_iff_iff, dval_mem, b.keys, decide_eq_true_eq, List.mem_map]
  constructor
  · rintro ⟨k, hk, e⟩
    cases e
    exact hk
  · exact fun h => ⟨a, h, rfl⟩
theorem BI.get {n : Nat} {R : Nat → Prop} {ks : List Nat} {kvs : List (Key × PV)} (b : BI n R ks kvs) {s : Nat} (h : s ∈ ks) : ∃ zs : List Str, dval kvs (.inl ((s : Nat) : Int)) = some (.tup (zs.map .str)) ∧ zs.length + 1 ≤ ks.length := by
  have := b.mem s
  rw [decide_eq_true h] at this
  obtain ⟨v, hv⟩ := Option.isSome_iff_exists.mp this
  obtain ⟨zs, e, hl⟩ := b.vals _ (dval_some hv)
  exact ⟨zs, by rw [hv, ← e], hl⟩
theorem BI.add {n : Nat} {R : Nat → Prop} {ks : List Nat} {kvs : List (Key × PV)} (b : BI n R ks kvs) {a : Nat} (h : a ∉ ks) (ha : a < n) (hR : R a) {zs : List Str} (hz : zs.length ≤ ks.length) : BI n R (ks ++ [a]) (kvs ++ [(.inl ((a : Nat) : Int), .tup (zs.map .str))]) := by
  refine ⟨by simp [b.keys], fun p hp => ?_, ?_, fun k hk => ?_⟩
  · rcases List.mem_append.mp hp with q | q
    · obtain ⟨zs, e, hl⟩ := b.vals p q
      exact ⟨zs, e, by simp; omega⟩
    · simp at q
      subst q
      exact ⟨zs, rfl, by simp; omega⟩
  · rw [List.nodup_append]
    exact ⟨b.nd, by simp, fun x hx y hy e => by simp at hy; subst hy; subst e; exact h hx⟩
  · rcases List.mem_append.mp hk with q | q
    · exact b.lt k q
    · simp at q; rw [q]; exact ⟨ha, hR⟩
def memF (μ : MH) (kvs : List (Key × PV)) (ks : List Nat) : MH := μ ++ [.dK kvs, .lst (ks.map nP)]
theorem memF_d (μ : MH) (kvs : List (Key × PV)) (ks : List Nat) : (memF μ kvs ks)[μ.length]? = some (.dK kvs) := by unfold memF; simp
theorem memF_l (μ : MH) (kvs : List (Key × PV)) (ks : List Nat) : (memF μ kvs ks)[μ.length + 1]? = some (.lst (ks.map nP)) := by unfold memF; simp
theorem memF_app {μ : MH} {kvs : List (Key × PV)} {ks : List Nat} {a : Nat} (h : ks.length < 16777216) : fAppend (.ref (μ.length + 1)) [nP a] (memF μ kvs ks) = .ok .non (memF μ kvs (ks ++ [a])) := by
  unfold fAppend
  simp only [memF_l]
  rw [if_pos (show (ks.map nP).length < sizeLine by rw [List.length_map]; exact h)]
  unfold memF
  simp [List.set_append]
theorem memF_store {μ : MH} {kvs : List (Key × PV)} {ks : List Nat} {a : Nat} {v : PV} (h : kvs.length < 16777216) (hn : dval kvs (.inl ((a : Nat) : Int)) = none) : fStore (.ref μ.length) (nP a) v (memF μ kvs ks) = some (memF μ (kvs ++ [(.inl ((a : Nat) : Int), v)]) ks) := by
  rw [fStore_dK (memF_d μ kvs ks) h, dput_new hn]
  unfold memF
  simp [List.set_append]
theorem memF_isL {μ : MH} {kvs : List (Key × PV)} {ks : List Nat} : isL (.ref (μ.length + 1)) (memF μ kvs ks) = true := by unfold isL lstR lstM; simp only [memF_l]; rfl
theorem memF_len {μ : MH} {kvs : List (Key × PV)} {ks : List Nat} : fLen [.ref (μ.length + 1)] (memF μ kvs ks) = .ok (.int (ks.length : Nat)) (memF μ kvs ks) := by
  unfold fLen lenOf seqT lstR lstM
  simp only [memF_l]
  simp
theorem memF_ix {μ : MH} {kvs : List (Key × PV)} {ks : List Nat} {i s : Nat} (h : ks[i]? = some s) : fIx (.ref (μ.length + 1)) (nP i) (memF μ kvs ks) = .ok (nP s) (memF μ kvs ks) := by
  rw [fIx_ref (memF_l μ kvs ks), atI_nat (x := nP s) (by rw [List.getElem?_map, h]; rfl)]
theorem visitP {n : Nat} {R : Nat → Prop} {ks : List Nat} {kvs : List (Key × PV)} {μ : MH} {s a : Nat} {l : Str} (b : BI n R ks kvs) (hn : n ≤ 1000) (hs : s ∈ ks) (ha : a < n) (hR : R a) (s0 s1 s2 s3 s6 : Option PV) :
    ∃ kvs' ks', L1_first_logs [s0, s1, s2, s3, some (.ref μ.length), some (.ref (μ.length + 1)), s6, some (nP s), some (.str l), some (nP a)] (memF μ kvs ks) = .nx [s0, s1, s2, s3, some (.ref μ.length), some (.ref (μ.length + 1)), s6, some (nP s), some (.str l), some (nP a)] (memF μ kvs' ks') ∧ BI n R ks' kvs' ∧ a ∈ ks' ∧ ∃ ext, ks' = ks ++ ext := by
  have hlen := b.len
  by_cases h : a ∈ ks
  · refine ⟨kvs, ks, ?_, b, h, [], by simp⟩
    simp [fNotIn_dK (memF_d μ kvs ks), b.mem, h]
  · obtain ⟨zs, e, hz⟩ := b.get hs
    have hd : dval kvs (.inl ((a : Nat) : Int)) = none := by
      have := b.mem a
      rw [decide_eq_false h] at this
      exact Option.isSome_eq_false_iff.mp this |> Option.isNone_iff_eq_none.mp
    have hk := b.klen
    refine ⟨_, ks ++ [a], ?_, b.add h ha hR (zs := zs ++ [l]) (by simp; omega), by simp, [a], rfl⟩
    have e1 := fIx_dK (memF_d μ kvs ks) e
    simp [fNotIn_dK (memF_d μ kvs ks), b.mem, h, e1, starOf, seqT, show zs.length + 1 ≤ 16777216 by omega, memF_store (ks := ks) (μ := μ) (show kvs.length < 16777216 by omega) hd, memF_isL, memF_app (show ks.length < 16777216 by omega)]
theorem innerP {n : Nat} {R : Nat → Prop} {μ : MH} {s : Nat} (hn : n ≤ 1000) (s0 s1 s2 s3 s6 : Option PV) {chk : MH → Bool} (hc : ∀ μ, chk μ = true) : ∀ (ls : List Str) (r : List Nat), r.length = ls.length → (∀ a ∈ r, a < n ∧ R a) → ∀ (kvs : List (Key × PV)) (ks : List Nat) (a8 a9 : Option PV), BI n R ks kvs → s ∈ ks →
    ∃ kvs' ks' a8' a9', forGo chk (.tp [(.nm 8), (.nm 9)]) L1_first_logs (zipVals (ls.map .str) (r.map nP)) [s0, s1, s2, s3, some (.ref μ.length), some (.ref (μ.length + 1)), s6, some (nP s), a8, a9] (memF μ kvs ks) = .nx [s0, s1, s2, s3, some (.ref μ.length), some (.ref (μ.length + 1)), s6, some (nP s), a8', a9'] (memF μ kvs' ks') ∧ BI n R ks' kvs' ∧ (∀ a ∈ r, a ∈ ks') ∧ ∃ ext, ks' = ks ++ ext := by
  intro ls
  induction ls with
  | nil =>
    intro r hl hr kvs ks a8 a9 b hs
    have : r = [] := by simpa using hl
    subst this
    exact ⟨kvs, ks, a8, a9, by show forGo chk _ _ [] _ _ = _; unfold forGo; rw [if_pos (hc _)], b, by simp, [], by simp⟩
  | cons l ls ih =>
    intro r hl hr kvs ks a8 a9 b hs
    cases r with
    | nil => simp at hl
    | cons a r =>
      obtain ⟨kvs1, ks1, e1, b1, m1, ext1, x1⟩ := visitP (μ := μ) (l := l) b hn hs (hr a (by simp)).1 (hr a (by simp)).2 s0 s1 s2 s3 s6
      obtain ⟨kvs2, ks2, a8', a9', e2, b2, m2, ext2, x2⟩ := ih r (by simpa using hl) (fun x hx => hr x (by simp [hx])) kvs1 ks1 (some (.str l)) (some (nP a)) b1 (by rw [x1]; simp [hs])
      refine ⟨kvs2, ks2, a8', a9', ?_, b2, fun x hx => ?_, ext1 ++ ext2, by rw [x2, x1, List.append_assoc]⟩
      · simp only [List.map_cons, zipVals]
        unfold forGo
        rw [if_pos (hc _)]
        simp only [bindT, bindTs, List.set_cons_succ, List.set_cons_zero]
        rw [e1]
        exact e2
      · rcases List.mem_cons.mp hx with rfl | hx
        · rw [x2]; simp [m1]
        · exact m2 x hx
def Closed (rows : List (List Nat)) (ks : List Nat) : Prop := ∀ s ∈ ks, ∀ a ∈ rowOf rows s, a ∈ ks
theorem closed_all {rows : List (List Nat)} {ks : List Nat} (h0 : 0 ∈ ks) (h : Closed rows ks) : ∀ {k : Nat}, Reach rows k → k ∈ ks := by
  intro k r
  induction r with
  | zero => exact h0
  | step _ hk ih => exact h _ ih _ hk
theorem row_get {ls : List Str} {rows : List (List Nat)} {ends : List Nat} (M : Mach ls rows ends) {s : Nat} (h : s < rows.length) : rows[s]? = some (rowOf rows s) ∧ (rowOf rows s).length = ls.length ∧ ∀ a ∈ rowOf rows s, a < rows.length := by
  have e : rows[s]? = some rows[s] := List.getElem?_eq_getElem h
  have : rowOf rows s = rows[s] := by unfold rowOf; rw [e]; rfl
  rw [this]
  exact ⟨e, M.row _ (List.getElem_mem h)⟩
def LawFirst (f : MF) : Prop := ∀ (ls : List Str) (rows : List (List Nat)) (ends : List Nat) (μ : MH), Mach ls rows ends → ∃ kvs ks, f [machP ls rows ends] μ = .ok (.ref μ.length) (memF μ kvs ks) ∧ BI rows.length (Reach rows) ks kvs ∧ ∀ k, Reach rows k → k ∈ ks
def OI (rows : List (List Nat)) (ks : List Nat) (kvs : List (Key × PV)) (at_ : Nat) : Prop := BI rows.length (Reach rows) ks kvs ∧ at_ ≤ ks.length ∧ 0 ∈ ks ∧ ∀ i, i < at_ → ∀ x, ks[i]? = some x → ∀ a ∈ rowOf rows x, a ∈ ks
theorem OI.start {rows : List (List Nat)} (h : 1 ≤ rows.length) : OI rows [0] [(.inl 0, .tup [])] 0 :=
  ⟨⟨rfl, fun p hp => ⟨[], by simp at hp; subst hp; rfl, by simp⟩, by simp, fun k hk => by simp at hk; subst hk; exact ⟨h, .zero⟩⟩, by simp, by simp, fun i hi => absurd hi (Nat.not_lt_zero i)⟩
theorem OI.next {rows : List (List Nat)} {ks ks2 : List Nat} {kvs kvs2 : List (Key × PV)} {at_ s : Nat} (o : OI rows ks kvs at_) (hs : ks[at_]? = some s) (b : BI rows.length (Reach rows) ks2 kvs2) (m : ∀ a ∈ rowOf rows s, a ∈ ks2) (x : ∃ ext, ks2 = ks ++ ext) : OI rows ks2 kvs2 (at_ + 1) := by
  obtain ⟨ext, rfl⟩ := x
  have hl := (List.getElem?_eq_some_iff.mp hs).1
  refine ⟨b, by simp; omega, by simp [o.2.2.1], fun i hi y hy a ha => ?_⟩
  have hil : i < ks.length := by omega
  rw [List.getElem?_append_left hil] at hy
  by_cases h : i = at_
  · subst h
    rw [hs] at hy
    cases hy
    exact m a ha
  · exact List.mem_append_left _ (o.2.2.2 i (by omega) y hy a ha)
theorem OI.fin {rows : List (List Nat)} {ks : List Nat} {kvs : List (Key × PV)} {at_ : Nat} (o : OI rows ks kvs at_) (h : ¬ at_ < ks.length) : ∀ k, Reach rows k → k ∈ ks := by
  have hc : Closed rows ks := fun s hs a ha => by
    obtain ⟨i, hi, e⟩ := List.mem_iff_getElem.mp hs
    exact o.2.2.2 i (by omega) s (by rw [← e]; exact List.getElem?_eq_getElem hi) a ha
  exact fun k r => closed_all o.2.2.1 hc r
theorem law_first_logs : LawFirst raw_first_logs := by
  intro ls rows ends μ M
  have n2 := M.n2
  have n1 := M.n1
  have w := while_inv (c := C1_first_logs) (b := L2_first_logs)
    (fun m s ν => ∃ (at_ : Nat) (kvs : List (Key × PV)) (ks : List Nat) (a7 a8 a9 : Option PV), s = [some (machP ls rows ends), some (.ctp (ls.map .str)), some (.tup (rows.map rowP)), some (.tup (ends.map nP)), some (.ref μ.length), some (.ref (μ.length + 1)), some (nP at_), a7, a8, a9] ∧ ν = memF μ kvs ks ∧ OI rows ks kvs at_ ∧ m = rows.length - at_)
    (fun s ν => ∃ (at_ : Nat) (kvs : List (Key × PV)) (ks : List Nat), s[4]? = some (some (.ref μ.length)) ∧ ν = memF μ kvs ks ∧ OI rows ks kvs at_ ∧ ¬ at_ < ks.length)
    (by
      rintro m s ν ⟨at_, kvs, ks, a7, a8, a9, rfl, rfl, o, rfl⟩
      have hlen := o.1.len
      refine ⟨decide (at_ < ks.length), memF μ kvs ks, by simp [memF_len], ?_⟩
      by_cases h : at_ < ks.length
      · right
        refine ⟨decide_eq_true h, ?_⟩
        have hs : ks[at_]? = some ks[at_] := List.getElem?_eq_getElem h
        have hmem : ks[at_] ∈ ks := List.getElem_mem h
        obtain ⟨g1, g2, g3⟩ := row_get M (o.1.lt _ hmem).1
        have hr := (o.1.lt _ hmem).2
        obtain ⟨kvs2, ks2, a8', a9', e, b2, m2, x2⟩ := innerP (n := rows.length) (R := Reach rows) (μ := μ) (s := ks[at_]) (by omega) (some (machP ls rows ends)) (some (.ctp (ls.map .str))) (some (.tup (rows.map rowP))) (some (.tup (ends.map nP))) (some (nP at_)) (chk := fun _ => true) (fun _ => rfl) ls (rowOf rows ks[at_]) g2 (fun a ha => ⟨g3 a ha, .step hr ha⟩) kvs ks a8 a9 o.1 hmem
        refine ⟨_, _, .inl ⟨.inl ?_, rows.length - (at_ + 1), by omega, at_ + 1, kvs2, ks2, some (nP ks[at_]), a8', a9', rfl, rfl, o.next hs b2 m2 x2, rfl⟩⟩
        have ei : atI (rows.map rowP) ((ks[at_] : Nat) : Int) = some (rowP (rowOf rows ks[at_])) := atI_nat (by rw [List.getElem?_map, g1]; rfl)
        simp [memF_ix hs, sFor, mZip, ei, planOf, isT, rowP]
        rw [e]
        simp
      · left
        exact ⟨decide_eq_false h, at_, kvs, ks, rfl, rfl, o, h⟩)
  obtain ⟨s', ν', e, at_, kvs, ks, h4, rfl, o, hend⟩ := w bigN rows.length [some (machP ls rows ends), some (.ctp (ls.map .str)), some (.tup (rows.map rowP)), some (.tup (ends.map nP)), some (.ref μ.length), some (.ref (μ.length + 1)), some (nP 0), none, none, none] (memF μ [(.inl 0, .tup [])] [0]) (Nat.lt_of_lt_of_le (by omega : rows.length < 1000) (le_bigN (by decide))) ⟨0, _, _, none, none, none, rfl, rfl, OI.start n1, by simp⟩
  refine ⟨kvs, ks, ?_, o.1, o.fin hend⟩
  unfold raw_first_logs mDef b_first_logs sWhile
  have e' : whileGo C1_first_logs L2_first_logs bigN [some (.tup [.ctp (ls.map .str), .tup (rows.map rowP), .tup (ends.map nP)]), some (.ctp (ls.map .str)), some (.tup (rows.map rowP)), some (.tup (ends.map nP)), some (.ref μ.length), some (.ref (μ.length + 1)), some (.int 0), none, none, none] (μ ++ [.dK [(.inl 0, .tup [])], .lst [.int 0]]) = .nx s' (memF μ kvs ks) := e
  simp [machP, mD1, Mini.keyOf, e', h4]
theorem visitL {n : Nat} {R : Nat → Prop} {ks : List Nat} {kvs : List (Key × PV)} {μ : MH} {s a j : Nat} {l : Str} {ls : List Str} {rows : List (List Nat)} {ends : List Nat} (b : BI n R ks kvs) (hn : n ≤ 1000) (hs : s ∈ ks) (ha : a < n) (hR : R a)
    (hj : ls[j]? = some l) (g1 : rows[s]? = some (rowOf rows s)) (hja : (rowOf rows s)[j]? = some a) (s3 s6 : Option PV) :
    ∃ kvs' ks', L1__law_first_logs [some (machP ls rows ends), some (.ref μ.length), some (.ref (μ.length + 1)), s3, some (nP s), some (nP j), s6] (memF μ kvs ks) = .nx [some (machP ls rows ends), some (.ref μ.length), some (.ref (μ.length + 1)), s3, some (nP s), some (nP j), some (nP a)] (memF μ kvs' ks') ∧ BI n R ks' kvs' ∧ a ∈ ks' ∧ ∃ ext, ks' = ks ++ ext := by
  have hlen := b.len
  have x1 : ∀ (a b c : PV), atI [a, b, c] 1 = some b := fun _ _ _ => rfl
  have x0 : ∀ (a b c : PV), atI [a, b, c] 0 = some a := fun _ _ _ => rfl
  have ei : atI (rows.map rowP) ((s : Nat) : Int) = some (rowP (rowOf rows s)) := atI_nat (by rw [List.getElem?_map, g1]; rfl)
  have ej : atI ((rowOf rows s).map nP) ((j : Nat) : Int) = some (nP a) := atI_nat (by rw [List.getElem?_map, hja]; rfl)
  have el : atI (ls.map PV.str) ((j : Nat) : Int) = some (.str l) := atI_nat (by rw [List.getElem?_map, hj]; rfl)
  by_cases h : a ∈ ks
  · refine ⟨kvs, ks, ?_, b, h, [], by simp⟩
    simp [machP, x1, ei, rowP, ej, fNotIn_dK (memF_d μ kvs ks), b.mem, h]
  · obtain ⟨zs, e, hz⟩ := b.get hs
    have hd : dval kvs (.inl ((a : Nat) : Int)) = none := by
      have := b.mem a
      rw [decide_eq_false h] at this
      exact Option.isSome_eq_false_iff.mp this |> Option.isNone_iff_eq_none.mp
    have hk := b.klen
    refine ⟨_, ks ++ [a], ?_, b.add h ha hR (zs := zs ++ [l]) (by simp; omega), by simp, [a], rfl⟩
    have e1 := fIx_dK (memF_d μ kvs ks) e
    have ea : ∀ ν, fAdd (.tup (zs.map .str)) (.tup [.str l]) ν = .ok (.tup ((zs ++ [l]).map .str)) ν := fun ν => by
      unfold fAdd
      simp only
      rw [if_pos (by simp; omega)]
      simp
    have es := memF_store (ks := ks) (μ := μ) (v := .tup ((zs ++ [l]).map .str)) (show kvs.length < 16777216 by omega) hd
    have ep := memF_app (μ := μ) (kvs := kvs ++ [(.inl ((a : Nat) : Int), .tup ((zs ++ [l]).map .str))]) (a := a) (show ks.length < 16777216 by omega)
    simp only [List.map_append, List.map_cons, List.map_nil] at ea es ep ⊢
    simp [machP, x1, x0, ei, rowP, ej, el, fNotIn_dK (memF_d μ kvs ks), b.mem, h, e1, ea, es, memF_isL, ep]
theorem innerL {n : Nat} {R : Nat → Prop} {μ : MH} {s : Nat} {ls : List Str} {rows : List (List Nat)} {ends : List Nat} (hn : n ≤ 1000) (g1 : rows[s]? = some (rowOf rows s)) (g2 : (rowOf rows s).length = ls.length) (hr : ∀ a ∈ rowOf rows s, a < n ∧ R a) (s3 : Option PV) : ∀ (js : List Nat), (∀ j ∈ js, j < ls.length) → ∀ (kvs : List (Key × PV)) (ks : List Nat) (a5 a6 : Option PV), BI n R ks kvs → s ∈ ks →
    ∃ kvs' ks' a5' a6', forGo always (.nm 5) L1__law_first_logs (js.map nP) [some (machP ls rows ends), some (.ref μ.length), some (.ref (μ.length + 1)), s3, some (nP s), a5, a6] (memF μ kvs ks) = .nx [some (machP ls rows ends), some (.ref μ.length), some (.ref (μ.length + 1)), s3, some (nP s), a5', a6'] (memF μ kvs' ks') ∧ BI n R ks' kvs' ∧ (∀ j ∈ js, ∀ a, (rowOf rows s)[j]? = some a → a ∈ ks') ∧ ∃ ext, ks' = ks ++ ext := by
  intro js
  induction js with
  | nil => exact fun _ kvs ks a5 a6 b hs => ⟨kvs, ks, a5, a6, by show forGo always _ _ [] _ _ = _; unfold forGo; rfl, b, by simp, [], by simp⟩
  | cons j js ih =>
    intro hj kvs ks a5 a6 b hs
    have hjl := hj j (by simp)
    have e1 : ls[j]? = some ls[j] := List.getElem?_eq_getElem hjl
    have e2 : (rowOf rows s)[j]? = some ((rowOf rows s)[j]'(by omega)) := List.getElem?_eq_getElem (by omega)
    have ha := hr _ (List.mem_of_getElem? e2)
    obtain ⟨kvs1, ks1, e3, b1, m1, ext1, x1⟩ := visitL (μ := μ) (ends := ends) b hn hs ha.1 ha.2 e1 g1 e2 s3 a6
    obtain ⟨kvs2, ks2, a5', a6', e4, b2, m2, ext2, x2⟩ := ih (fun x hx => hj x (by simp [hx])) kvs1 ks1 (some (nP j)) (some (nP _)) b1 (by rw [x1]; simp [hs])
    refine ⟨kvs2, ks2, a5', a6', ?_, b2, fun x hx y hy => ?_, ext1 ++ ext2, by rw [x2, x1, List.append_assoc]⟩
    · rw [List.map_cons]
      unfold forGo
      rw [if_pos always_true]
      simp only [bindT, List.set_cons_succ, List.set_cons_zero]
      rw [e3]
      exact e4
    · rcases List.mem_cons.mp hx with rfl | hx
      · rw [e2] at hy
        cases hy
        rw [x2]; simp [m1]
      · exact m2 x hx y hy
theorem law__law_first_logs : LawFirst raw__law_first_logs := by
  intro ls rows ends μ M
  have n2 := M.n2
  have n1 := M.n1
  have hll := letters_len M.hls
  have w := while_inv (c := C1__law_first_logs) (b := L2__law_first_logs)
    (fun m s ν => ∃ (at_ : Nat) (kvs : List (Key × PV)) (ks : List Nat) (a4 a5 a6 : Option PV), s = [some (machP ls rows ends), some (.ref μ.length), some (.ref (μ.length + 1)), some (nP at_), a4, a5, a6] ∧ ν = memF μ kvs ks ∧ OI rows ks kvs at_ ∧ m = rows.length - at_)
    (fun s ν => ∃ (at_ : Nat) (kvs : List (Key × PV)) (ks : List Nat), s[1]? = some (some (.ref μ.length)) ∧ ν = memF μ kvs ks ∧ OI rows ks kvs at_ ∧ ¬ at_ < ks.length)
    (by
      rintro m s ν ⟨at_, kvs, ks, a4, a5, a6, rfl, rfl, o, rfl⟩
      have hlen := o.1.len
      refine ⟨decide (at_ < ks.length), memF μ kvs ks, by simp [memF_len], ?_⟩
      by_cases h : at_ < ks.length
      · right
        refine ⟨decide_eq_true h, ?_⟩
        have hs : ks[at_]? = some ks[at_] := List.getElem?_eq_getElem h
        have hmem : ks[at_] ∈ ks := List.getElem_mem h
        obtain ⟨g1, g2, g3⟩ := row_get M (o.1.lt _ hmem).1
        have hr := (o.1.lt _ hmem).2
        obtain ⟨kvs2, ks2, a5', a6', e, b2, m2, x2⟩ := innerL (n := rows.length) (R := Reach rows) (μ := μ) (s := ks[at_]) (ends := ends) (ls := ls) (by omega) g1 g2 (fun a ha => ⟨g3 a ha, .step hr ha⟩) (some (nP at_)) (List.range ls.length) (fun j hj => by simpa using hj) kvs ks a5 a6 o.1 hmem
        have m3 : ∀ a ∈ rowOf rows ks[at_], a ∈ ks2 := fun a ha => by
          obtain ⟨j, hj, ej⟩ := List.mem_iff_getElem.mp ha
          exact m2 j (by simp; omega) a (by rw [← ej]; exact List.getElem?_eq_getElem hj)
        refine ⟨_, _, .inl ⟨.inl ?_, rows.length - (at_ + 1), by omega, at_ + 1, kvs2, ks2, some (nP ks[at_]), a5', a6', rfl, rfl, o.next hs b2 m3 x2, rfl⟩⟩
        have x0 : ∀ (a b c : PV), atI [a, b, c] 0 = some a := fun _ _ _ => rfl
        have er : ∀ (s : MS) (μ : MH), s[0]? = some (some (machP ls rows ends)) → mRange1 (mCallP fLen (msCons (mOp fIx (mVar 0) (mC (.int 0))) msNil)) s μ = .ok ⟨rangeVals 0 ls.length, always⟩ μ := fun s μ hs => range_ok (by simp [hs, machP, x0, fLen_ctp]) (by omega)
        simp [memF_ix hs, sFor, er, rangeVals_nat]
        rw [e]
        simp
      · left
        exact ⟨decide_eq_false h, at_, kvs, ks, rfl, rfl, o, h⟩)
  obtain ⟨s', ν', e, at_, kvs, ks, h4, rfl, o, hend⟩ := w bigN rows.length [some (machP ls rows ends), some (.ref μ.length), some (.ref (μ.length + 1)), some (nP 0), none, none, none] (memF μ [(.inl 0, .tup [])] [0]) (Nat.lt_of_lt_of_le (by omega : rows.length < 1000) (le_bigN (by decide))) ⟨0, _, _, none, none, none, rfl, rfl, OI.start n1, by simp⟩
  refine ⟨kvs, ks, ?_, o.1, o.fin hend⟩
  unfold raw__law_first_logs mDef b__law_first_logs sWhile
  have e' : whileGo C1__law_first_logs L2__law_first_logs bigN [some (machP ls rows ends), some (.ref μ.length), some (.ref (μ.length + 1)), some (.int 0), none, none, none] (μ ++ [.dK [(.inl 0, .tup [])], .lst [.int 0]]) = .nx s' (memF μ kvs ks) := e
  simp [mD1, Mini.keyOf, e', h4]
end K30

namespace K30
open PySem PySem.Spec PyProof.Rows L2 Mini
open scoped Classical
theorem comp_nats {chk : MH → Bool} {i : Nat} {c : MB} {me : ME} {s : MS} {μ : MH} (hchk : chk μ = true) (p : Nat → Bool) (g : Nat → PV) : ∀ (ks : List Nat) (acc : List PV), (∀ k ∈ ks, c (s.set i (some (nP k))) μ = .ok (p k) μ ∧ (p k = true → me (s.set i (some (nP k))) μ = .ok (g k) μ)) → acc.length + ks.length ≤ 16777216 →
    compGo chk (.nm i) c (oneElt me) s (ks.map nP) μ acc = .ok (acc ++ (ks.filter p).map g) μ
  | [], acc, _, _ => by show compGo chk _ _ _ _ [] _ _ = _; unfold compGo; rw [if_pos hchk]; simp
  | k :: ks, acc, h, hl => by
    simp only [List.length_cons] at hl
    obtain ⟨h1, h2⟩ := h k (by simp)
    rw [List.map_cons]
    unfold compGo
    rw [if_pos hchk]
    simp only [bindT_nm]
    rw [h1]
    simp only [R.bind_ok]
    cases hp : p k with
    | false =>
      simp only [Bool.false_eq_true, if_false]
      rw [comp_nats hchk p g ks acc (fun x hx => h x (by simp [hx])) (by omega)]
      simp [List.filter_cons, hp]
    | true =>
      simp only [if_true]
      have e5 : oneElt me (s.set i (some (nP k))) μ acc = .ok (acc ++ [g k]) μ := by
        unfold oneElt
        rw [h2 hp]
        exact if_pos (show acc.length < sizeLine from (by omega : acc.length < 16777216))
      rw [e5]
      simp only [R.bind_ok]
      rw [comp_nats hchk p g ks (acc ++ [g k]) (fun x hx => h x (by simp [hx])) (by simp; omega)]
      simp [List.filter_cons, hp]
theorem flatPs_nats : ∀ ks : List Nat, flatPs (ks.map nP) = some (ks.map fun k => V.int ((k : Nat) : Int))
  | [] => rfl
  | k :: ks => by
    rw [List.map_cons]
    unfold flatPs
    rw [flatPs_nats ks]
    rfl
theorem inV_nats (k : Nat) : ∀ ks : List Nat, inV (.int ((k : Nat) : Int)) (ks.map fun k => V.int ((k : Nat) : Int)) = decide (k ∈ ks) := by
  intro ks
  induction ks with
  | nil => rfl
  | cons x ks ih =>
    have e : inV (.int ((k : Nat) : Int)) ((x :: ks).map fun k => V.int ((k : Nat) : Int)) = (((x : Int) == (k : Int)) || inV (.int ((k : Nat) : Int)) (ks.map fun k => V.int ((k : Nat) : Int))) := rfl
    rw [e, ih, Bool.eq_iff_iff, Bool.or_eq_true, decide_eq_true_eq, decide_eq_true_eq, beq_iff_eq, List.mem_cons]
    constructor
    · rintro (h | h)
      · left; omega
      · exact .inr h
    · rintro (h | h)
      · left; omega
      · exact .inr h
theorem fIn_nats (k : Nat) (ks : List Nat) (μ : MH) : fIn (nP k) (.frl (ks.map nP)) μ = .ok (.bl (decide (k ∈ ks))) μ := by
  unfold fIn inOf seqR seqT lstR lstM
  simp only [flatPs_nats]
  have : flatP (nP k) = some (.int ((k : Nat) : Int)) := rfl
  rw [this]
  simp only
  rw [inV_nats]
/-! ### what lives -/
inductive Alive (rows : List (List Nat)) (ends : List Nat) : Nat → Prop
  | fin {k : Nat} : ends[k]? = some 1 → Alive rows ends k
  | step {s k : Nat} : k ∈ rowOf rows s → Alive rows ends k → Alive rows ends s
noncomputable def listN (n : Nat) (P : Nat → Prop) : List Nat := (List.range n).filter fun k => decide (P k)
theorem mem_listN {n : Nat} {P : Nat → Prop} {k : Nat} : k ∈ listN n P ↔ k < n ∧ P k := by unfold listN; simp
theorem listN_len (n : Nat) (P : Nat → Prop) : (listN n P).length ≤ n := by
  unfold listN
  have := List.length_filter_le (fun k => decide (P k)) (List.range n)
  simpa using this
def LawList (P : List (List Nat) → List Nat → Nat → Prop) (f : MF) : Prop := ∀ (ls : List Str) (rows : List (List Nat)) (ends : List Nat) (μ : MH), Mach ls rows ends → f [machP ls rows ends] μ = .ok (.frl ((listN rows.length (P rows ends)).map nP)) μ
theorem keyInts_nats : ∀ (ks : List Nat) (kvs : List (Key × PV)), kvs.map (·.1) = ks.map (fun k => (Sum.inl ((k : Nat) : Int) : Key)) → keyInts kvs = some (ks.map fun k => ((k : Nat) : Int))
  | [], [], _ => rfl
  | [], p :: kvs, h => by simp at h
  | k :: ks, [], h => by simp at h
  | k :: ks, (x, v) :: kvs, h => by
    simp at h
    obtain ⟨rfl, h2⟩ := h
    unfold keyInts
    rw [keyInts_nats ks kvs h2]
    rfl
theorem law_reached {f : MF} (hf : LawFirst f) : LawList (fun rows _ => Reach rows) (cleanF (raw_reached f)) := by
  intro ls rows ends μ M
  obtain ⟨kvs, ks, e, b, hr⟩ := hf ls rows ends μ M
  have n2 := M.n2
  have hlen := b.len
  have hs : ks.map (fun k => ((k : Nat) : Int)) ≠ ks.map (fun k => ((k : Nat) : Int)) ∨ True := .inr trivial
  have hp : ((listN rows.length (Reach rows)).map fun k => ((k : Nat) : Int)) = sortI (ks.map fun k => ((k : Nat) : Int)) := by
    refine sortI_eq ?_ ?_
    · refine List.Perm.map _ ?_
      rw [List.perm_ext_iff_of_nodup (show (listN rows.length (Reach rows)).Nodup from List.Pairwise.filter _ List.nodup_range) b.nd]
      intro k
      rw [mem_listN]
      exact ⟨fun h => hr k h.2, fun h => b.lt k h⟩
    · rw [List.pairwise_map]
      have : (listN rows.length (Reach rows)).Pairwise (· < ·) := List.Pairwise.filter _ List.pairwise_lt_range
      exact this.imp fun h => by omega
  have es : fSorted [.ref μ.length] (memF μ kvs ks) = .ok (.frl ((listN rows.length (Reach rows)).map nP)) (memF μ kvs ks) := by
    unfold fSorted
    simp only [lstR_dK (memF_d μ kvs ks), Option.bind, memF_d, keyInts_nats ks kvs b.keys]
    rw [if_pos (by rw [List.length_map]; omega), ← hp, List.map_map]
    rfl
  have e2 : raw_reached f [machP ls rows ends] μ = .ok (.frl ((listN rows.length (Reach rows)).map nP)) (memF μ kvs ks) := by
    unfold raw_reached mDef b_reached
    simp [e, es]
  unfold cleanF
  rw [e2]
  refine cl_app (fz_lo ?_)
  unfold PV.lo
  exact los_nats _ _
/-- rounds of the law -/
def F (rows : List (List Nat)) (p : Nat → Bool) : Nat → Bool := fun k => p k || (rowOf rows k).any p
def Fi (rows : List (List Nat)) (ends : List Nat) : Nat → Nat → Bool
  | 0 => fun k => decide (ends[k]? = some 1)
  | i + 1 => F rows (Fi rows ends i)
theorem fi_sound {rows : List (List Nat)} {ends : List Nat} : ∀ (i k : Nat), Fi rows ends i k = true → Alive rows ends k
  | 0, k, h => .fin (of_decide_eq_true h)
  | i + 1, k, h => by
    unfold Fi F at h
    rw [Bool.or_eq_true] at h
    rcases h with h | h
    · exact fi_sound i k h
    · obtain ⟨a, ha, hp⟩ := List.any_eq_true.mp h
      exact .step ha (fi_sound i a hp)
theorem filter_lt {p q : Nat → Bool} (h : ∀ k, p k = true → q k = true) {k0 : Nat} (h1 : p k0 = false) (h2 : q k0 = true) : ∀ (l : List Nat), k0 ∈ l → (l.filter p).length < (l.filter q).length
  | [], hm => by simp at hm
  | x :: l, hm => by
    have mono : (l.filter p).length ≤ (l.filter q).length := by
      rw [← List.countP_eq_length_filter, ← List.countP_eq_length_filter]
      exact List.countP_mono_left fun y _ hy => h y hy
    by_cases e : x = k0
    · subst e
      simp [List.filter_cons, h1, h2]
      omega
    · have ih := filter_lt h h1 h2 l (by rcases List.mem_cons.mp hm with q | q; exact absurd q.symm e; exact q)
      cases hp : p x with
      | true => simp [List.filter_cons, hp, h x hp]; omega
      | false =>
        cases hq : q x with
        | false => simp [List.filter_cons, hp, hq]; omega
        | true => simp [List.filter_cons, hp, hq]; omega
theorem fi_all {ls : List Str} {rows : List (List Nat)} {ends : List Nat} (M : Mach ls rows ends) : ∀ k, Alive rows ends k → k < rows.length → Fi rows ends rows.length k = true := by
  have up : ∀ i k, Fi rows ends i k = true → Fi rows ends (i + 1) k = true := fun i k h => by unfold Fi F; rw [h]; rfl
  have st : ∀ i, (∀ k, k < rows.length → Fi rows ends (i + 1) k = Fi rows ends i k) ∨ i ≤ ((List.range rows.length).filter (Fi rows ends i)).length := by
    intro i
    induction i with
    | zero => exact .inr (Nat.zero_le _)
    | succ i ih =>
      by_cases h : ∀ k, k < rows.length → Fi rows ends (i + 1) k = Fi rows ends i k
      · left
        intro k hk
        show F rows (Fi rows ends (i + 1)) k = F rows (Fi rows ends i) k
        unfold F
        rw [h k hk]
        congr 1
        rw [Bool.eq_iff_iff, List.any_eq_true, List.any_eq_true]
        have g := (row_get M hk).2.2
        constructor
        · rintro ⟨a, ha, e⟩; exact ⟨a, ha, by rw [← h a (g a ha)]; exact e⟩
        · rintro ⟨a, ha, e⟩; exact ⟨a, ha, by rw [h a (g a ha)]; exact e⟩
      · rcases ih with q | q
        · exact absurd q h
        · right
          obtain ⟨k, hk⟩ := Classical.not_forall.mp h
          obtain ⟨hk, hne⟩ := Classical.not_imp.mp hk
          have h1 : Fi rows ends i k = false := by
            cases e : Fi rows ends i k with
            | false => rfl
            | true => exact absurd (by rw [up i k e]; exact e.symm) hne
          have h2 : Fi rows ends (i + 1) k = true := by
            cases e : Fi rows ends (i + 1) k with
            | true => rfl
            | false => exact absurd (by rw [e, h1]) hne
          have := filter_lt (up i) h1 h2 (List.range rows.length) (by simpa using hk)
          omega
  have stable : ∀ k, k < rows.length → Fi rows ends (rows.length + 1) k = true → Fi rows ends rows.length k = true := by
    intro k hk h
    rcases st rows.length with q | q
    · rw [← q k hk]; exact h
    · have hl : ((List.range rows.length).filter (Fi rows ends rows.length)).length = (List.range rows.length).length := by
        have := List.length_filter_le (Fi rows ends rows.length) (List.range rows.length)
        simp at this ⊢
        omega
      rw [List.length_filter_eq_length_iff] at hl
      exact hl k (by simpa using hk)
  have base : ∀ i k, ends[k]? = some 1 → Fi rows ends i k = true := by
    intro i
    induction i with
    | zero => exact fun k h => decide_eq_true h
    | succ i ih => exact fun k h => up i k (ih k h)
  intro k h
  induction h with
  | fin h => exact fun _ => base _ _ h
  | @step s k hk _ ih =>
    intro hs
    refine stable s hs ?_
    show F rows (Fi rows ends rows.length) s = true
    unfold F
    rw [Bool.or_eq_true]
    right
    exact List.any_eq_true.mpr ⟨k, hk, ih ((row_get M hs).2.2 k hk)⟩
theorem fLen_rows {ls : List Str} {rows : List (List Nat)} {ends : List Nat} {s : MS} {μ : MH} (M : Mach ls rows ends) (hs : s[0]? = some (some (machP ls rows ends))) : mRange1 (mCallP fLen (msCons (mOp fIx (mVar 0) (mC (.int 1))) msNil)) s μ = .ok ⟨rangeVals 0 rows.length, always⟩ μ := by
  have x1 : ∀ (a b c : PV), atI [a, b, c] 1 = some b := fun _ _ _ => rfl
  have := M.n2
  exact range_ok (by simp [hs, machP, x1, fLen_tup]) (by omega)
@[simp] theorem at31 {α : Type} {a b c : α} : atI [a, b, c] 1 = some b := rfl
@[simp] theorem at30 {α : Type} {a b c : α} : atI [a, b, c] 0 = some a := rfl
@[simp] theorem at32 {α : Type} {a b c : α} : atI [a, b, c] 2 = some c := rfl
theorem at_row {ls : List Str} {rows : List (List Nat)} {ends : List Nat} (M : Mach ls rows ends) {k : Nat} (h : k < rows.length) : atI (rows.map rowP) ((k : Nat) : Int) = some (rowP (rowOf rows k)) := atI_nat (by rw [List.getElem?_map, (row_get M h).1]; rfl)
theorem at_end {ls : List Str} {rows : List (List Nat)} {ends : List Nat} (M : Mach ls rows ends) {k : Nat} (h : k < rows.length) : ∃ e, ends[k]? = some e ∧ atI (ends.map nP) ((k : Nat) : Int) = some (nP e) := by
  have : ends[k]? = some (ends[k]'(by rw [M.hends]; exact h)) := List.getElem?_eq_getElem _
  exact ⟨_, this, atI_nat (by rw [List.getElem?_map, this]; rfl)⟩
theorem blsOf_map : ∀ bs : List Bool, blsOf (bs.map .bl) = some bs
  | [] => rfl
  | b :: bs => by rw [List.map_cons]; unfold blsOf; rw [blsOf_map bs]; rfl
theorem fAny_bls (bs : List Bool) (μ : MH) : fAny [.frl (bs.map .bl)] μ = .ok (.bl (bs.any id)) μ := by
  unfold fAny lstR lstM
  simp only [Option.bind, blsOf_map]
theorem law__law_alive : LawList Alive (cleanF raw__law_alive) := by
  intro ls rows ends μ M
  have n2 := M.n2
  let Lp : (Nat → Bool) → PV := fun p => .frl (((List.range rows.length).filter p).map nP)
  have one : ∀ (i : Nat) (a2 a3 a4 : Option PV), L1__law_alive [some (machP ls rows ends), some (Lp (Fi rows ends i)), a2, a3, a4] μ = .nx [some (machP ls rows ends), some (Lp (Fi rows ends (i + 1))), a2, a3, a4] μ := by
    intro i a2 a3 a4
    have hc := comp_nats (chk := always) (i := 3) (s := wipeM [some (machP ls rows ends), some (Lp (Fi rows ends i)), a2, a3, a4] [3]) (μ := μ) always_true (Fi rows ends (i + 1)) nP
      (c := mbOr (mbE (mOp fIn (mVar 3) (mVar 1))) (mbE (mCallP fAny (msCons (mLc [4] (mOver (mOp fIx (mOp fIx (mVar 0) (mC (.int 1))) (mVar 3))) (.nm 4) mbYes (mOp fIn (mVar 4) (mVar 1))) msNil)))) (me := mVar 3) (List.range rows.length) [] (fun k hk => by
        have hk : k < rows.length := by simpa using hk
        refine ⟨?_, fun _ => rfl⟩
        obtain ⟨g1, g2, g3⟩ := row_get M hk
        have inner := comp_nats (chk := always) (i := 4) (s := wipeM ((wipeM [some (machP ls rows ends), some (Lp (Fi rows ends i)), a2, a3, a4] [3]).set 3 (some (nP k))) [4]) (μ := μ) always_true (fun _ => true) (fun a => .bl (Fi rows ends i a)) (c := mbYes) (me := mOp fIn (mVar 4) (mVar 1)) (rowOf rows k) [] (fun a ha => by
          refine ⟨rfl, fun _ => ?_⟩
          have hal := g3 a ha
          show fIn (nP a) (Lp (Fi rows ends i)) μ = _
          rw [fIn_nats]
          congr 2
          rw [Bool.eq_iff_iff]
          simp [hal]) (by have := letters_len M.hls; simp; omega)
        have hf : (rowOf rows k).filter (fun _ => true) = rowOf rows k := List.filter_eq_self.mpr fun _ _ => rfl
        rw [hf] at inner
        simp only [List.nil_append] at inner
        have ew : wipeM ((wipeM [some (machP ls rows ends), some (Lp (Fi rows ends i)), a2, a3, a4] [3]).set 3 (some (nP k))) [4] = [some (machP ls rows ends), some (Lp (Fi rows ends i)), a2, some (nP k), none] := rfl
        have es : (wipeM [some (machP ls rows ends), some (Lp (Fi rows ends i)), a2, a3, a4] [3]).set 3 (some (nP k)) = [some (machP ls rows ends), some (Lp (Fi rows ends i)), a2, some (nP k), a4] := rfl
        rw [ew] at inner
        rw [es]
        have emap : (rowOf rows k).map (fun a => PV.bl (Fi rows ends i a)) = ((rowOf rows k).map (Fi rows ends i)).map PV.bl := by rw [List.map_map]; rfl
        rw [emap] at inner
        have e1 := fIn_nats k ((List.range rows.length).filter (Fi rows ends i)) μ
        have e2 : decide (k ∈ (List.range rows.length).filter (Fi rows ends i)) = Fi rows ends i k := by
          rw [Bool.eq_iff_iff]
          simp [hk]
        rw [e2] at e1
        have ew2 : wipeM [some (machP ls rows ends), some (Lp (Fi rows ends i)), a2, some (nP k), a4] [4] = [some (machP ls rows ends), some (Lp (Fi rows ends i)), a2, some (nP k), none] := rfl
        simp only [mbOr, mbE, mOp, mVar, List.getElem?_cons_succ, List.getElem?_cons_zero, R.bind_ok, mC]
        have e3 : fIn (nP k) (Lp (Fi rows ends i)) μ = .ok (.bl (Fi rows ends i k)) μ := e1
        rw [e3]
        simp only [R.bind_ok, bOf_bl]
        show (if Fi rows ends i k = true then R.ok true μ else _) = R.ok (F rows (Fi rows ends i) k) μ
        unfold F
        cases e : Fi rows ends i k with
        | true => rfl
        | false =>
          simp only [Bool.false_eq_true, if_false, Bool.false_or, mCallP, msCons, msNil, mLc, mOver, mOp, mVar, mC, List.getElem?_cons_succ, List.getElem?_cons_zero, R.bind_ok]
          rw [ew2]
          simp only [machP, fIx_tup, at31, at_row M hk, R.bind_ok, rowP, planOf]
          simp only [machP] at inner
          rw [inner]
          simp only [noErr_okE, R.bind_ok, fAny_bls, bOf_bl]
          rw [List.any_map]
          rfl) (by simp; omega)
    simp only [List.nil_append] at hc
    have er := fLen_rows (s := [some (machP ls rows ends), some (Lp (Fi rows ends i)), a2, a3, a4]) (μ := μ) M rfl
    simp only [sAsg, mLc]
    rw [er]
    simp only [R.bind_ok, rangeVals_nat]
    rw [show (fun i : Nat => PV.int (i : Nat)) = nP from rfl, hc]
    simp
    rfl
  have loop : ∀ (vs : List PV) (i : Nat) (a2 a3 a4 : Option PV), ∃ a2', forGo always (.nm 2) L1__law_alive vs [some (machP ls rows ends), some (Lp (Fi rows ends i)), a2, a3, a4] μ = .nx [some (machP ls rows ends), some (Lp (Fi rows ends (i + vs.length))), a2', a3, a4] μ := by
    intro vs
    induction vs with
    | nil => exact fun i a2 a3 a4 => ⟨a2, by show forGo always _ _ [] _ _ = _; unfold forGo; rfl⟩
    | cons v vs ih =>
      intro i a2 a3 a4
      obtain ⟨a2', e⟩ := ih (i + 1) (some v) a3 a4
      refine ⟨a2', ?_⟩
      unfold forGo
      rw [if_pos always_true]
      simp only [bindT_nm, List.set_cons_succ, List.set_cons_zero]
      rw [one i]
      simp only
      rw [e]
      rw [List.length_cons, show i + 1 + vs.length = i + (vs.length + 1) by omega]
  have h0 := comp_nats (chk := always) (i := 3) (s := [some (machP ls rows ends), none, none, none, none]) (μ := μ) always_true (Fi rows ends 0) nP (c := mbE (mOp fEq (mOp fIx (mOp fIx (mVar 0) (mC (.int 2))) (mVar 3)) (mC (.int 1)))) (me := mVar 3) (List.range rows.length) [] (fun k hk => by
    have hk : k < rows.length := by simpa using hk
    refine ⟨?_, fun _ => rfl⟩
    obtain ⟨e, e1, e2⟩ := at_end M hk
    simp [machP, e2, Fi, e1]
    omega) (by simp; omega)
  simp only [List.nil_append] at h0
  obtain ⟨a2', e⟩ := loop (rangeVals 0 rows.length) 0 none none none
  have el : (rangeVals 0 rows.length).length = rows.length := by simp [rangeVals]
  rw [el, Nat.zero_add] at e
  have fin : (List.range rows.length).filter (Fi rows ends rows.length) = listN rows.length (Alive rows ends) := by
    unfold listN
    refine List.filter_congr fun k hk => ?_
    have hk : k < rows.length := by simpa using hk
    rw [Bool.eq_iff_iff, decide_eq_true_eq]
    exact ⟨fi_sound _ k, fun h => fi_all M k h hk⟩
  have e2 : raw__law_alive [machP ls rows ends] μ = .ok (.frl ((listN rows.length (Alive rows ends)).map nP)) μ := by
    rw [← fin]
    unfold raw__law_alive mDef b__law_alive
    have er := fLen_rows (s := [some (machP ls rows ends), none, none, none, none]) (μ := μ) M rfl
    have er2 := fLen_rows (s := [some (machP ls rows ends), some (Lp (Fi rows ends 0)), none, none, none]) (μ := μ) M rfl
    have ew : wipeM [some (machP ls rows ends), none, none, none, none] [3] = [some (machP ls rows ends), none, none, none, none] := rfl
    simp [mLc, er, ew, rangeVals_nat, h0, sFor]
    simp only [rangeVals_nat] at er2 e
    simp [Lp] at er2 e ⊢
    simp [er2, e]
  unfold cleanF
  rw [e2]
  refine cl_self ?_
  unfold PV.lo
  exact los_nats _ _
end K30

namespace K30
open PySem PySem.Spec PyProof.Rows L2 Mini
open scoped Classical
/-! ### the program's alive -/
def memB (μ : MH) (bs : List Bool) : MH := μ ++ [.lst (bs.map .bl)]
theorem memB_get (μ : MH) (bs : List Bool) : (memB μ bs)[μ.length]? = some (.lst (bs.map .bl)) := by unfold memB; simp
theorem memB_ix {μ : MH} {bs : List Bool} {k : Nat} (h : k < bs.length) : fIx (.ref μ.length) (nP k) (memB μ bs) = .ok (.bl (bs.getD k false)) (memB μ bs) := by
  have e : bs[k]? = some bs[k] := List.getElem?_eq_getElem h
  rw [fIx_ref (memB_get μ bs), atI_nat (x := .bl (bs.getD k false)) (by rw [List.getElem?_map, e]; simp [List.getD, e])]
theorem memB_store {μ : MH} {bs : List Bool} {k : Nat} (h : k < bs.length) : fStore (.ref μ.length) (nP k) (.bl true) (memB μ bs) = some (memB μ (bs.set k true)) := by
  have e : lstore (.ref μ.length) (nP k) (.bl true) (memB μ bs) = some (memB μ (bs.set k true)) := by
    unfold lstore
    simp only [memB_get]
    have : ixN (bs.map PV.bl).length ((k : Nat) : Int) = some k := by
      unfold ixN
      rw [List.length_map, if_pos (by omega), if_pos (by omega)]
      simp
    rw [this]
    unfold memB
    simp [List.set_append]
  unfold fStore
  rw [e]
structure BS (rows : List (List Nat)) (ends : List Nat) (bs : List Bool) : Prop where
  len : bs.length = rows.length
  sound : ∀ k, k < rows.length → bs.getD k false = true → Alive rows ends k
  fin : ∀ k, k < rows.length → ends[k]? = some 1 → bs.getD k false = true
def opened (rows : List (List Nat)) (bs : List Bool) (k : Nat) : Bool := !bs.getD k false && (rowOf rows k).any fun a => bs.getD a false
theorem getD_set {bs : List Bool} {i k : Nat} (h : i < bs.length) : (bs.set i true).getD k false = if k = i then true else bs.getD k false := by
  simp only [List.getD, List.getElem?_set]
  split
  · rename_i e; subst e; simp [h]
  · rename_i e; rw [if_neg (fun q => e q.symm)]
theorem count_set {bs : List Bool} {i : Nat} (h : i < bs.length) (hb : bs.getD i false = false) : (bs.set i true).count false + 1 = bs.count false := by
  induction bs generalizing i with
  | nil => simp at h
  | cons b bs ih =>
    cases i with
    | zero => simp [List.getD] at hb; subst hb; simp
    | succ i =>
      simp [List.getD] at hb
      have := ih (i := i) (by simpa using h) (by simpa [List.getD] using hb)
      simp [List.count_cons]
      omega
theorem turnA {ls : List Str} {rows : List (List Nat)} {ends : List Nat} {μ : MH} (M : Mach ls rows ends) {bs : List Bool} (B : BS rows ends bs) {i : Nat} (hi : i < rows.length) (s0 s1 s2 s3 s8 s9 s10 : Option PV) (ch : Bool) :
    L1_alive [s0, s1, s2, s3, some (.ref μ.length), some (.bl ch), some (nP i), some (rowP (rowOf rows i)), s8, s9, s10] (memB μ bs) = if opened rows bs i = true then .nx [s0, s1, s2, s3, some (.ref μ.length), some (.bl true), some (nP i), some (rowP (rowOf rows i)), s8, s9, s10] (memB μ (bs.set i true)) else .nx [s0, s1, s2, s3, some (.ref μ.length), some (.bl ch), some (nP i), some (rowP (rowOf rows i)), s8, s9, s10] (memB μ bs) := by
  have hib : i < bs.length := by rw [B.len]; exact hi
  obtain ⟨g1, g2, g3⟩ := row_get M hi
  have hll := letters_len M.hls
  have inner := comp_nats (chk := always) (i := 9) (s := [s0, s1, s2, s3, some (.ref μ.length), some (.bl ch), some (nP i), some (rowP (rowOf rows i)), s8, none, s10]) (μ := memB μ bs) always_true (fun _ => true) (fun a => .bl (bs.getD a false)) (c := mbYes) (me := mOp fIx (mVar 4) (mVar 9)) (rowOf rows i) [] (fun a ha => by
    refine ⟨rfl, fun _ => ?_⟩
    show fIx (.ref μ.length) (nP a) (memB μ bs) = _
    exact memB_ix (by rw [B.len]; exact g3 a ha)) (by simp; omega)
  have hf : (rowOf rows i).filter (fun _ => true) = rowOf rows i := List.filter_eq_self.mpr fun _ _ => rfl
  rw [hf] at inner
  simp only [List.nil_append] at inner
  have emap : (rowOf rows i).map (fun a => PV.bl (bs.getD a false)) = ((rowOf rows i).map fun a => bs.getD a false).map PV.bl := by rw [List.map_map]; rfl
  rw [emap] at inner
  have ew : wipeM [s0, s1, s2, s3, some (.ref μ.length), some (.bl ch), some (nP i), some (rowP (rowOf rows i)), s8, s9, s10] [9] = [s0, s1, s2, s3, some (.ref μ.length), some (.bl ch), some (nP i), some (rowP (rowOf rows i)), s8, none, s10] := rfl
  have e1 := memB_ix (μ := μ) hib
  unfold opened
  simp only [rowP] at inner ew ⊢
  cases hb : bs.getD i false with
  | true =>
    rw [hb] at e1
    simp [e1]
  | false =>
    rw [hb] at e1
    have ea := fAny_bls ((rowOf rows i).map fun a => bs.getD a false) (memB μ bs)
    have es := memB_store (μ := μ) hib
    cases hq : (rowOf rows i).any (fun a => bs.getD a false) with
    | true =>
      have : ((rowOf rows i).map fun a => bs.getD a false).any id = true := by rw [List.any_map]; exact hq
      rw [this] at ea
      simp only [L1_alive, sIf, mbAnd, mbNot, mbE, mOp, mVar, mC, mCallP, msCons, msNil, mLc, mOver, planOf, List.getElem?_cons_succ, List.getElem?_cons_zero, R.bind_ok, e1, bOf_bl, Bool.not_false, if_true, ew, inner, noErr_okE, ea, sBind_ok, Bool.true_and, sSeq, sSub, es, sAsg, bindT_nm, List.set_cons_succ, List.set_cons_zero]
    | false =>
      have : ((rowOf rows i).map fun a => bs.getD a false).any id = false := by rw [List.any_map]; exact hq
      rw [this] at ea
      simp only [L1_alive, sIf, mbAnd, mbNot, mbE, mOp, mVar, mC, mCallP, msCons, msNil, mLc, mOver, planOf, List.getElem?_cons_succ, List.getElem?_cons_zero, R.bind_ok, e1, bOf_bl, Bool.not_false, if_true, ew, inner, noErr_okE, ea, sBind_ok, Bool.true_and, Bool.false_eq_true, if_false, sNil]
theorem BS.turn {ls : List Str} {rows : List (List Nat)} {ends : List Nat} {bs : List Bool} (M : Mach ls rows ends) (B : BS rows ends bs) {i : Nat} (hi : i < rows.length) (ho : opened rows bs i = true) : BS rows ends (bs.set i true) ∧ (bs.set i true).count false < bs.count false := by
  have hib : i < bs.length := by rw [B.len]; exact hi
  unfold opened at ho
  rw [Bool.and_eq_true, Bool.not_eq_true'] at ho
  obtain ⟨a, ha, hb⟩ := List.any_eq_true.mp ho.2
  have hal := (row_get M hi).2.2 a ha
  refine ⟨⟨by rw [List.length_set]; exact B.len, fun k hk h => ?_, fun k hk h => ?_⟩, by have := count_set hib ho.1; omega⟩
  · rw [getD_set hib] at h
    by_cases e : k = i
    · subst e; exact .step ha (B.sound a hal hb)
    · rw [if_neg e] at h; exact B.sound k hk h
  · rw [getD_set hib]
    split
    · rfl
    · exact B.fin k hk h
theorem enum_cons (i : Nat) (x : PV) (xs : List PV) : enumVals i (x :: xs) = .tup [.int (i : Nat), x] :: enumVals (i + 1) xs := rfl
theorem passA {ls : List Str} {rows : List (List Nat)} {ends : List Nat} {μ : MH} (M : Mach ls rows ends) (s0 s1 s2 s3 s8 s9 s10 : Option PV) : ∀ (rs : List (List Nat)) (i : Nat) (bs : List Bool) (ch : Bool) (s6 s7 : Option PV), rows.drop i = rs → BS rows ends bs →
    ∃ bs' ch' s6' s7', forGo always (.tp [(.nm 6), (.nm 7)]) L1_alive (enumVals i (rs.map rowP)) [s0, s1, s2, s3, some (.ref μ.length), some (.bl ch), s6, s7, s8, s9, s10] (memB μ bs) = .nx [s0, s1, s2, s3, some (.ref μ.length), some (.bl ch'), s6', s7', s8, s9, s10] (memB μ bs') ∧ BS rows ends bs' ∧
      ((ch' = ch ∧ bs' = bs ∧ ∀ j, i ≤ j → j < rows.length → opened rows bs j = false) ∨ (ch' = true ∧ bs'.count false < bs.count false)) := by
  intro rs
  induction rs with
  | nil =>
    intro i bs ch s6 s7 hd B
    have hl : rows.length ≤ i := List.drop_eq_nil_iff.mp hd
    exact ⟨bs, ch, s6, s7, by show forGo always _ _ [] _ _ = _; unfold forGo; rfl, B, .inl ⟨rfl, rfl, fun j h1 h2 => by omega⟩⟩
  | cons r rs ih =>
    intro i bs ch s6 s7 hd B
    have hi : i < rows.length := by
      rcases Nat.lt_or_ge i rows.length with h | h
      · exact h
      · rw [List.drop_eq_nil_of_le h] at hd; cases hd
    have hr : rowOf rows i = r := by
      have : rows[i]? = some r := by
        have := congrArg (fun l => l[0]?) hd
        simpa using this
      unfold rowOf
      rw [this]
      rfl
    have hd2 : rows.drop (i + 1) = rs := by rw [← List.drop_drop, hd]; rfl
    have t := turnA (μ := μ) M B hi s0 s1 s2 s3 s8 s9 s10 ch
    rw [hr] at t
    by_cases ho : opened rows bs i = true
    · rw [if_pos ho] at t
      obtain ⟨B2, hc⟩ := B.turn M hi ho
      obtain ⟨bs', ch', s6', s7', e, B3, q⟩ := ih (i + 1) (bs.set i true) true (some (nP i)) (some (rowP r)) hd2 B2
      refine ⟨bs', ch', s6', s7', ?_, B3, .inr ?_⟩
      · rw [List.map_cons, enum_cons]
        unfold forGo
        rw [if_pos always_true]
        simp only [bindT_tup, bindTs_nm, bindTs_nil, List.set_cons_succ, List.set_cons_zero]
        rw [t]
        exact e
      · rcases q with ⟨h1, h2, _⟩ | ⟨h1, h2⟩
        · exact ⟨h1, by rw [h2]; exact hc⟩
        · exact ⟨h1, by omega⟩
    · rw [if_neg ho] at t
      obtain ⟨bs', ch', s6', s7', e, B3, q⟩ := ih (i + 1) bs ch (some (nP i)) (some (rowP r)) hd2 B
      refine ⟨bs', ch', s6', s7', ?_, B3, ?_⟩
      · rw [List.map_cons, enum_cons]
        unfold forGo
        rw [if_pos always_true]
        simp only [bindT_tup, bindTs_nm, bindTs_nil, List.set_cons_succ, List.set_cons_zero]
        rw [t]
        exact e
      · rcases q with ⟨h1, h2, h3⟩ | q
        · refine .inl ⟨h1, h2, fun j hj hj2 => ?_⟩
          by_cases e : j = i
          · subst e; simpa using ho
          · exact h3 j (by omega) hj2
        · exact .inr q
theorem alive_eq {ls : List Str} {rows : List (List Nat)} {ends : List Nat} {bs : List Bool} (M : Mach ls rows ends) (B : BS rows ends bs) (hc : ∀ j, j < rows.length → opened rows bs j = false) : ∀ k, Alive rows ends k → k < rows.length → bs.getD k false = true := by
  intro k h
  induction h with
  | fin h => exact fun hk => B.fin _ hk h
  | @step s k hk _ ih =>
    intro hs
    have := hc s hs
    unfold opened at this
    cases hb : bs.getD s false with
    | true => rfl
    | false =>
      rw [hb] at this
      have h2 : (rowOf rows s).any (fun a => bs.getD a false) = true := List.any_eq_true.mpr ⟨k, hk, ih ((row_get M hs).2.2 k hk)⟩
      rw [h2] at this
      cases this
theorem comp_enum {chk : MH → Bool} {s : MS} {μ : MH} (hchk : chk μ = true) (h6 : 6 < s.length) (h10 : 10 < s.length) : ∀ (bs : List Bool) (i : Nat) (acc : List PV), acc.length + bs.length ≤ 16777216 →
    compGo chk (.tp [(.nm 6), (.nm 10)]) (mbE (mVar 10)) (oneElt (mVar 6)) s (enumVals i (bs.map .bl)) μ acc = .ok (acc ++ (((List.range bs.length).filter fun k => bs.getD k false).map fun k => nP (i + k))) μ
  | [], i, acc, _ => by show compGo chk _ _ _ _ [] _ _ = _; unfold compGo; rw [if_pos hchk]; simp
  | b :: bs, i, acc, hl => by
    simp only [List.length_cons] at hl
    rw [List.map_cons, enum_cons]
    unfold compGo
    rw [if_pos hchk]
    simp only [bindT_tup, bindTs_nm, bindTs_nil]
    have e10 : mVar 10 ((s.set 6 (some (.int (i : Nat)))).set 10 (some (.bl b))) μ = .ok (.bl b) μ := by
      unfold mVar
      rw [List.getElem?_set_self (by simpa using h10)]
    have e6 : mVar 6 ((s.set 6 (some (.int (i : Nat)))).set 10 (some (.bl b))) μ = .ok (nP i) μ := by
      unfold mVar
      rw [List.getElem?_set_ne (by decide), List.getElem?_set_self h6]
    have er : ((List.range (b :: bs).length).filter fun k => (b :: bs).getD k false).map (fun k => nP (i + k)) = (if b then [nP i] else []) ++ ((List.range bs.length).filter fun k => bs.getD k false).map (fun k => nP (i + 1 + k)) := by
      rw [List.length_cons, List.range_succ_eq_map, List.filter_cons]
      have : ∀ k, (b :: bs).getD (k + 1) false = bs.getD k false := fun k => rfl
      rw [List.filter_map]
      cases b <;> simp [List.map_map, Function.comp_def, this, Nat.add_assoc, Nat.add_comm 1]
    rw [er]
    unfold mbE
    rw [e10]
    simp only [R.bind_ok, bOf_bl]
    cases b with
    | true =>
      simp only [if_true]
      unfold oneElt
      rw [e6]
      simp only [R.bind_ok]
      rw [if_pos (show acc.length < sizeLine from (by omega : acc.length < 16777216))]
      simp only [R.bind_ok]
      have := comp_enum hchk h6 h10 bs (i + 1) (acc ++ [nP i]) (by simp; omega)
      unfold oneElt mbE at this
      rw [this]
      simp
    | false =>
      simp only [Bool.false_eq_true, if_false]
      have := comp_enum hchk h6 h10 bs (i + 1) acc (by omega)
      unfold mbE at this
      rw [this]
      simp
theorem law_alive : LawList Alive (cleanF raw_alive) := by
  intro ls rows ends μ M
  have n2 := M.n2
  let bs0 : List Bool := ends.map fun e => decide (e = 1)
  have B0 : BS rows ends bs0 := ⟨by simp [bs0, M.hends], fun k hk h => by
    obtain ⟨e, h1, _⟩ := at_end M hk
    refine .fin ?_
    simp [bs0, List.getD, h1] at h
    rw [h1, h], fun k hk h => by simp [bs0, List.getD, h]⟩
  have w := while_inv (c := C1_alive) (b := L2_alive)
    (fun m s ν => ∃ (bs : List Bool) (ch : Bool) (s6 s7 : Option PV), s = [some (machP ls rows ends), some (.ctp (ls.map .str)), some (.tup (rows.map rowP)), some (.tup (ends.map nP)), some (.ref μ.length), some (.bl ch), s6, s7, none, none, none] ∧ ν = memB μ bs ∧ BS rows ends bs ∧ m = 2 * bs.count false + (if ch then 1 else 0) ∧ (ch = false → ∀ j, j < rows.length → opened rows bs j = false))
    (fun s ν => ∃ (bs : List Bool) (s6 s7 : Option PV), s = [some (machP ls rows ends), some (.ctp (ls.map .str)), some (.tup (rows.map rowP)), some (.tup (ends.map nP)), some (.ref μ.length), some (.bl false), s6, s7, none, none, none] ∧ ν = memB μ bs ∧ BS rows ends bs ∧ ∀ j, j < rows.length → opened rows bs j = false)
    (by
      rintro m s ν ⟨bs, ch, s6, s7, rfl, rfl, B, rfl, hcl⟩
      refine ⟨ch, memB μ bs, rfl, ?_⟩
      cases ch with
      | false => exact .inl ⟨rfl, bs, s6, s7, rfl, rfl, B, hcl rfl⟩
      | true =>
        right
        refine ⟨rfl, ?_⟩
        obtain ⟨bs', ch', s6', s7', e, B2, q⟩ := passA (μ := μ) M (some (machP ls rows ends)) (some (.ctp (ls.map .str))) (some (.tup (rows.map rowP))) (some (.tup (ends.map nP))) none none none rows 0 bs false s6 s7 rfl B
        refine ⟨_, _, .inl ⟨.inl ?_, 2 * bs'.count false + (if ch' then 1 else 0), ?_, bs', ch', s6', s7', rfl, rfl, B2, rfl, ?_⟩⟩
        · simp only [L2_alive, sSeq, sAsg, mC, sBind_ok, bindT_nm, List.set_cons_succ, List.set_cons_zero, sFor, mEnum, mVar, List.getElem?_cons_succ, List.getElem?_cons_zero, R.bind_ok, planOf]
          exact e
        · rcases q with ⟨h1, h2, _⟩ | ⟨h1, h2⟩
          · rw [h1, h2]; simp
          · rw [h1]; simp; omega
        · intro hf
          rcases q with ⟨_, h2, h3⟩ | ⟨h1, _⟩
          · rw [h2]; exact fun j hj => h3 j (Nat.zero_le _) hj
          · rw [h1] at hf; cases hf)
  have hcnt : bs0.count false ≤ 30 := Nat.le_trans List.count_le_length (by rw [B0.len]; exact n2)
  obtain ⟨s', ν', e, bs, s6, s7, rfl, rfl, B, hc⟩ := w bigN (2 * bs0.count false + 1) [some (machP ls rows ends), some (.ctp (ls.map .str)), some (.tup (rows.map rowP)), some (.tup (ends.map nP)), some (.ref μ.length), some (.bl true), none, none, none, none, none] (memB μ bs0) (Nat.lt_of_lt_of_le (by omega : 2 * bs0.count false + 1 < 1000) (le_bigN (by decide))) ⟨bs0, true, none, none, rfl, rfl, B0, rfl, fun h => by cases h⟩
  have h0 := comp_nats (chk := always) (i := 8) (s := [some (machP ls rows ends), some (.ctp (ls.map .str)), some (.tup (rows.map rowP)), some (.tup (ends.map nP)), none, none, none, none, none, none, none]) (μ := μ) always_true (fun _ => true) (fun e => .bl (decide (e = 1))) (c := mbYes) (me := mOp fEq (mVar 8) (mC (.int 1))) ends [] (fun x hx => by
    refine ⟨rfl, fun _ => ?_⟩
    have : (((x : Nat) : Int) = 1) ↔ x = 1 := by omega
    simp [this]) (by have := M.hends; simp; omega)
  rw [List.filter_eq_self.mpr (fun _ _ => rfl)] at h0
  simp only [List.nil_append] at h0
  have emap : ends.map (fun e => PV.bl (decide (e = 1))) = bs0.map PV.bl := by simp [bs0, Function.comp_def]
  rw [emap] at h0
  have hs : stays μ.length (bs.map .bl) (memB μ bs) = true := stays_self (memB_get μ bs)
  have h1 := comp_enum (chk := stays μ.length (bs.map .bl)) (s := wipeM [some (machP ls rows ends), some (.ctp (ls.map .str)), some (.tup (rows.map rowP)), some (.tup (ends.map nP)), some (.ref μ.length), some (.bl false), s6, s7, none, none, none] [6, 10]) (μ := memB μ bs) hs (show 6 < 11 by decide) (show 10 < 11 by decide) bs 0 [] (by rw [B.len]; simp; omega)
  have fin : ((List.range bs.length).filter fun k => bs.getD k false) = listN rows.length (Alive rows ends) := by
    unfold listN
    rw [B.len]
    refine List.filter_congr fun k hk => ?_
    have hk : k < rows.length := by simpa using hk
    rw [Bool.eq_iff_iff, decide_eq_true_eq]
    exact ⟨B.sound k hk, fun h => alive_eq M B hc k h hk⟩
  rw [fin] at h1
  simp only [List.nil_append, Nat.zero_add] at h1
  have e2 : raw_alive [machP ls rows ends] μ = .ok (.frl ((listN rows.length (Alive rows ends)).map nP)) (memB μ bs) := by
    unfold raw_alive mDef b_alive sWhile
    have ew : wipeM [some (machP ls rows ends), some (.ctp (ls.map .str)), some (.tup (rows.map rowP)), some (.tup (ends.map nP)), none, none, none, none, none, none, none] [8] = [some (machP ls rows ends), some (.ctp (ls.map .str)), some (.tup (rows.map rowP)), some (.tup (ends.map nP)), none, none, none, none, none, none, none] := rfl
    simp only [List.length_cons, List.length_nil, Nat.zero_add, if_true, List.map_cons, List.map_nil, List.replicate, List.cons_append, List.nil_append, sSeq, sAsg, mVar, List.getElem?_cons_zero, sBind_ok, machP, bindT_tup, bindTs_nm, bindTs_nil, List.set_cons_succ, List.set_cons_zero, mLcL, mOver, List.getElem?_cons_succ, R.bind_ok, planOf]
    simp only [machP] at h0 ew e h1
    rw [ew, h0]
    simp only [noErr_okE, R.bind_ok, sBind_ok, mC, bindT_nm, List.set_cons_succ, List.set_cons_zero]
    rw [show μ ++ [MO.lst (bs0.map .bl)] = memB μ bs0 from rfl, e]
    simp only [sRet, mLc, mEnum, mVar, List.getElem?_cons_succ, List.getElem?_cons_zero, R.bind_ok, planOf, memB_get]
    rw [h1]
    simp only [noErr_okE, R.bind_ok, sBind_ok]
  unfold cleanF
  rw [e2]
  refine cl_app (fz_lo ?_)
  unfold PV.lo
  exact los_nats _ _
/-! ### useful states -/
def Use (rows : List (List Nat)) (ends : List Nat) (k : Nat) : Prop := Reach rows k ∧ Alive rows ends k
theorem filter_listN {n : Nat} {P Q R : Nat → Prop} (p : Nat → Bool) (hp : ∀ k, k < n → P k → (p k = true ↔ Q k)) (hR : ∀ k, k < n → (R k ↔ P k ∧ Q k)) : (listN n P).filter p = listN n R := by
  unfold listN
  rw [List.filter_filter]
  refine List.filter_congr fun k hk => ?_
  have hk : k < n := by simpa using hk
  rw [Bool.eq_iff_iff, Bool.and_eq_true, decide_eq_true_eq, decide_eq_true_eq, hR k hk]
  exact ⟨fun h => ⟨h.2, (hp k hk h.2).mp h.1⟩, fun h => ⟨(hp k hk h.1).mpr h.2, h.1⟩⟩
theorem law_useful {fa fr : MF} (ha : LawList Alive fa) (hr : LawList (fun rows _ => Reach rows) fr) : LawList Use (cleanF (raw_useful fa fr)) := by
  intro ls rows ends μ M
  have n2 := M.n2
  have h0 := comp_nats (chk := always) (i := 2) (s := [some (machP ls rows ends), some (.frl ((listN rows.length (Alive rows ends)).map nP)), none]) (μ := μ) always_true (fun k => decide (k ∈ listN rows.length (Alive rows ends))) nP (c := mbE (mOp fIn (mVar 2) (mVar 1))) (me := mVar 2) (listN rows.length (Reach rows)) [] (fun k hk => by
    refine ⟨?_, fun _ => rfl⟩
    simp only [mbE, mOp, mVar, List.set_cons_succ, List.set_cons_zero, List.getElem?_cons_succ, List.getElem?_cons_zero, R.bind_ok]
    have e := fIn_nats k (listN rows.length (Alive rows ends)) μ
    rw [e]
    rfl) (by have := listN_len rows.length (Reach rows); simp; omega)
  rw [filter_listN (Q := Alive rows ends) (R := Use rows ends) _ (fun k hk _ => by rw [decide_eq_true_eq, mem_listN]; exact ⟨fun h => h.2, fun h => ⟨hk, h⟩⟩) (fun k _ => Iff.rfl)] at h0
  have e2 : raw_useful fa fr [machP ls rows ends] μ = .ok (.frl ((listN rows.length (Use rows ends)).map nP)) μ := by
    unfold raw_useful mDef b_useful
    have ew : wipeM [some (machP ls rows ends), some (.frl ((listN rows.length (Alive rows ends)).map nP)), none] [2] = [some (machP ls rows ends), some (.frl ((listN rows.length (Alive rows ends)).map nP)), none] := rfl
    have e3 := ha ls rows ends μ M
    have e4 := hr ls rows ends μ M
    simp [e3, e4, mLc, mOver, planOf, ew, h0]
  unfold cleanF
  rw [e2]
  refine cl_self ?_
  unfold PV.lo
  exact los_nats _ _
theorem law__law_useful {ff fa : MF} (hf : LawFirst ff) (ha : LawList Alive fa) : LawList Use (cleanF (raw__law_useful ff fa)) := by
  intro ls rows ends μ M
  have n2 := M.n2
  obtain ⟨kvs, ks, e, b, hr⟩ := hf ls rows ends μ M
  have h0 := comp_nats (chk := always) (i := 2) (s := [some (machP ls rows ends), some (.ref μ.length), none]) (μ := memF μ kvs ks) always_true (fun k => decide (k ∈ ks)) nP (c := mbE (mOp fIn (mVar 2) (mVar 1))) (me := mVar 2) (listN rows.length (Alive rows ends)) [] (fun k hk => by
    refine ⟨?_, fun _ => rfl⟩
    simp only [mbE, mOp, mVar, List.set_cons_succ, List.set_cons_zero, List.getElem?_cons_succ, List.getElem?_cons_zero, R.bind_ok]
    have e := fIn_dK (i := ((k : Nat) : Int)) (memF_d μ kvs ks)
    rw [e, b.mem]
    rfl) (by have := listN_len rows.length (Alive rows ends); simp; omega)
  rw [filter_listN (Q := Reach rows) (R := Use rows ends) _ (fun k hk _ => by rw [decide_eq_true_eq]; exact ⟨fun h => (b.lt k h).2, fun h => hr k h⟩) (fun k _ => ⟨fun h => ⟨h.2, h.1⟩, fun h => ⟨h.2, h.1⟩⟩)] at h0
  have e2 : raw__law_useful ff fa [machP ls rows ends] μ = .ok (.frl ((listN rows.length (Use rows ends)).map nP)) (memF μ kvs ks) := by
    unfold raw__law_useful mDef b__law_useful
    have ew : wipeM [some (machP ls rows ends), some (.ref μ.length), none] [2] = [some (machP ls rows ends), some (.ref μ.length), none] := rfl
    have e3 := ha ls rows ends (memF μ kvs ks) M
    simp [e, e3, mLc, mOver, planOf, ew, h0]
  unfold cleanF
  rw [e2]
  refine cl_app (fz_lo ?_)
  unfold PV.lo
  exact los_nats _ _
/-! ### ends -/
noncomputable def endsL (rows : List (List Nat)) (ends : List Nat) : List Nat := (listN rows.length (Use rows ends)).filter fun k => decide (ends[k]? = some 1)
theorem ends_comp2 {ls : List Str} {rows : List (List Nat)} {ends : List Nat} (M : Mach ls rows ends) (μ : MH) : compGo always (.nm 1) (mbE (mOp fEq (mOp fIx (mOp fIx (mVar 0) (mC (.int 2))) (mVar 1)) (mC (.int 1)))) (oneElt (mVar 1)) [some (machP ls rows ends), none] ((listN rows.length (Use rows ends)).map nP) μ [] = .ok ((endsL rows ends).map nP) μ := by
  have n2 := M.n2
  have h0 := comp_nats (chk := always) (i := 1) (s := [some (machP ls rows ends), none]) (μ := μ) always_true (fun k => decide (ends[k]? = some 1)) nP (c := mbE (mOp fEq (mOp fIx (mOp fIx (mVar 0) (mC (.int 2))) (mVar 1)) (mC (.int 1)))) (me := mVar 1) (listN rows.length (Use rows ends)) [] (fun k hk => by
    have hk := (mem_listN.mp hk).1
    refine ⟨?_, fun _ => rfl⟩
    obtain ⟨e, e1, e2⟩ := at_end M hk
    simp [machP, e2, e1]
    omega) (by have := listN_len rows.length (Use rows ends); simp; omega)
  simp only [List.nil_append] at h0
  exact h0
def LawEnds (f : MF) : Prop := ∀ (ls : List Str) (rows : List (List Nat)) (ends : List Nat) (μ : MH), Mach ls rows ends → f [machP ls rows ends] μ = .ok (.frl ((endsL rows ends).map nP)) μ
def LawEndsP (f : MF) : Prop := ∀ (ls : List Str) (rows : List (List Nat)) (ends : List Nat) (μ : MH), Mach ls rows ends → f [machP ls rows ends] μ = .ok (.ref μ.length) (μ ++ [.lst ((endsL rows ends).map nP)])
theorem law_ends_of {fu : MF} (hu : LawList Use fu) : LawEndsP (raw_ends_of fu) := by
  intro ls rows ends μ M
  have h0 := ends_comp2 M μ
  unfold raw_ends_of mDef b_ends_of
  have ew : wipeM [some (machP ls rows ends), none] [1] = [some (machP ls rows ends), none] := rfl
  have e3 := hu ls rows ends μ M
  simp [e3, mLcL, mOver, planOf, ew, h0]
theorem law__law_ends {fu : MF} (hu : LawList Use fu) : LawEnds (cleanF (raw__law_ends fu)) := by
  intro ls rows ends μ M
  have h0 := ends_comp2 M μ
  have e2 : raw__law_ends fu [machP ls rows ends] μ = .ok (.frl ((endsL rows ends).map nP)) μ := by
    unfold raw__law_ends mDef b__law_ends
    have ew : wipeM [some (machP ls rows ends), none] [1] = [some (machP ls rows ends), none] := rfl
    have e3 := hu ls rows ends μ M
    simp [e3, mLc, mOver, planOf, ew, h0]
  unfold cleanF
  rw [e2]
  refine cl_self ?_
  unfold PV.lo
  exact los_nats _ _
end K30

namespace K30
open PySem PySem.Spec PyProof.Rows L2 Mini
open scoped Classical
/-! ### steps -/
def stepsRow (U : List Nat) (s : Nat) : List Str → List Nat → List PV
  | l :: ls, a :: r => (if a ∈ U then [.tup [nP s, .str l]] else []) ++ stepsRow U s ls r
  | _, _ => []
theorem stepsRow_len (U : List Nat) (s : Nat) : ∀ (ls : List Str) (r : List Nat), (stepsRow U s ls r).length ≤ ls.length
  | [], r => by simp [stepsRow]
  | l :: ls, [] => by simp [stepsRow]
  | l :: ls, a :: r => by
    have := stepsRow_len U s ls r
    unfold stepsRow
    split <;> simp <;> omega
def stepsAll (U : List Nat) (ls : List Str) (rows : List (List Nat)) : List Nat → List PV
  | [] => []
  | s :: ks => stepsRow U s ls (rowOf rows s) ++ stepsAll U ls rows ks
theorem stepsAll_len (U : List Nat) (ls : List Str) (rows : List (List Nat)) : ∀ ks : List Nat, (stepsAll U ls rows ks).length ≤ ls.length * ks.length
  | [] => by simp [stepsAll]
  | s :: ks => by
    have := stepsAll_len U ls rows ks
    have := stepsRow_len U s ls (rowOf rows s)
    unfold stepsAll
    simp [Nat.mul_add]
    omega
theorem zip_comp {chk : MH → Bool} {U : List Nat} {s : Nat} {μ : MH} (hchk : chk μ = true) (s0 s1 s2 s3 : Option PV) : ∀ (ls : List Str) (r : List Nat) (acc : List PV), acc.length + ls.length ≤ 16777216 →
    ∀ a6 a7, compGo chk (.tp [(.nm 6), (.nm 7)]) (mbE (mOp fIn (mVar 7) (mVar 4))) (oneElt (mCallP fTup (msCons (mVar 5) (msCons (mVar 6) msNil)))) [s0, s1, s2, s3, some (.frl (U.map nP)), some (nP s), a6, a7] (zipVals (ls.map .str) (r.map nP)) μ acc = .ok (acc ++ stepsRow U s ls r) μ
  | [], r, acc, _, a6, a7 => by cases r <;> (show compGo chk _ _ _ _ [] _ _ = _; unfold compGo; rw [if_pos hchk]; simp [stepsRow])
  | l :: ls, [], acc, _, a6, a7 => by show compGo chk _ _ _ _ [] _ _ = _; unfold compGo; rw [if_pos hchk]; simp [stepsRow]
  | l :: ls, a :: r, acc, hl, a6, a7 => by
    simp only [List.length_cons] at hl
    simp only [List.map_cons, zipVals]
    unfold compGo
    rw [if_pos hchk]
    simp only [bindT_tup, bindTs_nm, bindTs_nil, List.set_cons_succ, List.set_cons_zero, mbE, mOp, mVar, List.getElem?_cons_succ, List.getElem?_cons_zero, R.bind_ok]
    rw [fIn_nats]
    simp only [R.bind_ok, bOf_bl]
    by_cases h : a ∈ U
    · rw [if_pos (decide_eq_true h)]
      have eo : oneElt (mCallP fTup (msCons (mVar 5) (msCons (mVar 6) msNil))) [s0, s1, s2, s3, some (.frl (U.map nP)), some (nP s), some (.str l), some (nP a)] μ acc = .ok (acc ++ [.tup [nP s, .str l]]) μ := by
        unfold oneElt
        simp [show acc.length < 16777216 by omega]
      rw [eo]
      simp only [R.bind_ok]
      have := zip_comp hchk s0 s1 s2 s3 ls r (acc ++ [.tup [nP s, .str l]]) (by simp; omega) a6 a7 (U := U) (s := s)
      rw [this]
      simp [stepsRow, h]
    · rw [if_neg (by simp [h])]
      have := zip_comp hchk s0 s1 s2 s3 ls r acc (by omega) a6 a7 (U := U) (s := s)
      rw [this]
      simp [stepsRow, h]
theorem range_comp (U : List Nat) (s : Nat) : ∀ (ls : List Str) (r : List Nat), r.length = ls.length → ((List.range ls.length).filter fun j => decide (r.getD j 0 ∈ U)).map (fun j => PV.tup [nP s, .str (ls.getD j "")]) = stepsRow U s ls r
  | [], [], _ => rfl
  | [], _ :: _, h => by simp at h
  | _ :: _, [], h => by simp at h
  | l :: ls, a :: r, h => by
    have ih := range_comp U s ls r (by simpa using h)
    rw [List.length_cons, List.range_succ_eq_map, List.filter_cons, List.filter_map]
    have e1 : ∀ j, (a :: r).getD (j + 1) 0 = r.getD j 0 := fun _ => rfl
    have e2 : ∀ j, (l :: ls).getD (j + 1) "" = ls.getD j "" := fun _ => rfl
    have e3 : (a :: r).getD 0 0 = a := rfl
    have e4 : (l :: ls).getD 0 "" = l := rfl
    unfold stepsRow
    rw [← ih]
    by_cases h : a ∈ U
    · simp only [e3, h, decide_true, if_true, List.map_cons, e4, List.map_map, List.cons_append, List.nil_append]
      rfl
    · simp only [e3, h, decide_false, Bool.false_eq_true, if_false, List.map_map, List.nil_append]
      rfl
theorem steps_outer {ls : List Str} {rows : List (List Nat)} {ends : List Nat} {U : List Nat} {μ : MH} (M : Mach ls rows ends) (s0 s3 : Option PV) : ∀ (ks : List Nat) (acc : List PV) (a5 a6 a7 : Option PV), (∀ k ∈ ks, k < rows.length) → acc.length + 4 * ks.length ≤ 1000000 →
    compGo always (.nm 5) mbYes (twoElt [6, 7] (mZip (mVar 1) (mOp fIx (mVar 2) (mVar 5))) (.tp [(.nm 6), (.nm 7)]) (mbE (mOp fIn (mVar 7) (mVar 4))) (mCallP fTup (msCons (mVar 5) (msCons (mVar 6) msNil)))) [s0, some (.ctp (ls.map .str)), some (.tup (rows.map rowP)), s3, some (.frl (U.map nP)), a5, a6, a7] (ks.map nP) μ acc = .ok (acc ++ stepsAll U ls rows ks) μ
  | [], acc, a5, a6, a7, _, _ => by show compGo always _ _ _ _ [] _ _ = _; unfold compGo; simp [stepsAll]
  | k :: ks, acc, a5, a6, a7, hk, hl => by
    simp only [List.length_cons] at hl
    have hll := letters_len M.hls
    have hr := stepsRow_len U k ls (rowOf rows k)
    have hz := zip_comp (chk := fun μ => always μ && always μ) (U := U) (s := k) (μ := μ) rfl s0 (some (.ctp (ls.map .str))) (some (.tup (rows.map rowP))) s3 ls (rowOf rows k) acc (by omega) none none
    rw [List.map_cons]
    unfold compGo
    rw [if_pos always_true]
    simp only [bindT_nm, List.set_cons_succ, List.set_cons_zero, mbYes, R.bind_ok, if_true]
    have et : twoElt [6, 7] (mZip (mVar 1) (mOp fIx (mVar 2) (mVar 5))) (.tp [(.nm 6), (.nm 7)]) (mbE (mOp fIn (mVar 7) (mVar 4))) (mCallP fTup (msCons (mVar 5) (msCons (mVar 6) msNil))) [s0, some (.ctp (ls.map .str)), some (.tup (rows.map rowP)), s3, some (.frl (U.map nP)), some (nP k), a6, a7] μ acc = .ok (acc ++ stepsRow U k ls (rowOf rows k)) μ := by
      unfold twoElt
      have ew : wipeM [s0, some (.ctp (ls.map .str)), some (.tup (rows.map rowP)), s3, some (.frl (U.map nP)), some (nP k), a6, a7] [6, 7] = [s0, some (.ctp (ls.map .str)), some (.tup (rows.map rowP)), s3, some (.frl (U.map nP)), some (nP k), none, none] := rfl
      rw [ew]
      have ez : mZip (mVar 1) (mOp fIx (mVar 2) (mVar 5)) [s0, some (.ctp (ls.map .str)), some (.tup (rows.map rowP)), s3, some (.frl (U.map nP)), some (nP k), a6, a7] μ = .ok ⟨zipVals (ls.map .str) ((rowOf rows k).map nP), fun μ => always μ && always μ⟩ μ := by
        unfold mZip
        simp [at_row M (hk k (by simp)), planOf, isT, rowP]
      rw [ez]
      exact hz
    rw [et]
    simp only [R.bind_ok]
    rw [steps_outer M s0 s3 ks (acc ++ stepsRow U k ls (rowOf rows k)) a5 a6 a7 (fun x hx => hk x (by simp [hx])) (by simp; omega)]
    simp [stepsAll]
noncomputable def stepsL (ls : List Str) (rows : List (List Nat)) (ends : List Nat) : List PV := stepsAll (listN rows.length (Use rows ends)) ls rows (listN rows.length (Use rows ends))
def LawStepsP (f : MF) : Prop := ∀ (ls : List Str) (rows : List (List Nat)) (ends : List Nat) (μ : MH), Mach ls rows ends → f [machP ls rows ends] μ = .ok (.ref μ.length) (μ ++ [.lst (stepsL ls rows ends)])
theorem law_steps_of {fu : MF} (hu : LawList Use fu) : LawStepsP (raw_steps_of fu) := by
  intro ls rows ends μ M
  have n2 := M.n2
  have hl := listN_len rows.length (Use rows ends)
  have h0 := steps_outer (U := listN rows.length (Use rows ends)) (μ := μ) M (some (machP ls rows ends)) (some (.tup (ends.map nP))) (listN rows.length (Use rows ends)) [] none none none (fun k hk => (mem_listN.mp hk).1) (by simp; omega)
  have ew : wipeM [some (machP ls rows ends), some (.ctp (ls.map .str)), some (.tup (rows.map rowP)), some (.tup (ends.map nP)), some (.frl ((listN rows.length (Use rows ends)).map nP)), none, none, none] [5, 6, 7] = [some (machP ls rows ends), some (.ctp (ls.map .str)), some (.tup (rows.map rowP)), some (.tup (ends.map nP)), some (.frl ((listN rows.length (Use rows ends)).map nP)), none, none, none] := rfl
  have e3 := hu ls rows ends μ M
  simp only [List.nil_append] at h0
  unfold raw_steps_of mDef b_steps_of
  simp only [machP] at e3 h0 ew ⊢
  simp [e3, mLc2L, mLc2K, mOver, planOf, ew, h0, stepsL]
def LawSteps (f : MF) : Prop := ∀ (ls : List Str) (rows : List (List Nat)) (ends : List Nat) (μ : MH), Mach ls rows ends → f [machP ls rows ends] μ = .ok (.frl (stepsL ls rows ends)) μ
theorem extend_new {μ : MH} {xs ys : List PV} (h : xs.length + ys.length ≤ 16777216) : fExtend (.ref μ.length) [.frl ys] (μ ++ [.lst xs]) = .ok .non (μ ++ [.lst (xs ++ ys)]) := by
  unfold fExtend lstM
  simp only [get_new, set_new]
  exact if_pos h
theorem steps_law {fu : MF} {ls : List Str} {rows : List (List Nat)} {ends : List Nat} {U : List Nat} {μ : MH} (M : Mach ls rows ends) : ∀ (ks : List Nat) (xs : List PV) (a3 a4 : Option PV), (∀ k ∈ ks, k < rows.length) → xs.length + 4 * ks.length ≤ 1000000 →
    ∃ a3', forGo always (.nm 3) (L1__law_steps fu) (ks.map nP) [some (machP ls rows ends), some (.frl (U.map nP)), some (.ref μ.length), a3, a4] (μ ++ [.lst xs]) = .nx [some (machP ls rows ends), some (.frl (U.map nP)), some (.ref μ.length), a3', a4] (μ ++ [.lst (xs ++ stepsAll U ls rows ks)])
  | [], xs, a3, a4, _, _ => ⟨a3, by show forGo always _ _ [] _ _ = _; unfold forGo; simp [stepsAll]⟩
  | k :: ks, xs, a3, a4, hk, hl => by
    simp only [List.length_cons] at hl
    have hll := letters_len M.hls
    have hkk := hk k (by simp)
    obtain ⟨g1, g2, g3⟩ := row_get M hkk
    have hr := stepsRow_len U k ls (rowOf rows k)
    have h0 := comp_nats (chk := always) (i := 4) (s := [some (machP ls rows ends), some (.frl (U.map nP)), some (.ref μ.length), some (nP k), none]) (μ := μ ++ [.lst xs]) always_true (fun j => decide ((rowOf rows k).getD j 0 ∈ U)) (fun j => PV.tup [nP k, .str (ls.getD j "")])
      (c := mbE (mOp fIn (mOp fIx (mOp fIx (mOp fIx (mVar 0) (mC (.int 1))) (mVar 3)) (mVar 4)) (mVar 1))) (me := mCallP fTup (msCons (mVar 3) (msCons (mOp fIx (mOp fIx (mVar 0) (mC (.int 0))) (mVar 4)) msNil))) (List.range ls.length) [] (fun j hj => by
        have hj : j < ls.length := by simpa using hj
        have e1 : ls[j]? = some ls[j] := List.getElem?_eq_getElem hj
        have e2 : (rowOf rows k)[j]? = some ((rowOf rows k)[j]'(by omega)) := List.getElem?_eq_getElem (by omega)
        have ej : atI ((rowOf rows k).map nP) ((j : Nat) : Int) = some (nP ((rowOf rows k).getD j 0)) := atI_nat (by rw [List.getElem?_map, e2]; simp [List.getD, e2])
        have el : atI (ls.map PV.str) ((j : Nat) : Int) = some (.str (ls.getD j "")) := atI_nat (by rw [List.getElem?_map, e1]; simp [List.getD, e1])
        refine ⟨?_, fun _ => ?_⟩
        · have e := fIn_nats ((rowOf rows k).getD j 0) U (μ ++ [.lst xs])
          simp only [mbE, mOp, mVar, mC, machP, List.set_cons_succ, List.set_cons_zero, List.getElem?_cons_succ, List.getElem?_cons_zero, R.bind_ok, fIx_tup, at31, at_row M hkk, rowP, ej]
          rw [e]
          rfl
        · simp only [mCallP, msCons, msNil, mOp, mVar, mC, machP, List.set_cons_succ, List.set_cons_zero, List.getElem?_cons_succ, List.getElem?_cons_zero, R.bind_ok, fIx_tup, fIx_ctp, at30, el, fTup]
          rfl) (by simp; omega)
    rw [range_comp U k ls (rowOf rows k) g2] at h0
    simp only [List.nil_append] at h0
    obtain ⟨a3', e⟩ := steps_law (fu := fu) (U := U) (μ := μ) M ks (xs ++ stepsRow U k ls (rowOf rows k)) (some (nP k)) a4 (fun x hx => hk x (by simp [hx])) (by simp; omega)
    refine ⟨a3', ?_⟩
    have er : mRange1 (mCallP fLen (msCons (mOp fIx (mVar 0) (mC (.int 0))) msNil)) [some (machP ls rows ends), some (.frl (U.map nP)), some (.ref μ.length), some (nP k), a4] (μ ++ [.lst xs]) = .ok ⟨rangeVals 0 ls.length, always⟩ (μ ++ [.lst xs]) := range_ok (by simp [machP, fLen_ctp]) (by omega)
    have ew : wipeM [some (machP ls rows ends), some (.frl (U.map nP)), some (.ref μ.length), some (nP k), a4] [4] = [some (machP ls rows ends), some (.frl (U.map nP)), some (.ref μ.length), some (nP k), none] := rfl
    have ex := extend_new (μ := μ) (xs := xs) (ys := stepsRow U k ls (rowOf rows k)) (by omega)
    rw [List.map_cons]
    unfold forGo
    rw [if_pos always_true]
    simp only [bindT_nm, List.set_cons_succ, List.set_cons_zero]
    have e1 : L1__law_steps fu [some (machP ls rows ends), some (.frl (U.map nP)), some (.ref μ.length), some (nP k), a4] (μ ++ [.lst xs]) = .nx [some (machP ls rows ends), some (.frl (U.map nP)), some (.ref μ.length), some (nP k), a4] (μ ++ [.lst (xs ++ stepsRow U k ls (rowOf rows k))]) := by
      simp [isL_new, mLc, er, ew, rangeVals_nat, h0, ex]
    rw [e1]
    simp only
    rw [e]
    simp [stepsAll]
theorem los_stepsRow (n : Nat) (U : List Nat) (s : Nat) : ∀ (ls : List Str) (r : List Nat), PV.los n (stepsRow U s ls r) = true
  | [], r => by unfold stepsRow PV.los; rfl
  | l :: ls, [] => by unfold stepsRow PV.los; rfl
  | l :: ls, a :: r => by
    have := los_stepsRow n U s ls r
    unfold stepsRow
    split
    · show PV.los n (PV.tup [nP s, .str l] :: stepsRow U s ls r) = true
      unfold PV.los
      rw [this]
      simp [PV.lo, PV.los]
    · exact this
theorem los_append (n : Nat) : ∀ (xs ys : List PV), PV.los n xs = true → PV.los n ys = true → PV.los n (xs ++ ys) = true
  | [], ys, _, h => h
  | x :: xs, ys, h1, h2 => by
    unfold PV.los at h1
    rw [Bool.and_eq_true] at h1
    show PV.los n (x :: (xs ++ ys)) = true
    unfold PV.los
    rw [h1.1, los_append n xs ys h1.2 h2]
    rfl
theorem los_steps (n : Nat) (U : List Nat) (ls : List Str) (rows : List (List Nat)) : ∀ ks : List Nat, PV.los n (stepsAll U ls rows ks) = true
  | [] => by unfold stepsAll PV.los; rfl
  | k :: ks => by
    unfold stepsAll
    exact los_append n _ _ (los_stepsRow n U k ls _) (los_steps n U ls rows ks)
theorem law__law_steps {fu : MF} (hu : LawList Use fu) : LawSteps (cleanF (raw__law_steps fu)) := by
  intro ls rows ends μ M
  have n2 := M.n2
  have hl := listN_len rows.length (Use rows ends)
  obtain ⟨a3, e⟩ := steps_law (fu := fu) (U := listN rows.length (Use rows ends)) (μ := μ) M (listN rows.length (Use rows ends)) [] none none (fun k hk => (mem_listN.mp hk).1) (by simp; omega)
  simp only [List.nil_append] at e
  have e3 := hu ls rows ends μ M
  have e2 : raw__law_steps fu [machP ls rows ends] μ = .ok (.ref μ.length) (μ ++ [.lst (stepsL ls rows ends)]) := by
    unfold raw__law_steps mDef b__law_steps
    simp [e3, sFor, mOver, planOf, e, stepsL]
  unfold cleanF
  rw [e2]
  exact cl_app (fz_new (Nat.le_refl _) (by simp) (los_steps _ _ _ _ _))
end K30

namespace K30
open PySem PySem.Spec PyProof.Rows L2 Mini
def v_common_part : MF := cleanF (raw_common_part)
def v_ratio : MF := cleanF (raw_ratio v_common_part)
def v_is_ratio : MF := cleanF (raw_is_ratio v_ratio)
def v_plus : MF := cleanF (raw_plus v_ratio)
def v_times : MF := cleanF (raw_times v_ratio)
def v_is_less : MF := cleanF (raw_is_less)
def v_first_logs : MF := raw_first_logs
def v_reached : MF := cleanF (raw_reached v_first_logs)
def v_alive : MF := cleanF (raw_alive)
def v_useful : MF := cleanF (raw_useful v_alive v_reached)
def v_steps_of : MF := raw_steps_of v_useful
def v_ends_of : MF := raw_ends_of v_useful
def v_weight_of : MF := cleanF (raw_weight_of v_plus)
def v__law_same : MF := cleanF (raw__law_same)
def v__law_stream : MF := cleanF (raw__law_stream)
def v__law_next : MF := cleanF (raw__law_next)
def v__law_letters : MF := cleanF (raw__law_letters v__law_next)
def v__law_machine : MF := cleanF (raw__law_machine v__law_next)
def v__law_log : MF := cleanF (raw__law_log v__law_next)
def v__law_ratio : MF := cleanF (raw__law_ratio)
def v__law_sum : MF := cleanF (raw__law_sum v__law_ratio)
def v__law_below : MF := cleanF (raw__law_below)
def v__law_first_logs : MF := raw__law_first_logs
def v__law_alive : MF := cleanF (raw__law_alive)
def v__law_useful : MF := cleanF (raw__law_useful v__law_first_logs v__law_alive)
def v__law_steps : MF := cleanF (raw__law_steps v__law_useful)
def v__law_ends : MF := cleanF (raw__law_ends v__law_useful)
def v__law_number : MF := cleanF (raw__law_number v__law_next)
def v__law_drawn_ratio : MF := cleanF (raw__law_drawn_ratio v__law_number v__law_ratio)
abbrev v_law : MF := raw_law v__law_stream v__law_number v__law_same v__law_ratio v_ratio v__law_next v_is_ratio v__law_drawn_ratio v__law_below v__law_sum v_is_less v_times v_plus v__law_letters v__law_machine v_ends_of v_steps_of v__law_ends v__law_steps v__law_log v_weight_of
open scoped Classical
/-! ### drawn logs, drawn weights -/
theorem log_comp {nx : MF} (hn : LawNext nx) {ms : List Int} (g : GoodN ms) {rest : MH} {ls : List Str} (hls : ls ∈ letterSets) {s : MS} (hs0 : s[0]? = some (some (.ref 0))) (hs1 : s[1]? = some (some (.ctp (ls.map .str)))) : ∀ (ks : List Nat) (c : Int) (zs : List Str), 0 ≤ c → c + (ks.length : Int) ≤ 1000000 → (∀ z ∈ zs, z ∈ ls) → zs.length + ks.length ≤ 1000 →
    ∃ (c' : Int) (zs' : List Str), compGo always (.nm 3) mbYes (oneElt (mOp fIx (mVar 1) (mCallP nx (msCons (mVar 0) (msCons (mCallP fLen (msCons (mVar 1) msNil)) msNil))))) s (ks.map nP) (stM ms c :: rest) (zs.map .str) = .ok (zs'.map .str) (stM ms c' :: rest) ∧ zs'.length = zs.length + ks.length ∧ (∀ z ∈ zs', z ∈ ls) ∧ c ≤ c' ∧ c' ≤ c + (ks.length : Int) := by
  intro ks
  induction ks with
  | nil => exact fun c zs _ _ he _ => ⟨c, zs, by show compGo always _ _ _ _ [] _ _ = _; unfold compGo; rfl, by simp, he, by omega, by simp⟩
  | cons k ks ih =>
    intro c zs hc hc2 he hl
    simp only [List.length_cons] at hc2 hl ⊢
    have hll := letters_len hls
    obtain ⟨_, c1, ⟨d, rfl, l1, u1⟩, p1, q1, e1⟩ := hn (ls.length : Nat) (by omega) (by omega) ms c rest g hc (by omega)
    obtain ⟨x, hx, ex⟩ := atI_int (xs := ls.map PV.str) l1 (by rw [List.length_map]; exact u1)
    rw [List.getElem?_map, Option.map_eq_some_iff] at hx
    obtain ⟨z, hz, rfl⟩ := hx
    obtain ⟨c', zs', e2, r1, r2, r3, r4⟩ := ih c1 (zs ++ [z]) (by omega) (by omega) (fun y hy => by
      rcases List.mem_append.mp hy with h | h
      · exact he y h
      · simp at h; rw [h]; exact List.mem_of_getElem? hz) (by simp; omega)
    refine ⟨c', zs', ?_, by simp at r1; omega, r2, by omega, by omega⟩
    rw [List.map_cons]
    unfold compGo
    rw [if_pos always_true]
    have t0 : (s.set 3 (some (nP k)))[0]? = some (some (.ref 0)) := by rw [List.getElem?_set_ne (by decide)]; exact hs0
    have t1 : (s.set 3 (some (nP k)))[1]? = some (some (.ctp (ls.map .str))) := by rw [List.getElem?_set_ne (by decide)]; exact hs1
    have eo : oneElt (mOp fIx (mVar 1) (mCallP nx (msCons (mVar 0) (msCons (mCallP fLen (msCons (mVar 1) msNil)) msNil)))) (s.set 3 (some (nP k))) (stM ms c :: rest) (zs.map .str) = .ok ((zs ++ [z]).map .str) (stM ms c1 :: rest) := by
      unfold oneElt
      simp [t0, t1, fLen_ctp, e1, ex, show zs.length < 16777216 by omega]
    simp only [bindT_nm, mbYes, R.bind_ok, if_true]
    rw [eo]
    simp only [R.bind_ok]
    exact e2
def LawLog (f : MF) : Prop := ∀ (ls : List Str) (many : Nat), ls ∈ letterSets → many ≤ 20 → DrawF 20 (fun v => ∃ zs : List Str, v = .tup (zs.map .str) ∧ zs.length = many ∧ ∀ z ∈ zs, z ∈ ls) f [.ref 0, .ctp (ls.map .str), nP many]
theorem law__law_log {nx : MF} (hn : LawNext nx) : LawLog (cleanF (raw__law_log nx)) := by
  intro ls many hls hm ms c rest g hc hc2
  obtain ⟨c', zs, e, h1, h2, h3, h4⟩ := log_comp hn g (rest := rest) hls (s := [some (.ref 0), some (.ctp (ls.map .str)), some (nP many), none]) rfl rfl (List.range many) c [] hc (by simp; omega) (by simp) (by simp; omega)
  simp at h1 h4
  simp only [List.map_nil] at e
  refine ⟨.tup (zs.map .str), c', ⟨zs, rfl, h1, h2⟩, h3, by omega, ?_⟩
  have e2 : raw__law_log nx [.ref 0, .ctp (ls.map .str), nP many] (stM ms c :: rest) = .ok (.tup (zs.map .str)) (stM ms c' :: rest) := by
    unfold raw__law_log mDef b__law_log
    have er : mRange1 (mVar 2) [some (.ref 0), some (.ctp (ls.map .str)), some (nP many), none] (stM ms c :: rest) = .ok ⟨rangeVals 0 many, always⟩ (stM ms c :: rest) := range_ok rfl (by omega)
    have ew : wipeM [some (.ref 0), some (.ctp (ls.map .str)), some (nP many), none] [3] = [some (.ref 0), some (.ctp (ls.map .str)), some (nP many), none] := rfl
    have et : ∀ ν, fTuple [.frl (zs.map .str)] ν = .ok (.tup (zs.map .str)) ν := fun ν => rfl
    simp only [List.length_cons, List.length_nil, Nat.zero_add, if_true, List.map_cons, List.map_nil, List.replicate, List.cons_append, List.nil_append, sRet, mCallP, msCons, msNil, mLc, er, R.bind_ok, ew, rangeVals_nat]
    simp only [Nat.reduceAdd, Nat.reduceSub, List.replicate_succ, List.replicate_zero, List.cons_append, List.nil_append, ↓reduceIte, er, ew, R.bind_ok, rangeVals_nat, e, noErr_okE, et, sBind_ok]
  unfold cleanF
  rw [e2]
  exact cl_st0 (by unfold PV.lo; exact los_strs _ _)
/-! ### all together -/
theorem k_common_part : LawGcd v_common_part := law_common_part
theorem k_ratio : LawRatio v_ratio := law_ratio k_common_part
theorem k_is_ratio : LawIs v_is_ratio := law_is_ratio k_ratio
theorem k_plus : LawPlus v_plus := law_plus k_ratio
theorem k_times : LawTimes v_times := law_times k_ratio
theorem k_is_less : LawLess v_is_less := law_is_less
theorem k_first_logs : LawFirst v_first_logs := law_first_logs
theorem k_reached : LawList (fun rows _ => Reach rows) v_reached := law_reached k_first_logs
theorem k_alive : LawList Alive v_alive := law_alive
theorem k_useful : LawList Use v_useful := law_useful k_alive k_reached
theorem k_steps_of : LawStepsP v_steps_of := law_steps_of k_useful
theorem k_ends_of : LawEndsP v_ends_of := law_ends_of k_useful
theorem k_weight_of : LawWeight v_weight_of := law_weight_of k_plus
theorem k__law_same : LawSame v__law_same := law__law_same
theorem k__law_stream : LawStream v__law_stream := law__law_stream
theorem k__law_next : LawNext v__law_next := law__law_next
theorem k__law_letters : LawLetters v__law_letters := law__law_letters k__law_next
theorem k__law_machine : LawMachine v__law_machine := law__law_machine k__law_next
theorem k__law_log : LawLog v__law_log := law__law_log k__law_next
theorem k__law_ratio : LawRatio v__law_ratio := law__law_ratio
theorem k__law_sum : LawSum v__law_sum := law__law_sum k__law_ratio
theorem k__law_below : LawLess v__law_below := law__law_below
theorem k__law_first_logs : LawFirst v__law_first_logs := law__law_first_logs
theorem k__law_alive : LawList Alive v__law_alive := law__law_alive
theorem k__law_useful : LawList Use v__law_useful := law__law_useful k__law_first_logs k__law_alive
theorem k__law_steps : LawSteps v__law_steps := law__law_steps k__law_useful
theorem k__law_ends : LawEnds v__law_ends := law__law_ends k__law_useful
theorem k__law_number : LawNumber v__law_number := law__law_number k__law_next
theorem k__law_drawn_ratio : LawDrawn v__law_drawn_ratio := law__law_drawn_ratio k__law_number k__law_ratio
/-! ### data -/
theorem same_q {v w : PV} {q : Rat} {μ : MH} (hv : QV v q) (hw : QV w q) (hq : Qz 1900 q) : v__law_same [v, w] μ = .ok (.bl true) μ := by
  have d : ∀ u, QV u q → toD μ u = some (.tuple [.int q.num, .int (q.den : Nat)]) := fun u hu => by
    rcases hu with rfl | rfl <;> simp [PQ, toD, toDs]
  have h1 := hq.1.log (by decide)
  have h2 := hq.den.log (by decide)
  rw [Int.natAbs_natCast] at h2
  refine k__law_same v w μ _ (d v hv) (d w hw) ?_ ?_ ?_
  · simp [okD, okDs]; omega
  · simp [shw, shws]; omega
  · simp [PyData.depth, PyData.depthAll]
theorem same_b {b : Bool} {μ : MH} : v__law_same [.bl b, .bl b] μ = .ok (.bl true) μ :=
  k__law_same _ _ μ (.bool b) (by simp [toD]) (by simp [toD]) (by simp [okD]) (by simp [shw]) (by simp [PyData.depth])
theorem same_3 {p q : Rat} {b : Bool} {μ : MH} (hp : Qz 1900 p) (hq : Qz 1900 q) : v__law_same [.frl [PQ p, PQ q, .bl b], .frl [PQ p, PQ q, .bl b]] μ = .ok (.bl true) μ := by
  have d : toD μ (.frl [PQ p, PQ q, .bl b]) = some (.list [.tuple [.int p.num, .int (p.den : Nat)], .tuple [.int q.num, .int (q.den : Nat)], .bool b]) := by simp [PQ, toD, toDs]
  have h1 := hp.1.log (by decide)
  have h2 := hp.den.log (by decide)
  have h3 := hq.1.log (by decide)
  have h4 := hq.den.log (by decide)
  rw [Int.natAbs_natCast] at h2 h4
  refine k__law_same _ _ μ _ d d ?_ ?_ ?_
  · simp [okD, okDs]; omega
  · simp [shw, shws]; omega
  · simp [PyData.depth, PyData.depthAll]
theorem qz_fold : ∀ (ps : List Rat) (p : Rat) (k : Nat), (∀ q ∈ ps, Qz 200 q) → Qz k p → Qz (k + 201 * ps.length) (ps.foldl (· + ·) p)
  | [], p, k, _, h => by simpa using h
  | q :: ps, p, k, hz, h => by
    have := qz_fold ps (p + q) (k + 200 + 1) (fun x hx => hz x (by simp [hx])) (qz_add h (hz q (by simp)))
    refine Qz.mono this ?_
    simp only [List.length_cons]
    omega
theorem fold_add : ∀ (ps : List Rat) (p : Rat), ps.foldl (· + ·) p = p + ps.foldl (· + ·) 0
  | [], p => by simp [Rat.add_zero]
  | q :: ps, p => by
    simp only [List.foldl_cons]
    rw [fold_add ps (p + q), fold_add ps (0 + q), Rat.zero_add, Rat.add_assoc]
theorem sSeq_nx {a b : MSt} {s s1 : MS} {μ μ1 : MH} (h : a s μ = .nx s1 μ1) : sSeq a b s μ = b s1 μ1 := by unfold sSeq; rw [h]
/-! ### the first loop -/
abbrev LL1 : MSt := L1_law v__law_stream v__law_number v__law_same v__law_ratio v_ratio v__law_next v_is_ratio v__law_drawn_ratio v__law_below v__law_sum v_is_less v_times v_plus v__law_letters v__law_machine v_ends_of v_steps_of v__law_ends v__law_steps v__law_log v_weight_of
abbrev LL2 : MSt := L2_law v__law_stream v__law_number v__law_same v__law_ratio v_ratio v__law_next v_is_ratio v__law_drawn_ratio v__law_below v__law_sum v_is_less v_times v_plus v__law_letters v__law_machine v_ends_of v_steps_of v__law_ends v__law_steps v__law_log v_weight_of
abbrev LL3 : MSt := L3_law v__law_stream v__law_number v__law_same v__law_ratio v_ratio v__law_next v_is_ratio v__law_drawn_ratio v__law_below v__law_sum v_is_less v_times v_plus v__law_letters v__law_machine v_ends_of v_steps_of v__law_ends v__law_steps v__law_log v_weight_of
theorem turn1 {a b : Int} (ha : Sz 62 a) (hb : Sz 62 b) {μ : MH} (s0 s1 s2 s3 s4 s6 s7 s8 s9 s10 s11 s12 s13 s14 s15 s16 s17 : Option PV) :
    LL1 [s0, s1, s2, s3, s4, some (.tup [.int a, .int b]), s6, s7, s8, s9, s10, s11, s12, s13, s14, s15, s16, s17] μ = .nx [s0, s1, s2, s3, s4, some (.tup [.int a, .int b]), some (.bl (isR a b)), s7, s8, s9, s10, s11, s12, s13, s14, s15, s16, s17] μ := by
  have e1 := k_is_ratio a b μ (ha.mono (by decide)) (hb.mono (by decide))
  have e2 := same_b (b := isR a b) (μ := μ)
  have eg : (mAnd (mOp fGe (mOp fIx (mVar 5) (mC (.int 1))) (mC (.int 1))) (mOp fEq (mCallP v__law_ratio (msCons (mOp fIx (mVar 5) (mC (.int 0))) (msCons (mOp fIx (mVar 5) (mC (.int 1))) msNil))) (mVar 5))) [s0, s1, s2, s3, s4, some (.tup [.int a, .int b]), s6, s7, s8, s9, s10, s11, s12, s13, s14, s15, s16, s17] μ = .ok (.bl (isR a b)) μ := by
    unfold isR
    by_cases h : 1 ≤ b
    · have := k__law_ratio a b μ (by omega) (ha.mono (by decide)) (hb.mono (by decide))
      simp [h, this, PQ, fEq_pairs]
    · simp [h]
  simp only [LL1, L1_law, sSeq, sAsg, eg, sBind_ok, bindT_nm, List.set_cons_succ, List.set_cons_zero, sIf, mbNot, mbE, mCallP, msCons, msNil, mVar, List.getElem?_cons_succ, List.getElem?_cons_zero, R.bind_ok, e1, e2, bOf_bl, Bool.not_true, Bool.false_eq_true, if_false, sNil]
def SmallP (v : PV) : Prop := ∃ a b : Int, v = .tup [.int a, .int b] ∧ Sz 62 a ∧ Sz 62 b
theorem loop1 {μ : MH} (s0 s1 s2 s3 s4 s7 s8 s9 s10 s11 s12 s13 s14 s15 s16 s17 : Option PV) : ∀ (vs : List PV) (s5 s6 : Option PV), (∀ v ∈ vs, SmallP v) → ∃ s5' s6', forGo always (.nm 5) LL1 vs [s0, s1, s2, s3, s4, s5, s6, s7, s8, s9, s10, s11, s12, s13, s14, s15, s16, s17] μ = .nx [s0, s1, s2, s3, s4, s5', s6', s7, s8, s9, s10, s11, s12, s13, s14, s15, s16, s17] μ
  | [], s5, s6, _ => ⟨s5, s6, by unfold forGo; rfl⟩
  | v :: vs, s5, s6, h => by
    obtain ⟨a, b, rfl, ha, hb⟩ := h v (by simp)
    obtain ⟨s5', s6', e⟩ := loop1 s0 s1 s2 s3 s4 s7 s8 s9 s10 s11 s12 s13 s14 s15 s16 s17 vs (some (.tup [.int a, .int b])) (some (.bl (isR a b))) (fun x hx => h x (by simp [hx]))
    refine ⟨s5', s6', ?_⟩
    unfold forGo
    rw [if_pos always_true]
    simp only [bindT_nm, List.set_cons_succ, List.set_cons_zero]
    rw [turn1 ha hb]
    exact e
theorem turn2 {ms : List Int} (g : GoodN ms) {rest : MH} {c : Int} (hc : 0 ≤ c) (hc2 : c + 100 ≤ 1000000) (s0 s2 s3 s4 s5 s6 s7 s8 s9 s10 s11 s12 s13 s14 s15 s16 s17 : Option PV) :
    ∃ c' t3 t4 t5 t6 t7 t8 t9, LL2 [s0, some (.ref 0), s2, s3, s4, s5, s6, s7, s8, s9, s10, s11, s12, s13, s14, s15, s16, s17] (stM ms c :: rest) = .nx [s0, some (.ref 0), s2, t3, t4, t5, t6, t7, t8, t9, s10, s11, s12, s13, s14, s15, s16, s17] (stM ms c' :: rest) ∧ c ≤ c' ∧ c' ≤ c + 100 := by
  obtain ⟨_, c1, ⟨d1, rfl, z1⟩, p1, q1, e1⟩ := k__law_number ms c rest g hc (by omega)
  obtain ⟨_, c2, ⟨d2, rfl, z2⟩, p2, q2, e2⟩ := k__law_number ms c1 rest g (by omega) (by omega)
  obtain ⟨_, c3, ⟨d3, rfl, l3, u3⟩, p3, q3, e3⟩ := k__law_next 9 (by decide) (by decide) ms c2 rest g (by omega) (by omega)
  obtain ⟨_, c4, ⟨d4, rfl, l4, u4⟩, p4, q4, e4⟩ := k__law_next 6 (by decide) (by decide) ms c3 rest g (by omega) (by omega)
  obtain ⟨_, c5, ⟨p, rfl, zp⟩, p5, q5, e5⟩ := k__law_drawn_ratio ms c4 rest g (by omega) (by omega)
  obtain ⟨_, c6, ⟨q, rfl, zq⟩, p6, q6, e6⟩ := k__law_drawn_ratio ms c5 rest g (by omega) (by omega)
  obtain ⟨t5, t6, el⟩ := loop1 (μ := stM ms c4 :: rest) s0 (some (.ref 0)) s2 (some (.int d1)) (some (.int d2)) s7 s8 s9 s10 s11 s12 s13 s14 s15 s16 s17 [.tup [.int d1, .int d2], .tup [.int (d3 - 4), .int d4], .tup [.int 0, .int 1], .tup [.int 0, .int 2], .tup [.int 3, .int (-1)]] s5 s6 (by
    intro v hv
    simp at hv
    rcases hv with rfl | rfl | rfl | rfl | rfl
    · exact ⟨_, _, rfl, z1.mono (by decide), z2.mono (by decide)⟩
    · exact ⟨_, _, rfl, by unfold Sz; omega, by unfold Sz; omega⟩
    · exact ⟨_, _, rfl, by decide, by decide⟩
    · exact ⟨_, _, rfl, by decide, by decide⟩
    · exact ⟨_, _, rfl, by decide, by decide⟩)
  have esum := k__law_sum [PQ p, PQ q] [p, q] (stM ms c6 :: rest) (.cons (.inl rfl) (.cons (.inl rfl) .nil)) (by intro x hx; simp at hx; rcases hx with rfl | rfl; exact zp.mono (by decide); exact zq.mono (by decide)) (by simp)
  have ef : [p, q].foldl (· + ·) 0 = p + q := by simp [Rat.zero_add]
  rw [ef] at esum
  have m1 := zp.1.okMul zq.1 (by decide) (by decide) (by decide)
  have m2 := zp.den.okMul zq.den (by decide) (by decide) (by decide)
  have etim := k__law_ratio (p.num * q.num) ((p.den : Nat) * (q.den : Nat)) (stM ms c6 :: rest) (mul_ne (den_ne p) (den_ne q)) ((zp.1.mul zq.1).mono (by decide)) ((zp.den.mul zq.den).mono (by decide))
  rw [mul_eq] at etim
  have ebel := k__law_below (PQ p) (PQ q) p q 61 61 (stM ms c6 :: rest) (.inl rfl) (.inl rfl) zp zq (by decide) (by decide) (by decide)
  have epl := k_plus (PQ p) (PQ q) p q 61 61 (stM ms c6 :: rest) (.inl rfl) (.inl rfl) zp zq (by decide) (by decide) (by decide)
  have eti := k_times (PQ p) (PQ q) p q 61 61 (stM ms c6 :: rest) (.inl rfl) (.inl rfl) zp zq (by decide) (by decide) (by decide)
  have ele := k_is_less (PQ p) (PQ q) p q 61 61 (stM ms c6 :: rest) (.inl rfl) (.inl rfl) zp zq (by decide) (by decide) (by decide)
  have es3 := same_3 (p := p + q) (q := p * q) (b := decide (p.num * (q.den : Nat) < q.num * (p.den : Nat))) (μ := stM ms c6 :: rest) ((qz_add zp zq).mono (by decide)) ((qz_mul zp zq).mono (by decide))
  have hif : (sIf (mbAnd (mbE (mOp fNe (mVar 4) (mC (.int 0)))) (mbNot (mbE (mCallP v__law_same (msCons (mCallP v_ratio (msCons (mVar 3) (msCons (mVar 4) msNil))) (msCons (mCallP v__law_ratio (msCons (mVar 3) (msCons (mVar 4) msNil))) msNil)))))) (sRet (mC (.bl false))) sNil) [s0, some (.ref 0), s2, some (.int d1), some (.int d2), s5, s6, s7, s8, s9, s10, s11, s12, s13, s14, s15, s16, s17] (stM ms c2 :: rest) = .nx [s0, some (.ref 0), s2, some (.int d1), some (.int d2), s5, s6, s7, s8, s9, s10, s11, s12, s13, s14, s15, s16, s17] (stM ms c2 :: rest) := by
    by_cases h : d2 = 0
    · simp [h]
    · have r1 := k_ratio d1 d2 (stM ms c2 :: rest) h (z1.mono (by decide)) (z2.mono (by decide))
      have r2 := k__law_ratio d1 d2 (stM ms c2 :: rest) h (z1.mono (by decide)) (z2.mono (by decide))
      have r3 := same_q (v := PQ (Rat.divInt d1 d2)) (w := PQ (Rat.divInt d1 d2)) (μ := stM ms c2 :: rest) (.inl rfl) (.inl rfl) ((qz_div h z1 z2).mono (by decide))
      simp [h, r1, r2, r3]
  refine ⟨c6, some (.int d1), some (.int d2), t5, t6, some (PQ p), some (PQ q), some (.frl [PQ (p + q), PQ (p * q), .bl (decide (p.num * (q.den : Nat) < q.num * (p.den : Nat)))]), ?_, by omega, by omega⟩
  refine (sSeq_nx (s1 := [s0, some (.ref 0), s2, some (.int d1), s4, s5, s6, s7, s8, s9, s10, s11, s12, s13, s14, s15, s16, s17]) (μ1 := stM ms c1 :: rest) (by simp [e1])).trans ?_
  refine (sSeq_nx (s1 := [s0, some (.ref 0), s2, some (.int d1), some (.int d2), s5, s6, s7, s8, s9, s10, s11, s12, s13, s14, s15, s16, s17]) (μ1 := stM ms c2 :: rest) (by simp [e2])).trans ?_
  refine (sSeq_nx hif).trans ?_
  refine (sSeq_nx (s1 := [s0, some (.ref 0), s2, some (.int d1), some (.int d2), t5, t6, s7, s8, s9, s10, s11, s12, s13, s14, s15, s16, s17]) (μ1 := stM ms c4 :: rest) (by simp [sFor, mOver, e3, e4, planOf]; exact el)).trans ?_
  refine (sSeq_nx (s1 := [s0, some (.ref 0), s2, some (.int d1), some (.int d2), t5, t6, some (PQ p), s8, s9, s10, s11, s12, s13, s14, s15, s16, s17]) (μ1 := stM ms c5 :: rest) (by simp [e5])).trans ?_
  refine (sSeq_nx (s1 := [s0, some (.ref 0), s2, some (.int d1), some (.int d2), t5, t6, some (PQ p), some (PQ q), s9, s10, s11, s12, s13, s14, s15, s16, s17]) (μ1 := stM ms c6 :: rest) (by simp [e6])).trans ?_
  refine (sSeq_nx (s1 := [s0, some (.ref 0), s2, some (.int d1), some (.int d2), t5, t6, some (PQ p), some (PQ q), some (.frl [PQ (p + q), PQ (p * q), .bl (decide (p.num * (q.den : Nat) < q.num * (p.den : Nat)))]), s10, s11, s12, s13, s14, s15, s16, s17]) (μ1 := stM ms c6 :: rest) (by simp only [PQ] at esum etim ebel ⊢; simp [esum, fMul_ok m1, fMul_ok m2, etim, ebel])).trans ?_
  simp [epl, eti, ele, es3]
end K30

namespace K30
open PySem PySem.Spec PyProof.Rows L2 Mini
open scoped Classical
/-! ### what is shown of a machine -/
theorem letters_ok {ls : List Str} (h : ls ∈ letterSets) : ∀ l ∈ ls, okD (.str l) = true ∧ l.length ≤ 4 := by
  simp [letterSets] at h
  rcases h with rfl | rfl | rfl | rfl | rfl | rfl <;> intro l hl <;> simp at hl
  all_goals (first | (rcases hl with rfl | rfl | rfl | rfl) | (rcases hl with rfl | rfl | rfl) | (rcases hl with rfl | rfl) | subst hl) <;> exact ⟨by decide, by decide⟩
theorem dat_steps {ls : List Str} {rows : List (List Nat)} {ends : List Nat} (M : Mach ls rows ends) : ∃ d, Dat 20000 2 (.frl (stepsL ls rows ends)) d := by
  have n2 := M.n2
  have hll := letters_len M.hls
  have hl := listN_len rows.length (Use rows ends)
  have hrow : ∀ (U : List Nat) (s : Nat), s < 30 → ∀ (ls' : List Str) (r : List Nat), (∀ l ∈ ls', okD (.str l) = true ∧ l.length ≤ 4) → ∀ x ∈ stepsRow U s ls' r, ∃ d, Dat 134 1 x d := by
    intro U s hs ls'
    induction ls' with
    | nil => intro r _ x hx; simp [stepsRow] at hx
    | cons l ls' ih =>
      intro r hlt x hx
      cases r with
      | nil => simp [stepsRow] at hx
      | cons a r =>
        unfold stepsRow at hx
        rcases List.mem_append.mp hx with q | q
        · split at q
          · simp at q
            subst q
            obtain ⟨h1, h2⟩ := hlt l (by simp)
            obtain ⟨d, hd⟩ := dat_tup (n := 63) (b := 0) (xs := [nP s, .str l]) (fun x hx => by
              simp at hx
              rcases hx with rfl | rfl
              · exact ⟨_, dat_nat (by omega)⟩
              · exact ⟨_, (dat_str h1 h2).mono (by decide) (by decide)⟩)
            exact ⟨d, hd.mono (show 2 * (63 + 2) + 4 ≤ 134 by decide) (by decide)⟩
          · simp at q
        · exact ih r (fun l hl => hlt l (by simp [hl])) x q
  have hall : ∀ ks : List Nat, (∀ k ∈ ks, k < 30) → ∀ x ∈ stepsAll (listN rows.length (Use rows ends)) ls rows ks, ∃ d, Dat 134 1 x d := by
    intro ks
    induction ks with
    | nil => intro _ x hx; simp [stepsAll] at hx
    | cons k ks ih =>
      intro hk x hx
      unfold stepsAll at hx
      rcases List.mem_append.mp hx with q | q
      · exact hrow _ k (hk k (by simp)) ls _ (letters_ok M.hls) x q
      · exact ih (fun y hy => hk y (by simp [hy])) x q
  obtain ⟨d, hd⟩ := dat_frl (hall (listN rows.length (Use rows ends)) fun k hk => by have := (mem_listN.mp hk).1; omega)
  have hsl := stepsAll_len (listN rows.length (Use rows ends)) ls rows (listN rows.length (Use rows ends))
  refine ⟨d, hd.mono ?_ (by decide)⟩
  have : ls.length * (listN rows.length (Use rows ends)).length ≤ 4 * 30 := Nat.mul_le_mul hll.2 (by omega)
  omega
theorem steps_len {ls : List Str} {rows : List (List Nat)} {ends : List Nat} (M : Mach ls rows ends) : (stepsL ls rows ends).length ≤ 120 := by
  have n2 := M.n2
  have hll := letters_len M.hls
  have hl := listN_len rows.length (Use rows ends)
  have hsl := stepsAll_len (listN rows.length (Use rows ends)) ls rows (listN rows.length (Use rows ends))
  have : ls.length * (listN rows.length (Use rows ends)).length ≤ 4 * 30 := Nat.mul_le_mul hll.2 (by omega)
  show (stepsAll _ _ _ _).length ≤ _
  omega
theorem ends_len (rows : List (List Nat)) (ends : List Nat) : (endsL rows ends).length ≤ rows.length := by
  unfold endsL
  exact Nat.le_trans (List.length_filter_le _ _) (listN_len _ _)
theorem dat_ends {ls : List Str} {rows : List (List Nat)} {ends : List Nat} (M : Mach ls rows ends) : ∃ d, Dat 20000 2 (.frl ((endsL rows ends).map nP)) d := by
  have n2 := M.n2
  have hl := ends_len rows ends
  obtain ⟨d, hd⟩ := dat_frl (n := 63) (b := 0) (xs := (endsL rows ends).map nP) (fun x hx => by
    obtain ⟨k, hk, rfl⟩ := List.mem_map.mp hx
    unfold endsL at hk
    have := (mem_listN.mp ((List.mem_filter.mp hk).1)).1
    exact ⟨_, dat_nat (by omega)⟩)
  rw [List.length_map] at hd
  exact ⟨d, hd.mono (by omega) (by decide)⟩
theorem dat_mach {ls : List Str} {rows : List (List Nat)} {ends : List Nat} (M : Mach ls rows ends) : ∃ d, Dat 200000 5 (machP ls rows ends) d := by
  have n2 := M.n2
  have hll := letters_len M.hls
  obtain ⟨d1, h1⟩ := dat_ctp (n := 42) (b := 0) (xs := ls.map PV.str) (fun x hx => by
    obtain ⟨l, hl, rfl⟩ := List.mem_map.mp hx
    obtain ⟨q1, q2⟩ := letters_ok M.hls l hl
    exact ⟨_, dat_str q1 q2⟩)
  obtain ⟨d2, h2⟩ := dat_tup (n := 300) (b := 1) (xs := rows.map rowP) (fun x hx => by
    obtain ⟨r, hr, rfl⟩ := List.mem_map.mp hx
    obtain ⟨q1, q2⟩ := M.row r hr
    obtain ⟨d, hd⟩ := dat_tup (n := 63) (b := 0) (xs := r.map nP) (fun x hx => by
      obtain ⟨k, hk, rfl⟩ := List.mem_map.mp hx
      have := q2 k hk
      exact ⟨_, dat_nat (by omega)⟩)
    rw [List.length_map] at hd
    exact ⟨d, hd.mono (by omega) (by decide)⟩)
  obtain ⟨d3, h3⟩ := dat_tup (n := 63) (b := 0) (xs := ends.map nP) (fun x hx => by
    obtain ⟨k, hk, rfl⟩ := List.mem_map.mp hx
    have := M.end1 k hk
    exact ⟨_, dat_nat (by omega)⟩)
  rw [List.length_map] at h1 h2 h3
  have he := M.hends
  obtain ⟨d, hd⟩ := dat_tup (n := 20000) (b := 2) (xs := [.ctp (ls.map .str), .tup (rows.map rowP), .tup (ends.map nP)]) (fun x hx => by
    simp at hx
    rcases hx with rfl | rfl | rfl
    · exact ⟨_, h1.mono (by omega) (by decide)⟩
    · exact ⟨_, h2.mono (by omega) (by decide)⟩
    · exact ⟨_, h3.mono (by omega) (by decide)⟩)
  exact ⟨d, hd.mono (show 3 * (20000 + 2) + 4 ≤ 200000 by decide) (by decide)⟩
theorem repr_mach {ls : List Str} {rows : List (List Nat)} {ends : List Nat} (M : Mach ls rows ends) : ∃ z : Str, ∀ μ, fRepr [machP ls rows ends] μ = .ok (.str z) μ := by
  obtain ⟨d, hd⟩ := dat_mach M
  exact ⟨d.shown, fun μ => repr_dat hd (by decide) (by decide)⟩
theorem same_told {ls : List Str} {rows : List (List Nat)} {ends : List Nat} {μ : MH} {n m : Nat} (M : Mach ls rows ends) (hn : μ[n]? = some (.lst (stepsL ls rows ends))) (hm : μ[m]? = some (.lst ((endsL rows ends).map nP))) :
    v__law_same [.frl [.ref n, .ref m], .frl [.frl (stepsL ls rows ends), .frl ((endsL rows ends).map nP)]] μ = .ok (.bl true) μ := by
  obtain ⟨d1, h1⟩ := dat_steps M
  obtain ⟨d2, h2⟩ := dat_ends M
  have w1 := h1.w
  have w2 := h2.w
  have p1 := h1.dp
  have p2 := h2.dp
  refine k__law_same _ _ μ (.list [d1, d2]) ?_ ?_ ?_ ?_ ?_
  · simp [toD, toDs, toD_ref hn h1, toD_ref hm h2]
    have a := toD_ref hn h1
    have b := toD_ref hm h2
    unfold toD at a b
    rw [a, b]
  · have a := h1.t μ
    have b := h2.t μ
    unfold toD
    simp only [toDs, a, b]
    rfl
  · simp [okD, okDs, h1.ok, h2.ok]
  · simp [shw, shws]; omega
  · simp [PyData.depth, PyData.depthAll]; omega
/-! ### weights -/
theorem weights_comp {ms : List Int} (g : GoodN ms) {rest : MH} {s : MS} (hs : s[1]? = some (some (.ref 0))) : ∀ (zs : List Str) (c : Int) (vs : List PV) (qs : List Rat), 0 ≤ c → c + 8 * (zs.length : Int) ≤ 1000000 → QVs vs qs → (∀ q ∈ qs, Qz 200 q) → vs.length + zs.length ≤ 1000 →
    ∃ (c' : Int) (vs' : List PV) (qs' : List Rat), compGo always (.nm 17) mbYes (oneElt (mCallP v__law_drawn_ratio (msCons (mVar 1) msNil))) s (zs.map .str) (stM ms c :: rest) vs = .ok vs' (stM ms c' :: rest) ∧ QVs vs' qs' ∧ qs'.length = qs.length + zs.length ∧ (∀ q ∈ qs', Qz 200 q) ∧ c ≤ c' ∧ c' ≤ c + 8 * (zs.length : Int)
  | [], c, vs, qs, _, _, hv, hq, _ => ⟨c, vs, qs, by show compGo always _ _ _ _ [] _ _ = _; unfold compGo; rfl, hv, by simp, hq, by omega, by simp⟩
  | z :: zs, c, vs, qs, hc, hc2, hv, hq, hl => by
    simp only [List.length_cons] at hc2 hl ⊢
    obtain ⟨_, c1, ⟨q, rfl, zq⟩, p1, q1, e1⟩ := k__law_drawn_ratio ms c rest g hc (by omega)
    have happ : ∀ {vs : List PV} {qs : List Rat}, QVs vs qs → QVs (vs ++ [PQ q]) (qs ++ [q]) := fun h => by
      induction h with
      | nil => exact .cons (.inl rfl) .nil
      | cons a _ ih => exact .cons a ih
    obtain ⟨c', vs', qs', e2, r1, r2, r3, r4, r5⟩ := weights_comp g (rest := rest) hs zs c1 (vs ++ [PQ q]) (qs ++ [q]) (by omega) (by omega) (happ hv) (fun x hx => by
      rcases List.mem_append.mp hx with h | h
      · exact hq x h
      · simp at h; rw [h]; exact zq.mono (by decide)) (by simp; omega)
    refine ⟨c', vs', qs', ?_, r1, by simp at r2; omega, r3, by omega, by omega⟩
    have t0 : (s.set 17 (some (.str z)))[1]? = some (some (.ref 0)) := by rw [List.getElem?_set_ne (by decide)]; exact hs
    have eo : oneElt (mCallP v__law_drawn_ratio (msCons (mVar 1) msNil)) (s.set 17 (some (.str z))) (stM ms c :: rest) vs = .ok (vs ++ [PQ q]) (stM ms c1 :: rest) := by
      unfold oneElt
      simp [t0, e1, show vs.length < 16777216 by omega]
    rw [List.map_cons]
    unfold compGo
    rw [if_pos always_true]
    simp only [bindT_nm, mbYes, R.bind_ok, if_true]
    rw [eo]
    simp only [R.bind_ok]
    exact e2
theorem QVs.len {vs : List PV} {qs : List Rat} (h : QVs vs qs) : vs.length = qs.length := by
  induction h with
  | nil => rfl
  | cons _ _ ih => simp [ih]
theorem idx_all {ls : List Str} {qs : List Rat} (hl : qs.length = ls.length) : ∀ zs : List Str, (∀ z ∈ zs, z ∈ ls) → ∃ ps : List Rat, All2 (fun z p => ∃ j, idxOf z ls = some j ∧ qs[j]? = some p) zs ps ∧ ∀ p ∈ ps, p ∈ qs
  | [], _ => ⟨[], .nil, by simp⟩
  | z :: zs, h => by
    obtain ⟨ps, h1, h2⟩ := idx_all hl zs fun y hy => h y (by simp [hy])
    have : ∀ ls : List Str, z ∈ ls → ∃ j, idxOf z ls = some j ∧ j < ls.length := by
      intro ls
      induction ls with
      | nil => intro h; simp at h
      | cons y ys ih =>
        intro h
        unfold idxOf
        by_cases e : y = z
        · exact ⟨0, if_pos e, by simp⟩
        · obtain ⟨j, hj, hlt⟩ := ih (by rcases List.mem_cons.mp h with q | q; exact absurd q.symm e; exact q)
          exact ⟨j + 1, by rw [if_neg e, hj]; rfl, by simp; omega⟩
    obtain ⟨j, hj, hlt⟩ := this ls (h z (by simp))
    have e : qs[j]? = some (qs[j]'(by omega)) := List.getElem?_eq_getElem _
    exact ⟨qs[j]'(by omega) :: ps, .cons ⟨j, hj, e⟩ h1, fun p hp => by
      rcases List.mem_cons.mp hp with rfl | hp
      · exact List.mem_of_getElem? e
      · exact h2 p hp⟩
theorem All2.app {α β : Type} {R : α → β → Prop} {as bs : List α} {xs ys : List β} (h : All2 R as xs) (h' : All2 R bs ys) : All2 R (as ++ bs) (xs ++ ys) := by
  induction h with
  | nil => exact h'
  | cons a _ ih => exact .cons a ih
theorem due_comp {ls : List Str} {vs : List PV} {qs : List Rat} (hv : QVs vs qs) {μ : MH} {s : MS} (h10 : s[10]? = some (some (.ctp (ls.map .str)))) (h14 : s[14]? = some (some (.tup vs))) (hlen : 17 < s.length) : ∀ (zs : List Str) (ps : List Rat), All2 (fun z p => ∃ j, idxOf z ls = some j ∧ qs[j]? = some p) zs ps → ∀ acc : List PV, acc.length + zs.length ≤ 1000 →
    ∃ us, compGo always (.nm 17) mbYes (oneElt (mOp fIx (mVar 14) (mMeth (fun v _ => isCtp v) fIndexT (mVar 10) (msCons (mVar 17) msNil)))) s (zs.map .str) μ acc = .ok (acc ++ us) μ ∧ QVs us ps := by
  intro zs ps h
  induction h with
  | nil => exact fun acc _ => ⟨[], by show compGo always _ _ _ _ [] _ _ = _; unfold compGo; simp, .nil⟩
  | @cons z p zs ps hz _ ih =>
    intro acc hl
    simp only [List.length_cons] at hl
    obtain ⟨j, hj, hp⟩ := hz
    obtain ⟨u, hu, qu⟩ := hv.get hp
    obtain ⟨us, e, qs'⟩ := ih (acc ++ [u]) (by simp; omega)
    refine ⟨u :: us, ?_, .cons qu qs'⟩
    have t10 : (s.set 17 (some (.str z)))[10]? = some (some (.ctp (ls.map .str))) := by rw [List.getElem?_set_ne (by decide)]; exact h10
    have t14 : (s.set 17 (some (.str z)))[14]? = some (some (.tup vs)) := by rw [List.getElem?_set_ne (by decide)]; exact h14
    have t17 : (s.set 17 (some (.str z)))[17]? = some (some (.str z)) := List.getElem?_set_self hlen
    have eo : oneElt (mOp fIx (mVar 14) (mMeth (fun v _ => isCtp v) fIndexT (mVar 10) (msCons (mVar 17) msNil))) (s.set 17 (some (.str z))) μ acc = .ok (acc ++ [u]) μ := by
      unfold oneElt
      simp [t10, t14, t17, fIndexT_ok hj, atI_nat hu, show acc.length < 16777216 by omega]
    rw [List.map_cons]
    unfold compGo
    rw [if_pos always_true]
    simp only [bindT_nm, mbYes, R.bind_ok, if_true]
    rw [eo]
    simp only [R.bind_ok]
    rw [e]
    simp
end K30

namespace K30
open PySem PySem.Spec PyProof.Rows L2 Mini
open scoped Classical
theorem append_at {μ : MH} {n : Nat} {xs : List PV} {v : PV} (h : μ[n]? = some (.lst xs)) (hl : xs.length < 16777216) : fAppend (.ref n) [v] μ = .ok .non (μ.set n (.lst (xs ++ [v]))) := by
  unfold fAppend
  simp only [h]
  exact if_pos hl
theorem isL_at {μ : MH} {n : Nat} {xs : List PV} (h : μ[n]? = some (.lst xs)) : isL (.ref n) μ = true := by unfold isL lstR lstM; simp only [h]; rfl
/-- two new places of lists -/
abbrev two (μ : MH) (xs ys : List PV) : MH := μ ++ [.lst xs, .lst ys]
theorem two_0 (μ : MH) (xs ys : List PV) : (two μ xs ys)[μ.length]? = some (.lst xs) := by simp [two]
theorem two_1 (μ : MH) (xs ys : List PV) : (two μ xs ys)[μ.length + 1]? = some (.lst ys) := by simp [two]
theorem two_s0 (μ : MH) (xs ys zs : List PV) : (two μ xs ys).set μ.length (.lst zs) = two μ zs ys := by simp [two, List.set_append]
theorem two_s1 (μ : MH) (xs ys zs : List PV) : (two μ xs ys).set (μ.length + 1) (.lst zs) = two μ xs zs := by simp [two, List.set_append]
theorem told_ev {ls : List Str} {rows : List (List Nat)} {ends : List Nat} (M : Mach ls rows ends) {s : MS} (h : s[11]? = some (some (machP ls rows ends))) (μ : MH) : mCallP fFrl (msCons (mCallP v_steps_of (msCons (mVar 11) msNil)) (msCons (mCallP v_ends_of (msCons (mVar 11) msNil)) msNil)) s μ = .ok (.frl [.ref μ.length, .ref (μ.length + 1)]) (two μ (stepsL ls rows ends) ((endsL rows ends).map nP)) := by
  have e1 := k_steps_of ls rows ends μ M
  have e2 := k_ends_of ls rows ends (μ ++ [.lst (stepsL ls rows ends)]) M
  simp [h, e1, e2, two]
theorem due_ev {ls : List Str} {rows : List (List Nat)} {ends : List Nat} (M : Mach ls rows ends) {s : MS} (h : s[11]? = some (some (machP ls rows ends))) (μ : MH) : mCallP fFrl (msCons (mCallP v__law_steps (msCons (mVar 11) msNil)) (msCons (mCallP v__law_ends (msCons (mVar 11) msNil)) msNil)) s μ = .ok (.frl [.frl (stepsL ls rows ends), .frl ((endsL rows ends).map nP)]) μ := by
  have e1 := k__law_steps ls rows ends μ M
  have e2 := k__law_ends ls rows ends μ M
  simp [h, e1, e2]
theorem pq_ne {v : PV} {q : Rat} {μ : MH} (hv : QV v q) : fNe (PQ q) v μ = .ok (.bl false) μ := by
  have e : eqD (PQ q) v μ = some true := by
    have d : ∀ u, QV u q → toD μ u = some (.tuple [.int q.num, .int (q.den : Nat)]) := fun u hu => by
      rcases hu with rfl | rfl <;> simp [PQ, toD, toDs]
    unfold eqD
    rw [d _ (.inl rfl), d v hv]
    simp only
    rw [if_pos (by with_unfolding_all rfl)]
    congr 1
    simp [PyData.eqv, PyData.eqvAll]
  unfold fNe
  rcases hv with rfl | rfl <;> (unfold PQ at e ⊢; simp only [e]; rfl)
theorem turn3 {ms : List Int} (g : GoodN ms) {rest : MH} {c : Int} (hc : 0 ≤ c) (hc2 : c + 1000 ≤ 1000000) {t : Nat} (ht : t < 4) (s0 s3 s4 s5 s6 s7 s8 s9 s10 s11 s12 s13 s14 s15 s16 : Option PV) :
    ∃ c' rest' t9 t10 t11 t12 t13 t14 t15 t16, LL3 [s0, some (.ref 0), some (nP t), s3, s4, s5, s6, s7, s8, s9, s10, s11, s12, s13, s14, s15, s16, none] (stM ms c :: rest) = .nx [s0, some (.ref 0), some (nP t), s3, s4, s5, s6, s7, s8, t9, t10, t11, t12, t13, t14, t15, t16, none] (stM ms c' :: rest') ∧ c ≤ c' ∧ c' ≤ c + 1000 := by
  obtain ⟨_, c1, ⟨ls, hls, rfl⟩, p1, q1, e1⟩ := k__law_letters ms c rest g hc (by omega)
  obtain ⟨most, hm1, hm2, em⟩ : ∃ most : Int, 1 ≤ most ∧ most ≤ 30 ∧ atI [PV.int 6, .int 6, .int 6, .int 30] ((t : Nat) : Int) = some (.int most) := by
    rcases (show t = 0 ∨ t = 1 ∨ t = 2 ∨ t = 3 by omega) with rfl | rfl | rfl | rfl
    · exact ⟨6, by decide, by decide, rfl⟩
    · exact ⟨6, by decide, by decide, rfl⟩
    · exact ⟨6, by decide, by decide, rfl⟩
    · exact ⟨30, by decide, by decide, rfl⟩
  obtain ⟨_, c2, ⟨rows, ends, rfl, M⟩, p2, q2, e2⟩ := k__law_machine ls most hls hm1 hm2 ms c1 rest g (by omega) (by omega)
  obtain ⟨z, ez⟩ := repr_mach M
  have hsl := steps_len M
  have hel := ends_len rows ends
  have n2 := M.n2
  have hll := letters_len hls
  let S := stepsL ls rows ends
  let En := (endsL rows ends).map nP
  let μ2 : MH := stM ms c2 :: rest
  let rest3 : MH := rest ++ [.lst (S ++ [.tup [.int 0, .str "zz"]]), .lst (En ++ [.int 99])]
  let rest4 : MH := rest3 ++ [.lst S, .lst En]
  have em3 : two μ2 (S ++ [.tup [.int 0, .str "zz"]]) (En ++ [.int 99]) = stM ms c2 :: rest3 := rfl
  have em4 : two (stM ms c2 :: rest3) S En = stM ms c2 :: rest4 := rfl
  obtain ⟨c3, vs, qs, ew, hv, hql, hz, p3, q3⟩ := weights_comp g (rest := rest4) (s := [s0, some (.ref 0), some (nP t), s3, s4, s5, s6, s7, s8, s9, some (.ctp (ls.map .str)), some (machP ls rows ends), some (.str z), some (.frl [.ref μ2.length, .ref (μ2.length + 1)]), s14, s15, s16, none]) rfl ls c2 [] [] (by omega) (by omega) .nil (by simp) (by simp; omega)
  simp at hql
  obtain ⟨_, c4, ⟨d4, rfl, l4, u4⟩, p4, q4, e4⟩ := k__law_next 9 (by decide) (by decide) ms c3 rest4 g (by omega) (by omega)
  obtain ⟨k4, rfl⟩ := Int.eq_ofNat_of_zero_le l4
  obtain ⟨_, c5, ⟨zs, rfl, hzl, hzs⟩, p5, q5, e5⟩ := k__law_log ls k4 hls (by omega) ms c4 rest4 g (by omega) (by omega)
  obtain ⟨_, c6, ⟨d6, rfl, l6, u6⟩, p6, q6, e6⟩ := k__law_next 5 (by decide) (by decide) ms c5 rest4 g (by omega) (by omega)
  obtain ⟨k6, rfl⟩ := Int.eq_ofNat_of_zero_le l6
  obtain ⟨_, c7, ⟨zs2, rfl, hzl2, hzs2⟩, p7, q7, e7⟩ := k__law_log ls k6 hls (by omega) ms c6 rest4 g (by omega) (by omega)
  obtain ⟨ps, ha, hpq⟩ := idx_all hql zs hzs
  obtain ⟨ps2, ha2, hpq2⟩ := idx_all hql zs2 hzs2
  have hps : ∀ p ∈ ps, Qz 200 p := fun p hp => hz p (hpq p hp)
  have hps2 : ∀ p ∈ ps2, Qz 200 p := fun p hp => hz p (hpq2 p hp)
  have len2 : ∀ {as : List Str} {xs : List Rat}, All2 (fun z p => ∃ j, idxOf z ls = some j ∧ qs[j]? = some p) as xs → as.length = xs.length := fun h => by
    induction h with
    | nil => rfl
    | cons _ _ ih => simp [ih]
  have l1 := len2 ha
  have l2 := len2 ha2
  have hk4 : k4 < 9 := by omega
  have hk6 : k6 < 5 := by omega
  have zlt : ∀ (xs : List Rat), (∀ p ∈ xs, Qz 200 p) → xs.length ≤ 8 → Qz 1700 (xs.foldl (· + ·) 0) := fun xs h hl => (qz_fold xs 0 1 h ⟨by decide, by decide⟩).mono (by omega)
  obtain ⟨us, edue, hus⟩ := due_comp (ls := ls) hv (μ := stM ms c7 :: rest4) (s := [s0, some (.ref 0), some (nP t), s3, s4, s5, s6, s7, s8, s9, some (.ctp (ls.map .str)), some (machP ls rows ends), some (.str z), some (.frl [.ref μ2.length, .ref (μ2.length + 1)]), some (.tup vs), some (.tup (zs.map .str)), some (.tup (zs2.map .str)), none]) rfl rfl (show 17 < 18 by decide) zs ps ha [] (by simp; omega)
  have esum := k__law_sum us ps (stM ms c7 :: rest4) hus hps (by rw [QVs.len hus]; omega)
  obtain ⟨w1, ew1, qw1⟩ := k_weight_of ls vs qs zs ps (stM ms c7 :: rest4) hv hz ha (by omega)
  obtain ⟨w2, ew2, qw2⟩ := k_weight_of ls vs qs zs2 ps2 (stM ms c7 :: rest4) hv hz ha2 (by omega)
  obtain ⟨w3, ew3, qw3⟩ := k_weight_of ls vs qs (zs ++ zs2) (ps ++ ps2) (stM ms c7 :: rest4) hv hz (K30.All2.app ha ha2) (by simp; omega)
  have es1 := same_q (v := w1) (w := PQ (ps.foldl (· + ·) 0)) (μ := stM ms c7 :: rest4) qw1 (.inl rfl) ((zlt ps hps (by omega)).mono (by decide))
  have epl := k_plus (PQ (ps.foldl (· + ·) 0)) w2 (ps.foldl (· + ·) 0) (ps2.foldl (· + ·) 0) 1700 1700 (stM ms c7 :: rest4) (.inl rfl) qw2 (zlt ps hps (by omega)) (zlt ps2 hps2 (by omega)) (by decide) (by decide) (by decide)
  rw [← fold_add, ← List.foldl_append] at epl
  have ene := pq_ne (μ := stM ms c7 :: rest4) qw3
  have ecat : ∀ ν, fAdd (.tup (zs.map .str)) (.tup (zs2.map .str)) ν = .ok (.tup ((zs ++ zs2).map .str)) ν := fun ν => by
    unfold fAdd
    simp only
    rw [if_pos (by simp; omega)]
    simp
  refine ⟨c7, rest4, some (PQ (ps.foldl (· + ·) 0)), some (.ctp (ls.map .str)), some (machP ls rows ends), some (.str z), some (.frl [.ref μ2.length, .ref (μ2.length + 1)]), some (.tup vs), some (.tup (zs.map .str)), some (.tup (zs2.map .str)), ?_, by omega, by omega⟩
  refine (sSeq_nx (s1 := [s0, some (.ref 0), some (nP t), s3, s4, s5, s6, s7, s8, s9, some (.ctp (ls.map .str)), s11, s12, s13, s14, s15, s16, none]) (μ1 := stM ms c1 :: rest) (by simp [e1])).trans ?_
  refine (sSeq_nx (s1 := [s0, some (.ref 0), some (nP t), s3, s4, s5, s6, s7, s8, s9, some (.ctp (ls.map .str)), some (machP ls rows ends), s12, s13, s14, s15, s16, none]) (μ1 := μ2) (by simp [em, e2, μ2])).trans ?_
  refine (sSeq_nx (s1 := [s0, some (.ref 0), some (nP t), s3, s4, s5, s6, s7, s8, s9, some (.ctp (ls.map .str)), some (machP ls rows ends), some (.str z), s13, s14, s15, s16, none]) (μ1 := μ2) (by simp [ez])).trans ?_
  refine (sSeq_nx (s1 := [s0, some (.ref 0), some (nP t), s3, s4, s5, s6, s7, s8, s9, some (.ctp (ls.map .str)), some (machP ls rows ends), some (.str z), some (.frl [.ref μ2.length, .ref (μ2.length + 1)]), s14, s15, s16, none]) (μ1 := two μ2 S En) (by unfold sAsg; rw [told_ev M rfl μ2]; rfl)).trans ?_
  refine (sSeq_nx (s1 := [s0, some (.ref 0), some (nP t), s3, s4, s5, s6, s7, s8, s9, some (.ctp (ls.map .str)), some (machP ls rows ends), some (.str z), some (.frl [.ref μ2.length, .ref (μ2.length + 1)]), s14, s15, s16, none]) (μ1 := two μ2 S En) ?_).trans ?_
  · have ed := due_ev M (s := [s0, some (.ref 0), some (nP t), s3, s4, s5, s6, s7, s8, s9, some (.ctp (ls.map .str)), some (machP ls rows ends), some (.str z), some (.frl [.ref μ2.length, .ref (μ2.length + 1)]), s14, s15, s16, none]) rfl (two μ2 S En)
    have est := same_told (μ := two μ2 S En) M (two_0 μ2 S En) (two_1 μ2 S En)
    have e13 : mVar 13 [s0, some (.ref 0), some (nP t), s3, s4, s5, s6, s7, s8, s9, some (.ctp (ls.map .str)), some (machP ls rows ends), some (.str z), some (.frl [.ref μ2.length, .ref (μ2.length + 1)]), s14, s15, s16, none] (two μ2 S En) = .ok (.frl [.ref μ2.length, .ref (μ2.length + 1)]) (two μ2 S En) := rfl
    unfold sIf mbNot mbE
    rw [show mCallP v__law_same (msCons (mVar 13) (msCons (mCallP fFrl (msCons (mCallP v__law_steps (msCons (mVar 11) msNil)) (msCons (mCallP v__law_ends (msCons (mVar 11) msNil)) msNil))) msNil)) [s0, some (.ref 0), some (nP t), s3, s4, s5, s6, s7, s8, s9, some (.ctp (ls.map .str)), some (machP ls rows ends), some (.str z), some (.frl [.ref μ2.length, .ref (μ2.length + 1)]), s14, s15, s16, none] (two μ2 S En) = .ok (.bl true) (two μ2 S En) from by
      show (((mVar 13) _ _).bind fun x μ1 => (((mCallP fFrl _) _ μ1).bind fun y μ2 => (R.ok [] μ2).bind fun xs μ3 => R.ok (y :: xs) μ3).bind fun xs μ2 => R.ok (x :: xs) μ2).bind _ = _
      rw [e13]
      simp only [R.bind_ok]
      rw [ed]
      simp only [R.bind_ok]
      exact est]
    rfl
  refine (sSeq_nx (s1 := [s0, some (.ref 0), some (nP t), s3, s4, s5, s6, s7, s8, s9, some (.ctp (ls.map .str)), some (machP ls rows ends), some (.str z), some (.frl [.ref μ2.length, .ref (μ2.length + 1)]), s14, s15, s16, none]) (μ1 := two μ2 (S ++ [.tup [.int 0, .str "zz"]]) En) ?_).trans ?_
  · have ea := append_at (v := .tup [.int 0, .str "zz"]) (two_0 μ2 S En) (by show (stepsL ls rows ends).length < 16777216; omega)
    rw [two_s0] at ea
    have ei := isL_at (two_0 μ2 S En)
    simp only [sExpr, mMeth, mOp, mVar, mC, msCons, msNil, mCallP, fTup, List.getElem?_cons_succ, List.getElem?_cons_zero, R.bind_ok, fIx_frl, at0, ei, if_true, List.length_cons, List.length_nil]
    rw [if_pos (by decide)]
    simp only [R.bind_ok, ea, sBind_ok]
  refine (sSeq_nx (s1 := [s0, some (.ref 0), some (nP t), s3, s4, s5, s6, s7, s8, s9, some (.ctp (ls.map .str)), some (machP ls rows ends), some (.str z), some (.frl [.ref μ2.length, .ref (μ2.length + 1)]), s14, s15, s16, none]) (μ1 := stM ms c2 :: rest3) ?_).trans ?_
  · have ea := append_at (v := .int 99) (two_1 μ2 (S ++ [.tup [.int 0, .str "zz"]]) En) (by show ((endsL rows ends).map nP).length < 16777216; rw [List.length_map]; omega)
    rw [two_s1] at ea
    have ei := isL_at (two_1 μ2 (S ++ [.tup [.int 0, .str "zz"]]) En)
    simp only [sExpr, mMeth, mOp, mVar, mC, msCons, msNil, mCallP, List.getElem?_cons_succ, List.getElem?_cons_zero, R.bind_ok, fIx_frl, at1, ei, if_true, ea, sBind_ok]
    rw [em3]
  refine (sSeq_nx (s1 := [s0, some (.ref 0), some (nP t), s3, s4, s5, s6, s7, s8, s9, some (.ctp (ls.map .str)), some (machP ls rows ends), some (.str z), some (.frl [.ref μ2.length, .ref (μ2.length + 1)]), s14, s15, s16, none]) (μ1 := stM ms c2 :: rest4) ?_).trans ?_
  · have et := told_ev M (s := [s0, some (.ref 0), some (nP t), s3, s4, s5, s6, s7, s8, s9, some (.ctp (ls.map .str)), some (machP ls rows ends), some (.str z), some (.frl [.ref μ2.length, .ref (μ2.length + 1)]), s14, s15, s16, none]) rfl (stM ms c2 :: rest3)
    have ed := due_ev M (s := [s0, some (.ref 0), some (nP t), s3, s4, s5, s6, s7, s8, s9, some (.ctp (ls.map .str)), some (machP ls rows ends), some (.str z), some (.frl [.ref μ2.length, .ref (μ2.length + 1)]), s14, s15, s16, none]) rfl (stM ms c2 :: rest4)
    have est := same_told (μ := two (stM ms c2 :: rest3) S En) M (two_0 _ S En) (two_1 _ S En)
    rw [em4] at et est
    have es : mCallP v__law_same (msCons (mCallP fFrl (msCons (mCallP v_steps_of (msCons (mVar 11) msNil)) (msCons (mCallP v_ends_of (msCons (mVar 11) msNil)) msNil))) (msCons (mCallP fFrl (msCons (mCallP v__law_steps (msCons (mVar 11) msNil)) (msCons (mCallP v__law_ends (msCons (mVar 11) msNil)) msNil))) msNil)) [s0, some (.ref 0), some (nP t), s3, s4, s5, s6, s7, s8, s9, some (.ctp (ls.map .str)), some (machP ls rows ends), some (.str z), some (.frl [.ref μ2.length, .ref (μ2.length + 1)]), s14, s15, s16, none] (stM ms c2 :: rest3) = .ok (.bl true) (stM ms c2 :: rest4) := by
      show (((mCallP fFrl _) _ _).bind fun x μ1 => (((mCallP fFrl _) _ μ1).bind fun y μ2 => (R.ok [] μ2).bind fun xs μ3 => R.ok (y :: xs) μ3).bind fun xs μ2 => R.ok (x :: xs) μ2).bind _ = _
      rw [et]
      simp only [R.bind_ok]
      rw [ed]
      simp only [R.bind_ok]
      exact est
    have er : mOp fNe (mCallP fRepr (msCons (mVar 11) msNil)) (mVar 12) [s0, some (.ref 0), some (nP t), s3, s4, s5, s6, s7, s8, s9, some (.ctp (ls.map .str)), some (machP ls rows ends), some (.str z), some (.frl [.ref μ2.length, .ref (μ2.length + 1)]), s14, s15, s16, none] (stM ms c2 :: rest4) = .ok (.bl false) (stM ms c2 :: rest4) := by
      have : fNe (.str z) (.str z) (stM ms c2 :: rest4) = .ok (.bl false) (stM ms c2 :: rest4) := by unfold fNe; simp
      simp only [mOp, mCallP, msCons, msNil, mVar, List.getElem?_cons_succ, List.getElem?_cons_zero, R.bind_ok, ez, this]
    unfold sIf mbOr mbNot mbE
    simp only [es, R.bind_ok, bOf_bl, Bool.not_true, Bool.false_eq_true, if_false, er, sBind_ok, sNil]
  refine (sSeq_nx (s1 := [s0, some (.ref 0), some (nP t), s3, s4, s5, s6, s7, s8, s9, some (.ctp (ls.map .str)), some (machP ls rows ends), some (.str z), some (.frl [.ref μ2.length, .ref (μ2.length + 1)]), some (.tup vs), s15, s16, none]) (μ1 := stM ms c3 :: rest4) ?_).trans ?_
  · have ew2 : wipeM [s0, some (.ref 0), some (nP t), s3, s4, s5, s6, s7, s8, s9, some (.ctp (ls.map .str)), some (machP ls rows ends), some (.str z), some (.frl [.ref μ2.length, .ref (μ2.length + 1)]), s14, s15, s16, none] [17] = [s0, some (.ref 0), some (nP t), s3, s4, s5, s6, s7, s8, s9, some (.ctp (ls.map .str)), some (machP ls rows ends), some (.str z), some (.frl [.ref μ2.length, .ref (μ2.length + 1)]), s14, s15, s16, none] := rfl
    have et : ∀ ν, fTuple [.frl vs] ν = .ok (.tup vs) ν := fun ν => rfl
    simp only [sAsg, mCallP, msCons, msNil, mLc, mOver, mVar, List.getElem?_cons_succ, List.getElem?_cons_zero, R.bind_ok, planOf, ew2]
    rw [ew]
    simp only [noErr_okE, R.bind_ok, et, sBind_ok, bindT_nm, List.set_cons_succ, List.set_cons_zero]
  refine (sSeq_nx (s1 := [s0, some (.ref 0), some (nP t), s3, s4, s5, s6, s7, s8, s9, some (.ctp (ls.map .str)), some (machP ls rows ends), some (.str z), some (.frl [.ref μ2.length, .ref (μ2.length + 1)]), some (.tup vs), some (.tup (zs.map .str)), s16, none]) (μ1 := stM ms c5 :: rest4) ?_).trans ?_
  · simp only [sAsg, mCallP, msCons, msNil, mVar, mC, List.getElem?_cons_succ, List.getElem?_cons_zero, R.bind_ok, e4, e5, sBind_ok, bindT_nm, List.set_cons_succ, List.set_cons_zero]
  refine (sSeq_nx (s1 := [s0, some (.ref 0), some (nP t), s3, s4, s5, s6, s7, s8, s9, some (.ctp (ls.map .str)), some (machP ls rows ends), some (.str z), some (.frl [.ref μ2.length, .ref (μ2.length + 1)]), some (.tup vs), some (.tup (zs.map .str)), some (.tup (zs2.map .str)), none]) (μ1 := stM ms c7 :: rest4) ?_).trans ?_
  · simp only [sAsg, mCallP, msCons, msNil, mVar, mC, List.getElem?_cons_succ, List.getElem?_cons_zero, R.bind_ok, e6, e7, sBind_ok, bindT_nm, List.set_cons_succ, List.set_cons_zero]
  refine (sSeq_nx (s1 := [s0, some (.ref 0), some (nP t), s3, s4, s5, s6, s7, s8, some (PQ (ps.foldl (· + ·) 0)), some (.ctp (ls.map .str)), some (machP ls rows ends), some (.str z), some (.frl [.ref μ2.length, .ref (μ2.length + 1)]), some (.tup vs), some (.tup (zs.map .str)), some (.tup (zs2.map .str)), none]) (μ1 := stM ms c7 :: rest4) ?_).trans ?_
  · have ew2 : wipeM [s0, some (.ref 0), some (nP t), s3, s4, s5, s6, s7, s8, s9, some (.ctp (ls.map .str)), some (machP ls rows ends), some (.str z), some (.frl [.ref μ2.length, .ref (μ2.length + 1)]), some (.tup vs), some (.tup (zs.map .str)), some (.tup (zs2.map .str)), none] [17] = [s0, some (.ref 0), some (nP t), s3, s4, s5, s6, s7, s8, s9, some (.ctp (ls.map .str)), some (machP ls rows ends), some (.str z), some (.frl [.ref μ2.length, .ref (μ2.length + 1)]), some (.tup vs), some (.tup (zs.map .str)), some (.tup (zs2.map .str)), none] := rfl
    simp only [sAsg, mCallP, msCons, msNil, mLc, mOver, mVar, List.getElem?_cons_succ, List.getElem?_cons_zero, R.bind_ok, planOf, ew2]
    rw [edue]
    simp only [noErr_okE, R.bind_ok, List.nil_append, esum, sBind_ok, bindT_nm, List.set_cons_succ, List.set_cons_zero]
  unfold sIf mbOr mbNot mbE
  simp only [mOp, mCallP, msCons, msNil, mVar, List.getElem?_cons_succ, List.getElem?_cons_zero, R.bind_ok, ew1, es1, bOf_bl, Bool.not_true, Bool.false_eq_true, if_false, ew2, epl, ecat, ew3, ene, sBind_ok, sNil]
theorem loop2 {ms : List Int} (g : GoodN ms) {rest : MH} (s0 s10 s11 s12 s13 s14 s15 s16 s17 : Option PV) : ∀ (vs : List PV) (c : Int) (s2 s3 s4 s5 s6 s7 s8 s9 : Option PV), 0 ≤ c → c + 100 * (vs.length : Int) ≤ 1000000 →
    ∃ c' t2 t3 t4 t5 t6 t7 t8 t9, forGo always (.nm 2) LL2 vs [s0, some (.ref 0), s2, s3, s4, s5, s6, s7, s8, s9, s10, s11, s12, s13, s14, s15, s16, s17] (stM ms c :: rest) = .nx [s0, some (.ref 0), t2, t3, t4, t5, t6, t7, t8, t9, s10, s11, s12, s13, s14, s15, s16, s17] (stM ms c' :: rest) ∧ c ≤ c' ∧ c' ≤ c + 100 * (vs.length : Int)
  | [], c, s2, s3, s4, s5, s6, s7, s8, s9, _, _ => ⟨c, s2, s3, s4, s5, s6, s7, s8, s9, by unfold forGo; rfl, by omega, by simp⟩
  | v :: vs, c, s2, s3, s4, s5, s6, s7, s8, s9, hc, hc2 => by
    simp only [List.length_cons] at hc2 ⊢
    obtain ⟨c1, t3, t4, t5, t6, t7, t8, t9, e1, h1, h2⟩ := turn2 g (rest := rest) hc (by omega) s0 (some v) s3 s4 s5 s6 s7 s8 s9 s10 s11 s12 s13 s14 s15 s16 s17
    obtain ⟨c', u2, u3, u4, u5, u6, u7, u8, u9, e2, h3, h4⟩ := loop2 g (rest := rest) s0 s10 s11 s12 s13 s14 s15 s16 s17 vs c1 (some v) t3 t4 t5 t6 t7 t8 t9 (by omega) (by omega)
    refine ⟨c', u2, u3, u4, u5, u6, u7, u8, u9, ?_, by omega, by omega⟩
    unfold forGo
    rw [if_pos always_true]
    simp only [bindT_nm, List.set_cons_succ, List.set_cons_zero]
    rw [e1]
    exact e2
theorem loop3 {ms : List Int} (g : GoodN ms) (s0 s3 s4 s5 s6 s7 s8 : Option PV) : ∀ (ks : List Nat) (c : Int) (rest : MH) (s2 s9 s10 s11 s12 s13 s14 s15 s16 : Option PV), (∀ k ∈ ks, k < 4) → 0 ≤ c → c + 1000 * (ks.length : Int) ≤ 1000000 →
    ∃ c' rest' t2 t9 t10 t11 t12 t13 t14 t15 t16, forGo always (.nm 2) LL3 (ks.map nP) [s0, some (.ref 0), s2, s3, s4, s5, s6, s7, s8, s9, s10, s11, s12, s13, s14, s15, s16, none] (stM ms c :: rest) = .nx [s0, some (.ref 0), t2, s3, s4, s5, s6, s7, s8, t9, t10, t11, t12, t13, t14, t15, t16, none] (stM ms c' :: rest')
  | [], c, rest, s2, s9, s10, s11, s12, s13, s14, s15, s16, _, _, _ => ⟨c, rest, s2, s9, s10, s11, s12, s13, s14, s15, s16, by show forGo always _ _ [] _ _ = _; unfold forGo; rfl⟩
  | k :: ks, c, rest, s2, s9, s10, s11, s12, s13, s14, s15, s16, hk, hc, hc2 => by
    simp only [List.length_cons] at hc2
    obtain ⟨c1, rest1, t9, t10, t11, t12, t13, t14, t15, t16, e1, h1, h2⟩ := turn3 g (rest := rest) hc (by omega) (hk k (by simp)) s0 s3 s4 s5 s6 s7 s8 s9 s10 s11 s12 s13 s14 s15 s16
    obtain ⟨c', rest', u2, u9, u10, u11, u12, u13, u14, u15, u16, e2⟩ := loop3 g s0 s3 s4 s5 s6 s7 s8 ks c1 rest1 (some (nP k)) t9 t10 t11 t12 t13 t14 t15 t16 (fun x hx => hk x (by simp [hx])) (by omega) (by omega)
    refine ⟨c', rest', u2, u9, u10, u11, u12, u13, u14, u15, u16, ?_⟩
    rw [List.map_cons]
    unfold forGo
    rw [if_pos always_true]
    simp only [bindT_nm, List.set_cons_succ, List.set_cons_zero]
    rw [e1]
    exact e2
theorem value : ∀ ns : List Int, ns.length ≤ 63 → ∃ μ, v_law [.scr (ns.map PV.int)] [] = .ok (.bl true) μ := by
  intro ns hn
  obtain ⟨ms, g, es⟩ := k__law_stream ns [] hn
  obtain ⟨c1, t2, t3, t4, t5, t6, t7, t8, t9, e2, h1, h2⟩ := loop2 g (rest := []) (some (.scr (ns.map PV.int))) none none none none none none none none (rangeVals 0 20) 0 none none none none none none none none (by decide) (by simp [rangeVals])
  have hl : (rangeVals 0 20).length = 20 := by simp [rangeVals]
  rw [hl] at h2
  obtain ⟨c2, rest, u2, u9, u10, u11, u12, u13, u14, u15, u16, e3⟩ := loop3 g (some (.scr (ns.map PV.int))) t3 t4 t5 t6 t7 t8 (List.range 4) c1 [] t2 t9 none none none none none none none (fun k hk => by simpa using hk) (by omega) (by simp; omega)
  have e3' : forGo always (.nm 2) LL3 (rangeVals 0 4) [some (.scr (ns.map PV.int)), some (.ref 0), t2, t3, t4, t5, t6, t7, t8, t9, none, none, none, none, none, none, none, none] [stM ms c1] = .nx [some (.scr (ns.map PV.int)), some (.ref 0), u2, t3, t4, t5, t6, t7, t8, u9, u10, u11, u12, u13, u14, u15, u16, none] (stM ms c2 :: rest) := by
    rw [rangeVals_nat]
    exact e3
  have er := k_ratio 6 (-4) (stM ms c2 :: rest) (by decide) (by decide) (by decide)
  have eq1 : PQ (Rat.divInt 6 (-4)) = .tup [.int (-3), .int 2] := by
    rw [pq_eq (by decide)]
    rfl
  have esame := same_q (v := PQ (Rat.divInt 6 (-4))) (w := PQ (Rat.divInt 6 (-4))) (μ := stM ms c2 :: rest) (.inl rfl) (.inl rfl) (qz_div (by decide) (by decide) (by decide))
  rw [eq1] at er esame
  refine ⟨stM ms c2 :: rest, ?_⟩
  have eb : b_law v__law_stream v__law_number v__law_same v__law_ratio v_ratio v__law_next v_is_ratio v__law_drawn_ratio v__law_below v__law_sum v_is_less v_times v_plus v__law_letters v__law_machine v_ends_of v_steps_of v__law_ends v__law_steps v__law_log v_weight_of
      [some (.scr (ns.map PV.int)), none, none, none, none, none, none, none, none, none, none, none, none, none, none, none, none, none] [] = .rt (.bl true) (stM ms c2 :: rest) := by
    unfold b_law
    refine (sSeq_nx (s1 := [some (.scr (ns.map PV.int)), some (.ref 0), none, none, none, none, none, none, none, none, none, none, none, none, none, none, none, none]) (μ1 := [stM ms 0]) (by simp [es, stM])).trans ?_
    refine (sSeq_nx (s1 := [some (.scr (ns.map PV.int)), some (.ref 0), t2, t3, t4, t5, t6, t7, t8, t9, none, none, none, none, none, none, none, none]) (μ1 := [stM ms c1]) (by unfold sFor; rw [range_lit20]; exact e2)).trans ?_
    refine (sSeq_nx (s1 := [some (.scr (ns.map PV.int)), some (.ref 0), u2, t3, t4, t5, t6, t7, t8, u9, u10, u11, u12, u13, u14, u15, u16, none]) (μ1 := stM ms c2 :: rest) (by unfold sFor; rw [range_lit4]; exact e3')).trans ?_
    simp [er, esame]
  show (match b_law _ _ _ _ _ _ _ _ _ _ _ _ _ _ _ _ _ _ _ _ _ [some (.scr (ns.map PV.int)), none, none, none, none, none, none, none, none, none, none, none, none, none, none, none, none, none] [] with
    | .nx _ μ1 => R.ok PV.non μ1
    | .rt v μ1 => .ok v μ1
    | .er c p _ μ1 => .err c p μ1
    | _ => .bad) = _
  rw [eb]
end K30

namespace K30
open PySem PySem.Spec PyProof.Rows L2 Mini
theorem glob_ZERO {K : PySem.W.Frag} {a : Addr} {t0 t1 : Tok} {n : Nat} {sl : Array (Option Value)} (hn : PySem.W.nsIn K mainGlobals "ZERO" = some (some (.ref a))) (l : K.lookup a = some ⟨.type "tuple", none, .seq #[.int 0 t0, .int 1 t1] n, sl⟩) : GlobF K "ZERO" k_ZERO :=
  ⟨a, [.int 0, .int 1], _, _, _, hn, l, rfl, rfl, rfl, (by show 2 ≤ sizeLine; decide), .cons ⟨t0, rfl⟩ (.cons ⟨t1, rfl⟩ .nil), fun G H β => .cons .int_ (.cons .int_ .nil)⟩
end K30
namespace K30
open PySem PySem.Spec PyProof.Rows L2 Mini
theorem F_all {P : Program} {w : World} {K : PySem.W.Frag} {h : Heap} {mg : Str → Option Value} {fa : Addr} (KX : K.In h) (G : h.Ns mainGlobals mg) (hfa : mg "law" = some (.ref fa))
    (D_common_part : FactD K "common_part" (top 1))
    (D_ratio : FactD K "ratio" (top 2))
    (D_is_ratio : FactD K "is_ratio" (top 3))
    (D_plus : FactD K "plus" (top 4))
    (D_times : FactD K "times" (top 5))
    (D_is_less : FactD K "is_less" (top 6))
    (D_first_logs : FactD K "first_logs" (top 8))
    (D_reached : FactD K "reached" (top 9))
    (D_alive : FactD K "alive" (top 10))
    (D_useful : FactD K "useful" (top 13))
    (D_steps_of : FactD K "steps_of" (top 14))
    (D_ends_of : FactD K "ends_of" (top 15))
    (D_weight_of : FactD K "weight_of" (top 16))
    (D__law_same : FactD K "_law_same" (top 18))
    (D__law_stream : FactD K "_law_stream" (top 19))
    (D__law_next : FactD K "_law_next" (top 20))
    (D__law_letters : FactD K "_law_letters" (top 21))
    (D__law_machine : FactD K "_law_machine" (top 22))
    (D__law_log : FactD K "_law_log" (top 23))
    (D__law_ratio : FactD K "_law_ratio" (top 24))
    (D__law_sum : FactD K "_law_sum" (top 25))
    (D__law_below : FactD K "_law_below" (top 26))
    (D__law_first_logs : FactD K "_law_first_logs" (top 27))
    (D__law_alive : FactD K "_law_alive" (top 28))
    (D__law_useful : FactD K "_law_useful" (top 29))
    (D__law_steps : FactD K "_law_steps" (top 30))
    (D__law_ends : FactD K "_law_ends" (top 31))
    (D__law_number : FactD K "_law_number" (top 32))
    (D__law_drawn_ratio : FactD K "_law_drawn_ratio" (top 33))
    (D_law : FactD K "law" (top 34))
    (z_abs : PySem.W.nsIn K mainGlobals "abs" = some none)
    (z_any : PySem.W.nsIn K mainGlobals "any" = some none)
    (z_enumerate : PySem.W.nsIn K mainGlobals "enumerate" = some none)
    (z_int : PySem.W.nsIn K mainGlobals "int" = some none)
    (z_len : PySem.W.nsIn K mainGlobals "len" = some none)
    (z_max : PySem.W.nsIn K mainGlobals "max" = some none)
    (z_min : PySem.W.nsIn K mainGlobals "min" = some none)
    (z_range : PySem.W.nsIn K mainGlobals "range" = some none)
    (z_repr : PySem.W.nsIn K mainGlobals "repr" = some none)
    (z_sorted : PySem.W.nsIn K mainGlobals "sorted" = some none)
    (z_tuple : PySem.W.nsIn K mainGlobals "tuple" = some none)
    (z_zip : PySem.W.nsIn K mainGlobals "zip" = some none)
    (g_ZERO : GlobF K "ZERO" k_ZERO)
    : ∃ fd : FuncData, (∀ (s : Shared) (u : Value), BindsTo s fd ⟨[u], []⟩ [("script", u)]) ∧ ∀ base : Heap, K.In base → base.Ns mainGlobals mg → FnG P w K mg base 6 fa fd ["script"] (spM K noXR v_law) := by
  have T : Txt mg := ⟨PySem.W.mg_none_of KX G z_abs, PySem.W.mg_none_of KX G z_any, PySem.W.mg_none_of KX G z_enumerate, PySem.W.mg_none_of KX G z_int, PySem.W.mg_none_of KX G z_len, PySem.W.mg_none_of KX G z_max, PySem.W.mg_none_of KX G z_min, PySem.W.mg_none_of KX G z_range, PySem.W.mg_none_of KX G z_repr, PySem.W.mg_none_of KX G z_sorted, PySem.W.mg_none_of KX G z_tuple, PySem.W.mg_none_of KX G z_zip⟩
  have c_ZERO := g_ZERO.get KX G
  obtain ⟨f_common_part, fd_common_part, m_common_part, F_common_part, B_common_part⟩ := D_common_part.get KX G (ps := ["one", "other"]) (fun _ _ _ _ _ _ us hl => match us, hl with | [_, _], _ => rfl)
  obtain ⟨f_ratio, fd_ratio, m_ratio, F_ratio, B_ratio⟩ := D_ratio.get KX G (ps := ["top", "bottom"]) (fun _ _ _ _ _ _ us hl => match us, hl with | [_, _], _ => rfl)
  obtain ⟨f_is_ratio, fd_is_ratio, m_is_ratio, F_is_ratio, B_is_ratio⟩ := D_is_ratio.get KX G (ps := ["pair"]) (fun _ _ _ _ _ _ us hl => match us, hl with | [_], _ => rfl)
  obtain ⟨f_plus, fd_plus, m_plus, F_plus, B_plus⟩ := D_plus.get KX G (ps := ["one", "other"]) (fun _ _ _ _ _ _ us hl => match us, hl with | [_, _], _ => rfl)
  obtain ⟨f_times, fd_times, m_times, F_times, B_times⟩ := D_times.get KX G (ps := ["one", "other"]) (fun _ _ _ _ _ _ us hl => match us, hl with | [_, _], _ => rfl)
  obtain ⟨f_is_less, fd_is_less, m_is_less, F_is_less, B_is_less⟩ := D_is_less.get KX G (ps := ["one", "other"]) (fun _ _ _ _ _ _ us hl => match us, hl with | [_, _], _ => rfl)
  obtain ⟨f_first_logs, fd_first_logs, m_first_logs, F_first_logs, B_first_logs⟩ := D_first_logs.get KX G (ps := ["machine"]) (fun _ _ _ _ _ _ us hl => match us, hl with | [_], _ => rfl)
  obtain ⟨f_reached, fd_reached, m_reached, F_reached, B_reached⟩ := D_reached.get KX G (ps := ["machine"]) (fun _ _ _ _ _ _ us hl => match us, hl with | [_], _ => rfl)
  obtain ⟨f_alive, fd_alive, m_alive, F_alive, B_alive⟩ := D_alive.get KX G (ps := ["machine"]) (fun _ _ _ _ _ _ us hl => match us, hl with | [_], _ => rfl)
  obtain ⟨f_useful, fd_useful, m_useful, F_useful, B_useful⟩ := D_useful.get KX G (ps := ["machine"]) (fun _ _ _ _ _ _ us hl => match us, hl with | [_], _ => rfl)
  obtain ⟨f_steps_of, fd_steps_of, m_steps_of, F_steps_of, B_steps_of⟩ := D_steps_of.get KX G (ps := ["machine"]) (fun _ _ _ _ _ _ us hl => match us, hl with | [_], _ => rfl)
  obtain ⟨f_ends_of, fd_ends_of, m_ends_of, F_ends_of, B_ends_of⟩ := D_ends_of.get KX G (ps := ["machine"]) (fun _ _ _ _ _ _ us hl => match us, hl with | [_], _ => rfl)
  obtain ⟨f_weight_of, fd_weight_of, m_weight_of, F_weight_of, B_weight_of⟩ := D_weight_of.get KX G (ps := ["letters", "weights", "log"]) (fun _ _ _ _ _ _ us hl => match us, hl with | [_, _, _], _ => rfl)
  obtain ⟨f__law_same, fd__law_same, m__law_same, F__law_same, B__law_same⟩ := D__law_same.get KX G (ps := ["told", "due"]) (fun _ _ _ _ _ _ us hl => match us, hl with | [_, _], _ => rfl)
  obtain ⟨f__law_stream, fd__law_stream, m__law_stream, F__law_stream, B__law_stream⟩ := D__law_stream.get KX G (ps := ["script"]) (fun _ _ _ _ _ _ us hl => match us, hl with | [_], _ => rfl)
  obtain ⟨f__law_next, fd__law_next, m__law_next, F__law_next, B__law_next⟩ := D__law_next.get KX G (ps := ["state", "many"]) (fun _ _ _ _ _ _ us hl => match us, hl with | [_, _], _ => rfl)
  obtain ⟨f__law_letters, fd__law_letters, m__law_letters, F__law_letters, B__law_letters⟩ := D__law_letters.get KX G (ps := ["state"]) (fun _ _ _ _ _ _ us hl => match us, hl with | [_], _ => rfl)
  obtain ⟨f__law_machine, fd__law_machine, m__law_machine, F__law_machine, B__law_machine⟩ := D__law_machine.get KX G (ps := ["state", "letters", "most"]) (fun _ _ _ _ _ _ us hl => match us, hl with | [_, _, _], _ => rfl)
  obtain ⟨f__law_log, fd__law_log, m__law_log, F__law_log, B__law_log⟩ := D__law_log.get KX G (ps := ["state", "letters", "many"]) (fun _ _ _ _ _ _ us hl => match us, hl with | [_, _, _], _ => rfl)
  obtain ⟨f__law_ratio, fd__law_ratio, m__law_ratio, F__law_ratio, B__law_ratio⟩ := D__law_ratio.get KX G (ps := ["top", "bottom"]) (fun _ _ _ _ _ _ us hl => match us, hl with | [_, _], _ => rfl)
  obtain ⟨f__law_sum, fd__law_sum, m__law_sum, F__law_sum, B__law_sum⟩ := D__law_sum.get KX G (ps := ["rows"]) (fun _ _ _ _ _ _ us hl => match us, hl with | [_], _ => rfl)
  obtain ⟨f__law_below, fd__law_below, m__law_below, F__law_below, B__law_below⟩ := D__law_below.get KX G (ps := ["one", "other"]) (fun _ _ _ _ _ _ us hl => match us, hl with | [_, _], _ => rfl)
  obtain ⟨f__law_first_logs, fd__law_first_logs, m__law_first_logs, F__law_first_logs, B__law_first_logs⟩ := D__law_first_logs.get KX G (ps := ["machine"]) (fun _ _ _ _ _ _ us hl => match us, hl with | [_], _ => rfl)
  obtain ⟨f__law_alive, fd__law_alive, m__law_alive, F__law_alive, B__law_alive⟩ := D__law_alive.get KX G (ps := ["machine"]) (fun _ _ _ _ _ _ us hl => match us, hl with | [_], _ => rfl)
  obtain ⟨f__law_useful, fd__law_useful, m__law_useful, F__law_useful, B__law_useful⟩ := D__law_useful.get KX G (ps := ["machine"]) (fun _ _ _ _ _ _ us hl => match us, hl with | [_], _ => rfl)
  obtain ⟨f__law_steps, fd__law_steps, m__law_steps, F__law_steps, B__law_steps⟩ := D__law_steps.get KX G (ps := ["machine"]) (fun _ _ _ _ _ _ us hl => match us, hl with | [_], _ => rfl)
  obtain ⟨f__law_ends, fd__law_ends, m__law_ends, F__law_ends, B__law_ends⟩ := D__law_ends.get KX G (ps := ["machine"]) (fun _ _ _ _ _ _ us hl => match us, hl with | [_], _ => rfl)
  obtain ⟨f__law_number, fd__law_number, m__law_number, F__law_number, B__law_number⟩ := D__law_number.get KX G (ps := ["state"]) (fun _ _ _ _ _ _ us hl => match us, hl with | [_], _ => rfl)
  obtain ⟨f__law_drawn_ratio, fd__law_drawn_ratio, m__law_drawn_ratio, F__law_drawn_ratio, B__law_drawn_ratio⟩ := D__law_drawn_ratio.get KX G (ps := ["state"]) (fun _ _ _ _ _ _ us hl => match us, hl with | [_], _ => rfl)
  obtain ⟨f_law, fd_law, m_law, F_law, B_law⟩ := D_law.get KX G (ps := ["script"]) (fun _ _ _ _ _ _ us hl => match us, hl with | [_], _ => rfl)
  cases hfa.symm.trans m_law
  obtain ⟨oc, od, kV, doc, pm, an, cdv, ct, osl, efd, lk, hcd⟩ := id F_law.ex
  refine ⟨fd_law, fun s u => by rw [efd]; exact .of_eq rfl, fun base _ _ => ?_⟩
  have d_common_part : DefOk P w K mg base "common_part" 2 (spM K noXR v_common_part) := DefOk.clean (w_common_part (P := P) (w := w) (base := base) (XR := noXR) m_common_part F_common_part B_common_part T )
  have d_ratio : DefOk P w K mg base "ratio" 3 (spM K noXR v_ratio) := DefOk.clean (w_ratio (P := P) (w := w) (base := base) (XR := noXR) m_ratio F_ratio B_ratio T d_common_part)
  have d_is_ratio : DefOk P w K mg base "is_ratio" 4 (spM K noXR v_is_ratio) := DefOk.clean (w_is_ratio (P := P) (w := w) (base := base) (XR := noXR) m_is_ratio F_is_ratio B_is_ratio T d_ratio)
  have d_plus : DefOk P w K mg base "plus" 4 (spM K noXR v_plus) := DefOk.clean (w_plus (P := P) (w := w) (base := base) (XR := noXR) m_plus F_plus B_plus T d_ratio)
  have d_times : DefOk P w K mg base "times" 4 (spM K noXR v_times) := DefOk.clean (w_times (P := P) (w := w) (base := base) (XR := noXR) m_times F_times B_times T d_ratio)
  have d_is_less : DefOk P w K mg base "is_less" 2 (spM K noXR v_is_less) := DefOk.clean (w_is_less (P := P) (w := w) (base := base) (XR := noXR) m_is_less F_is_less B_is_less T )
  have d_first_logs : DefOk P w K mg base "first_logs" 2 (spM K noXR v_first_logs) := (w_first_logs (P := P) (w := w) (base := base) (XR := noXR) m_first_logs F_first_logs B_first_logs T )
  have d_reached : DefOk P w K mg base "reached" 3 (spM K noXR v_reached) := DefOk.clean (w_reached (P := P) (w := w) (base := base) (XR := noXR) m_reached F_reached B_reached T d_first_logs)
  have d_alive : DefOk P w K mg base "alive" 2 (spM K noXR v_alive) := DefOk.clean (w_alive (P := P) (w := w) (base := base) (XR := noXR) m_alive F_alive B_alive T )
  have d_useful : DefOk P w K mg base "useful" 4 (spM K noXR v_useful) := DefOk.clean (w_useful (P := P) (w := w) (base := base) (XR := noXR) m_useful F_useful B_useful T d_alive d_reached)
  have d_steps_of : DefOk P w K mg base "steps_of" 5 (spM K noXR v_steps_of) := (w_steps_of (P := P) (w := w) (base := base) (XR := noXR) m_steps_of F_steps_of B_steps_of T d_useful)
  have d_ends_of : DefOk P w K mg base "ends_of" 5 (spM K noXR v_ends_of) := (w_ends_of (P := P) (w := w) (base := base) (XR := noXR) m_ends_of F_ends_of B_ends_of T d_useful)
  have d_weight_of : DefOk P w K mg base "weight_of" 5 (spM K noXR v_weight_of) := DefOk.clean (w_weight_of (P := P) (w := w) (base := base) (XR := noXR) m_weight_of F_weight_of B_weight_of T d_plus c_ZERO)
  have d__law_same : DefOk P w K mg base "_law_same" 2 (spM K noXR v__law_same) := DefOk.clean (w__law_same (P := P) (w := w) (base := base) (XR := noXR) m__law_same F__law_same B__law_same T )
  have d__law_stream : DefOk P w K mg base "_law_stream" 2 (spM K noXR v__law_stream) := DefOk.clean (w__law_stream (P := P) (w := w) (base := base) (XR := noXR) m__law_stream F__law_stream B__law_stream T )
  have d__law_next : DefOk P w K mg base "_law_next" 2 (spM K noXR v__law_next) := DefOk.clean (w__law_next (P := P) (w := w) (base := base) (XR := noXR) m__law_next F__law_next B__law_next T )
  have d__law_letters : DefOk P w K mg base "_law_letters" 3 (spM K noXR v__law_letters) := DefOk.clean (w__law_letters (P := P) (w := w) (base := base) (XR := noXR) m__law_letters F__law_letters B__law_letters T d__law_next)
  have d__law_machine : DefOk P w K mg base "_law_machine" 3 (spM K noXR v__law_machine) := DefOk.clean (w__law_machine (P := P) (w := w) (base := base) (XR := noXR) m__law_machine F__law_machine B__law_machine T d__law_next)
  have d__law_log : DefOk P w K mg base "_law_log" 3 (spM K noXR v__law_log) := DefOk.clean (w__law_log (P := P) (w := w) (base := base) (XR := noXR) m__law_log F__law_log B__law_log T d__law_next)
  have d__law_ratio : DefOk P w K mg base "_law_ratio" 2 (spM K noXR v__law_ratio) := DefOk.clean (w__law_ratio (P := P) (w := w) (base := base) (XR := noXR) m__law_ratio F__law_ratio B__law_ratio T )
  have d__law_sum : DefOk P w K mg base "_law_sum" 3 (spM K noXR v__law_sum) := DefOk.clean (w__law_sum (P := P) (w := w) (base := base) (XR := noXR) m__law_sum F__law_sum B__law_sum T d__law_ratio)
  have d__law_below : DefOk P w K mg base "_law_below" 2 (spM K noXR v__law_below) := DefOk.clean (w__law_below (P := P) (w := w) (base := base) (XR := noXR) m__law_below F__law_below B__law_below T )
  have d__law_first_logs : DefOk P w K mg base "_law_first_logs" 2 (spM K noXR v__law_first_logs) := (w__law_first_logs (P := P) (w := w) (base := base) (XR := noXR) m__law_first_logs F__law_first_logs B__law_first_logs T )
  have d__law_alive : DefOk P w K mg base "_law_alive" 2 (spM K noXR v__law_alive) := DefOk.clean (w__law_alive (P := P) (w := w) (base := base) (XR := noXR) m__law_alive F__law_alive B__law_alive T )
  have d__law_useful : DefOk P w K mg base "_law_useful" 3 (spM K noXR v__law_useful) := DefOk.clean (w__law_useful (P := P) (w := w) (base := base) (XR := noXR) m__law_useful F__law_useful B__law_useful T d__law_first_logs d__law_alive)
  have d__law_steps : DefOk P w K mg base "_law_steps" 4 (spM K noXR v__law_steps) := DefOk.clean (w__law_steps (P := P) (w := w) (base := base) (XR := noXR) m__law_steps F__law_steps B__law_steps T d__law_useful)
  have d__law_ends : DefOk P w K mg base "_law_ends" 4 (spM K noXR v__law_ends) := DefOk.clean (w__law_ends (P := P) (w := w) (base := base) (XR := noXR) m__law_ends F__law_ends B__law_ends T d__law_useful)
  have d__law_number : DefOk P w K mg base "_law_number" 3 (spM K noXR v__law_number) := DefOk.clean (w__law_number (P := P) (w := w) (base := base) (XR := noXR) m__law_number F__law_number B__law_number T d__law_next)
  have d__law_drawn_ratio : DefOk P w K mg base "_law_drawn_ratio" 4 (spM K noXR v__law_drawn_ratio) := DefOk.clean (w__law_drawn_ratio (P := P) (w := w) (base := base) (XR := noXR) m__law_drawn_ratio F__law_drawn_ratio B__law_drawn_ratio T d__law_number d__law_ratio)
  exact wf_law (P := P) (w := w) (base := base) (XR := noXR) F_law T d__law_stream d__law_number d__law_same d__law_ratio d_ratio d__law_next d_is_ratio d__law_drawn_ratio d__law_below d__law_sum d_is_less d_times d_plus d__law_letters d__law_machine d_ends_of d_steps_of d__law_ends d__law_steps d__law_log d_weight_of
end K30
open PySem PySem.W PyProof.Rows in
set_option maxRecDepth 100000 in
set_option maxHeartbeats 0 in
theorem PySem.Challenge.cw_tellapart_k30_ratios_and_weights_holds : PySem.Challenge.rw_tellapart_k30_ratios_and_weights.Holds := by
  w_on; o_law; k_head; (case hw => w_witness2)
  k_fill
  refine Mini.walkG (l := PySem.Challenge.rw_tellapart_k30_ratios_and_weights) (n := 63) (k := 6) (x := "script") (f := K30.v_law) (XR := fun _ _ => Mini.noXR) rfl (by decide) rfl ⟨rfl, by decide, by decide⟩ (fun w h Y => PySem.W.kIn_of Y) ?F K30.value
  case F =>
    intro w mg fa h KX G hmg
    refine' K30.F_all KX G hmg ?D_common_part ?D_ratio ?D_is_ratio ?D_plus ?D_times ?D_is_less ?D_first_logs ?D_reached ?D_alive ?D_useful ?D_steps_of ?D_ends_of ?D_weight_of ?D__law_same ?D__law_stream ?D__law_next ?D__law_letters ?D__law_machine ?D__law_log ?D__law_ratio ?D__law_sum ?D__law_below ?D__law_first_logs ?D__law_alive ?D__law_useful ?D__law_steps ?D__law_ends ?D__law_number ?D__law_drawn_ratio ?D_law ?z_abs ?z_any ?z_enumerate ?z_int ?z_len ?z_max ?z_min ?z_range ?z_repr ?z_sorted ?z_tuple ?z_zip ?g_ZERO
    (case D_common_part => refine' Mini.FactD.of ?a ?l ?c ?k; (case a => k_is); (case l => k_is); (case c => k_is); (case k => k_is))
    (case D_ratio => refine' Mini.FactD.of ?a ?l ?c ?k; (case a => k_is); (case l => k_is); (case c => k_is); (case k => k_is))
    (case D_is_ratio => refine' Mini.FactD.of ?a ?l ?c ?k; (case a => k_is); (case l => k_is); (case c => k_is); (case k => k_is))
    (case D_plus => refine' Mini.FactD.of ?a ?l ?c ?k; (case a => k_is); (case l => k_is); (case c => k_is); (case k => k_is))
    (case D_times => refine' Mini.FactD.of ?a ?l ?c ?k; (case a => k_is); (case l => k_is); (case c => k_is); (case k => k_is))
    (case D_is_less => refine' Mini.FactD.of ?a ?l ?c ?k; (case a => k_is); (case l => k_is); (case c => k_is); (case k => k_is))
    (case D_first_logs => refine' Mini.FactD.of ?a ?l ?c ?k; (case a => k_is); (case l => k_is); (case c => k_is); (case k => k_is))
    (case D_reached => refine' Mini.FactD.of ?a ?l ?c ?k; (case a => k_is); (case l => k_is); (case c => k_is); (case k => k_is))
    (case D_alive => refine' Mini.FactD.of ?a ?l ?c ?k; (case a => k_is); (case l => k_is); (case c => k_is); (case k => k_is))
    (case D_useful => refine' Mini.FactD.of ?a ?l ?c ?k; (case a => k_is); (case l => k_is); (case c => k_is); (case k => k_is))
    (case D_steps_of => refine' Mini.FactD.of ?a ?l ?c ?k; (case a => k_is); (case l => k_is); (case c => k_is); (case k => k_is))
    (case D_ends_of => refine' Mini.FactD.of ?a ?l ?c ?k; (case a => k_is); (case l => k_is); (case c => k_is); (case k => k_is))
    (case D_weight_of => refine' Mini.FactD.of ?a ?l ?c ?k; (case a => k_is); (case l => k_is); (case c => k_is); (case k => k_is))
    (case D__law_same => refine' Mini.FactD.of ?a ?l ?c ?k; (case a => k_is); (case l => k_is); (case c => k_is); (case k => k_is))
    (case D__law_stream => refine' Mini.FactD.of ?a ?l ?c ?k; (case a => k_is); (case l => k_is); (case c => k_is); (case k => k_is))
    (case D__law_next => refine' Mini.FactD.of ?a ?l ?c ?k; (case a => k_is); (case l => k_is); (case c => k_is); (case k => k_is))
    (case D__law_letters => refine' Mini.FactD.of ?a ?l ?c ?k; (case a => k_is); (case l => k_is); (case c => k_is); (case k => k_is))
    (case D__law_machine => refine' Mini.FactD.of ?a ?l ?c ?k; (case a => k_is); (case l => k_is); (case c => k_is); (case k => k_is))
    (case D__law_log => refine' Mini.FactD.of ?a ?l ?c ?k; (case a => k_is); (case l => k_is); (case c => k_is); (case k => k_is))
    (case D__law_ratio => refine' Mini.FactD.of ?a ?l ?c ?k; (case a => k_is); (case l => k_is); (case c => k_is); (case k => k_is))
    (case D__law_sum => refine' Mini.FactD.of ?a ?l ?c ?k; (case a => k_is); (case l => k_is); (case c => k_is); (case k => k_is))
    (case D__law_below => refine' Mini.FactD.of ?a ?l ?c ?k; (case a => k_is); (case l => k_is); (case c => k_is); (case k => k_is))
    (case D__law_first_logs => refine' Mini.FactD.of ?a ?l ?c ?k; (case a => k_is); (case l => k_is); (case c => k_is); (case k => k_is))
    (case D__law_alive => refine' Mini.FactD.of ?a ?l ?c ?k; (case a => k_is); (case l => k_is); (case c => k_is); (case k => k_is))
    (case D__law_useful => refine' Mini.FactD.of ?a ?l ?c ?k; (case a => k_is); (case l => k_is); (case c => k_is); (case k => k_is))
    (case D__law_steps => refine' Mini.FactD.of ?a ?l ?c ?k; (case a => k_is); (case l => k_is); (case c => k_is); (case k => k_is))
    (case D__law_ends => refine' Mini.FactD.of ?a ?l ?c ?k; (case a => k_is); (case l => k_is); (case c => k_is); (case k => k_is))
    (case D__law_number => refine' Mini.FactD.of ?a ?l ?c ?k; (case a => k_is); (case l => k_is); (case c => k_is); (case k => k_is))
    (case D__law_drawn_ratio => refine' Mini.FactD.of ?a ?l ?c ?k; (case a => k_is); (case l => k_is); (case c => k_is); (case k => k_is))
    (case D_law => refine' Mini.FactD.of ?a ?l ?c ?k; (case a => k_is); (case l => k_is); (case c => k_is); (case k => k_is))
    (case z_abs => k_is)
    (case z_any => k_is)
    (case z_enumerate => k_is)
    (case z_int => k_is)
    (case z_len => k_is)
    (case z_max => k_is)
    (case z_min => k_is)
    (case z_range => k_is)
    (case z_repr => k_is)
    (case z_sorted => k_is)
    (case z_tuple => k_is)
    (case z_zip => k_is)
    (case g_ZERO => refine' K30.glob_ZERO ?a ?l; (case a => k_is); (case l => k_is))


