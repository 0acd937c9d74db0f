import PyProof.Rows.All
import Wide.All
import OpenK.AllK
import Wide.FinOn
import HandS.ForMost
import HandS.ForExc
import HandS.CallSlots
import HandS.Ends
import HandS.ExcCtx
import HandS.HotCalls
import HandS.ExcIs
import HandS.Wide
import HandS.TupAny
import HandS.Zip
import HandS.More
import HandS.DictComp
import HandS.Small
import HandS.Strs
import KE.GoesEnum
import HandS.Deep
import HandS.Star
import PyProof.FitsInt
import PyProof.StrLawsRepr
import PyProof.ReprLoop
import KE.GoesComp
import HandS.TupMul
import HandS.SetFor
import HandS.Style
import PyProof.SeqIndex
import PyProof.P3Eq
import KE.SortData
import HandS.ExcInit
import HandS.ExcField
import HandS.FStr
import KE.KExcSuper
import HandS.TryOnly
import HandS.ExcInitHot
import HandS.SetTxt0
import HandS.Text
import PyProof.StrLawsTight
import PyProof.StrLawsChain
import PyProof.Rows.StrSplitJoin
import PySem.Challenge.RW_tellapart_k03_texts_of_machines
set_option Elab.async false
set_option linter.all false
set_option maxRecDepth 100000
set_option maxHeartbeats 4000000
/-! M1: a small pure calculus over the hand layer: values, relation, expressions. -/
namespace Mini
open PySem L2

/-- a value of the calculus: tuples and frozen lists are data, changing objects are places -/
inductive PV where
  | non | bl (b : Bool) | int (i : Int) | str (x : Str) | op (v : V)
  | ref (n : Nat)
  | tup (xs : List PV)
  | frl (xs : List PV)
  | scr (xs : List PV)
  | ctp (xs : List PV)
  | frd (t : Bool) (ks : List (List Key)) (xs : List PV)
  deriving Inhabited
/-- an object that may change: a list, a dict with keys that are ints or texts, one with tuples of such -/
inductive MO where
  | lst (xs : List PV)
  | dK (kvs : List (Key × PV))
  | dT (kvs : List (List Key × PV))
  deriving Inhabited
abbrev MH := List MO
inductive R (α : Type) where
  | ok (a : α) (μ : MH)
  | err (c : Str) (p : List PV) (μ : MH)
  | bad
abbrev MS := List (Option PV)
/-- the written part, and addresses that are being written now -/
structure Gx where
  fr : PySem.W.Frag
  av : List Addr

section
variable (K : Gx)
def SqLf (H : Hp) (β : List Addr) (a : Addr) (vs : List V) : Prop :=
  (Rd H a (.lst vs) ∧ a ∉ β ∧ a ∉ K.av) ∨ ∃ (o : Obj) (its : Array Value) (n : Nat), K.fr.lookup a = some o ∧ o.cls = .type "list" ∧ o.dict = none ∧ o.data = .seq its n ∧ its.size ≤ sizeLine ∧ Vals vs its.toList
def SqTf (H : Hp) (β : List Addr) (a : Addr) (vs : List V) : Prop :=
  H a = some (.tup vs) ∧ a ∉ β ∧ a ∉ K.av
/-- a tuple of the module's own -/
def CT (H : Hp) (β : List Addr) (a : Addr) (vs : List V) : Prop := ((∃ o : Obj, H a = some (.frz o (.tup vs)) ∧ o.cls = .type "tuple" ∧ o.dict = none) ∧ a ∉ β ∧ a ∉ K.av) ∨
  ∃ (o : Obj) (its : Array Value) (n : Nat), K.fr.lookup a = some o ∧ o.cls = .type "tuple" ∧ o.dict = none ∧ o.data = .seq its n ∧ its.size ≤ sizeLine ∧ Vals vs its.toList
variable {K}
theorem SqLf.sq {H : Hp} {β : List Addr} {a : Addr} {vs : List V} (h : SqLf K H β a vs) : SqL K.fr H a vs := by
  rcases h with ⟨h, _⟩ | h
  · exact .inl h
  · exact .inr h
theorem SqTf.sq {H : Hp} {β : List Addr} {a : Addr} {vs : List V} (h : SqTf K H β a vs) : SqT K.fr H a vs := .inl (.inl h.1)
theorem CT.sq {H : Hp} {β : List Addr} {a : Addr} {vs : List V} (h : CT K H β a vs) : SqT K.fr H a vs := by
  rcases h with ⟨⟨o, h, _⟩, _⟩ | ⟨o, its, n, h1, h2, h3, h4, h5, h6⟩
  · exact .inl (.inr ⟨o, h⟩)
  · exact .inr ⟨o, its, n, h1, h2, h4, h5, h6⟩
/-- a dict that is only read any more: its keys (one each: t = false, tuples of such: t = true), its values -/
def FrD (H : Hp) (a : Addr) (t : Bool) (ks : List (List Key)) (vs : List V) : Prop := ∃ o : Obj, match t with
  | false => ∃ kvs : List (Key × V), H a = some (.frz o (.dK kvs)) ∧ ks = kvs.map (fun p => [p.1]) ∧ vs = kvs.map (·.2)
  | true => ∃ kvs : List (List Key × V), H a = some (.frz o (.dT kvs)) ∧ ks = kvs.map (·.1) ∧ vs = kvs.map (·.2)
theorem FrD.nn {H : Hp} {a : Addr} {t : Bool} {ks : List (List Key)} {vs : List V} (h : FrD H a t ks vs) : H a ≠ none := by
  obtain ⟨o, h⟩ := h
  cases t
  · obtain ⟨kvs, e, _⟩ := h; rw [e]; exact fun q => nomatch q
  · obtain ⟨kvs, e, _⟩ := h; rw [e]; exact fun q => nomatch q
theorem FrD.same {H H' : Hp} {a : Addr} {t : Bool} {ks : List (List Key)} {vs : List V} (h : FrD H a t ks vs) (e : ∀ o, H a = some o → H' a = some o) : FrD H' a t ks vs := by
  obtain ⟨o, h⟩ := h
  refine ⟨o, ?_⟩
  cases t
  · obtain ⟨kvs, q, r⟩ := h; exact ⟨kvs, e _ q, r⟩
  · obtain ⟨kvs, q, r⟩ := h; exact ⟨kvs, e _ q, r⟩
variable (K)
mutual
def PRel (H : Hp) (β : List Addr) : PV → V → Prop
  | .non, x => x = .non
  | .bl b, x => x = .bl b
  | .int i, x => x = .int i
  | .str s, x => x = .str s
  | .op v, x => x = v
  | .ref n, x => ∃ a, x = .ref a ∧ β[n]? = some a
  | .tup xs, x => ∃ a vs, x = .ref a ∧ SqTf K H β a vs ∧ PRels H β xs vs
  | .frl xs, x => ∃ a vs, x = .ref a ∧ (H a = some (.lst vs) ∧ a ∉ β ∧ a ∉ K.av) ∧ PRels H β xs vs
  | .scr xs, x => ∃ a vs, x = .ref a ∧ SqLf K H β a vs ∧ PRels H β xs vs
  | .ctp xs, x => ∃ a vs, x = .ref a ∧ CT K H β a vs ∧ PRels H β xs vs
  | .frd t ks xs, x => ∃ a vs, x = .ref a ∧ (FrD H a t ks vs ∧ a ∉ β ∧ a ∉ K.av) ∧ PRels H β xs vs
def PRels (H : Hp) (β : List Addr) : List PV → List V → Prop
  | [], ys => ys = []
  | x :: xs, ys => ∃ y ys', ys = y :: ys' ∧ PRel H β x y ∧ PRels H β xs ys'
end
/-- the entries of a dict -/
def DRel {κ : Type} (H : Hp) (β : List Addr) : List (κ × PV) → List (κ × V) → Prop := fun kvs kvs' => kvs.map (·.1) = kvs'.map (·.1) ∧ PRels K H β (kvs.map (·.2)) (kvs'.map (·.2))
def ORel (H : Hp) (β : List Addr) (a : Addr) : MO → Prop
  | .lst xs => ∃ vs, H a = some (.lst vs) ∧ PRels K H β xs vs
  | .dK kvs => ∃ kvs', H a = some (.dK kvs') ∧ DRel K H β kvs kvs'
  | .dT kvs => ∃ kvs', H a = some (.dT kvs') ∧ DRel K H β kvs kvs'
structure Rl (H : Hp) (β : List Addr) (μ : MH) : Prop where
  len : β.length = μ.length
  nd : β.Nodup
  obj : ∀ (n : Nat) (a : Addr) (o : MO), β[n]? = some a → μ[n]? = some o → ORel K H β a o
  avt : ∀ a ∈ K.av, H a ≠ none
structure Ext (H : Hp) (β : List Addr) (H' : Hp) (β' : List Addr) : Prop where
  pre : ∃ new, β' = β ++ new ∧ ∀ a ∈ new, H a = none
  stay : ∀ a o, H a = some o → a ∉ β → H' a = some o
  live : ∀ a, H' a = none → H a = none
/-- .. where the addresses av may have been written -/
structure ExtW (av : List Addr) (H : Hp) (β : List Addr) (H' : Hp) (β' : List Addr) : Prop where
  pre : ∃ new, β' = β ++ new ∧ ∀ a ∈ new, H a = none
  stay : ∀ a o, H a = some o → a ∉ β → a ∉ av → H' a = some o
  live : ∀ a, H' a = none → H a = none
/-- the names' values -/
structure SRel (H : Hp) (β : List Addr) (s : MS) (σ : St) : Prop where
  len : s.length = σ.length
  at_ : ∀ (i : Nat) (v : PV), s[i]? = some (some v) → ∃ x, σ[i]? = some (some x) ∧ PRel K H β v x
end

section
variable {K : Gx} {H H1 H2 H' : Hp} {β β1 β2 β' : List Addr} {μ μ' : MH}
theorem Ext.refl : Ext H β H β := ⟨⟨[], by simp, by simp⟩, fun _ _ h _ => h, fun _ h => h⟩
theorem Ext.trans (a : Ext H β H1 β1) (b : Ext H1 β1 H2 β2) : Ext H β H2 β2 := by
  obtain ⟨n1, e1, f1⟩ := a.pre
  obtain ⟨n2, e2, f2⟩ := b.pre
  refine ⟨⟨n1 ++ n2, by rw [e2, e1, List.append_assoc], fun x hx => ?_⟩, fun x o h hn => ?_, fun x h => a.live x (b.live x h)⟩
  · rcases List.mem_append.mp hx with h | h
    · exact f1 x h
    · exact a.live x (f2 x h)
  · refine b.stay x o (a.stay x o h hn) ?_
    rw [e1]
    intro hm
    rcases List.mem_append.mp hm with q | q
    · exact hn q
    · rw [f1 x q] at h; cases h
theorem Ext.toW {av : List Addr} (e : Ext H β H' β') : ExtW av H β H' β' := ⟨e.pre, fun a o h1 h2 _ => e.stay a o h1 h2, e.live⟩
theorem ExtW.refl {av : List Addr} : ExtW av H β H β := Ext.refl.toW
theorem ExtW.mem {av : List Addr} (e : ExtW av H β H' β') {a : Addr} (h : H a ≠ none) (hn : a ∉ β) : a ∉ β' := by
  obtain ⟨n, e1, f⟩ := e.pre
  rw [e1]
  intro hm
  rcases List.mem_append.mp hm with q | q
  · exact hn q
  · exact h (f a q)
theorem ExtW.trans {av : List Addr} (a : ExtW av H β H1 β1) (b : ExtW av H1 β1 H2 β2) : ExtW av H β H2 β2 := by
  obtain ⟨n1, e1, f1⟩ := a.pre
  obtain ⟨n2, e2, f2⟩ := b.pre
  refine ⟨⟨n1 ++ n2, by rw [e2, e1, List.append_assoc], fun x hx => ?_⟩, fun x o h hn hv => ?_, fun x h => a.live x (b.live x h)⟩
  · rcases List.mem_append.mp hx with h | h
    · exact f1 x h
    · exact a.live x (f2 x h)
  · exact b.stay x o (a.stay x o h hn hv) (a.mem (by rw [h]; exact fun q => nomatch q) hn) hv
theorem ExtW.ix {av : List Addr} (e : ExtW av H β H' β') {n : Nat} {a : Addr} (h : β[n]? = some a) : β'[n]? = some a := by
  obtain ⟨nw, e1, _⟩ := e.pre
  obtain ⟨hl, _⟩ := List.getElem?_eq_some_iff.mp h
  rw [e1, List.getElem?_append_left hl]
  exact h
theorem Ext.mem (e : Ext H β H' β') {a : Addr} (h : H a ≠ none) (hn : a ∉ β) : a ∉ β' := by
  obtain ⟨n, e1, f⟩ := e.pre
  rw [e1]
  intro hm
  rcases List.mem_append.mp hm with q | q
  · exact hn q
  · exact h (f a q)
theorem Ext.ix (e : Ext H β H' β') {n : Nat} {a : Addr} (h : β[n]? = some a) : β'[n]? = some a := by
  obtain ⟨nw, e1, _⟩ := e.pre
  obtain ⟨hl, _⟩ := List.getElem?_eq_some_iff.mp h
  rw [e1, List.getElem?_append_left hl]
  exact h
theorem Rd.some {a : Addr} {u : HO} (h : Rd H a u) : H a ≠ none := by
  rcases h with h | ⟨o, h⟩ <;> rw [h] <;> exact fun q => nomatch q
theorem Rd.extW {av : List Addr} (e : ExtW av H β H' β') {a : Addr} {u : HO} (h : Rd H a u) (hn : a ∉ β) (hv : a ∉ av) : Rd H' a u := by
  rcases h with h | ⟨o, h⟩
  · exact .inl (e.stay _ _ h hn hv)
  · exact .inr ⟨o, e.stay _ _ h hn hv⟩
theorem SqLf.extW (e : ExtW K.av H β H' β') {a : Addr} {vs : List V} (h : SqLf K H β a vs) : SqLf K H' β' a vs := by
  rcases h with ⟨h, n, na⟩ | h
  · exact .inl ⟨Rd.extW e h n na, e.mem (Rd.some h) n, na⟩
  · exact .inr h
theorem CT.extW (e : ExtW K.av H β H' β') {a : Addr} {vs : List V} (h : CT K H β a vs) : CT K H' β' a vs := by
  rcases h with ⟨⟨o, h, hc, hd⟩, n, na⟩ | h
  · exact .inl ⟨⟨o, e.stay _ _ h n na, hc, hd⟩, e.mem (by rw [h]; exact fun q => nomatch q) n, na⟩
  · exact .inr h
theorem SqTf.extW (e : ExtW K.av H β H' β') {a : Addr} {vs : List V} (h : SqTf K H β a vs) : SqTf K H' β' a vs := by
  obtain ⟨h, n, na⟩ := h
  exact ⟨e.stay _ _ h n na, e.mem (by rw [h]; exact fun q => nomatch q) n, na⟩
mutual
theorem PRel.extW (e : ExtW K.av H β H' β') : ∀ (v : PV) {x : V}, PRel K H β v x → PRel K H' β' v x
  | .non, x, h => by unfold PRel at h ⊢; exact h
  | .bl b, x, h => by unfold PRel at h ⊢; exact h
  | .int i, x, h => by unfold PRel at h ⊢; exact h
  | .str s, x, h => by unfold PRel at h ⊢; exact h
  | .op v, x, h => by unfold PRel at h ⊢; exact h
  | .ref n, x, h => by
    unfold PRel at h ⊢
    obtain ⟨a, e1, e2⟩ := h
    exact ⟨a, e1, e.ix e2⟩
  | .tup xs, x, h => by
    unfold PRel at h ⊢
    obtain ⟨a, vs, e1, h1, h2⟩ := h
    exact ⟨a, vs, e1, h1.extW e, PRels.extW e xs h2⟩
  | .frl xs, x, h => by
    unfold PRel at h ⊢
    obtain ⟨a, vs, e1, ⟨h1, hn, na⟩, h2⟩ := h
    exact ⟨a, vs, e1, ⟨e.stay _ _ h1 hn na, e.mem (by rw [h1]; exact fun q => nomatch q) hn, na⟩, PRels.extW e xs h2⟩
  | .scr xs, x, h => by
    unfold PRel at h ⊢
    obtain ⟨a, vs, e1, h1, h2⟩ := h
    exact ⟨a, vs, e1, h1.extW e, PRels.extW e xs h2⟩
  | .ctp xs, x, h => by
    unfold PRel at h ⊢
    obtain ⟨a, vs, e1, h1, h2⟩ := h
    exact ⟨a, vs, e1, h1.extW e, PRels.extW e xs h2⟩
  | .frd t ks xs, x, h => by
    unfold PRel at h ⊢
    obtain ⟨a, vs, e1, ⟨h1, hn, na⟩, h2⟩ := h
    exact ⟨a, vs, e1, ⟨h1.same fun o q => e.stay _ _ q hn na, e.mem h1.nn hn, na⟩, PRels.extW e xs h2⟩
theorem PRels.extW (e : ExtW K.av H β H' β') : ∀ (v : List PV) {x : List V}, PRels K H β v x → PRels K H' β' v x
  | [], x, h => by unfold PRels at h ⊢; exact h
  | v :: vs, x, h => by
    unfold PRels at h ⊢
    obtain ⟨y, ys, e1, h1, h2⟩ := h
    exact ⟨y, ys, e1, PRel.extW e v h1, PRels.extW e vs h2⟩
end
theorem SqLf.ext (e : Ext H β H' β') {a : Addr} {vs : List V} (h : SqLf K H β a vs) : SqLf K H' β' a vs := h.extW e.toW
theorem SqTf.ext (e : Ext H β H' β') {a : Addr} {vs : List V} (h : SqTf K H β a vs) : SqTf K H' β' a vs := h.extW e.toW
theorem PRel.ext (e : Ext H β H' β') (v : PV) {x : V} (h : PRel K H β v x) : PRel K H' β' v x := PRel.extW e.toW v h
theorem PRels.ext (e : Ext H β H' β') (v : List PV) {x : List V} (h : PRels K H β v x) : PRels K H' β' v x := PRels.extW e.toW v h
theorem SRel.ext (e : Ext H β H' β') {s : MS} {σ : St} (h : SRel K H β s σ) : SRel K H' β' s σ :=
  ⟨h.len, fun i v hv => let ⟨x, h1, h2⟩ := h.at_ i v hv; ⟨x, h1, PRel.ext e v h2⟩⟩

/-! ### lists of values -/
theorem PRels.nil_iff {ys : List V} : PRels K H β [] ys ↔ ys = [] := by unfold PRels; exact Iff.rfl
theorem PRels.nil : PRels K H β [] [] := by unfold PRels; rfl
theorem PRels.cons {x : PV} {xs : List PV} {y : V} {ys : List V} (h : PRel K H β x y) (t : PRels K H β xs ys) : PRels K H β (x :: xs) (y :: ys) := by
  unfold PRels; exact ⟨y, ys, rfl, h, t⟩
theorem PRels.inv {x : PV} {xs : List PV} {ys : List V} (h : PRels K H β (x :: xs) ys) : ∃ y ys', ys = y :: ys' ∧ PRel K H β x y ∧ PRels K H β xs ys' := by
  unfold PRels at h; exact h
theorem PRels.length : ∀ {xs : List PV} {ys : List V}, PRels K H β xs ys → xs.length = ys.length
  | [], ys, h => by rw [PRels.nil_iff] at h; subst h; rfl
  | x :: xs, ys, h => by
    obtain ⟨y, ys', rfl, _, t⟩ := h.inv
    simp [PRels.length t]
theorem PRels.get : ∀ {xs : List PV} {ys : List V} {i : Nat} {x : PV}, PRels K H β xs ys → xs[i]? = some x → ∃ y, ys[i]? = some y ∧ PRel K H β x y
  | [], ys, i, x, h, e => by simp at e
  | x :: xs, ys, 0, z, h, e => by
    obtain ⟨y, ys', rfl, r, t⟩ := h.inv
    simp at e; subst e
    exact ⟨y, rfl, r⟩
  | x :: xs, ys, i + 1, z, h, e => by
    obtain ⟨y, ys', rfl, r, t⟩ := h.inv
    obtain ⟨y', e', r'⟩ := PRels.get (i := i) t (by simpa using e)
    exact ⟨y', by simpa using e', r'⟩
theorem PRels.app : ∀ {xs xs' : List PV} {ys ys' : List V}, PRels K H β xs ys → PRels K H β xs' ys' → PRels K H β (xs ++ xs') (ys ++ ys')
  | [], xs', ys, ys', h, t => by rw [PRels.nil_iff] at h; subst h; exact t
  | x :: xs, xs', ys, ys', h, t => by
    obtain ⟨y, ys1, rfl, r, t1⟩ := h.inv
    exact .cons r (PRels.app t1 t)
theorem PRels.take : ∀ {xs : List PV} {ys : List V} (n : Nat), PRels K H β xs ys → PRels K H β (xs.take n) (ys.take n)
  | xs, ys, 0, h => by simpa using PRels.nil
  | [], ys, n + 1, h => by rw [PRels.nil_iff] at h; subst h; exact PRels.nil
  | x :: xs, ys, n + 1, h => by
    obtain ⟨y, ys1, rfl, r, t1⟩ := h.inv
    exact .cons r (PRels.take n t1)
theorem PRels.drop : ∀ {xs : List PV} {ys : List V} (n : Nat), PRels K H β xs ys → PRels K H β (xs.drop n) (ys.drop n)
  | xs, ys, 0, h => h
  | [], ys, n + 1, h => by rw [PRels.nil_iff] at h; subst h; exact PRels.nil
  | x :: xs, ys, n + 1, h => by
    obtain ⟨y, ys1, rfl, r, t1⟩ := h.inv
    exact PRels.drop n t1
theorem PRels.set : ∀ {xs : List PV} {ys : List V} {x : PV} {y : V} (n : Nat), PRels K H β xs ys → PRel K H β x y → PRels K H β (xs.set n x) (ys.set n y)
  | [], ys, x, y, n, h, r => by rw [PRels.nil_iff] at h; subst h; exact PRels.nil
  | z :: xs, ys, x, y, 0, h, r => by
    obtain ⟨y1, ys1, rfl, r1, t1⟩ := h.inv
    exact .cons r t1
  | z :: xs, ys, x, y, n + 1, h, r => by
    obtain ⟨y1, ys1, rfl, r1, t1⟩ := h.inv
    exact .cons r1 (PRels.set n t1 r)
theorem PRels.rev : ∀ {xs : List PV} {ys : List V}, PRels K H β xs ys → PRels K H β xs.reverse ys.reverse
  | [], ys, h => by rw [PRels.nil_iff] at h; subst h; exact PRels.nil
  | x :: xs, ys, h => by
    obtain ⟨y, ys1, rfl, r, t1⟩ := h.inv
    rw [List.reverse_cons, List.reverse_cons]
    exact (PRels.rev t1).app (.cons r .nil)

/-! ### what an outcome means -/
/-- the exceptions: how the payload stands -/
abbrev XRel := Str → List PV → Value → Option Addr → Hp → List Addr → Prop
def OutOk (K : Gx) (XR : XRel) (H : Hp) (β : List Addr) (E : XK) (Q : VK) : R PV → Prop
  | .ok v μ => ∀ x H' β', Ext H β H' β' → Rl K H' β' μ → PRel K H' β' v x → Q x H'
  | .err c p μ => ∀ cls d H' β', Ext H β H' β' → Rl K H' β' μ → XR c p cls d H' β' → E cls d H'
  | .bad => False
theorem OutOk.ext {XR : XRel} {E : XK} {Q : VK} {r : R PV} (e : Ext H β H1 β1) (h : OutOk K XR H β E Q r) : OutOk K XR H1 β1 E Q r := by
  cases r with
  | ok v μ => exact fun x H' β' e' => h x H' β' (e.trans e')
  | err c p μ => exact fun x d H' β' e' => h x d H' β' (e.trans e')
  | bad => exact h
/-- the reading of a computation -/
def tM (K : PySem.W.Frag) (XR : XRel) (E : L2.St → XK) (m : MS → MH → R PV) : TE := fun σ H Q => ∃ av β s μ, Rl ⟨K, av⟩ H β μ ∧ SRel ⟨K, av⟩ H β s σ ∧ OutOk ⟨K, av⟩ XR H β (E σ) Q (m s μ)
def OutsOk (K : Gx) (XR : XRel) (H : Hp) (β : List Addr) (E : XK) (Q : List V → Hp → Prop) : R (List PV) → Prop
  | .ok v μ => ∀ x H' β', Ext H β H' β' → Rl K H' β' μ → PRels K H' β' v x → Q x H'
  | .err c p μ => ∀ cls d H' β', Ext H β H' β' → Rl K H' β' μ → XR c p cls d H' β' → E cls d H'
  | .bad => False
def tMs (K : PySem.W.Frag) (XR : XRel) (E : L2.St → XK) (m : MS → MH → R (List PV)) : TA := fun σ H Q => ∃ av β s μ, Rl ⟨K, av⟩ H β μ ∧ SRel ⟨K, av⟩ H β s σ ∧ OutsOk ⟨K, av⟩ XR H β (E σ) Q (m s μ)
def BoutOk (K : Gx) (XR : XRel) (H : Hp) (β : List Addr) (E : XK) (Q : Bool → Hp → Prop) : R Bool → Prop
  | .ok v μ => ∀ H' β', Ext H β H' β' → Rl K H' β' μ → Q v H'
  | .err c p μ => ∀ cls d H' β', Ext H β H' β' → Rl K H' β' μ → XR c p cls d H' β' → E cls d H'
  | .bad => False
def tMb (K : PySem.W.Frag) (XR : XRel) (E : L2.St → XK) (m : MS → MH → R Bool) : TT := fun σ H Q => ∃ av β s μ, Rl ⟨K, av⟩ H β μ ∧ SRel ⟨K, av⟩ H β s σ ∧ BoutOk ⟨K, av⟩ XR H β (E σ) Q (m s μ)

/-! ### expressions -/
abbrev ME := MS → MH → R PV
abbrev MEs := MS → MH → R (List PV)
abbrev MB := MS → MH → R Bool
def R.bind {α β : Type} : R α → (α → MH → R β) → R β
  | .ok a μ, f => f a μ
  | .err c p μ, _ => .err c p μ
  | .bad, _ => .bad
@[simp] def mVar (i : Nat) : ME := fun s μ => match s[i]? with | some (some v) => .ok v μ | _ => .bad
@[simp] def mC (v : PV) : ME := fun _ μ => .ok v μ
@[simp] def mOp (f : PV → PV → MH → R PV) (a b : ME) : ME := fun s μ => (a s μ).bind fun x μ1 => (b s μ1).bind fun y μ2 => f x y μ2
@[simp] def mUn (f : PV → MH → R PV) (a : ME) : ME := fun s μ => (a s μ).bind fun x μ1 => f x μ1
@[simp] def msNil : MEs := fun _ μ => .ok [] μ
@[simp] def msCons (a : ME) (b : MEs) : MEs := fun s μ => (a s μ).bind fun x μ1 => (b s μ1).bind fun xs μ2 => .ok (x :: xs) μ2
@[simp] def mCallP (f : List PV → MH → R PV) (a : MEs) : ME := fun s μ => (a s μ).bind fun xs μ1 => f xs μ1
end

section
variable {X : Cx} {XR : XRel} {E : L2.St → XK}
abbrev PM (X : Cx) (XR : XRel) (E : L2.St → XK) (e : Expr) (m : ME) : Prop := PE X e (tM X.K XR E m)
abbrev PMs (X : Cx) (XR : XRel) (E : L2.St → XK) (e : List Expr) (m : MEs) : Prop := PA X e (tMs X.K XR E m)
abbrev PMb (X : Cx) (XR : XRel) (E : L2.St → XK) (e : Expr) (m : MB) : Prop := PT X e (tMb X.K XR E m)
theorem PE.imp {e : Expr} {t t' : TE} (h : PE X e t) (i : ∀ σ H Q, t' σ H Q → t σ H Q) : PE X e t' := ⟨fun pins s σ H Q I q => h.run pins s σ H Q I (i _ _ _ q)⟩
theorem PT.imp {e : Expr} {t t' : TT} (h : PT X e t) (i : ∀ σ H Q, t' σ H Q → t σ H Q) : PT X e t' := ⟨fun pins s σ H Q I q => h.run pins s σ H Q I (i _ _ _ q)⟩
theorem PA.imp {e : List Expr} {t t' : TA} (h : PA X e t) (i : ∀ σ H Q, t' σ H Q → t σ H Q) : PA X e t' := ⟨fun pos pins s σ H Q I q => h.run pos pins s σ H Q I (i _ _ _ q)⟩
theorem PS.imp {e : Stmt} {t t' : TS} (h : PS X e t) (i : ∀ D σ H, t' D σ H → t D σ H) : PS X e t' := ⟨fun pins s σ H D I q => h.run pins s σ H D I (i _ _ _ q)⟩
theorem PSs.imp {e : List Stmt} {t t' : TS} (h : PSs X e t) (i : ∀ D σ H, t' D σ H → t D σ H) : PSs X e t' := ⟨fun pins s σ H D I q => h.run pins s σ H D I (i _ _ _ q)⟩

theorem me_var {i : Nat} {x : Str} {pos : Pos} (hN : X.N[i]? = some x) (hv : Vis X.env.scope x) (hd : (x == ("__debug__" : Str)) = false := by decide) (hcd : (x == ("__classdict__" : Str)) = false := by decide) : PM X XR E (.Name x pos) (mVar i) := by
  refine PE.imp (pe_var hN hv hd hcd) fun σ H Q ⟨av, β, s, μ, rl, sr, h⟩ => ?_
  unfold mVar at h
  split at h
  · rename_i v e
    obtain ⟨x, e1, e2⟩ := sr.at_ i v e
    exact ⟨x, e1, h x H β .refl rl e2⟩
  · exact h.elim
theorem me_const {e : Expr} {v : PV} {x : V} (h : PE X e (tC x)) (r : ∀ G H β, PRel G H β v x) : PM X XR E e (mC v) :=
  PE.imp h fun σ H Q ⟨av, β, s, μ, rl, sr, h⟩ => h x H β .refl rl (r _ H β)
theorem PRel.int_ {K : Gx} {H : Hp} {β : List Addr} {i : Int} : PRel K H β (.int i) (.int i) := by unfold PRel; rfl
theorem PRel.bl_ {K : Gx} {H : Hp} {β : List Addr} {i : Bool} : PRel K H β (.bl i) (.bl i) := by unfold PRel; rfl
theorem PRel.str_ {K : Gx} {H : Hp} {β : List Addr} {i : Str} : PRel K H β (.str i) (.str i) := by unfold PRel; rfl
theorem PRel.non_ {K : Gx} {H : Hp} {β : List Addr} : PRel K H β .non .non := by unfold PRel; rfl
theorem PRel.op_ {K : Gx} {H : Hp} {β : List Addr} {v : V} : PRel K H β (.op v) v := by unfold PRel; rfl
theorem me_int {i j pos} : PM X XR E (.Constant (.int i) j pos) (mC (.int i)) := me_const pe_int fun _ _ _ => .int_
theorem me_bl {b j pos} : PM X XR E (.Constant (.bool b) j pos) (mC (.bl b)) := me_const pe_bl fun _ _ _ => .bl_
theorem me_non {j pos} : PM X XR E (.Constant .none j pos) (mC .non) := me_const pe_non fun _ _ _ => .non_
theorem me_str {x j pos} : PM X XR E (.Constant (.str x) j pos) (mC (.str x)) := me_const pe_str fun _ _ _ => .str_

/-- an operation by values -/
def OpM (K : PySem.W.Frag) (XR : XRel) (f : PV → PV → MH → R PV) (r : R2) : Prop :=
  ∀ (av : List Addr) (E : XK) (H : Hp) (β : List Addr) (μ : MH) (v w : PV) (x y : V) (Q : VK), Rl ⟨K, av⟩ H β μ → PRel ⟨K, av⟩ H β v x → PRel ⟨K, av⟩ H β w y → OutOk ⟨K, av⟩ XR H β E Q (f v w μ) → r x y H Q
def UnM (K : PySem.W.Frag) (XR : XRel) (f : PV → MH → R PV) (r : V → Hp → VK → Prop) : Prop :=
  ∀ (av : List Addr) (E : XK) (H : Hp) (β : List Addr) (μ : MH) (v : PV) (x : V) (Q : VK), Rl ⟨K, av⟩ H β μ → PRel ⟨K, av⟩ H β v x → OutOk ⟨K, av⟩ XR H β E Q (f v μ) → r x H Q
theorem tm_op {r : R2} {f : PV → PV → MH → R PV} {ma mb : ME} {K : PySem.W.Frag} (hf : OpM K XR f r) (σ : St) (H : Hp) (Q : VK) (h : tM K XR E (mOp f ma mb) σ H Q) : tOp r (tM K XR E ma) (tM K XR E mb) σ H Q := by
  obtain ⟨av, β, s, μ, rl, sr, h⟩ := h
  refine ⟨av, β, s, μ, rl, sr, ?_⟩
  unfold mOp at h
  cases e : ma s μ with
  | bad => rw [e] at h; exact h
  | err c p μ' => rw [e] at h; exact h
  | ok v μ1 =>
    rw [e] at h
    intro x H1 β1 ex1 rl1 p1
    have h1 := OutOk.ext ex1 h
    have sr1 := sr.ext ex1
    refine ⟨av, β1, s, μ1, rl1, sr1, ?_⟩
    simp only [R.bind] at h1
    cases e2 : mb s μ1 with
    | bad => rw [e2] at h1; exact h1
    | err c p μ' => rw [e2] at h1; exact h1
    | ok w μ2 =>
      rw [e2] at h1
      intro y H2 β2 ex2 rl2 p2
      exact hf _ _ H2 β2 μ2 v w x y Q rl2 (p1.ext ex2) p2 (OutOk.ext ex2 h1)
theorem me_op {op : Operator} {r : R2} {a b : Expr} {ma mb : ME} {f : PV → PV → MH → R PV} {pos : Pos} (ho : OpR X (binaryOp op) r) (hf : OpM X.K XR f r) (ha : PM X XR E a ma) (hb : PM X XR E b mb) : PM X XR E (.BinOp a op b pos) (mOp f ma mb) :=
  PE.imp (pe_op ho ha hb) (tm_op hf)
theorem me_cmp {op : CmpOp} {r : R2} {a b : Expr} {ma mb : ME} {f : PV → PV → MH → R PV} {pos : Pos} (ho : OpR X (compareOp op) r) (hf : OpM X.K XR f r) (ha : PM X XR E a ma) (hb : PM X XR E b mb) (hm : behindInMarks op b = false) : PM X XR E (.Compare a [op] [b] pos) (mOp f ma mb) :=
  PE.imp (pe_cmpR ho ha hb hm) (tm_op hf)
theorem tm_un {r : V → Hp → VK → Prop} {f : PV → MH → R PV} {ma : ME} {K : PySem.W.Frag} (hf : UnM K XR f r) (σ : St) (H : Hp) (Q : VK) (h : tM K XR E (mUn f ma) σ H Q) : tUn r (tM K XR E ma) σ H Q := by
  obtain ⟨av, β, s, μ, rl, sr, h⟩ := h
  refine ⟨av, β, s, μ, rl, sr, ?_⟩
  unfold mUn at h
  cases e : ma s μ with
  | bad => rw [e] at h; exact h
  | err c p μ' => rw [e] at h; exact h
  | ok v μ1 =>
    rw [e] at h
    intro x H1 β1 ex1 rl1 p1
    exact hf _ _ H1 β1 μ1 v x Q rl1 p1 (OutOk.ext ex1 h)
theorem me_un {op : UnaryOp} {r : V → Hp → VK → Prop} {a : Expr} {ma : ME} {f : PV → MH → R PV} {pos : Pos} (ho : UnR X (unaryOp op) r) (hf : UnM X.K XR f r) (ha : PM X XR E a ma) : PM X XR E (.UnaryOp op a pos) (mUn f ma) :=
  PE.imp (pe_un ho ha) (tm_un hf)
end
end Mini

/-! M2: argument lists, displays, tests, statements, loops. -/
namespace Mini
open PySem L2

section
variable {K : Gx} {H H1 H2 H' : Hp} {β β1 β2 β' : List Addr} {μ μ' : MH} {XR : XRel}
theorem OutsOk.ext {E : XK} {Q : List V → Hp → Prop} {r : R (List PV)} (e : Ext H β H1 β1) (h : OutsOk K XR H β E Q r) : OutsOk K XR H1 β1 E Q r := by
  cases r with
  | ok v μ => exact fun x H' β' e' => h x H' β' (e.trans e')
  | err c p μ => exact fun x d H' β' e' => h x d H' β' (e.trans e')
  | bad => exact h
theorem BoutOk.ext {E : XK} {Q : Bool → Hp → Prop} {r : R Bool} (e : Ext H β H1 β1) (h : BoutOk K XR H β E Q r) : BoutOk K XR H1 β1 E Q r := by
  cases r with
  | ok v μ => exact fun H' β' e' => h H' β' (e.trans e')
  | err c p μ => exact fun x d H' β' e' => h x d H' β' (e.trans e')
  | bad => exact h
/-- the places are tracked -/
theorem Rl.at_ (r : Rl K H β μ) {n : Nat} {o : MO} (h : μ[n]? = some o) : ∃ a, β[n]? = some a ∧ ORel K H β a o := by
  obtain ⟨hl, _⟩ := List.getElem?_eq_some_iff.mp h
  have hl' : n < β.length := by rw [r.len]; exact hl
  exact ⟨β[n], List.getElem?_eq_getElem hl', r.obj n _ o (List.getElem?_eq_getElem hl') h⟩
theorem Rl.tracked (r : Rl K H β μ) {a : Addr} (h : a ∈ β) : H a ≠ none := by
  obtain ⟨n, hl, e⟩ := List.mem_iff_getElem.mp h
  have hl' : n < μ.length := by rw [← r.len]; exact hl
  have q := r.obj n a μ[n] (by rw [List.getElem?_eq_getElem hl, e]) (List.getElem?_eq_getElem hl')
  cases e2 : μ[n] with
  | lst xs => rw [e2] at q; obtain ⟨vs, z, _⟩ := q; rw [z]; exact fun z => nomatch z
  | dK xs => rw [e2] at q; obtain ⟨vs, z, _⟩ := q; rw [z]; exact fun z => nomatch z
  | dT xs => rw [e2] at q; obtain ⟨vs, z, _⟩ := q; rw [z]; exact fun z => nomatch z
theorem Rl.notMem (r : Rl K H β μ) {a : Addr} (h : H a = none) : a ∉ β := fun q => r.tracked q h
theorem Rl.fresh (r : Rl K H β μ) {a : Addr} (h : H a = none) : a ∉ β ∧ a ∉ K.av := ⟨r.notMem h, fun q => r.avt a q h⟩
theorem DRel.ext {κ : Type} (e : Ext H β H' β') {kvs : List (κ × PV)} {kvs' : List (κ × V)} (h : DRel K H β kvs kvs') : DRel K H' β' kvs kvs' := ⟨h.1, PRels.ext e _ h.2⟩
/-- a new object that is not a place: a tuple, a frozen list -/
theorem Ext.new (r : Rl K H β μ) {p : Addr} (hp : H p = none) (o : HO) : Ext H β (upd H p o) β :=
  ⟨⟨[], by simp, by simp⟩, fun a u h _ => by rw [upd_ne (ne_of_none h hp)]; exact h, fun a h => by
    by_cases e : a = p
    · subst e; exact hp
    · rw [upd_ne e] at h; exact h⟩
theorem ORel.ext (e : Ext H β H' β') {a : Addr} {o : MO} (h : ORel K H β a o) (st : H' a = H a) : ORel K H' β' a o := by
  cases o with
  | lst xs => obtain ⟨vs, z, q⟩ := h; exact ⟨vs, by rw [st]; exact z, PRels.ext e _ q⟩
  | dK xs => obtain ⟨vs, z, q⟩ := h; exact ⟨vs, by rw [st]; exact z, q.ext e⟩
  | dT xs => obtain ⟨vs, z, q⟩ := h; exact ⟨vs, by rw [st]; exact z, q.ext e⟩
theorem Rl.new (r : Rl K H β μ) {p : Addr} (hp : H p = none) (o : HO) : Rl K (upd H p o) β μ :=
  ⟨r.len, r.nd, fun n a ob h1 h2 => (r.obj n a ob h1 h2).ext (Ext.new r hp o) (upd_ne fun e => by
    subst e
    exact r.notMem hp (List.mem_of_getElem? h1)), fun a ha => fun q => r.avt a ha ((Ext.new r hp o).live a q)⟩
/-- a new place -/
theorem Ext.place (r : Rl K H β μ) {p : Addr} (hp : H p = none) (o : HO) : Ext H β (upd H p o) (β ++ [p]) :=
  ⟨⟨[p], rfl, by simpa using hp⟩, fun a u h _ => by rw [upd_ne (ne_of_none h hp)]; exact h, fun a h => by
    by_cases e : a = p
    · subst e; exact hp
    · rw [upd_ne e] at h; exact h⟩
theorem Rl.place (r : Rl K H β μ) {p : Addr} (hp : H p = none) {o : HO} {m : MO} (h : ORel K (upd H p o) (β ++ [p]) p m) : Rl K (upd H p o) (β ++ [p]) (μ ++ [m]) := by
  refine ⟨by simp [r.len], ?_, fun n a ob h1 h2 => ?_, fun a ha => fun q => r.avt a ha ((Ext.place r hp o).live a q)⟩
  · rw [List.nodup_append]
    refine ⟨r.nd, by simp, fun a ha b hb e => ?_⟩
    simp at hb
    subst hb; subst e
    exact r.notMem hp ha
  · by_cases hn : n < β.length
    · rw [List.getElem?_append_left hn] at h1
      rw [List.getElem?_append_left (by rw [← r.len]; exact hn)] at h2
      exact (r.obj n a ob h1 h2).ext (Ext.place r hp o) (upd_ne fun e => by
        subst e
        exact r.notMem hp (List.mem_of_getElem? h1))
    · rw [List.getElem?_append_right (by omega)] at h1
      rw [List.getElem?_append_right (by rw [← r.len]; omega)] at h2
      rw [← r.len] at h2
      cases e : n - β.length with
      | zero =>
        rw [e] at h1 h2
        simp at h1 h2
        subst h1; subst h2
        exact h
      | succ k => rw [e] at h1; simp at h1
theorem PRel.place (r : Rl K H β μ) {p : Addr} {H0 : Hp} : PRel K H0 (β ++ [p]) (.ref μ.length) (.ref p) := by
  unfold PRel
  exact ⟨p, rfl, by rw [← r.len]; simp⟩
/-- a place is written -/
theorem Ext.write (r : Rl K H β μ) {n : Nat} {a : Addr} (ha : β[n]? = some a) (o : HO) : Ext H β (upd H a o) β :=
  ⟨⟨[], by simp, by simp⟩, fun b u h hn => by
    have : b ≠ a := fun e => hn (by rw [e]; exact List.mem_of_getElem? ha)
    rw [upd_ne this]; exact h, fun b h => by
    by_cases e : b = a
    · subst e; rw [upd_same] at h; cases h
    · rw [upd_ne e] at h; exact h⟩
theorem Rl.write (r : Rl K H β μ) {n : Nat} {a : Addr} (ha : β[n]? = some a) {o : HO} {m : MO} (h : ORel K (upd H a o) β a m) : Rl K (upd H a o) β (μ.set n m) := by
  refine ⟨by simp [r.len], r.nd, fun k b ob h1 h2 => ?_, fun b hb => fun q => r.avt b hb ((Ext.write r ha o).live b q)⟩
  have ex := Ext.write r ha o
  by_cases hk : k = n
  · subst hk
    rw [ha] at h1; cases h1
    have hl : k < μ.length := by
      have := (List.getElem?_eq_some_iff.mp ha).1
      rw [r.len] at this; exact this
    rw [List.getElem?_set_self hl] at h2
    cases h2
    exact h
  · rw [List.getElem?_set_ne (Ne.symm hk)] at h2
    refine (r.obj k b ob h1 h2).ext ex (upd_ne fun e => hk ?_)
    subst e
    obtain ⟨h3, e3⟩ := List.getElem?_eq_some_iff.mp h1
    obtain ⟨h4, e4⟩ := List.getElem?_eq_some_iff.mp ha
    exact (List.getElem_inj r.nd).mp (e3.trans e4.symm)

/-! ### statements -/
inductive RS where
  | nx (s : MS) (μ : MH) | rt (v : PV) (μ : MH) | bk (s : MS) (μ : MH) | ct (s : MS) (μ : MH)
  | er (c : Str) (p : List PV) (s : MS) (μ : MH) | bad
abbrev MSt := MS → MH → RS
def SOutOk (K : Gx) (XR : XRel) (H : Hp) (β : List Addr) (W : L2.St → XK) (D : Ends) : RS → Prop
  | .nx s μ => ∀ σ' H' β', Ext H β H' β' → Rl K H' β' μ → SRel K H' β' s σ' → D.nx σ' H'
  | .rt v μ => ∀ x H' β', Ext H β H' β' → Rl K H' β' μ → PRel K H' β' v x → D.rt x H'
  | .bk s μ => ∀ σ' H' β', Ext H β H' β' → Rl K H' β' μ → SRel K H' β' s σ' → D.bk σ' H'
  | .ct s μ => ∀ σ' H' β', Ext H β H' β' → Rl K H' β' μ → SRel K H' β' s σ' → D.ct σ' H'
  | .er c p s μ => ∀ cls d σ' H' β', Ext H β H' β' → Rl K H' β' μ → SRel K H' β' s σ' → XR c p cls d H' β' → W σ' cls d H'
  | .bad => False
theorem SOutOk.ext {W : L2.St → XK} {D : Ends} {r : RS} (e : Ext H β H1 β1) (h : SOutOk K XR H β W D r) : SOutOk K XR H1 β1 W D r := by
  cases r with
  | nx s μ => exact fun x H' β' e' => h x H' β' (e.trans e')
  | rt v μ => exact fun x H' β' e' => h x H' β' (e.trans e')
  | bk s μ => exact fun x H' β' e' => h x H' β' (e.trans e')
  | ct s μ => exact fun x H' β' e' => h x H' β' (e.trans e')
  | er c p s μ => exact fun c d x H' β' e' => h c d x H' β' (e.trans e')
  | bad => exact h
def tSM (K : PySem.W.Frag) (XR : XRel) (W : L2.St → XK) (m : MSt) : TS := fun D σ H => ∃ av β s μ, Rl ⟨K, av⟩ H β μ ∧ SRel ⟨K, av⟩ H β s σ ∧ SOutOk ⟨K, av⟩ XR H β W D (m s μ)
/-- an expression, then more -/
def sBind {α : Type} (r : R α) (s : MS) (k : α → MH → RS) : RS := match r with
  | .ok a μ => k a μ
  | .err c p μ => .er c p s μ
  | .bad => .bad
def bOf (v : PV) (μ : MH) : R Bool := match v with
  | .bl b => .ok b μ
  | _ => .bad
@[simp] def mbE (a : ME) : MB := fun s μ => (a s μ).bind bOf
@[simp] def mbNot (a : MB) : MB := fun s μ => (a s μ).bind fun b μ1 => .ok (!b) μ1
@[simp] def mbAnd (a b : MB) : MB := fun s μ => (a s μ).bind fun c μ1 => if c then b s μ1 else .ok false μ1
@[simp] def mbOr (a b : MB) : MB := fun s μ => (a s μ).bind fun c μ1 => if c then .ok true μ1 else b s μ1
@[simp] def mAnd (a b : ME) : ME := fun s μ => (a s μ).bind fun v μ1 => match v with
  | .bl c => if c then b s μ1 else .ok (.bl false) μ1
  | _ => .bad
@[simp] def mOr (a b : ME) : ME := fun s μ => (a s μ).bind fun v μ1 => match v with
  | .bl c => if c then .ok (.bl true) μ1 else b s μ1
  | _ => .bad
@[simp] def mNot (a : ME) : ME := fun s μ => (a s μ).bind fun v μ1 => match v with
  | .bl c => .ok (.bl (!c)) μ1
  | _ => .bad
@[simp] def mIf (c : MB) (a b : ME) : ME := fun s μ => (c s μ).bind fun k μ1 => if k then a s μ1 else b s μ1
def mChain (f g : PV → PV → MH → R PV) (a b c : ME) : ME := fun s μ => (a s μ).bind fun x μ1 => (b s μ1).bind fun y μ2 => (f x y μ2).bind fun z μ3 => match z with
  | .bl k => if k then (c s μ3).bind fun w μ4 => g y w μ4 else .ok (.bl false) μ3
  | _ => .bad
@[simp] def sNil : MSt := fun s μ => .nx s μ
@[simp] def sSeq (a b : MSt) : MSt := fun s μ => match a s μ with
  | .nx s1 μ1 => b s1 μ1
  | r => r
@[simp] def sPass : MSt := fun s μ => .nx s μ
@[simp] def sBreak : MSt := fun s μ => .bk s μ
@[simp] def sCont : MSt := fun s μ => .ct s μ
@[simp] def sExpr (a : ME) : MSt := fun s μ => sBind (a s μ) s fun _ μ1 => .nx s μ1
@[simp] def sRet (a : ME) : MSt := fun s μ => sBind (a s μ) s fun v μ1 => .rt v μ1
@[simp] def sRetN : MSt := fun _ μ => .rt .non μ
@[simp] def sIf (c : MB) (a b : MSt) : MSt := fun s μ => sBind (c s μ) s fun k μ1 => if k then a s μ1 else b s μ1
end

section
variable {X : Cx} {XR : XRel} {E : L2.St → XK}
abbrev PSM (X : Cx) (XR : XRel) (E : L2.St → XK) (st : Stmt) (m : MSt) : Prop := PS X st (tSM X.K XR E m)
abbrev PSsM (X : Cx) (XR : XRel) (E : L2.St → XK) (st : List Stmt) (m : MSt) : Prop := PSs X st (tSM X.K XR E m)
section
variable {K : PySem.W.Frag} {av : List Addr} {σ : L2.St} {H : Hp} {D : Ends}
/-- an expression in a statement -/
theorem tm_s {m : ME} {k : PV → MH → RS} {β : List Addr} {s : MS} {μ : MH} {Q : VK} (rl : Rl ⟨K, av⟩ H β μ) (sr : SRel ⟨K, av⟩ H β s σ) (h : SOutOk ⟨K, av⟩ XR H β E D (sBind (m s μ) s k))
    (q : ∀ v μ' x H' β', m s μ = .ok v μ' → Ext H β H' β' → Rl ⟨K, av⟩ H' β' μ' → SRel ⟨K, av⟩ H' β' s σ → PRel ⟨K, av⟩ H' β' v x → SOutOk ⟨K, av⟩ XR H' β' E D (k v μ') → Q x H') : tM K XR E m σ H Q := by
  refine ⟨av, β, s, μ, rl, sr, ?_⟩
  cases e : m s μ with
  | bad => rw [e] at h; exact h
  | err c p μ' => rw [e] at h; exact fun cls d H' β' ex rl' xr => h cls d σ H' β' ex rl' (sr.ext ex) xr
  | ok v μ' =>
    rw [e] at h
    exact fun x H' β' ex rl' pr => q v μ' x H' β' e ex rl' (sr.ext ex) pr (SOutOk.ext ex h)
theorem tmb_s {m : MB} {k : Bool → MH → RS} {β : List Addr} {s : MS} {μ : MH} {Q : Bool → Hp → Prop} (rl : Rl ⟨K, av⟩ H β μ) (sr : SRel ⟨K, av⟩ H β s σ) (h : SOutOk ⟨K, av⟩ XR H β E D (sBind (m s μ) s k))
    (q : ∀ v μ' H' β', m s μ = .ok v μ' → Ext H β H' β' → Rl ⟨K, av⟩ H' β' μ' → SRel ⟨K, av⟩ H' β' s σ → SOutOk ⟨K, av⟩ XR H' β' E D (k v μ') → Q v H') : tMb K XR E m σ H Q := by
  refine ⟨av, β, s, μ, rl, sr, ?_⟩
  cases e : m s μ with
  | bad => rw [e] at h; exact h
  | err c p μ' => rw [e] at h; exact fun cls d H' β' ex rl' xr => h cls d σ H' β' ex rl' (sr.ext ex) xr
  | ok v μ' =>
    rw [e] at h
    exact fun H' β' ex rl' => q v μ' H' β' e ex rl' (sr.ext ex) (SOutOk.ext ex h)
/-- .. within an expression -/
theorem tm_e {m : ME} {k : PV → MH → R PV} {β : List Addr} {s : MS} {μ : MH} {Q Q' : VK} (rl : Rl ⟨K, av⟩ H β μ) (sr : SRel ⟨K, av⟩ H β s σ) (h : OutOk ⟨K, av⟩ XR H β (E σ) Q' ((m s μ).bind k))
    (q : ∀ v μ' x H' β', m s μ = .ok v μ' → Ext H β H' β' → Rl ⟨K, av⟩ H' β' μ' → SRel ⟨K, av⟩ H' β' s σ → PRel ⟨K, av⟩ H' β' v x → OutOk ⟨K, av⟩ XR H' β' (E σ) Q' (k v μ') → Q x H') : tM K XR E m σ H Q := by
  refine ⟨av, β, s, μ, rl, sr, ?_⟩
  cases e : m s μ with
  | bad => rw [e] at h; exact h
  | err c p μ' => rw [e] at h; exact h
  | ok v μ' =>
    rw [e] at h
    exact fun x H' β' ex rl' pr => q v μ' x H' β' e ex rl' (sr.ext ex) pr (OutOk.ext ex h)
theorem tm_eb {m : ME} {k : PV → MH → R Bool} {β : List Addr} {s : MS} {μ : MH} {Q : VK} {Q' : Bool → Hp → Prop} (rl : Rl ⟨K, av⟩ H β μ) (sr : SRel ⟨K, av⟩ H β s σ) (h : BoutOk ⟨K, av⟩ XR H β (E σ) Q' ((m s μ).bind k))
    (q : ∀ v μ' x H' β', m s μ = .ok v μ' → Ext H β H' β' → Rl ⟨K, av⟩ H' β' μ' → SRel ⟨K, av⟩ H' β' s σ → PRel ⟨K, av⟩ H' β' v x → BoutOk ⟨K, av⟩ XR H' β' (E σ) Q' (k v μ') → Q x H') : tM K XR E m σ H Q := by
  refine ⟨av, β, s, μ, rl, sr, ?_⟩
  cases e : m s μ with
  | bad => rw [e] at h; exact h
  | err c p μ' => rw [e] at h; exact h
  | ok v μ' =>
    rw [e] at h
    exact fun x H' β' ex rl' pr => q v μ' x H' β' e ex rl' (sr.ext ex) pr (BoutOk.ext ex h)
theorem tmb_e {m : MB} {k : Bool → MH → R PV} {β : List Addr} {s : MS} {μ : MH} {Q : Bool → Hp → Prop} {Q' : VK} (rl : Rl ⟨K, av⟩ H β μ) (sr : SRel ⟨K, av⟩ H β s σ) (h : OutOk ⟨K, av⟩ XR H β (E σ) Q' ((m s μ).bind k))
    (q : ∀ v μ' H' β', m s μ = .ok v μ' → Ext H β H' β' → Rl ⟨K, av⟩ H' β' μ' → SRel ⟨K, av⟩ H' β' s σ → OutOk ⟨K, av⟩ XR H' β' (E σ) Q' (k v μ') → Q v H') : tMb K XR E m σ H Q := by
  refine ⟨av, β, s, μ, rl, sr, ?_⟩
  cases e : m s μ with
  | bad => rw [e] at h; exact h
  | err c p μ' => rw [e] at h; exact h
  | ok v μ' =>
    rw [e] at h
    exact fun H' β' ex rl' => q v μ' H' β' e ex rl' (sr.ext ex) (OutOk.ext ex h)
theorem tmb_b {m : MB} {k : Bool → MH → R Bool} {β : List Addr} {s : MS} {μ : MH} {Q Q' : Bool → Hp → Prop} (rl : Rl ⟨K, av⟩ H β μ) (sr : SRel ⟨K, av⟩ H β s σ) (h : BoutOk ⟨K, av⟩ XR H β (E σ) Q' ((m s μ).bind k))
    (q : ∀ v μ' H' β', m s μ = .ok v μ' → Ext H β H' β' → Rl ⟨K, av⟩ H' β' μ' → SRel ⟨K, av⟩ H' β' s σ → BoutOk ⟨K, av⟩ XR H' β' (E σ) Q' (k v μ') → Q v H') : tMb K XR E m σ H Q := by
  refine ⟨av, β, s, μ, rl, sr, ?_⟩
  cases e : m s μ with
  | bad => rw [e] at h; exact h
  | err c p μ' => rw [e] at h; exact h
  | ok v μ' =>
    rw [e] at h
    exact fun H' β' ex rl' => q v μ' H' β' e ex rl' (sr.ext ex) (BoutOk.ext ex h)
end

/-! ### tests -/
theorem bOf_ok {K : Gx} {H : Hp} {β : List Addr} {μ : MH} {v : PV} {x : V} {Q' : Bool → Hp → Prop} {E : XK} (rl : Rl K H β μ) (p : PRel K H β v x) (h : BoutOk K XR H β E Q' (bOf v μ)) : ∃ c, x = .bl c ∧ Q' c H := by
  cases v <;> first
    | (unfold PRel at p; subst p; exact ⟨_, rfl, h H β .refl rl⟩)
    | exact False.elim h
theorem mb_cmp {op : CmpOp} {r : R2} {a b : Expr} {ma mb : ME} {f : PV → PV → MH → R PV} {pos : Pos} (ho : OpR X (compareOp op) r) (hf : OpM X.K XR f r) (ha : PM X XR E a ma) (hb : PM X XR E b mb) (hm : behindInMarks op b = false) : PMb X XR E (.Compare a [op] [b] pos) (mbE (mOp f ma mb)) :=
  PT.imp (pt_cmpR ho ha hb hm) fun σ H Q ⟨av, β, s, μ, rl, sr, h⟩ => by
    unfold tTest
    refine tm_op hf σ H _ ?_
    exact tm_eb rl sr h fun v μ' x H' β' _ ex rl' _ p q => bOf_ok rl' p q
theorem mb_val {e : Expr} {m : ME} (h : PM X XR E e m) (he : ∀ whole, isTrue e X.env whole = (do let v ← whole; standAt e.pos; holding [v] (truthy v)) := by intro _; rfl) : PMb X XR E e (mbE m) :=
  PT.imp (pt_val h he) fun σ H Q ⟨av, β, s, μ, rl, sr, h⟩ => by
    unfold tB
    exact tm_eb rl sr h fun v μ' x H' β' _ ex rl' _ p q => bOf_ok rl' p q
theorem mb_not {a : Expr} {ma : MB} {pos : Pos} (ha : PMb X XR E a ma) : PMb X XR E (.UnaryOp .Not a pos) (mbNot ma) :=
  PT.imp (pt_not ha) fun σ H Q ⟨av, β, s, μ, rl, sr, h⟩ => by
    unfold tNot
    exact tmb_b rl sr h fun v μ' H' β' _ ex rl' _ q => q H' β' .refl rl'
abbrev PWb (X : Cx) (XR : XRel) (E : L2.St → XK) (e : Expr) (m : MB) : Prop := PW X e (tMb X.K XR E m)
theorem mw_and1 {a : Expr} {ma : MB} {pos : Pos} (ha : PMb X XR E a ma) : PWb X XR E (.BoolOp .And [a] pos) ma := pw_and1 ha
theorem mw_or1 {a : Expr} {ma : MB} {pos : Pos} (ha : PMb X XR E a ma) : PWb X XR E (.BoolOp .Or [a] pos) ma := pw_or1 ha
theorem PW.imp {e : Expr} {t t' : TT} (h : PW X e t) (i : ∀ σ H Q, t' σ H Q → t σ H Q) : PW X e t' := ⟨fun wh pins s σ H Q I q => h.run wh pins s σ H Q I (i _ _ _ q)⟩
theorem mw_and {a b : Expr} {rest : List Expr} {ma mb : MB} {pos : Pos} (ha : PMb X XR E a ma) (hb : PWb X XR E (.BoolOp .And (b :: rest) pos) mb) : PWb X XR E (.BoolOp .And (a :: b :: rest) pos) (mbAnd ma mb) :=
  PW.imp (pw_and ha hb) fun σ H Q ⟨av, β, s, μ, rl, sr, h⟩ => by
    unfold tAnd
    refine tmb_b rl sr h fun v μ' H' β' _ ex rl' sr' q => ?_
    cases v with
    | true => exact ⟨av, β', s, μ', rl', sr', q⟩
    | false => exact q H' β' .refl rl'
theorem mw_or {a b : Expr} {rest : List Expr} {ma mb : MB} {pos : Pos} (ha : PMb X XR E a ma) (hb : PWb X XR E (.BoolOp .Or (b :: rest) pos) mb) : PWb X XR E (.BoolOp .Or (a :: b :: rest) pos) (mbOr ma mb) :=
  PW.imp (pw_or ha hb) fun σ H Q ⟨av, β, s, μ, rl, sr, h⟩ => by
    unfold tOr
    refine tmb_b rl sr h fun v μ' H' β' _ ex rl' sr' q => ?_
    cases v with
    | true => exact q H' β' .refl rl'
    | false => exact ⟨av, β', s, μ', rl', sr', q⟩
theorem mb_w {e : Expr} {m : MB} (h : PWb X XR E e m) : PMb X XR E e m := PW.pt h
/-! ### .. as values -/
theorem bl_inv {K : Gx} {H : Hp} {β : List Addr} {c : Bool} {x : V} (p : PRel K H β (.bl c) x) : x = .bl c := by unfold PRel at p; exact p
theorem me_one {op : BoolOp} {a : Expr} {ma : ME} {pos : Pos} (h : PM X XR E a ma) : PM X XR E (.BoolOp op [a] pos) ma := pe_one h
theorem me_and {a b : Expr} {rest : List Expr} {ma mb : ME} {pos : Pos} (ha : PM X XR E a ma) (hb : PM X XR E (.BoolOp .And (b :: rest) pos) mb) : PM X XR E (.BoolOp .And (a :: b :: rest) pos) (mAnd ma mb) :=
  PE.imp (pe_and ha hb) fun σ H Q ⟨av, β, s, μ, rl, sr, h⟩ => by
    unfold tAndV
    refine tm_e rl sr h fun v μ' x H' β' _ ex rl' sr' p q => ?_
    cases v <;> first
      | exact False.elim q
      | (refine ⟨_, bl_inv p, ?_⟩
         split
         · rename_i hc
           simp only [hc, if_true] at q
           exact ⟨av, β', s, μ', rl', sr', q⟩
         · rename_i hc
           simp only [hc] at q
           exact q _ H' β' .refl rl' .bl_)
theorem me_or {a b : Expr} {rest : List Expr} {ma mb : ME} {pos : Pos} (ha : PM X XR E a ma) (hb : PM X XR E (.BoolOp .Or (b :: rest) pos) mb) : PM X XR E (.BoolOp .Or (a :: b :: rest) pos) (mOr ma mb) :=
  PE.imp (pe_or ha hb) fun σ H Q ⟨av, β, s, μ, rl, sr, h⟩ => by
    unfold tOrV
    refine tm_e rl sr h fun v μ' x H' β' _ ex rl' sr' p q => ?_
    cases v <;> first
      | exact False.elim q
      | (refine ⟨_, bl_inv p, ?_⟩
         split
         · rename_i hc
           simp only [hc, if_true] at q
           exact q _ H' β' .refl rl' .bl_
         · rename_i hc
           simp only [hc] at q
           exact ⟨av, β', s, μ', rl', sr', q⟩)
theorem me_not {a : Expr} {ma : ME} {pos : Pos} (ha : PM X XR E a ma) : PM X XR E (.UnaryOp .Not a pos) (mNot ma) :=
  PE.imp (pe_not ha) fun σ H Q ⟨av, β, s, μ, rl, sr, h⟩ => by
    unfold tNotV
    refine tm_e rl sr h fun v μ' x H' β' _ ex rl' sr' p q => ?_
    cases v <;> first
      | exact False.elim q
      | exact ⟨_, bl_inv p, q _ H' β' .refl rl' .bl_⟩
theorem me_if {c a b : Expr} {mc : MB} {ma mb : ME} {pos : Pos} (hc : PMb X XR E c mc) (ha : PM X XR E a ma) (hb : PM X XR E b mb) : PM X XR E (.IfExp c a b pos) (mIf mc ma mb) :=
  PE.imp (pe_ifExp hc ha hb) fun σ H Q ⟨av, β, s, μ, rl, sr, h⟩ => by
    unfold tIf
    refine tmb_e rl sr h fun v μ' H' β' _ ex rl' sr' q => ?_
    cases v with
    | true => exact ⟨av, β', s, μ', rl', sr', q⟩
    | false => exact ⟨av, β', s, μ', rl', sr', q⟩
theorem tm_chain {K : PySem.W.Frag} {r r' : R2} {f g : PV → PV → MH → R PV} {ma mb mc : ME} (hf : OpM K XR f r) (hg : OpM K XR g r') (σ : L2.St) (H : Hp) (Q : VK) (h : tM K XR E (mChain f g ma mb mc) σ H Q) : tChain r r' (tM K XR E ma) (tM K XR E mb) (tM K XR E mc) σ H Q := by
  obtain ⟨av, β, s, μ, rl, sr, h⟩ := h
  unfold tChain
  refine tm_e rl sr h fun v μ1 x H1 β1 _ ex1 rl1 sr1 p1 q1 => ?_
  refine tm_e rl1 sr1 q1 fun w μ2 y H2 β2 _ ex2 rl2 sr2 p2 q2 => ?_
  refine hf av (E σ) H2 β2 μ2 v w x y _ rl2 (p1.ext ex2) p2 ?_
  cases e : f v w μ2 with
  | bad => rw [e] at q2; exact q2
  | err c p μ' => rw [e] at q2; exact q2
  | ok z μ3 =>
    rw [e] at q2
    intro zx H3 β3 ex3 rl3 p3
    have q3 := OutOk.ext ex3 q2
    simp only [R.bind] at q3
    cases z <;> first
      | exact False.elim q3
      | (rename_i k
         refine ⟨k, bl_inv p3, ?_⟩
         cases k with
         | false => exact q3 _ H3 β3 .refl rl3 .bl_
         | true =>
           exact tm_e rl3 (sr2.ext ex3) q3 fun u μ4 ux H4 β4 _ ex4 rl4 sr4 p4 q4 => hg av (E σ) H4 β4 μ4 w u y ux Q rl4 ((p2.ext ex3).ext ex4) p4 q4)
theorem me_chain {op op' : CmpOp} {r r' : R2} {a b c : Expr} {f g : PV → PV → MH → R PV} {ma mb mc : ME} {pos : Pos} (ho : OpR X (compareOp op) r) (ho' : OpR X (compareOp op') r') (hf : OpM X.K XR f r) (hg : OpM X.K XR g r') (ha : PM X XR E a ma) (hb : PM X XR E b mb) (hc : PM X XR E c mc)
    (hm : lastMarks [op, op'] [b, c] = false := by with_unfolding_all rfl) : PM X XR E (.Compare a [op, op'] [b, c] pos) (mChain f g ma mb mc) :=
  PE.imp (pe_chain ho ho' ha hb hc hm) (tm_chain hf hg)
theorem mb_chain {op op' : CmpOp} {r r' : R2} {a b c : Expr} {f g : PV → PV → MH → R PV} {ma mb mc : ME} {pos : Pos} (ho : OpR X (compareOp op) r) (ho' : OpR X (compareOp op') r') (hf : OpM X.K XR f r) (hg : OpM X.K XR g r') (ha : PM X XR E a ma) (hb : PM X XR E b mb) (hc : PM X XR E c mc)
    (hm : lastMarks [op, op'] [b, c] = false := by with_unfolding_all rfl) : PMb X XR E (.Compare a [op, op'] [b, c] pos) (mbE (mChain f g ma mb mc)) :=
  PT.imp (pt_chain ho ho' ha hb hc hm) fun σ H Q ⟨av, β, s, μ, rl, sr, h⟩ => by
    unfold tTest
    refine tm_chain hf hg σ H _ ?_
    exact tm_eb rl sr h fun v μ' x H' β' _ ex rl' _ p q => bOf_ok rl' p q

/-! ### argument lists, displays -/
theorem mas_nil : PMs X XR E [] msNil := PA.imp pa_nil fun σ H Q ⟨av, β, s, μ, rl, sr, h⟩ => h [] H β .refl rl .nil
theorem tms_cons {K : PySem.W.Frag} {a : ME} {b : MEs} (σ : L2.St) (H : Hp) (Q : List V → Hp → Prop) (h : tMs K XR E (msCons a b) σ H Q) : tCons (tM K XR E a) (tMs K XR E b) σ H Q := by
  obtain ⟨av, β, s, μ, rl, sr, h⟩ := h
  refine ⟨av, β, s, μ, rl, sr, ?_⟩
  unfold msCons at h
  cases e : a s μ with
  | bad => rw [e] at h; exact h
  | err c p μ' => rw [e] at h; exact h
  | ok v μ1 =>
    rw [e] at h
    intro x H1 β1 ex1 rl1 p1
    have h1 := OutsOk.ext ex1 h
    refine ⟨av, β1, s, μ1, rl1, sr.ext ex1, ?_⟩
    simp only [R.bind] at h1
    cases e2 : b s μ1 with
    | bad => rw [e2] at h1; exact h1
    | err c p μ' => rw [e2] at h1; exact h1
    | ok w μ2 =>
      rw [e2] at h1
      exact fun y H2 β2 ex2 rl2 p2 => OutsOk.ext ex2 h1 _ H2 β2 .refl rl2 (.cons (p1.ext ex2) p2)
theorem mas_cons {e : Expr} {es : List Expr} {a : ME} {b : MEs} (ha : PM X XR E e a) (hb : PMs X XR E es b) (hs : starEach (e :: es) X.env = (false, eval e X.env) :: starEach es X.env := by rfl) : PMs X XR E (e :: es) (msCons a b) :=
  PA.imp (pa_cons ha hb hs) tms_cons
/-- arguments, then more -/
theorem tms_e {K : PySem.W.Frag} {av : List Addr} {σ : L2.St} {H : Hp} {m : MEs} {k : List PV → MH → R PV} {β : List Addr} {s : MS} {μ : MH} {Q : List V → Hp → Prop} {Q' : VK} (rl : Rl ⟨K, av⟩ H β μ) (sr : SRel ⟨K, av⟩ H β s σ) (h : OutOk ⟨K, av⟩ XR H β (E σ) Q' ((m s μ).bind k))
    (q : ∀ v μ' x H' β', m s μ = .ok v μ' → Ext H β H' β' → Rl ⟨K, av⟩ H' β' μ' → SRel ⟨K, av⟩ H' β' s σ → PRels ⟨K, av⟩ H' β' v x → OutOk ⟨K, av⟩ XR H' β' (E σ) Q' (k v μ') → Q x H') : tMs K XR E m σ H Q := by
  refine ⟨av, β, s, μ, rl, sr, ?_⟩
  cases e : m s μ with
  | bad => rw [e] at h; exact h
  | err c p μ' => rw [e] at h; exact h
  | ok v μ' =>
    rw [e] at h
    exact fun x H' β' ex rl' pr => q v μ' x H' β' e ex rl' (sr.ext ex) pr (OutOk.ext ex h)
/-- a new tuple, a new list that is frozen, a new list that is a place -/
@[simp] def fTup (xs : List PV) (μ : MH) : R PV := if xs.length ≤ sizeLine then .ok (.tup xs) μ else .bad
@[simp] def fFrl (xs : List PV) (μ : MH) : R PV := if xs.length ≤ sizeLine then .ok (.frl xs) μ else .bad
@[simp] def fLst (xs : List PV) (μ : MH) : R PV := if xs.length ≤ sizeLine then .ok (.ref μ.length) (μ ++ [.lst xs]) else .bad
theorem fTup_ok {K : Gx} {H : Hp} {β : List Addr} {μ : MH} {E : XK} {Q : VK} {vs : List PV} {xs : List V} (rl : Rl K H β μ) (p : PRels K H β vs xs) (h : OutOk K XR H β E Q (fTup vs μ)) : xs.length ≤ sizeLine ∧ ∀ p, H p = none → Q (.ref p) (upd H p (.tup xs)) := by
  unfold fTup at h
  split at h
  · rename_i hl
    refine ⟨by rw [← p.length]; exact hl, fun a ha => h _ _ β (Ext.new rl ha _) (rl.new ha _) ?_⟩
    unfold PRel
    exact ⟨a, xs, rfl, ⟨upd_same, rl.fresh ha⟩, PRels.ext (Ext.new rl ha _) _ p⟩
  · exact h.elim
theorem fFrl_ok {K : Gx} {H : Hp} {β : List Addr} {μ : MH} {E : XK} {Q : VK} {vs : List PV} {xs : List V} (rl : Rl K H β μ) (p : PRels K H β vs xs) (h : OutOk K XR H β E Q (fFrl vs μ)) : xs.length ≤ sizeLine ∧ ∀ p, H p = none → Q (.ref p) (upd H p (.lst xs)) := by
  unfold fFrl at h
  split at h
  · rename_i hl
    refine ⟨by rw [← p.length]; exact hl, fun a ha => h _ _ β (Ext.new rl ha _) (rl.new ha _) ?_⟩
    unfold PRel
    exact ⟨a, xs, rfl, ⟨upd_same, rl.fresh ha⟩, PRels.ext (Ext.new rl ha _) _ p⟩
  · exact h.elim
theorem fLst_ok {K : Gx} {H : Hp} {β : List Addr} {μ : MH} {E : XK} {Q : VK} {vs : List PV} {xs : List V} (rl : Rl K H β μ) (p : PRels K H β vs xs) (h : OutOk K XR H β E Q (fLst vs μ)) : xs.length ≤ sizeLine ∧ ∀ p, H p = none → Q (.ref p) (upd H p (.lst xs)) := by
  unfold fLst at h
  split at h
  · rename_i hl
    refine ⟨by rw [← p.length]; exact hl, fun a ha => h _ _ (β ++ [a]) (Ext.place rl ha _) (rl.place ha ⟨xs, upd_same, PRels.ext (Ext.place rl ha _) _ p⟩) ?_⟩
    exact PRel.place rl
  · exact h.elim
theorem me_tup {es : List Expr} {m : MEs} {x1} {pos : Pos} (h : PMs X XR E es m) : PM X XR E (.Tuple es x1 pos) (mCallP fTup m) :=
  PE.imp (pe_tup h) fun σ H Q ⟨av, β, s, μ, rl, sr, h⟩ => by
    unfold tTup
    exact tms_e rl sr h fun v μ' x H' β' _ ex rl' _ p q => fTup_ok rl' p q
theorem me_frl {es : List Expr} {m : MEs} {pos : Pos} (h : PMs X XR E es m) : PM X XR E (.List es pos) (mCallP fFrl m) :=
  PE.imp (pe_lst h) fun σ H Q ⟨av, β, s, μ, rl, sr, h⟩ => by
    unfold tLst
    exact tms_e rl sr h fun v μ' x H' β' _ ex rl' _ p q => fFrl_ok rl' p q
theorem me_lst {es : List Expr} {m : MEs} {pos : Pos} (h : PMs X XR E es m) : PM X XR E (.List es pos) (mCallP fLst m) :=
  PE.imp (pe_lst h) fun σ H Q ⟨av, β, s, μ, rl, sr, h⟩ => by
    unfold tLst
    exact tms_e rl sr h fun v μ' x H' β' _ ex rl' _ p q => fLst_ok rl' p q

/-! ### calls by values -/
def CallM (K : PySem.W.Frag) (XR : XRel) (f : List PV → MH → R PV) (r : List V → Hp → VK → Prop) : Prop :=
  ∀ (av : List Addr) (E : XK) (H : Hp) (β : List Addr) (μ : MH) (v : List PV) (x : List V) (Q : VK), Rl ⟨K, av⟩ H β μ → PRels ⟨K, av⟩ H β v x → OutOk ⟨K, av⟩ XR H β E Q (f v μ) → r x H Q
theorem tm_cb {K : PySem.W.Frag} {r : List V → Hp → VK → Prop} {f : List PV → MH → R PV} {m : MEs} (hf : CallM K XR f r) (σ : L2.St) (H : Hp) (Q : VK) (h : tM K XR E (mCallP f m) σ H Q) : tCB r (tMs K XR E m) σ H Q := by
  obtain ⟨av, β, s, μ, rl, sr, h⟩ := h
  unfold tCB
  exact tms_e rl sr h fun v μ' x H' β' _ ex rl' _ p q => hf _ _ H' β' μ' v x Q rl' p q
theorem me_callB {x : Str} {p pos : Pos} {e : Expr} {es : List Expr} {id : String} {r : List V → Hp → VK → Prop} {f : List PV → MH → R PV} {m : MEs} (hc : CallR X (.builtin id) r) (hf : CallM X.K XR f r) (hg : Gl X x) (hm : X.mg x = none) (hv : bootBuiltins x = some (.builtin id)) (ha : PMs X XR E (e :: es) m)
    (hn : x ≠ "__name__" := by decide) (hdb : (x == ("__debug__" : Str)) = false := by decide)
    (he : starEach (e :: es) X.env = (false, eval e X.env) :: starEach es X.env := by rfl) (hpl : (backTo pos (starEach es X.env)).any (·.1) = false := by rfl) : PM X XR E (.Call (.Name x p) (e :: es) [] pos) (mCallP f m) :=
  PE.imp (pe_callB hc hg hm hv ha hn hdb he hpl) (tm_cb hf)
theorem me_callTy {x : Str} {p pos : Pos} {e : Expr} {es : List Expr} {T : String} {r : List V → Hp → VK → Prop} {f : List PV → MH → R PV} {m : MEs} (hc : CallR X (.type T) r) (hf : CallM X.K XR f r) (hg : Gl X x) (hm : X.mg x = none) (hv : bootBuiltins x = some (.type T)) (ha : PMs X XR E (e :: es) m)
    (hn : x ≠ "__name__" := by decide) (hdb : (x == ("__debug__" : Str)) = false := by decide)
    (he : starEach (e :: es) X.env = (false, eval e X.env) :: starEach es X.env := by rfl) (hpl : (backTo pos (starEach es X.env)).any (·.1) = false := by rfl) : PM X XR E (.Call (.Name x p) (e :: es) [] pos) (mCallP f m) :=
  PE.imp (pe_callTy hc hg hm hv ha hn hdb he hpl) (tm_cb hf)

/-! ### statements -/
theorem ss_nil : PSsM X XR E [] sNil := PSs.imp pss_nil fun D σ H ⟨av, β, s, μ, rl, sr, h⟩ => h σ H β .refl rl sr
theorem SOutOk.mono {K : Gx} {H : Hp} {β : List Addr} {D D' : Ends} {r : RS} (h : SOutOk K XR H β E D r) (hn : ∀ σ H, D.nx σ H → D'.nx σ H) (hr : ∀ v H, D.rt v H → D'.rt v H) (hb : ∀ σ H, D.bk σ H → D'.bk σ H) (hc : ∀ σ H, D.ct σ H → D'.ct σ H) : SOutOk K XR H β E D' r := by
  cases r with
  | nx s μ => exact fun x H' β' a b c => hn _ _ (h x H' β' a b c)
  | rt v μ => exact fun x H' β' a b c => hr _ _ (h x H' β' a b c)
  | bk s μ => exact fun x H' β' a b c => hb _ _ (h x H' β' a b c)
  | ct s μ => exact fun x H' β' a b c => hc _ _ (h x H' β' a b c)
  | er c p s μ => exact h
  | bad => exact h
theorem sseq_ok {K : PySem.W.Frag} {a b : MSt} {u : TS} (hu : ∀ D σ H, tSM K XR E b D σ H → u D σ H) (D : Ends) (σ : L2.St) (H : Hp) (h : tSM K XR E (sSeq a b) D σ H) : tSeq (tSM K XR E a) u D σ H := by
  obtain ⟨av, β, s, μ, rl, sr, h⟩ := h
  refine ⟨av, β, s, μ, rl, sr, ?_⟩
  unfold sSeq at h
  cases e : a s μ with
  | nx s1 μ1 =>
    rw [e] at h
    exact fun σ' H' β' ex rl' sr' => hu _ _ _ ⟨av, β', s1, μ1, rl', sr', SOutOk.ext ex h⟩
  | rt v μ => rw [e] at h; exact h
  | bk s μ => rw [e] at h; exact h
  | ct s μ => rw [e] at h; exact h
  | er c p s μ => rw [e] at h; exact h
  | bad => rw [e] at h; exact h
theorem ss_cons {st : Stmt} {rest : List Stmt} {a b : MSt} (h1 : PSM X XR E st a) (h2 : PSsM X XR E rest b) : PSsM X XR E (st :: rest) (sSeq a b) :=
  PSs.imp (pss_cons h1 h2) fun D σ H h => sseq_ok (fun _ _ _ h => h) D σ H h
theorem ss_one {st : Stmt} {a : MSt} (h1 : PSM X XR E st a) : PSsM X XR E [st] a := pss_one h1
theorem sm_pass {pos : Pos} : PSM X XR E (.Pass pos) sPass := PS.imp ps_pass fun D σ H ⟨av, β, s, μ, rl, sr, h⟩ => h σ H β .refl rl sr
theorem sm_doc {x j pos pos'} : PSM X XR E (.Expr (.Constant (.str x) j pos) pos') sPass := PS.imp ps_doc fun D σ H ⟨av, β, s, μ, rl, sr, h⟩ => h σ H β .refl rl sr
theorem sm_break {pos : Pos} : PSM X XR E (.Break pos) sBreak := PS.imp ps_break fun D σ H ⟨av, β, s, μ, rl, sr, h⟩ => h σ H β .refl rl sr
theorem sm_cont {pos : Pos} : PSM X XR E (.Continue pos) sCont := PS.imp ps_continue fun D σ H ⟨av, β, s, μ, rl, sr, h⟩ => h σ H β .refl rl sr
theorem sm_expr {e : Expr} {m : ME} {pos : Pos} (he : PM X XR E e m) (hs : swapsWith e none pos.line X.env = pure false := by rfl) : PSM X XR E (.Expr e pos) (sExpr m) :=
  PS.imp (ps_expr he hs) fun D σ H ⟨av, β, s, μ, rl, sr, h⟩ => by
    unfold tDrop
    exact tm_s rl sr h fun v μ' x H' β' _ ex rl' sr' p q => q σ H' β' .refl rl' sr'
theorem sm_ret {e : Expr} {m : ME} {pos : Pos} (he : PM X XR E e m) : PSM X XR E (.Return (some e) pos) (sRet m) :=
  PS.imp (ps_ret he) fun D σ H ⟨av, β, s, μ, rl, sr, h⟩ => by
    unfold tRet
    exact tm_s rl sr h fun v μ' x H' β' _ ex rl' sr' p q => q x H' β' .refl rl' p
theorem sm_retN {pos : Pos} : PSM X XR E (.Return none pos) sRetN := PS.imp ps_retN fun D σ H ⟨av, β, s, μ, rl, sr, h⟩ => h _ H β .refl rl .non_
theorem sm_if {c : Expr} {a b : List Stmt} {mc : MB} {ma mb : MSt} {pos : Pos} (hc : PMb X XR E c mc) (ha : PSsM X XR E a ma) (hb : PSsM X XR E b mb) : PSM X XR E (.If c a b pos) (sIf mc ma mb) :=
  PS.imp (ps_if hc ha hb) fun D σ H ⟨av, β, s, μ, rl, sr, h⟩ => by
    unfold tIfS
    refine tmb_s rl sr h fun v μ' H' β' _ ex rl' sr' q => ?_
    cases v with
    | true => exact ⟨av, β', s, μ', rl', sr', q⟩
    | false => exact ⟨av, β', s, μ', rl', sr', q⟩
end
end Mini

/-! M3: targets, assignments, loops, comprehensions, defs, calls of defs. -/
namespace Mini
open PySem L2

/-! ### targets that are names -/
inductive MT where
  | nm (i : Nat)
  | tp (ts : List MT)
mutual
def tgOf (K : PySem.W.Frag) : MT → TG
  | .nm i => gName i
  | .tp ts => gTup K ts.length (tgsOf K ts)
def tgsOf (K : PySem.W.Frag) : List MT → TGs
  | [] => gNil
  | t :: ts => gCons (tgOf K t) (tgsOf K ts)
end
mutual
def bindT : MT → PV → MS → Option MS
  | .nm i, v, s => some (s.set i (some v))
  | .tp ts, .tup vs, s => bindTs ts vs s
  | .tp ts, .ctp vs, s => bindTs ts vs s
  | .tp _, _, _ => none
def bindTs : List MT → List PV → MS → Option MS
  | [], [], s => some s
  | t :: ts, v :: vs, s => match bindT t v s with
    | some s1 => bindTs ts vs s1
    | none => none
  | _, _, _ => none
end
mutual
def slotsT : MT → List Nat
  | .nm i => [i]
  | .tp ts => slotsTs ts
def slotsTs : List MT → List Nat
  | [] => []
  | t :: ts => slotsT t ++ slotsTs ts
end
section
variable {K : Gx} {H H' : Hp} {β β' : List Addr} {μ μ' : MH} {XR : XRel}
theorem SRel.set {s : MS} {σ : L2.St} {i : Nat} {v : PV} {x : V} (sr : SRel K H β s σ) (p : PRel K H β v x) : SRel K H β (s.set i (some v)) (σ.set i (some x)) := by
  refine ⟨by simp [sr.len], fun j w h => ?_⟩
  by_cases hj : i = j
  · subst hj
    have hl : i < s.length := by
      obtain ⟨q, _⟩ := List.getElem?_eq_some_iff.mp h
      simpa using q
    rw [List.getElem?_set_self hl] at h
    cases h
    exact ⟨x, by rw [List.getElem?_set_self (by rw [← sr.len]; exact hl)], p⟩
  · rw [List.getElem?_set_ne hj] at h
    obtain ⟨y, e, q⟩ := sr.at_ j w h
    exact ⟨y, by rw [List.getElem?_set_ne hj]; exact e, q⟩
/-- outside some slots nothing has changed -/
def Same0 (is : List Nat) (σ σ' : L2.St) : Prop := σ.length = σ'.length ∧ ∀ j, j ∉ is → σ'[j]? = σ[j]?
theorem ctp_inv {vs : List PV} {x : V} (p : PRel K H β (.ctp vs) x) : ∃ a xs, x = .ref a ∧ CT K H β a xs ∧ PRels K H β vs xs := by unfold PRel at p; exact p
theorem tup_inv {vs : List PV} {x : V} (p : PRel K H β (.tup vs) x) : ∃ a xs, x = .ref a ∧ SqTf K H β a xs ∧ PRels K H β vs xs := by unfold PRel at p; exact p
mutual
theorem tg_ok : ∀ (t : MT) {v : PV} {x : V} {s s' : MS} {σ : L2.St} {Q : L2.St → Hp → Prop}, SRel K H β s σ → PRel K H β v x → bindT t v s = some s' →
    (∀ σ', SRel K H β s' σ' → Same0 (slotsT t) σ σ' → Q σ' H) → tgOf K.fr t x σ H Q
  | .nm i, v, x, s, s', σ, Q, sr, p, e, q => by
    unfold bindT at e
    cases e
    unfold tgOf
    exact q _ (sr.set p) ⟨by simp, fun j hj => by
      unfold slotsT at hj
      rw [List.getElem?_set_ne (by simp at hj; exact fun z => hj z.symm)]⟩
  | .tp ts, v, x, s, s', σ, Q, sr, p, e, q => by
    unfold bindT at e
    cases v <;> first
      | (rename_i vs
         unfold tgOf
         obtain ⟨a, xs, e1, h1, h2⟩ := tup_inv p
         refine ⟨a, xs, e1, h1.sq, ?_, tgs_ok ts sr h2 e q⟩
         rw [← h2.length]
         exact bindTs_len ts vs e)
      | (rename_i vs
         unfold tgOf
         obtain ⟨a, xs, e1, h1, h2⟩ := ctp_inv p
         refine ⟨a, xs, e1, h1.sq, ?_, tgs_ok ts sr h2 e q⟩
         rw [← h2.length]
         exact bindTs_len ts vs e)
      | cases e
theorem tgs_ok : ∀ (ts : List MT) {vs : List PV} {xs : List V} {s s' : MS} {σ : L2.St} {Q : L2.St → Hp → Prop}, SRel K H β s σ → PRels K H β vs xs → bindTs ts vs s = some s' →
    (∀ σ', SRel K H β s' σ' → Same0 (slotsTs ts) σ σ' → Q σ' H) → tgsOf K.fr ts xs σ H Q
  | [], vs, xs, s, s', σ, Q, sr, p, e, q => by
    cases vs with
    | nil =>
      unfold bindTs at e
      cases e
      unfold tgsOf
      rw [PRels.nil_iff] at p
      exact ⟨p, q σ sr ⟨rfl, fun _ _ => rfl⟩⟩
    | cons v vs => unfold bindTs at e; cases e
  | t :: ts, vs, xs, s, s', σ, Q, sr, p, e, q => by
    cases vs with
    | nil => unfold bindTs at e; cases e
    | cons v vs =>
      unfold bindTs at e
      cases e1 : bindT t v s with
      | none => rw [e1] at e; cases e
      | some s1 =>
        rw [e1] at e
        obtain ⟨y, ys, rfl, r1, r2⟩ := p.inv
        unfold tgsOf
        refine ⟨y, ys, rfl, tg_ok t sr r1 e1 fun σ1 sr1 sm1 => tgs_ok ts sr1 r2 e fun σ2 sr2 sm2 => q σ2 sr2 ⟨sm1.1.trans sm2.1, fun j hj => ?_⟩⟩
        unfold slotsTs at hj
        rw [List.mem_append, not_or] at hj
        rw [sm2.2 j hj.2, sm1.2 j hj.1]
theorem bindTs_len : ∀ (ts : List MT) (vs : List PV) {s s' : MS}, bindTs ts vs s = some s' → vs.length = ts.length
  | [], [], _, _, _ => rfl
  | [], _ :: _, _, _, e => by unfold bindTs at e; cases e
  | _ :: _, [], _, _, e => by unfold bindTs at e; cases e
  | t :: ts, v :: vs, s, s', e => by
    unfold bindTs at e
    cases e1 : bindT t v s with
    | none => rw [e1] at e; cases e
    | some s1 =>
      rw [e1] at e
      simp [bindTs_len ts vs e]
end
end

/-! ### assignments -/
@[simp] def sAsg (t : MT) (a : ME) : MSt := fun s μ => sBind (a s μ) s fun v μ1 => match bindT t v s with
  | some s1 => .nx s1 μ1
  | none => .bad
/-- o[i] = e by values -/
@[simp] def sSub (o i e : ME) (f : PV → PV → PV → MH → Option MH) : MSt := fun s μ => sBind (e s μ) s fun v μ1 => sBind (o s μ1) s fun ov μ2 => sBind (i s μ2) s fun iv μ3 => match f ov iv v μ3 with
  | some μ4 => .nx s μ4
  | none => .bad
@[simp] def sAug (i : Nat) (e : ME) (f : PV → PV → MH → R PV) : MSt := fun s μ => match s[i]? with
  | some (some v) => sBind (e s μ) s fun w μ1 => sBind (f v w μ1) s fun z μ2 => .nx (s.set i (some z)) μ2
  | _ => .bad
/-- a, b = e1, e2 -/
@[simp] def sPar (i j : Nat) (e : MEs) : MSt := fun s μ => sBind (e s μ) s fun vs μ1 => match vs with
  | [v, w] => .nx ((s.set i (some v)).set j (some w)) μ1
  | _ => .bad
section
variable {X : Cx} {XR : XRel} {E : L2.St → XK}
theorem tasg_ok {K : PySem.W.Frag} {t : MT} {m : ME} (D : Ends) (σ : L2.St) (H : Hp) (h : tSM K XR E (sAsg t m) D σ H) : tAsg (tM K XR E m) (tgOf K t) D σ H := by
  obtain ⟨av, β, s, μ, rl, sr, h⟩ := h
  unfold tAsg
  refine tm_s rl sr h fun v μ' x H' β' _ ex rl' sr' p q => ?_
  cases e : bindT t v s with
  | none => rw [e] at q; exact q.elim
  | some s1 =>
    rw [e] at q
    exact tg_ok t sr' p e fun σ' sr1 _ => q σ' H' β' .refl rl' sr1
theorem sm_asg {tg e : Expr} {t : MT} {m : ME} {pos : Pos} (he : PM X XR E e m) (hg : PG X tg (tgOf X.K t)) (hs : swapsWithSole [tg] e pos.line X.env = pure false := by rfl) (hw : swappedStores [tg] e X.env = pure none := by rfl)
    (h1 : (assignEach [tg] X.env).map (·.2) = [assign tg X.env] := by rfl) : PSM X XR E (.Assign [tg] e pos) (sAsg t m) :=
  PS.imp (ps_asg he hg hs hw h1) fun D σ H h => tasg_ok D σ H h
theorem mg_nm {i : Nat} {x : Str} {pos : Pos} (hN : X.N.Nodup) (hi : X.N[i]? = some x) (hx : Loc X.env.scope x) (hf : X.fn x = true ∨ X.env.scope.names.lookup x = some .local := by first | exact .inl rfl | exact .inr rfl | assumption) : PG X (.Name x pos) (tgOf X.K (.nm i)) := by
  unfold tgOf; exact pg_name hN hi hx hf
theorem mgs_nil : PGs X [] (tgsOf X.K []) := by unfold tgsOf; exact pgs_nil
theorem mgs_cons {e : Expr} {es : List Expr} {t : MT} {ts : List MT} (h1 : PG X e (tgOf X.K t)) (h2 : PGs X es (tgsOf X.K ts)) (hs : (assignEach (e :: es) X.env).map (·.2) = assign e X.env :: (assignEach es X.env).map (·.2) := by rfl) : PGs X (e :: es) (tgsOf X.K (t :: ts)) := by
  unfold tgsOf; exact pgs_cons h1 h2 hs
theorem mg_tp {es : List Expr} {k : Nat} {ts : List MT} {pos : Pos} (hc : X.calm = true) (h : PGs X es (tgsOf X.K ts)) (hn : (assignEach es X.env).length = ts.length := by rfl) (hst : (assignEach es X.env).findIdx? (·.1) = none := by rfl) : PG X (.Tuple es k pos) (tgOf X.K (.tp ts)) := by
  unfold tgOf; exact pg_tup hc h hn hst
theorem sm_set {i : Nat} {x : Str} {e : Expr} {m : ME} {pos pos' : Pos} (hN : X.N.Nodup) (hi : X.N[i]? = some x) (hx : Loc X.env.scope x) (he : PM X XR E e m) (hs : swapsWith e (some (.Name x pos')) pos.line X.env = pure false := by rfl) (hf : X.fn x = true ∨ X.env.scope.names.lookup x = some .local := by first | exact .inl rfl | exact .inr rfl | assumption) :
    PSM X XR E (.Assign [.Name x pos'] e pos) (sAsg (.nm i) m) :=
  PS.imp (ps_set hN hi hx he hs hf) fun D σ H h => by
    have := tasg_ok D σ H h
    unfold tgOf at this
    exact this
def SetM (K : PySem.W.Frag) (f : PV → PV → PV → MH → Option MH) (r : TSet) : Prop :=
  ∀ (av : List Addr) (H : Hp) (β : List Addr) (μ μ' : MH) (o i v : PV) (ox ix vx : V) (Q : Hp → Prop), Rl ⟨K, av⟩ H β μ → PRel ⟨K, av⟩ H β o ox → PRel ⟨K, av⟩ H β i ix → PRel ⟨K, av⟩ H β v vx → f o i v μ = some μ' → (∀ H', Ext H β H' β → Rl ⟨K, av⟩ H' β μ' → Q H') → r ox ix vx H Q
theorem sm_sub {o i e : Expr} {mo mi m : ME} {f : PV → PV → PV → MH → Option MH} {r : TSet} {pos spos : Pos} (he : PM X XR E e m) (hp : PG X (.Subscript o i pos) (gSub (tM X.K XR E mo) (tM X.K XR E mi) r)) (hf : SetM X.K f r)
    (hs1 : swapsWithSole [.Subscript o i pos] e spos.line X.env = pure false := by rfl) (hw : swappedStores [.Subscript o i pos] e X.env = pure none := by rfl)
    (h1 : (assignEach [.Subscript o i pos] X.env).map (·.2) = [assign (.Subscript o i pos) X.env] := by rfl) : PSM X XR E (.Assign [.Subscript o i pos] e spos) (sSub mo mi m f) :=
  PS.imp (ps_asg he hp hs1 hw h1) fun D σ H ⟨av, β, s, μ, rl, sr, h⟩ => by
    unfold tAsg gSub
    refine tm_s rl sr h fun v μ1 x H1 β1 _ ex1 rl1 sr1 p1 q1 => ?_
    refine tm_s rl1 sr1 q1 fun ov μ2 ox H2 β2 _ ex2 rl2 sr2 p2 q2 => ?_
    refine tm_s rl2 sr2 q2 fun iv μ3 ix H3 β3 _ ex3 rl3 sr3 p3 q3 => ?_
    cases e : f ov iv v μ3 with
    | none => rw [e] at q3; exact q3.elim
    | some μ4 =>
      rw [e] at q3
      exact hf _ H3 β3 μ3 μ4 ov iv v ox ix x _ rl3 (p2.ext ex3) p3 ((p1.ext ex2).ext ex3) e fun H' ex rl' => q3 σ H' β3 ex rl' (sr3.ext ex)
def IpM (K : PySem.W.Frag) (XR : XRel) (f : PV → PV → MH → R PV) (r : TIp) : Prop := OpM K XR f r
theorem sm_aug {i : Nat} {x : Str} {e : Expr} {m : ME} {op : Operator} {r : TIp} {f : PV → PV → MH → R PV} {pos pos' : Pos} (hN : X.N.Nodup) (hi : X.N[i]? = some x) (hx : Loc X.env.scope x) (he : PM X XR E e m) (ho : PIp X op r) (hop : OpM X.K XR f r)
    (hf : X.fn x = true ∨ X.env.scope.names.lookup x = some .local := by first | exact .inl rfl | exact .inr rfl | assumption) : PSM X XR E (.AugAssign (.Name x pos') op e pos) (sAug i m f) :=
  PS.imp (ps_aug hN hi hx he ho hf) fun D σ H ⟨av, β, s, μ, rl, sr, h⟩ => by
    unfold tAug
    unfold sAug at h
    split at h
    · rename_i v hv
      obtain ⟨y, e1, p0⟩ := sr.at_ i v hv
      refine ⟨y, e1, ?_⟩
      refine tm_s rl sr h fun w μ1 x H1 β1 _ ex1 rl1 sr1 p1 q1 => ?_
      refine hop av (E σ) H1 β1 μ1 v w y x _ rl1 (p0.ext ex1) p1 ?_
      cases e2 : f v w μ1 with
      | bad => rw [e2] at q1; exact q1
      | err c p μ' => rw [e2] at q1; exact fun cls d H' β' ex rl' xr => q1 cls d σ H' β' ex rl' (sr1.ext ex) xr
      | ok z μ2 =>
        rw [e2] at q1
        exact fun zx H2 β2 ex2 rl2 p2 => q1 _ H2 β2 ex2 rl2 ((sr1.ext ex2).set p2)
    · exact h.elim
theorem sm_par {i j : Nat} {tg : List Expr} {v : Expr} {m : MEs} {pos : Pos} (hp : PS X (.Assign tg v pos) (tPar i j (tMs X.K XR E m))) : PSM X XR E (.Assign tg v pos) (sPar i j m) :=
  PS.imp hp fun D σ H ⟨av, β, s, μ, rl, sr, h⟩ => by
    unfold tPar
    refine ⟨av, β, s, μ, rl, sr, ?_⟩
    unfold sPar at h
    cases e : m s μ with
    | bad => rw [e] at h; exact h
    | err c p μ' => rw [e] at h; exact fun cls d H' β' ex rl' xr => h cls d σ H' β' ex rl' (sr.ext ex) xr
    | ok vs μ1 =>
      rw [e] at h
      intro xs H' β' ex rl' p
      have q := SOutOk.ext ex h
      simp only [sBind] at q
      split at q
      · rename_i v w
        obtain ⟨y1, ys, rfl, r1, r2⟩ := p.inv
        obtain ⟨y2, ys2, rfl, r3, r4⟩ := r2.inv
        rw [PRels.nil_iff] at r4
        subst r4
        exact ⟨y1, y2, rfl, q _ H' β' .refl rl' (((sr.ext ex).set r1).set r3)⟩
      · exact q.elim

/-! ### while -/
def whileGo (c : MB) (b : MSt) : Nat → MSt
  | 0 => fun _ _ => .bad
  | n + 1 => fun s μ => sBind (c s μ) s fun k μ1 => if k then (match b s μ1 with
      | .nx s2 μ2 => whileGo c b n s2 μ2
      | .ct s2 μ2 => whileGo c b n s2 μ2
      | .bk s2 μ2 => .nx s2 μ2
      | r => r) else .nx s μ1
/-- the fuel of a while loop -/
@[irreducible] def bigN : Nat := 2 ^ 20000
def sWhile (c : MB) (b : MSt) : MSt := whileGo c b bigN
theorem sm_while {c : Expr} {body : List Stmt} {mc : MB} {mb : MSt} {pos : Pos} (hp : PassesOwn (model X.prog X.w) X.A X.env X.xe) (hc : PMb X XR E c mc) (hb : PSsM X XR E body mb) : PSM X XR E (.While c body [] pos) (sWhile mc mb) :=
  PS.imp (ps_while hp hc hb) fun D σ H h => by
    refine ⟨fun m σ H => tSM X.K XR E (whileGo mc mb m) D σ H, ⟨bigN, h⟩, ?_⟩
    rintro m σ H ⟨av, β, s, μ, rl, sr, h⟩
    cases m with
    | zero => exact h.elim
    | succ m =>
      unfold whileGo at h
      refine tmb_s rl sr h fun v μ' H' β' _ ex rl' sr' q => ?_
      cases v with
      | false => exact q σ H' β' .refl rl' sr'
      | true =>
        refine ⟨fun σ' H' => tSM X.K XR E (whileGo mc mb m) D σ' H', fun σ' H' w => ⟨m, Nat.lt_succ_self _, w⟩, ?_⟩
        refine ⟨av, β', s, μ', rl', sr', ?_⟩
        simp only [if_true] at q
        cases e : mb s μ' with
        | nx s2 μ2 => rw [e] at q; exact fun σ2 H2 β2 ex2 rl2 sr2 => ⟨av, β2, s2, μ2, rl2, sr2, SOutOk.ext ex2 q⟩
        | ct s2 μ2 => rw [e] at q; exact fun σ2 H2 β2 ex2 rl2 sr2 => ⟨av, β2, s2, μ2, rl2, sr2, SOutOk.ext ex2 q⟩
        | bk s2 μ2 => rw [e] at q; exact q
        | rt v μ2 => rw [e] at q; exact q
        | er c p s μ => rw [e] at q; exact q
        | bad => rw [e] at q; exact q

/-! ### what a loop walks -/
structure Plan where
  vals : List PV
  chk : MH → Bool
def PlanOk (K : Gx) (H0 : Hp) (β0 : List Addr) (p : Plan) (J : It) : Prop :=
  ∀ (av : List Addr), (∀ a ∈ av, a ∈ K.av ∨ H0 a = none) → ∀ (H : Hp) (β : List Addr) (μ : MH), ExtW av H0 β0 H β → Rl ⟨K.fr, av⟩ H β μ → p.chk μ = true → ∀ i, match p.vals[i]? with
    | some v => J.go i H ∧ ∀ x H', J.yld i H x H' → Ext H β H' β ∧ Rl ⟨K.fr, av⟩ H' β μ ∧ PRel ⟨K.fr, av⟩ H' β v x
    | none => J.stop i H
abbrev MI := MS → MH → R Plan
def IOutOk (K : Gx) (XR : XRel) (H : Hp) (β : List Addr) (E : XK) (Q : It → Hp → Prop) : R Plan → Prop
  | .ok p μ => ∀ J H' β', Ext H β H' β' → Rl K H' β' μ → PlanOk K H' β' p J → Q J H'
  | .err c p μ => ∀ cls d H' β', Ext H β H' β' → Rl K H' β' μ → XR c p cls d H' β' → E cls d H'
  | .bad => False
def tI (K : PySem.W.Frag) (XR : XRel) (E : L2.St → XK) (m : MI) : TI := fun σ H Q => ∃ av β s μ, Rl ⟨K, av⟩ H β μ ∧ SRel ⟨K, av⟩ H β s σ ∧ IOutOk ⟨K, av⟩ XR H β (E σ) Q (m s μ)
abbrev PIM (X : Cx) (XR : XRel) (E : L2.St → XK) (tg e : Expr) (m : MI) : Prop := PI X tg e (tI X.K XR E m)
theorem PI.imp {tg e : Expr} {t t' : TI} (h : PI X tg e t) (i : ∀ σ H Q, t' σ H Q → t σ H Q) : PI X tg e t' := ⟨fun pins s σ H Q I q => h.run pins s σ H Q I (i _ _ _ q)⟩
def forGo (chk : MH → Bool) (t : MT) (b : MSt) : List PV → MSt
  | [] => fun s μ => if chk μ then .nx s μ else .bad
  | v :: vs => fun s μ => if chk μ then (match bindT t v s with
      | none => .bad
      | some s1 => match b s1 μ with
        | .nx s2 μ2 => forGo chk t b vs s2 μ2
        | .ct s2 μ2 => forGo chk t b vs s2 μ2
        | .bk s2 μ2 => .nx s2 μ2
        | r => r) else .bad
def sFor (t : MT) (i : MI) (b : MSt) : MSt := fun s μ => sBind (i s μ) s fun p μ1 => forGo p.chk t b p.vals s μ1
theorem drop_get {α : Type} {l : List α} {i : Nat} {v : α} {vs : List α} (h : l.drop i = v :: vs) : l[i]? = some v ∧ l.drop (i + 1) = vs := by
  have h1 : (l.drop i)[0]? = some v := by rw [h]; rfl
  rw [List.getElem?_drop] at h1
  refine ⟨by simpa using h1, ?_⟩
  rw [← List.drop_drop, h]
  rfl
theorem sm_for {iter tg : Expr} {body : List Stmt} {t : MT} {mi : MI} {mb : MSt} {pos : Pos} (hp : PassesOwn (model X.prog X.w) X.A X.env X.xe) (hc : X.calm = true) (hi : PIM X XR E tg iter mi) (hg : PG X tg (tgOf X.K t)) (hb : PSsM X XR E body mb)
    (hs : ∀ x, foldedSetIterable iter X.env x = pure x := by intro _; rfl) : PSM X XR E (.For tg iter body [] pos) (sFor t mi mb) :=
  PS.imp (ps_for hp hc hi hg hb hs) fun D σ0 H0 ⟨av, β, s, μ, rl, sr, h⟩ => by
    refine ⟨av, β, s, μ, rl, sr, ?_⟩
    unfold sFor at h
    cases e : mi s μ with
    | bad => rw [e] at h; exact h
    | err c p μ' => rw [e] at h; exact fun cls d H' β' ex rl' xr => h cls d σ0 H' β' ex rl' (sr.ext ex) xr
    | ok p μ1 =>
      rw [e] at h
      intro J H1 β1 ex1 rl1 pl
      have h1 := SOutOk.ext ex1 h
      have sr1 := sr.ext ex1
      refine ⟨fun i m σ H => m = p.vals.length - i ∧ ∃ β s μ, Ext H1 β1 H β ∧ Rl ⟨X.K, av⟩ H β μ ∧ SRel ⟨X.K, av⟩ H β s σ ∧ SOutOk ⟨X.K, av⟩ XR H β E D (forGo p.chk t mb (p.vals.drop i) s μ), ⟨_, rfl, β1, s, μ1, .refl, rl1, sr1, h1⟩, ?_⟩
      rintro i m σ H ⟨rfl, β2, s2, μ2, ex2, rl2, sr2, h2⟩
      cases hd : p.vals.drop i with
      | nil =>
        rw [hd] at h2
        unfold forGo at h2
        split at h2
        · rename_i hk
          have q := pl av (fun a ha => .inl ha) H β2 μ2 ex2.toW rl2 hk i
          have hn : p.vals[i]? = none := by
            rw [List.getElem?_eq_none_iff]
            exact List.drop_eq_nil_iff.mp hd
          rw [hn] at q
          exact .inl ⟨q, h2 σ H β2 .refl rl2 sr2⟩
        · exact h2.elim
      | cons v vs =>
        rw [hd] at h2
        unfold forGo at h2
        obtain ⟨hv, hvs⟩ := drop_get hd
        have hlt : i < p.vals.length := (List.getElem?_eq_some_iff.mp hv).1
        split at h2
        · rename_i hk
          have q := pl av (fun a ha => .inl ha) H β2 μ2 ex2.toW rl2 hk i
          rw [hv] at q
          refine .inr ⟨q.1, fun σ' H' => ∃ β s μ, Ext H1 β1 H' β ∧ Rl ⟨X.K, av⟩ H' β μ ∧ SRel ⟨X.K, av⟩ H' β s σ' ∧ SOutOk ⟨X.K, av⟩ XR H' β E D (forGo p.chk t mb vs s μ), fun σ' H' ⟨b, s, m, a1, a2, a3, a4⟩ => ⟨p.vals.length - (i + 1), by omega, rfl, b, s, m, a1, a2, a3, by rw [hvs]; exact a4⟩, fun x H' y => ?_⟩
          obtain ⟨ex3, rl3, p3⟩ := q.2 x H' y
          have h3 := SOutOk.ext ex3 h2
          cases eb : bindT t v s2 with
          | none => rw [eb] at h3; exact h3.elim
          | some s3 =>
            rw [eb] at h3
            refine tg_ok t (sr2.ext ex3) p3 eb fun σ3 sr3 _ => ⟨av, β2, s3, μ2, rl3, sr3, ?_⟩
            simp only at h3
            cases em : mb s3 μ2 with
            | nx s4 μ4 => rw [em] at h3; exact fun σ' H' β' ex rl' sr' => ⟨β', s4, μ4, (ex2.trans ex3).trans ex, rl', sr', SOutOk.ext ex h3⟩
            | ct s4 μ4 => rw [em] at h3; exact fun σ' H' β' ex rl' sr' => ⟨β', s4, μ4, (ex2.trans ex3).trans ex, rl', sr', SOutOk.ext ex h3⟩
            | bk s4 μ4 => rw [em] at h3; exact h3
            | rt v μ2 => rw [em] at h3; exact h3
            | er c p s μ => rw [em] at h3; exact h3
            | bad => rw [em] at h3; exact h3
        · exact h2.elim
end
end Mini

/-! M4: comprehensions. -/
namespace Mini
open PySem L2

def wipeM (s : MS) : List Nat → MS
  | [] => s
  | v :: vs => (wipeM s vs).set v none
theorem SRel.wipe {K : Gx} {H : Hp} {β : List Addr} {s : MS} {σ : L2.St} (sr : SRel K H β s σ) : ∀ vs, SRel K H β (wipeM s vs) (wipe σ vs)
  | [] => sr
  | v :: vs => by
    have ih := SRel.wipe sr vs
    unfold wipeM L2.wipe
    refine ⟨by simp [ih.len], fun j w h => ?_⟩
    by_cases hj : v = j
    · subst hj
      have hl : v < (wipeM s vs).length := by
        obtain ⟨q, _⟩ := List.getElem?_eq_some_iff.mp h
        simpa using q
      rw [List.getElem?_set_self hl] at h
      cases h
    · rw [List.getElem?_set_ne hj] at h
      obtain ⟨y, e, q⟩ := ih.at_ j w h
      exact ⟨y, by rw [List.getElem?_set_ne hj]; exact e, q⟩
theorem wipe_get {σ : L2.St} {i : Nat} : ∀ {vs : List Nat}, i ∈ vs → i < σ.length → (wipe σ vs)[i]? = some none
  | v :: vs, h, hl => by
    unfold L2.wipe
    by_cases hv : v = i
    · subst hv
      rw [List.getElem?_set_self (by rw [wipe_length]; exact hl)]
    · rw [List.getElem?_set_ne hv]
      refine wipe_get ?_ hl
      rcases List.mem_cons.mp h with e | h
      · exact absurd e.symm hv
      · exact h
theorem wipe_of_same {σ σ' : L2.St} {is vs : List Nat} (h : Same0 is σ σ') (hs : ∀ i ∈ is, i ∈ vs) : wipe σ' vs = wipe σ vs := by
  apply List.ext_getElem?
  intro j
  by_cases hj : j ∈ vs
  · by_cases hl : j < σ.length
    · rw [wipe_get hj (by rw [← h.1]; exact hl), wipe_get hj hl]
    · rw [List.getElem?_eq_none (by rw [wipe_length, ← h.1]; omega), List.getElem?_eq_none (by rw [wipe_length]; omega)]
  · rw [wipe_out hj, wipe_out hj]
    exact h.2 j fun q => hj (hs j q)
theorem wipe_wipe {σ : L2.St} {vs : List Nat} : wipe (wipe σ vs) vs = wipe σ vs := by
  apply List.ext_getElem?
  intro j
  by_cases hj : j ∈ vs
  · by_cases hl : j < σ.length
    · rw [wipe_get hj (by rw [wipe_length]; exact hl), wipe_get hj hl]
    · rw [List.getElem?_eq_none (by rw [wipe_length, wipe_length]; omega), List.getElem?_eq_none (by rw [wipe_length]; omega)]
  · rw [wipe_out hj]

/-! ### comprehensions -/
/-- the turns of one clause: the items, the tests, what each turn appends -/
def compGo (chk : MH → Bool) (t : MT) (c : MB) (body : MS → MH → List PV → R (List PV)) (s : MS) : List PV → MH → List PV → R (List PV)
  | [], μ, acc => if chk μ then .ok acc μ else .bad
  | v :: vs, μ, acc => if chk μ then (match bindT t v s with
      | none => .bad
      | some s1 => (c s1 μ).bind fun k μ1 => if k then (body s1 μ1 acc).bind fun acc1 μ2 => compGo chk t c body s vs μ2 acc1 else compGo chk t c body s vs μ1 acc) else .bad
def noErr {α : Type} : R α → R α
  | .err _ _ _ => .bad
  | r => r
def oneElt (e : ME) : MS → MH → List PV → R (List PV) := fun s μ acc => (e s μ).bind fun v μ1 => if acc.length < sizeLine then .ok (acc ++ [v]) μ1 else .bad
/-- [e for t in i if c] as a frozen list -/
def mLc (vs : List Nat) (i : MI) (t : MT) (c : MB) (e : ME) : ME := fun s μ => (i s μ).bind fun p μ1 => (noErr (compGo p.chk t c (oneElt e) (wipeM s vs) p.vals μ1 [])).bind fun acc μ2 => .ok (.frl acc) μ2
def mLcL (vs : List Nat) (i : MI) (t : MT) (c : MB) (e : ME) : ME := fun s μ => (i s μ).bind fun p μ1 => (noErr (compGo p.chk t c (oneElt e) (wipeM s vs) p.vals μ1 [])).bind fun acc μ2 => .ok (.ref μ2.length) (μ2 ++ [.lst acc])
@[simp] def mbYes : MB := fun _ μ => .ok true μ
/-- two clauses -/
def twoElt (vs1 : List Nat) (i1 : MI) (t1 : MT) (c1 : MB) (e : ME) : MS → MH → List PV → R (List PV) := fun s1 μ2 acc => (i1 s1 μ2).bind fun p1 μ3 => compGo p1.chk t1 c1 (oneElt e) (wipeM s1 vs1) p1.vals μ3 acc
def mLc2 (vs vs1 : List Nat) (i : MI) (t : MT) (c : MB) (i1 : MI) (t1 : MT) (c1 : MB) (e : ME) : ME := fun s μ => (i s μ).bind fun p μ1 =>
  (noErr (compGo p.chk t c (twoElt vs1 i1 t1 c1 e) (wipeM s vs) p.vals μ1 [])).bind fun acc μ2 => .ok (.frl acc) μ2

section
variable {K : PySem.W.Frag} {av : List Addr} {XR : XRel} {D : Addr} {H H0 H1 H' : Hp} {β β0 β1 β' : List Addr} {μ : MH}
abbrev EF : L2.St → XK := fun _ _ _ _ => False
/-- D is written: no place, and in no value -/
theorem Ext.acc {u o : HO} (h : H D = some u) (e : Ext H0 β0 H β) (h0 : H0 D = none) : Ext H0 β0 (upd H D o) β :=
  ⟨e.pre, fun a w q hn' => by
    by_cases z : a = D
    · subst z; rw [h0] at q; cases q
    · rw [upd_ne z]; exact e.stay a w q hn', fun a q => by
    by_cases z : a = D
    · subst z; exact h0
    · rw [upd_ne z] at q; exact e.live a q⟩
theorem SqTf.acc {o : HO} {a : Addr} {xs : List V} (h : SqTf ⟨K, D :: av⟩ H β a xs) : SqTf ⟨K, D :: av⟩ (upd H D o) β a xs := by
  obtain ⟨h, n, na⟩ := h
  have : a ≠ D := fun e => na (by rw [e]; exact List.mem_cons_self)
  exact ⟨by rw [upd_ne this]; exact h, n, na⟩
theorem CT.acc {o : HO} {a : Addr} {xs : List V} (h : CT ⟨K, D :: av⟩ H β a xs) : CT ⟨K, D :: av⟩ (upd H D o) β a xs := by
  rcases h with ⟨⟨o, h, hc, hd⟩, n, na⟩ | h
  · have : a ≠ D := fun e => na (by rw [e]; exact List.mem_cons_self)
    exact .inl ⟨⟨o, by rw [upd_ne this]; exact h, hc, hd⟩, n, na⟩
  · exact .inr h
theorem SqLf.acc {o : HO} {a : Addr} {xs : List V} (h : SqLf ⟨K, D :: av⟩ H β a xs) : SqLf ⟨K, D :: av⟩ (upd H D o) β a xs := by
  rcases h with ⟨h, n, na⟩ | h
  · refine .inl ⟨?_, n, na⟩
    have : a ≠ D := fun e => na (by rw [e]; exact List.mem_cons_self)
    unfold Rd
    rw [upd_ne this]
    exact h
  · exact .inr h
mutual
theorem PRel.acc {o : HO} : ∀ (v : PV) {x : V}, PRel ⟨K, D :: av⟩ H β v x → PRel ⟨K, D :: av⟩ (upd H D o) β v x
  | .non, x, h => by unfold PRel at h ⊢; exact h
  | .bl b, x, h => by unfold PRel at h ⊢; exact h
  | .int i, x, h => by unfold PRel at h ⊢; exact h
  | .str s, x, h => by unfold PRel at h ⊢; exact h
  | .op v, x, h => by unfold PRel at h ⊢; exact h
  | .ref n, x, h => by unfold PRel at h ⊢; exact h
  | .tup xs, x, h => by
    unfold PRel at h ⊢
    obtain ⟨a, vs, e1, h1, h2⟩ := h
    exact ⟨a, vs, e1, h1.acc, PRels.acc xs h2⟩
  | .frl xs, x, h => by
    unfold PRel at h ⊢
    obtain ⟨a, vs, e1, ⟨h1, hn, na⟩, h2⟩ := h
    have : a ≠ D := fun e => na (by rw [e]; exact List.mem_cons_self)
    exact ⟨a, vs, e1, ⟨by rw [upd_ne this]; exact h1, hn, na⟩, PRels.acc xs h2⟩
  | .scr xs, x, h => by
    unfold PRel at h ⊢
    obtain ⟨a, vs, e1, h1, h2⟩ := h
    exact ⟨a, vs, e1, h1.acc, PRels.acc xs h2⟩
  | .ctp xs, x, h => by
    unfold PRel at h ⊢
    obtain ⟨a, vs, e1, h1, h2⟩ := h
    exact ⟨a, vs, e1, h1.acc, PRels.acc xs h2⟩
  | .frd t ks xs, x, h => by
    unfold PRel at h ⊢
    obtain ⟨a, vs, e1, ⟨h1, hn, na⟩, h2⟩ := h
    have : a ≠ D := fun e => na (by rw [e]; exact List.mem_cons_self)
    exact ⟨a, vs, e1, ⟨h1.same fun o q => by rw [upd_ne this]; exact q, hn, na⟩, PRels.acc xs h2⟩
theorem PRels.acc {o : HO} : ∀ (v : List PV) {x : List V}, PRels ⟨K, D :: av⟩ H β v x → PRels ⟨K, D :: av⟩ (upd H D o) β v x
  | [], x, h => by unfold PRels at h ⊢; exact h
  | v :: vs, x, h => by
    unfold PRels at h ⊢
    obtain ⟨y, ys, e1, h1, h2⟩ := h
    exact ⟨y, ys, e1, PRel.acc v h1, PRels.acc vs h2⟩
end
theorem ORel.acc {o : HO} {a : Addr} {m : MO} (hn : a ≠ D) (h : ORel ⟨K, D :: av⟩ H β a m) : ORel ⟨K, D :: av⟩ (upd H D o) β a m := by
  cases m with
  | lst xs => obtain ⟨vs, z, q⟩ := h; exact ⟨vs, by rw [upd_ne hn]; exact z, PRels.acc _ q⟩
  | dK xs => obtain ⟨vs, z, q⟩ := h; exact ⟨vs, by rw [upd_ne hn]; exact z, q.1, PRels.acc _ q.2⟩
  | dT xs => obtain ⟨vs, z, q⟩ := h; exact ⟨vs, by rw [upd_ne hn]; exact z, q.1, PRels.acc _ q.2⟩
theorem Rl.acc {o : HO} (r : Rl ⟨K, D :: av⟩ H β μ) (hn : D ∉ β) : Rl ⟨K, D :: av⟩ (upd H D o) β μ :=
  ⟨r.len, r.nd, fun n a m h1 h2 => (r.obj n a m h1 h2).acc fun e => hn (by rw [← e]; exact List.mem_of_getElem? h1), fun a ha q => by
    by_cases z : a = D
    · rw [z, upd_same] at q; cases q
    · rw [upd_ne z] at q; exact r.avt a ha q⟩
theorem SRel.acc {o : HO} {s : MS} {σ : L2.St} (r : SRel ⟨K, D :: av⟩ H β s σ) : SRel ⟨K, D :: av⟩ (upd H D o) β s σ :=
  ⟨r.len, fun i v h => let ⟨x, e, p⟩ := r.at_ i v h; ⟨x, e, PRel.acc v p⟩⟩
-- more, fewer addresses to be avoided
mutual
theorem PRel.av_ {av' : List Addr} {β2 : List Addr} (hs : ∀ a, (H a ≠ none ∧ a ∉ β ∧ a ∉ av) → a ∉ β2 ∧ a ∉ av') (hβ : ∀ (n : Nat) (a : Addr), β[n]? = some a → β2[n]? = some a) : ∀ (v : PV) {x : V}, PRel ⟨K, av⟩ H β v x → PRel ⟨K, av'⟩ H β2 v x
  | .non, x, h => by unfold PRel at h ⊢; exact h
  | .bl b, x, h => by unfold PRel at h ⊢; exact h
  | .int i, x, h => by unfold PRel at h ⊢; exact h
  | .str s, x, h => by unfold PRel at h ⊢; exact h
  | .op v, x, h => by unfold PRel at h ⊢; exact h
  | .ref n, x, h => by unfold PRel at h ⊢; obtain ⟨a, e1, e2⟩ := h; exact ⟨a, e1, hβ n a e2⟩
  | .tup xs, x, h => by
    unfold PRel at h ⊢
    obtain ⟨a, vs, e1, ⟨h1, n, na⟩, h2⟩ := h
    exact ⟨a, vs, e1, ⟨h1, hs a ⟨(by rw [h1]; exact fun q => nomatch q), n, na⟩⟩, PRels.av_ hs hβ xs h2⟩
  | .ctp xs, x, h => by
    unfold PRel at h ⊢
    obtain ⟨a, vs, e1, h1, h2⟩ := h
    refine ⟨a, vs, e1, ?_, PRels.av_ hs hβ xs h2⟩
    rcases h1 with ⟨⟨o, h1, hc, hd⟩, n, na⟩ | h1
    · exact .inl ⟨⟨o, h1, hc, hd⟩, hs a ⟨(by rw [h1]; exact fun q => nomatch q), n, na⟩⟩
    · exact .inr h1
  | .frd t ks xs, x, h => by
    unfold PRel at h ⊢
    obtain ⟨a, vs, e1, ⟨h1, hn, na⟩, h2⟩ := h
    exact ⟨a, vs, e1, ⟨h1, hs a ⟨h1.nn, hn, na⟩⟩, PRels.av_ hs hβ xs h2⟩
  | .frl xs, x, h => by
    unfold PRel at h ⊢
    obtain ⟨a, vs, e1, ⟨h1, hn, na⟩, h2⟩ := h
    exact ⟨a, vs, e1, ⟨h1, hs a ⟨(by rw [h1]; exact fun q => nomatch q), hn, na⟩⟩, PRels.av_ hs hβ xs h2⟩
  | .scr xs, x, h => by
    unfold PRel at h ⊢
    obtain ⟨a, vs, e1, h1, h2⟩ := h
    refine ⟨a, vs, e1, ?_, PRels.av_ hs hβ xs h2⟩
    rcases h1 with ⟨h1, n, na⟩ | h1
    · exact .inl ⟨h1, hs a ⟨Rd.some h1, n, na⟩⟩
    · exact .inr h1
theorem PRels.av_ {av' : List Addr} {β2 : List Addr} (hs : ∀ a, (H a ≠ none ∧ a ∉ β ∧ a ∉ av) → a ∉ β2 ∧ a ∉ av') (hβ : ∀ (n : Nat) (a : Addr), β[n]? = some a → β2[n]? = some a) : ∀ (v : List PV) {x : List V}, PRels ⟨K, av⟩ H β v x → PRels ⟨K, av'⟩ H β2 v x
  | [], x, h => by unfold PRels at h ⊢; exact h
  | v :: vs, x, h => by
    unfold PRels at h ⊢
    obtain ⟨y, ys, e1, h1, h2⟩ := h
    exact ⟨y, ys, e1, PRel.av_ hs hβ v h1, PRels.av_ hs hβ vs h2⟩
end
theorem ORel.av_ {av' : List Addr} {β2 : List Addr} (hs : ∀ a, (H a ≠ none ∧ a ∉ β ∧ a ∉ av) → a ∉ β2 ∧ a ∉ av') (hβ : ∀ (n : Nat) (a : Addr), β[n]? = some a → β2[n]? = some a) {a : Addr} {m : MO} (h : ORel ⟨K, av⟩ H β a m) : ORel ⟨K, av'⟩ H β2 a m := by
  cases m with
  | lst xs => obtain ⟨vs, z, q⟩ := h; exact ⟨vs, z, PRels.av_ hs hβ _ q⟩
  | dK xs => obtain ⟨vs, z, q⟩ := h; exact ⟨vs, z, q.1, PRels.av_ hs hβ _ q.2⟩
  | dT xs => obtain ⟨vs, z, q⟩ := h; exact ⟨vs, z, q.1, PRels.av_ hs hβ _ q.2⟩
theorem SRel.av_ {av' : List Addr} (hs : ∀ a, (H a ≠ none ∧ a ∉ β ∧ a ∉ av) → a ∉ β ∧ a ∉ av') {s : MS} {σ : L2.St} (r : SRel ⟨K, av⟩ H β s σ) : SRel ⟨K, av'⟩ H β s σ :=
  ⟨r.len, fun i v h => let ⟨x, e, p⟩ := r.at_ i v h; ⟨x, e, PRel.av_ hs (fun _ _ h => h) v p⟩⟩
theorem Rl.av_ {av' : List Addr} (hs : ∀ a, (H a ≠ none ∧ a ∉ β ∧ a ∉ av) → a ∉ β ∧ a ∉ av') (ht : ∀ a ∈ av', H a ≠ none) (r : Rl ⟨K, av⟩ H β μ) : Rl ⟨K, av'⟩ H β μ :=
  ⟨r.len, r.nd, fun n a m h1 h2 => (r.obj n a m h1 h2).av_ hs (fun _ _ h => h), ht⟩

/-- the outcome of the turns: D holds the list -/
def COk (K : PySem.W.Frag) (av : List Addr) (H1 : Hp) (β1 : List Addr) (D : Addr) (Qe : Hp → Prop) : R (List PV) → Prop
  | .ok acc μ => ∀ H' β' xs, Ext H1 β1 H' β' → Rl ⟨K, D :: av⟩ H' β' μ → H' D = some (.lst xs) → D ∉ β' → PRels ⟨K, D :: av⟩ H' β' acc xs → Qe H'
  | _ => False
/-- where the turns stand -/
structure CAt (K : PySem.W.Frag) (av : List Addr) (H1 : Hp) (β1 : List Addr) (D : Addr) (sw : MS) (σw : L2.St) (H : Hp) (β : List Addr) (μ : MH) (acc : List PV) : Prop where
  ext : Ext H1 β1 H β
  rl : Rl ⟨K, D :: av⟩ H β μ
  sr : SRel ⟨K, D :: av⟩ H β sw σw
  dn : D ∉ β
  dl : ∃ xs, H D = some (.lst xs) ∧ PRels ⟨K, D :: av⟩ H β acc xs
theorem CAt.step {sw : MS} {σw : L2.St} {acc : List PV} {μ' : MH} (c : CAt K av H1 β1 D sw σw H β μ acc) (e : Ext H β H' β') (r : Rl ⟨K, D :: av⟩ H' β' μ') : CAt K av H1 β1 D sw σw H' β' μ' acc := by
  obtain ⟨xs, h, p⟩ := c.dl
  exact ⟨c.ext.trans e, r, c.sr.ext e, e.mem (by rw [h]; exact fun q => nomatch q) c.dn, xs, e.stay _ _ h c.dn, PRels.ext e _ p⟩
theorem CAt.put {sw : MS} {σw : L2.St} {acc : List PV} {v : PV} {y : V} {xs : List V} (h0 : H1 D = none) (c : CAt K av H1 β1 D sw σw H β μ acc) (h : H D = some (.lst xs)) (p : PRel ⟨K, D :: av⟩ H β v y) : CAt K av H1 β1 D sw σw (upd H D (.lst (xs ++ [y]))) β μ (acc ++ [v]) := by
  obtain ⟨xs', h', q⟩ := c.dl
  rw [h] at h'; cases h'
  exact ⟨c.ext.acc h h0, c.rl.acc c.dn, c.sr.acc, c.dn, _, upd_same, (PRels.acc _ q).app (.cons (PRel.acc _ p) .nil)⟩
/-- a part of a turn that lets nothing out -/
theorem tm_c {m : ME} {α : Type} {k : PV → MH → R (List PV)} {σ : L2.St} {s : MS} {Q : VK} {Qe : Hp → Prop} (rl : Rl ⟨K, av⟩ H β μ) (sr : SRel ⟨K, av⟩ H β s σ) {H1 : Hp} {β1 : List Addr} {D : Addr} {av' : List Addr} (h : COk K av' H1 β1 D Qe ((m s μ).bind k))
    (q : ∀ v μ' x H' β', Ext H β H' β' → Rl ⟨K, av⟩ H' β' μ' → PRel ⟨K, av⟩ H' β' v x → COk K av' H1 β1 D Qe (k v μ') → Q x H') : tM K XR EF m σ H Q := by
  refine ⟨av, β, s, μ, rl, sr, ?_⟩
  cases e : m s μ with
  | bad => rw [e] at h; exact h
  | err c p μ' => rw [e] at h; exact h.elim
  | ok v μ' => rw [e] at h; exact fun x H' β' ex rl' pr => q v μ' x H' β' ex rl' pr h
theorem tmb_c {m : MB} {k : Bool → MH → R (List PV)} {σ : L2.St} {s : MS} {Q : Bool → Hp → Prop} {Qe : Hp → Prop} (rl : Rl ⟨K, av⟩ H β μ) (sr : SRel ⟨K, av⟩ H β s σ) {H1 : Hp} {β1 : List Addr} {D : Addr} {av' : List Addr} (h : COk K av' H1 β1 D Qe ((m s μ).bind k))
    (q : ∀ v μ' H' β', Ext H β H' β' → Rl ⟨K, av⟩ H' β' μ' → COk K av' H1 β1 D Qe (k v μ') → Q v H') : tMb K XR EF m σ H Q := by
  refine ⟨av, β, s, μ, rl, sr, ?_⟩
  cases e : m s μ with
  | bad => rw [e] at h; exact h
  | err c p μ' => rw [e] at h; exact h.elim
  | ok v μ' => rw [e] at h; exact fun H' β' ex rl' => q v μ' H' β' ex rl' h

theorem up_av (h0 : H1 D = none) : ∀ a, (H1 a ≠ none ∧ a ∉ β1 ∧ a ∉ av) → a ∉ β1 ∧ a ∉ D :: av := fun a ⟨h1, h2, h3⟩ => ⟨h2, fun q => by
  rcases List.mem_cons.mp q with e | q
  · subst e; exact h1 h0
  · exact h3 q⟩
theorem CAt.start {s : MS} {σ : L2.St} {μ1 : MH} (rl : Rl ⟨K, av⟩ H1 β1 μ1) (sr : SRel ⟨K, av⟩ H1 β1 s σ) (h0 : H1 D = none) (vs : List Nat) : CAt K av H1 β1 D (wipeM s vs) (wipe σ vs) (upd H1 D (.lst [])) β1 μ1 [] := by
  have hn := rl.notMem h0
  refine ⟨Ext.new rl h0 _, ⟨rl.len, rl.nd, fun n a m h1 h2 => ?_, fun a ha q => ?_⟩, ?_, hn, [], upd_same, .nil⟩
  · exact ((rl.obj n a m h1 h2).av_ (up_av h0) (fun _ _ h => h)).acc fun e => hn (by rw [← e]; exact List.mem_of_getElem? h1)
  · by_cases z : a = D
    · rw [z, upd_same] at q; cases q
    · rw [upd_ne z] at q
      rcases List.mem_cons.mp ha with e | ha
      · exact z e
      · exact rl.avt a ha q
  · exact ((sr.wipe vs).av_ (up_av h0)).acc
theorem CAt.fin {sw : MS} {σw : L2.St} {acc : List PV} {Qe : Hp → Prop} (c : CAt K av H1 β1 D sw σw H β μ acc) (h : COk K av H1 β1 D Qe (.ok acc μ)) : Qe H := by
  obtain ⟨xs, h1, p⟩ := c.dl
  exact h H β xs c.ext c.rl h1 c.dn p
end

section
variable {X : Cx} {XR : XRel} {E : L2.St → XK}
theorem noErr_ok {α : Type} {r : R α} {P : R α → Prop} (h : P (noErr r)) (hb : ¬ P .bad) : ∃ a μ, r = .ok a μ ∧ P (.ok a μ) := by
  cases r with
  | ok a μ => exact ⟨a, μ, rfl, h⟩
  | err c p μ => exact absurd h hb
  | bad => exact absurd h hb
/-- the tests of a clause -/
abbrev PTsM (X : Cx) (XR : XRel) (ifs : List Expr) (m : MB) : Prop := PTs X ifs (tMb X.K XR EF m)
theorem mts_nil : PTsM X XR [] mbYes := ⟨fun pins s σ H Q I ⟨av, β, sm, μ, rl, sr, h⟩ => pts_nil.run pins s σ H Q I (h H β .refl rl)⟩
theorem mts_one {c : Expr} {m : MB} (h : PMb X XR EF c m) : PTsM X XR [c] m := pts_one h
theorem lc_read {σ : L2.St} {H : Hp} {Q : VK} {av : List Addr} {β : List Addr} {s : MS} {μ : MH} {mi : MI} {t : MT} {mc : MB} {me : ME} {K : PySem.W.Frag} {vs : List Nat} (k : List PV → MH → R PV) (rl : Rl ⟨K, av⟩ H β μ) (sr : SRel ⟨K, av⟩ H β s σ) (hsl : ∀ i ∈ slotsT t, i ∈ vs)
    (h : OutOk ⟨K, av⟩ XR H β (E σ) Q ((mi s μ).bind fun p μ1 => (noErr (compGo p.chk t mc (oneElt me) (wipeM s vs) p.vals μ1 [])).bind k))
    (hk : ∀ acc μ2 H1 β1 D H' β' xs, H1 D = none → (∀ a ∈ av, H1 a ≠ none) → OutOk ⟨K, av⟩ XR H1 β1 (E σ) Q (k acc μ2) → Ext H1 β1 H' β' → Rl ⟨K, D :: av⟩ H' β' μ2 → H' D = some (.lst xs) → D ∉ β' → PRels ⟨K, D :: av⟩ H' β' acc xs → Q (.ref D) H') :
    tLc (tI K XR E mi) (tgOf K t) (tMb K XR EF mc) (tM K XR EF me) vs σ H Q := by
  unfold tLc
  refine ⟨av, β, s, μ, rl, sr, ?_⟩
  cases e : mi s μ with
  | bad => rw [e] at h; exact h
  | err c p μ' => rw [e] at h; exact h
  | ok p μ1 =>
    rw [e] at h
    intro J H1 β1 ex1 rl1 pl D hD
    have h1 := OutOk.ext ex1 h
    simp only [R.bind] at h1
    have hc1 : COk K av H1 β1 D (fun H' => Q (.ref D) H') (compGo p.chk t mc (oneElt me) (wipeM s vs) p.vals μ1 []) := by
      cases e2 : compGo p.chk t mc (oneElt me) (wipeM s vs) p.vals μ1 [] with
      | bad => rw [e2] at h1; exact h1
      | err c q μ' => rw [e2] at h1; exact h1
      | ok acc μ2 =>
        rw [e2] at h1
        exact fun H' β' xs a1 a2 a3 a4 a5 => hk acc μ2 H1 β1 D H' β' xs hD rl1.avt h1 a1 a2 a3 a4 a5
    refine ⟨fun i m H => m = p.vals.length - i ∧ ∃ β μ acc, CAt K av H1 β1 D (wipeM s vs) (wipe σ vs) H β μ acc ∧ COk K av H1 β1 D (fun H' => Q (.ref D) H') (compGo p.chk t mc (oneElt me) (wipeM s vs) (p.vals.drop i) μ acc),
      ⟨_, rfl, β1, μ1, [], CAt.start rl1 (sr.ext ex1) hD vs, hc1⟩, ?_⟩
    rintro i m H2 ⟨rfl, β2, μ2, acc, c, h2⟩
    have pl2 := pl (D :: av) (fun a ha => by
      rcases List.mem_cons.mp ha with e | ha
      · rw [e]; exact .inr hD
      · exact .inl ha) H2 β2 μ2 c.ext.toW c.rl
    cases hd : p.vals.drop i with
    | nil =>
      rw [hd] at h2
      unfold compGo at h2
      split at h2
      · rename_i hk1
        have q := pl2 hk1 i
        have hn : p.vals[i]? = none := by
          rw [List.getElem?_eq_none_iff]
          exact List.drop_eq_nil_iff.mp hd
        rw [hn] at q
        exact .inl ⟨q, c.fin h2⟩
      · exact h2.elim
    | cons v vals =>
      rw [hd] at h2
      unfold compGo at h2
      obtain ⟨hv, hvs⟩ := drop_get hd
      have hlt : i < p.vals.length := (List.getElem?_eq_some_iff.mp hv).1
      split at h2
      · rename_i hk1
        have q := pl2 hk1 i
        rw [hv] at q
        refine .inr ⟨q.1, fun H' => ∃ β μ acc, CAt K av H1 β1 D (wipeM s vs) (wipe σ vs) H' β μ acc ∧ COk K av H1 β1 D (fun H' => Q (.ref D) H') (compGo p.chk t mc (oneElt me) (wipeM s vs) vals μ acc), fun H' ⟨b, m, a, z1, z2⟩ => ⟨p.vals.length - (i + 1), by omega, rfl, b, m, a, z1, by rw [hvs]; exact z2⟩, fun x H3 y => ?_⟩
        obtain ⟨ex3, rl3, p3⟩ := q.2 x H3 y
        have c3 := c.step ex3 rl3
        cases eb : bindT t v (wipeM s vs) with
        | none => rw [eb] at h2; exact h2.elim
        | some s3 =>
          rw [eb] at h2
          refine tg_ok t c3.sr p3 eb fun σ3 sr3 sm3 => ⟨?_, ?_⟩
          · rw [wipe_of_same sm3 hsl, wipe_wipe]
          · refine tmb_c c3.rl sr3 h2 fun b μ4 H4 β4 ex4 rl4 h4 => ?_
            have c4 := c3.step ex4 rl4
            cases b with
            | false => exact ⟨β4, μ4, acc, c4, h4⟩
            | true =>
              simp only [if_true] at h4 ⊢
              have e6 : oneElt me s3 μ4 acc = (me s3 μ4).bind fun v μ1 => if acc.length < sizeLine then .ok (acc ++ [v]) μ1 else .bad := rfl
              rw [e6] at h4
              refine ⟨_, _, _, _, c4.rl, sr3.ext ex4, ?_⟩
              cases e5 : me s3 μ4 with
              | bad => rw [e5] at h4; exact h4.elim
              | err c p μ' => rw [e5] at h4; exact h4.elim
              | ok w μ5 =>
                rw [e5] at h4
                intro y5 H5 β5 ex5 rl5 p5
                have c5 := c4.step ex5 rl5
                by_cases hz : acc.length < sizeLine
                · simp only [R.bind, if_pos hz] at h4
                  obtain ⟨xs, hx, px⟩ := c5.dl
                  exact ⟨xs, hx, by rw [← px.length]; exact hz, β5, μ5, acc ++ [w], c5.put hD hx p5, h4⟩
                · simp only [R.bind, if_neg hz] at h4
                  exact h4.elim
      · exact h2.elim
theorem dn_av {K : PySem.W.Frag} {av : List Addr} {D : Addr} {H : Hp} {β : List Addr} : ∀ a, (H a ≠ none ∧ a ∉ β ∧ a ∉ D :: av) → a ∉ β ∧ a ∉ av := fun a ⟨_, h2, h3⟩ => ⟨h2, fun q => h3 (List.mem_cons_of_mem _ q)⟩
theorem k_frl {K : PySem.W.Frag} {av : List Addr} {E : XK} {Q : VK} : ∀ (acc : List PV) (μ2 : MH) (H1 : Hp) (β1 : List Addr) (D : Addr) (H' : Hp) (β' : List Addr) (xs : List V), H1 D = none → (∀ a ∈ av, H1 a ≠ none) → OutOk ⟨K, av⟩ XR H1 β1 E Q (.ok (.frl acc) μ2) →
    Ext H1 β1 H' β' → Rl ⟨K, D :: av⟩ H' β' μ2 → H' D = some (.lst xs) → D ∉ β' → PRels ⟨K, D :: av⟩ H' β' acc xs → Q (.ref D) H' := by
  intro acc μ2 H1 β1 D H' β' xs hD ht h ex rl hd hn p
  refine h _ H' β' ex (rl.av_ (dn_av (K := K)) fun a ha => rl.avt a (List.mem_cons_of_mem _ ha)) ?_
  unfold PRel
  exact ⟨D, xs, rfl, ⟨hd, hn, fun q => ht D q hD⟩, PRels.av_ (dn_av (K := K)) (fun _ _ h => h) _ p⟩
theorem k_lst {K : PySem.W.Frag} {av : List Addr} {E : XK} {Q : VK} : ∀ (acc : List PV) (μ2 : MH) (H1 : Hp) (β1 : List Addr) (D : Addr) (H' : Hp) (β' : List Addr) (xs : List V), H1 D = none → (∀ a ∈ av, H1 a ≠ none) → OutOk ⟨K, av⟩ XR H1 β1 E Q (.ok (.ref μ2.length) (μ2 ++ [.lst acc])) →
    Ext H1 β1 H' β' → Rl ⟨K, D :: av⟩ H' β' μ2 → H' D = some (.lst xs) → D ∉ β' → PRels ⟨K, D :: av⟩ H' β' acc xs → Q (.ref D) H' := by
  intro acc μ2 H1 β1 D H' β' xs hD ht h ex rl hd hn p
  have hs : ∀ a, (H' a ≠ none ∧ a ∉ β' ∧ a ∉ D :: av) → a ∉ β' ++ [D] ∧ a ∉ av := fun a ⟨_, h2, h3⟩ => ⟨fun q => by
    rcases List.mem_append.mp q with q | q
    · exact h2 q
    · simp at q; exact h3 (by rw [q]; exact List.mem_cons_self), fun q => h3 (List.mem_cons_of_mem _ q)⟩
  have hβ : ∀ (n : Nat) (a : Addr), β'[n]? = some a → (β' ++ [D])[n]? = some a := fun n a h => by
    rw [List.getElem?_append_left (List.getElem?_eq_some_iff.mp h).1]; exact h
  refine h _ H' (β' ++ [D]) ?_ ⟨by simp [rl.len], ?_, fun n a m h1 h2 => ?_, fun a ha => rl.avt a (List.mem_cons_of_mem _ ha)⟩ ?_
  · obtain ⟨nw, e1, f⟩ := ex.pre
    exact ⟨⟨nw ++ [D], by rw [e1, List.append_assoc], fun a ha => by
      rcases List.mem_append.mp ha with q | q
      · exact f a q
      · simp at q; rw [q]; exact hD⟩, ex.stay, ex.live⟩
  · rw [List.nodup_append]
    refine ⟨rl.nd, by simp, fun a ha b hb e => ?_⟩
    simp at hb; subst hb; subst e
    exact hn ha
  · by_cases hl : n < β'.length
    · rw [List.getElem?_append_left hl] at h1
      rw [List.getElem?_append_left (by rw [← rl.len]; exact hl)] at h2
      exact (rl.obj n a m h1 h2).av_ hs hβ
    · rw [List.getElem?_append_right (by omega)] at h1
      rw [List.getElem?_append_right (by rw [← rl.len]; omega)] at h2
      rw [← rl.len] at h2
      cases e : n - β'.length with
      | zero =>
        rw [e] at h1 h2
        simp at h1 h2
        subst h1; subst h2
        exact ⟨xs, hd, PRels.av_ hs hβ _ p⟩
      | succ k => rw [e] at h1; simp at h1
  · unfold PRel
    exact ⟨D, rfl, by rw [← rl.len]; simp⟩
section
variable {elt tg iter : Expr} {ifs : List Expr} {scope : Scope} {own : List (Str × Nat)} {pos : Pos} {mi : MI} {t : MT} {mc : MB} {me : ME}
theorem me_lc (hc : X.calm = true) (hN : X.N.Nodup) (hi : PIM X XR E tg iter mi) (ok : BlkOk X.N X.env.scope scope own) (hsl : ∀ i ∈ slotsT t, i ∈ own.map (·.2))
    (hg : ∀ (s : Shared) (H : Hp) (C : Addr) (cl : List (Str × Addr)) (fp : List Addr), PG (X.blk s H scope (compEnvC scope cl C X.env) fp) tg (tgOf X.K t))
    (ht : ∀ (s : Shared) (H : Hp) (C : Addr) (cl : List (Str × Addr)) (fp : List Addr), PTsM (X.blk s H scope (compEnvC scope cl C X.env) fp) XR ifs mc)
    (he : ∀ (s : Shared) (H : Hp) (C : Addr) (cl : List (Str × Addr)) (fp : List Addr), PM (X.blk s H scope (compEnvC scope cl C X.env) fp) XR EF elt me) (hs : ∀ x, foldedSetIterable iter X.env x = pure x := by intro _; rfl) :
    PM X XR E (.ListComp elt [⟨tg, iter, ifs, 0⟩] scope pos) (mLc (own.map (·.2)) mi t mc me) :=
  PE.imp (pe_lc hc hN hi ok hg ht he hs) fun σ H Q ⟨av, β, s, μ, rl, sr, h⟩ => lc_read (fun acc μ2 => .ok (.frl acc) μ2) rl sr hsl h k_frl
theorem me_lcL (hc : X.calm = true) (hN : X.N.Nodup) (hi : PIM X XR E tg iter mi) (ok : BlkOk X.N X.env.scope scope own) (hsl : ∀ i ∈ slotsT t, i ∈ own.map (·.2))
    (hg : ∀ (s : Shared) (H : Hp) (C : Addr) (cl : List (Str × Addr)) (fp : List Addr), PG (X.blk s H scope (compEnvC scope cl C X.env) fp) tg (tgOf X.K t))
    (ht : ∀ (s : Shared) (H : Hp) (C : Addr) (cl : List (Str × Addr)) (fp : List Addr), PTsM (X.blk s H scope (compEnvC scope cl C X.env) fp) XR ifs mc)
    (he : ∀ (s : Shared) (H : Hp) (C : Addr) (cl : List (Str × Addr)) (fp : List Addr), PM (X.blk s H scope (compEnvC scope cl C X.env) fp) XR EF elt me) (hs : ∀ x, foldedSetIterable iter X.env x = pure x := by intro _; rfl) :
    PM X XR E (.ListComp elt [⟨tg, iter, ifs, 0⟩] scope pos) (mLcL (own.map (·.2)) mi t mc me) :=
  PE.imp (pe_lc hc hN hi ok hg ht he hs) fun σ H Q ⟨av, β, s, μ, rl, sr, h⟩ => lc_read (mc := mc) (me := me) (fun acc μ2 => R.ok (PV.ref μ2.length) (μ2 ++ [MO.lst acc])) rl sr hsl h k_lst
/-- name = [..] on one line -/
theorem tlc_mono {K : PySem.W.Frag} {wi : TI} {g : TG} {tt : TT} {te : TE} {vs : List Nat} {σ : L2.St} {H : Hp} {Q Q' : VK} (hw : ∀ σ H (R R' : It → Hp → Prop), (∀ J H, R J H → R' J H) → wi σ H R → wi σ H R') (hq : ∀ v H, Q v H → Q' v H) (h : tLc wi g tt te vs σ H Q) : tLc wi g tt te vs σ H Q' :=
  hw σ H _ _ (fun J H1 f D hD => by
    obtain ⟨W, w0, turn⟩ := f D hD
    refine ⟨W, w0, fun i m H w => ?_⟩
    rcases turn i m H w with ⟨a, b⟩ | z
    · exact .inl ⟨a, hq _ _ b⟩
    · exact .inr z) h
theorem sm_setLc {i : Nat} {y : Str} {py spos : Pos} (hc : X.calm = true) (hN : X.N.Nodup) (hy : X.N[i]? = some y) (hyl : X.env.scope.names.lookup y = some .local)
    (hsw : swapsWith (.ListComp elt [⟨tg, iter, ifs, 0⟩] scope pos) (some (.Name y py)) spos.line X.env = pure true) (hi : PIM X XR E tg iter mi) (ok : BlkOk X.N X.env.scope scope own) (hsl : ∀ i ∈ slotsT t, i ∈ own.map (·.2))
    (hg : ∀ (s : Shared) (H : Hp) (C : Addr) (cl : List (Str × Addr)) (fp : List Addr), PG (X.blk s H scope (compEnvC scope cl C X.env) fp) tg (tgOf X.K t))
    (ht : ∀ (s : Shared) (H : Hp) (C : Addr) (cl : List (Str × Addr)) (fp : List Addr), PTsM (X.blk s H scope (compEnvC scope cl C X.env) fp) XR ifs mc)
    (he : ∀ (s : Shared) (H : Hp) (C : Addr) (cl : List (Str × Addr)) (fp : List Addr), PM (X.blk s H scope (compEnvC scope cl C X.env) fp) XR EF elt me) (hs : ∀ x, foldedSetIterable iter X.env x = pure x := by intro _; rfl) :
    PSM X XR E (.Assign [.Name y py] (.ListComp elt [⟨tg, iter, ifs, 0⟩] scope pos) spos) (sAsg (.nm i) (mLc (own.map (·.2)) mi t mc me)) :=
  PS.imp (ps_setLc hc hN hy hyl hsw hi ok hg ht he hs) fun D σ H h => by
    have h1 := tasg_ok D σ H h
    unfold tgOf tAsg at h1
    obtain ⟨av, β, s, μ, rl, sr, h2⟩ := h1
    exact lc_read (fun acc μ2 => .ok (.frl acc) μ2) rl sr hsl h2 k_frl
theorem sm_setLcL {i : Nat} {y : Str} {py spos : Pos} (hc : X.calm = true) (hN : X.N.Nodup) (hy : X.N[i]? = some y) (hyl : X.env.scope.names.lookup y = some .local)
    (hsw : swapsWith (.ListComp elt [⟨tg, iter, ifs, 0⟩] scope pos) (some (.Name y py)) spos.line X.env = pure true) (hi : PIM X XR E tg iter mi) (ok : BlkOk X.N X.env.scope scope own) (hsl : ∀ i ∈ slotsT t, i ∈ own.map (·.2))
    (hg : ∀ (s : Shared) (H : Hp) (C : Addr) (cl : List (Str × Addr)) (fp : List Addr), PG (X.blk s H scope (compEnvC scope cl C X.env) fp) tg (tgOf X.K t))
    (ht : ∀ (s : Shared) (H : Hp) (C : Addr) (cl : List (Str × Addr)) (fp : List Addr), PTsM (X.blk s H scope (compEnvC scope cl C X.env) fp) XR ifs mc)
    (he : ∀ (s : Shared) (H : Hp) (C : Addr) (cl : List (Str × Addr)) (fp : List Addr), PM (X.blk s H scope (compEnvC scope cl C X.env) fp) XR EF elt me) (hs : ∀ x, foldedSetIterable iter X.env x = pure x := by intro _; rfl) :
    PSM X XR E (.Assign [.Name y py] (.ListComp elt [⟨tg, iter, ifs, 0⟩] scope pos) spos) (sAsg (.nm i) (mLcL (own.map (·.2)) mi t mc me)) :=
  PS.imp (ps_setLc hc hN hy hyl hsw hi ok hg ht he hs) fun D σ H h => by
    have h1 := tasg_ok D σ H h
    unfold tgOf tAsg at h1
    obtain ⟨av, β, s, μ, rl, sr, h2⟩ := h1
    exact lc_read (mc := mc) (me := me) (fun acc μ2 => R.ok (PV.ref μ2.length) (μ2 ++ [MO.lst acc])) rl sr hsl h2 k_lst
end
end
end Mini

/-! M5: defs, calls of defs, what a def is worth to its callers. -/
namespace Mini
open PySem PySem.Spec PyProof.Rows L2
abbrev MF := List PV → MH → R PV
/-- what a def promises -/
def spM (K : PySem.W.Frag) (XR : XRel) (f : MF) : Sp := fun vs H Q E => ∃ av β μ args, Rl ⟨K, av⟩ H β μ ∧ PRels ⟨K, av⟩ H β args vs ∧ OutOk ⟨K, av⟩ XR H β E Q (f args μ)
def mDef (np nn : Nat) (body : MSt) : MF := fun args μ => if args.length = np then (match body (args.map some ++ List.replicate (nn - np) none) μ with
  | .nx _ μ1 => .ok .non μ1
  | .rt v μ1 => .ok v μ1
  | .er c p _ μ1 => .err c p μ1
  | _ => .bad) else .bad
theorem start_rel {K : Gx} {H : Hp} {β : List Addr} : ∀ {args : List PV} {vs : List V}, PRels K H β args vs → ∀ n, SRel K H β (args.map some ++ List.replicate n none) (vs.map some ++ List.replicate n none)
  | args, vs, h, n => by
    refine ⟨by simp [h.length], fun i v e => ?_⟩
    by_cases hi : i < args.length
    · rw [List.getElem?_append_left (by simpa using hi), List.getElem?_map] at e
      cases e2 : args[i]? with
      | none => rw [e2] at e; cases e
      | some w =>
        rw [e2] at e
        simp at e
        subst e
        obtain ⟨y, e3, p⟩ := h.get e2
        refine ⟨y, ?_, p⟩
        rw [List.getElem?_append_left (by rw [List.length_map, ← h.length]; exact hi), List.getElem?_map, e3]
        rfl
    · rw [List.getElem?_append_right (by simpa using hi), List.getElem?_replicate] at e
      split at e <;> cases e
/-! ### defs: as FnOk, where nothing within a repr calls them -/
def Bare (A : Around) : Prop := A.guards = some []
structure FnG (P : Program) (w : World) (K : PySem.W.Frag) (mg : Str → Option Value) (base : Heap) (k : Nat) (f : Addr) (fd : FuncData) (ps : List Str) (sp : Sp) : Prop where
  arity : ∀ vs H Q E, sp vs H Q E → vs.length = ps.length
  go : ∀ (A : Around) (above : List Env) (z : Shared) (H : Hp) (args : Args) (us : List Value) (vs : List V) (Q : VK) (E : XK), Room k A → Bare A → Env0 P w K mg base A above z H →
    BindsTo z fd args (ps.zip us) → Vals vs us → sp vs H Q E → codeAny (model P w) A (.call (.ref f) args) (CR (L2N.CX P w) above P w H z Q E) z
theorem FnG.imp {P : Program} {w : World} {K : PySem.W.Frag} {mg : Str → Option Value} {base : Heap} {k : Nat} {f : Addr} {fd : FuncData} {ps : List Str} {sp sp' : Sp} (F : FnG P w K mg base k f fd ps sp)
    (i : ∀ vs H Q E, sp' vs H Q E → sp vs H Q E) : FnG P w K mg base k f fd ps sp' :=
  ⟨fun vs H Q E q => F.arity vs H Q E (i _ _ _ _ q), fun A above z H args us vs Q E r g e b v q => F.go A above z H args us vs Q E r g e b v (i _ _ _ _ q)⟩
/-- a body's end, told to the caller -/
theorem told_end {P : Program} {w : World} {K : PySem.W.Frag} {mg : Str → Option Value} {base : Heap} {N : List Str} {qual : Str} {scope : Scope} {f : Addr} {cd : Value} {A : Around} {above : List Env} {z z' : Shared} {H H' : Hp} {E : XK} {Q : VK} {σ : L2.St} {v : V} {u : Value}
    (J : Inv (cxOf (L2N.CX P w) P w K mg base N qual scope f cd A above z H E) [] σ H' z') (r : RelV v u) (q : Q v H') : CR (L2N.CX P w) above P w H z Q E (.ok (.ret u)) z' :=
  ⟨v, H', J.os, J.bare, J.base, J.hok, r, q⟩
/-- a def's body, in a calm frame: the library's entry of a call, Att.call_fn -/
theorem fnG_calm {P : Program} {w : World} {K : PySem.W.Frag} {mg : Str → Option Value} {base : Heap} {k : Nat} {f : Addr} {nm qual : Str} {params : Arguments} {body : List Stmt} {scope : Scope} {dV kV doc pm cdv ct oc : Value} {an od : Option Addr} {osl : Array (Option Value)} {N ps : List Str} {sp : Sp}
    (look : K.lookup f = some ⟨oc, od, .func (PySem.W.fnOf nm qual params body scope dV kV doc pm an cdv ct), osl⟩) (code : PySem.W.codeIn K cdv qual = true) (S : FnScope N ps scope) (ar : ∀ vs H Q E, sp vs H Q E → vs.length = ps.length)
    (bd : ∀ (A : Around) (above : List Env) (z : Shared) (H : Hp) (vs : List V) (Q : VK) (E : XK), Room k (A.deeper (envOfC qual scope z.heap.objs.size f cdv)) → Bare (A.deeper (envOfC qual scope z.heap.objs.size f cdv)) → sp vs H Q E →
      ∃ t, PSs (cxOf (L2N.CX P w) P w K mg base N qual scope f cdv A above z H E) body t ∧ t { nx := fun _ H' => Q .non H', rt := Q } (L2.start N vs) H) :
    FnG P w K mg base (k + 1) f (PySem.W.fnOf nm qual params body scope dV kV doc pm an cdv ct) ps sp where
  arity := ar
  go A above z H args us vs Q E room bare env bnd rv hs := by
    have up : ∀ b o, base.get? b = some o → z.heap.get? b = some o := fun b o q => (env.bs b o q).1
    obtain ⟨t, run, rd⟩ := bd A above z H vs Q E (room.deeper _) bare hs
    apply Att.call_fn (env.mod.kin.keeps up) (env.mod.nolimit.keeps up) look code room.depth bnd _ (fun z1 x => _) S.co S.gen S.kind
    · rw [List.all_eq_true]
      intro y hy
      have par := S.par y.1 (List.of_mem_zip hy).1
      simp only [Bool.or_eq_true, beq_iff_eq]
      exact par
    · intro z1 x
      have start := inv_start (CX := L2N.CX P w) (E := E) S room.hd env (ar _ _ _ _ hs) rv x
      apply wpAny_mono (run.run [] z1 _ H _ start rd)
      · rintro (_ | _ | _ | u) z' q
        · obtain ⟨_, _, J, q⟩ := q
          exact told_end (v := .non) (u := .none) J rfl q
        · obtain ⟨_, _, _, no⟩ := q; exact no.elim
        · obtain ⟨_, _, _, no⟩ := q; exact no.elim
        · obtain ⟨_, _, _, J, r, q⟩ := q
          exact told_end J r q
      · exact fun _ _ q => q
/-- a def that stands where callers can call it -/
structure DefOk (P : Program) (w : World) (K : PySem.W.Frag) (mg : Str → Option Value) (base : Heap) (x : Str) (k : Nat) (sp : Sp) : Prop where
  ex : ∃ (f : Addr) (fd : FuncData) (ps : List Str), mg x = some (.ref f) ∧ PySem.W.keepIn K (.ref f) = true ∧ Binds K fd ps [] ∧ FnG P w K mg base k f fd ps sp
theorem DefOk.imp {P : Program} {w : World} {K : PySem.W.Frag} {mg : Str → Option Value} {base : Heap} {x : Str} {k : Nat} {sp sp' : Sp} (D : DefOk P w K mg base x k sp) (i : ∀ vs H Q E, sp' vs H Q E → sp vs H Q E) : DefOk P w K mg base x k sp' := by
  obtain ⟨f, fd, ps, a, b, c, F⟩ := D.ex
  exact ⟨f, fd, ps, a, b, c, F.imp i⟩
/-- room for k calls, and no repr around -/
structure RoomG (k : Nat) (A : Around) : Prop where
  room : Room k A
  bare : Bare A
theorem RoomG.mono {j k : Nat} {A : Around} (r : RoomG k A) (h : j ≤ k) : RoomG j A := ⟨r.room.mono h, r.bare⟩
section
variable {K : PySem.W.Frag} {XR : XRel} {np : Nat} {N : List Str} {body : MSt} {vs : List V} {H : Hp} {Q : VK} {E : XK}
theorem mDef_num (h : spM K XR (mDef np N.length body) vs H Q E) : vs.length = np := by
  obtain ⟨av, β, μ, args, rl, pr, h⟩ := h
  by_cases e : args.length = np
  · exact pr.length ▸ e
  · unfold mDef at h; rw [if_neg e] at h; exact h.elim
/-- a def's worth, seen from its body -/
theorem mDef_run (h : spM K XR (mDef np N.length body) vs H Q E) : tSM K XR (fun _ => E) body { nx := fun _ H' => Q .non H', rt := Q } (L2.start N vs) H := by
  have num := mDef_num h
  obtain ⟨av, β, μ, args, rl, pr, h⟩ := h
  have e : args.length = np := by rw [pr.length]; exact num
  unfold mDef at h
  rw [if_pos e] at h
  refine ⟨av, β, args.map some ++ List.replicate (N.length - np) none, μ, rl, ?_, ?_⟩
  · show SRel _ _ _ _ (vs.map some ++ List.replicate (N.length - vs.length) none)
    rw [num]
    exact start_rel pr _
  · revert h
    cases body (args.map some ++ List.replicate (N.length - np) none) μ <;> intro h
    all_goals first
      | exact h
      | exact h.elim
      | exact fun σ' H' β' ex rl' _ => h _ H' β' ex rl' .non_
      | exact fun c d σ' H' β' ex rl' _ xr => h c d H' β' ex rl' xr
end
/-- a def's promise, from its text and its body's mini -/
theorem def_fnG {P : Program} {w : World} {K : PySem.W.Frag} {mg : Str → Option Value} {base : Heap} {x qual : Str} {st : Stmt} {f : Addr} {fd : FuncData} {N ps : List Str} {k : Nat} {XR : XRel} {body : MSt} (F : Fun K x qual st f fd) (S : FnScope N ps (defScope st))
    (hb : ∀ (cdv : Value) (A : Around) (outer : List Env) (s : Shared) (H : Hp) (E : XK), RoomG k (cxOf (L2N.CX P w) P w K mg base N qual (defScope st) f cdv A outer s H E).A →
      PSsM (cxOf (L2N.CX P w) P w K mg base N qual (defScope st) f cdv A outer s H E) XR (fun _ => E) (defBody st) body) : FnG P w K mg base (k + 1) f fd ps (spM K XR (mDef ps.length N.length body)) := by
  obtain ⟨_, _, _, _, _, _, cdv, _, _, rfl, look, code⟩ := F.ex
  exact fnG_calm look code S (fun _ _ _ _ => mDef_num) fun A above z H vs Q E room bare h => ⟨_, hb cdv A above z H E ⟨room, bare⟩, mDef_run h⟩
/-- THE RULE for a def -/
theorem def_ok {P : Program} {w : World} {K : PySem.W.Frag} {mg : Str → Option Value} {base : Heap} {x qual : Str} {st : Stmt} {f : Addr} {fd : FuncData} {N ps : List Str} {k : Nat} {XR : XRel} {body : MSt} (hm : mg x = some (.ref f)) (F : Fun K x qual st f fd) (S : FnScope N ps (defScope st)) (B : Binds K fd ps [])
    (hb : ∀ (cdv : Value) (A : Around) (outer : List Env) (s : Shared) (H : Hp) (E : XK), RoomG k (cxOf (L2N.CX P w) P w K mg base N qual (defScope st) f cdv A outer s H E).A →
      PSsM (cxOf (L2N.CX P w) P w K mg base N qual (defScope st) f cdv A outer s H E) XR (fun _ => E) (defBody st) body) : DefOk P w K mg base x (k + 1) (spM K XR (mDef ps.length N.length body)) :=
  ⟨f, fd, ps, hm, F.kp, B, def_fnG F S hb⟩

section
variable {X : Cx} {XR : XRel} {E : L2.St → XK} {k j : Nat} {x : Str} {p pos : Pos} {e : Expr} {es : List Expr} {f : MF} {m : MEs}
/-- a call of a def whose promise is known, the arguments at hand -/
theorem go_call {pins : List (Addr × Obj)} {σ : L2.St} {z : Shared} {H : Hp} {Q : VK} {fa : Addr} {fd : FuncData} {ps : List Str} {us : List Value} {vs : List V} {sp : Sp} (F : FnG X.prog X.w X.K X.mg X.base k fa fd ps sp) (B : Binds X.K fd ps []) (hr : RoomG k X.A) (hx : PassesAt (L2N.CX X.prog X.w) X σ (E σ))
    (I : Inv X pins σ H z) (r : Vals vs us) (q : sp vs H Q (E σ)) : wpAny (model X.prog X.w) X.A (call (.ref fa) us) (EP X pins σ Q) X.xe z := by
  have num : us.length = ps.length := r.length ▸ F.arity _ _ _ _ q
  have B' : BindsTo z fd ⟨us, []⟩ (ps.zip us) := by
    have b := B z us I.kIn
    simp only [List.append_nil] at b
    exact b num
  apply wpAny_call
  apply codeAny_mono (F.go X.A X.stack z H _ us vs Q (E σ) hr.room hr.bare I.env0 B' r q)
  rintro (e | (_ | _ | _ | u)) z' c
  · exact hx pins H z e z' I c
  all_goals first
    | exact I.after c
    | exact c.elim
theorem FnG.mono {P : Program} {w : World} {K : PySem.W.Frag} {mg : Str → Option Value} {base : Heap} {fa : Addr} {fd : FuncData} {ps : List Str} {sp : Sp} (F : FnG P w K mg base k fa fd ps sp) (h : k ≤ j) : FnG P w K mg base j fa fd ps sp :=
  ⟨F.arity, fun A above z H args us vs Q E room => F.go A above z H args us vs Q E (room.mono h)⟩
theorem me_call (F : DefOk X.prog X.w X.K X.mg X.base x k (spM X.K XR f)) (hr : RoomG j X.A) (hk : k ≤ j) (hg : Gl X x) (hx : ∀ σ, PassesAt (L2N.CX X.prog X.w) X σ (E σ)) (ha : PMs X XR E (e :: es) m)
    (hdb : (x == ("__debug__" : Str)) = false := by decide) (he : starEach (e :: es) X.env = (false, eval e X.env) :: starEach es X.env := by rfl) (hpl : (backTo pos (starEach es X.env)).any (·.1) = false := by rfl) :
    PM X XR E (.Call (.Name x p) (e :: es) [] pos) (mCallP f m) where
  run pins z σ H Q I h := by
    obtain ⟨fa, fd, ps, hm, hkp, hb, F⟩ := F.ex
    obtain ⟨av, β, s, μ, rl, sr, h⟩ := h
    have got := ha.run pos pins z σ H (fun vs H1 => spM X.K XR f vs H1 Q (E σ)) I
      (tms_e rl sr h fun v μ' y H' β' _ _ rl' _ p q => ⟨av, β', μ', v, rl', p, q⟩)
    apply wpAny_Call_Name_kw
    apply ld_glob I hg hm _ hdb
    apply PySem.W.callWith_K (h₀ := X.base) I.ok.mod.kin hkp _ he hpl
    apply thn got
    rintro us z1 ⟨vs, H1, I1, r, q⟩
    exact ⟨I1.kIn, go_call (F.mono hk) hb hr (hx σ) I1 r q⟩
theorem at_def {P : Program} {w : World} {K : PySem.W.Frag} {mg : Str → Option Value} {base : Heap} {N : List Str} {qual : Str} {scope : Scope} {f : Addr} {cd : Value} {A : Around} {outer : List Env} {s : Shared} {H : Hp} {E : XK} : ∀ σ, PassesAt (L2N.CX P w) (cxOf (L2N.CX P w) P w K mg base N qual scope f cd A outer s H E) σ E :=
  fun σ pins H1 s1 e s2 I c => L2N.passes_call (L2N.takes_of rfl rfl rfl rfl) (fun _ _ _ _ h => h) pins σ H1 s1 e s2 I c
theorem at_blk {X : Cx} : ∀ σ, PassesAt (L2N.CX X.prog X.w) X σ (EF σ) := fun σ pins H1 s1 e s2 I c => by
  obtain ⟨_, _, _, _, _, _, _, _, _, _, _, _, no⟩ := c
  exact no.elim
theorem own_def {P : Program} {w : World} {K : PySem.W.Frag} {mg : Str → Option Value} {base : Heap} {N : List Str} {qual : Str} {scope : Scope} {f : Addr} {cd : Value} {A : Around} {outer : List Env} {s : Shared} {H : Hp} {E : XK} :
    PassesOwn (model P w) (cxOf (L2N.CX P w) P w K mg base N qual scope f cd A outer s H E).A (cxOf (L2N.CX P w) P w K mg base N qual scope f cd A outer s H E).env (cxOf (L2N.CX P w) P w K mg base N qual scope f cd A outer s H E).xe := passes_of rfl
end

/-! ### a def's worth, said otherwise -/
mutual
def PV.lo (n : Nat) : PV → Bool
  | .ref k => decide (k < n)
  | .tup xs => PV.los n xs
  | .frl xs => PV.los n xs
  | .scr xs => PV.los n xs
  | .ctp xs => PV.los n xs
  | .frd _ _ xs => PV.los n xs
  | _ => true
def PV.los (n : Nat) : List PV → Bool
  | [] => true
  | x :: xs => x.lo n && PV.los n xs
end
def MO.lo (n : Nat) : MO → Bool
  | .lst xs => PV.los n xs
  | .dK kvs => PV.los n (kvs.map (·.2))
  | .dT kvs => PV.los n (kvs.map (·.2))
section
variable {K : Gx} {H : Hp} {β β' : List Addr} {n : Nat}
mutual
theorem PRel.lo_ : ∀ (v : PV) {x : V}, PRel K H β v x → v.lo β.length = true
  | .non, x, h => by unfold PV.lo; rfl
  | .bl b, x, h => by unfold PV.lo; rfl
  | .int i, x, h => by unfold PV.lo; rfl
  | .str s, x, h => by unfold PV.lo; rfl
  | .op v, x, h => by unfold PV.lo; rfl
  | .ref n, x, h => by
    unfold PRel at h
    obtain ⟨a, e1, e2⟩ := h
    unfold PV.lo
    exact decide_eq_true (List.getElem?_eq_some_iff.mp e2).1
  | .tup xs, x, h => by
    unfold PRel at h
    obtain ⟨a, vs, e1, h1, h2⟩ := h
    unfold PV.lo
    exact PRels.lo_ xs h2
  | .frl xs, x, h => by
    unfold PRel at h
    obtain ⟨a, vs, e1, h1, h2⟩ := h
    unfold PV.lo
    exact PRels.lo_ xs h2
  | .scr xs, x, h => by
    unfold PRel at h
    obtain ⟨a, vs, e1, h1, h2⟩ := h
    unfold PV.lo
    exact PRels.lo_ xs h2
  | .ctp xs, x, h => by
    unfold PRel at h
    obtain ⟨a, vs, e1, h1, h2⟩ := h
    unfold PV.lo
    exact PRels.lo_ xs h2
  | .frd t ks xs, x, h => by
    unfold PRel at h
    obtain ⟨a, vs, e1, h1, h2⟩ := h
    unfold PV.lo
    exact PRels.lo_ xs h2
theorem PRels.lo_ : ∀ (v : List PV) {x : List V}, PRels K H β v x → PV.los β.length v = true
  | [], x, h => by unfold PV.los; rfl
  | v :: vs, x, h => by
    unfold PRels at h
    obtain ⟨y, ys, e1, h1, h2⟩ := h
    unfold PV.los
    rw [PRel.lo_ v h1, PRels.lo_ vs h2]
    rfl
end
mutual
theorem PV.lo_mono {m : Nat} (h : n ≤ m) : ∀ (v : PV), v.lo n = true → v.lo m = true
  | .non, _ => by unfold PV.lo; rfl
  | .bl b, _ => by unfold PV.lo; rfl
  | .int i, _ => by unfold PV.lo; rfl
  | .str s, _ => by unfold PV.lo; rfl
  | .op v, _ => by unfold PV.lo; rfl
  | .ref k, q => by unfold PV.lo at q ⊢; have := of_decide_eq_true q; exact decide_eq_true (by omega)
  | .tup xs, q => by unfold PV.lo at q ⊢; exact PV.los_mono h xs q
  | .frl xs, q => by unfold PV.lo at q ⊢; exact PV.los_mono h xs q
  | .scr xs, q => by unfold PV.lo at q ⊢; exact PV.los_mono h xs q
  | .ctp xs, q => by unfold PV.lo at q ⊢; exact PV.los_mono h xs q
  | .frd _ _ xs, q => by unfold PV.lo at q ⊢; exact PV.los_mono h xs q
theorem PV.los_mono {m : Nat} (h : n ≤ m) : ∀ (v : List PV), PV.los n v = true → PV.los m v = true
  | [], _ => by unfold PV.los; rfl
  | v :: vs, q => by
    unfold PV.los at q ⊢
    rw [Bool.and_eq_true] at q
    rw [PV.lo_mono h v q.1, PV.los_mono h vs q.2]
    rfl
end
theorem not_take {a : Addr} (h : a ∉ β) : a ∉ β.take n := fun q => h (List.mem_of_mem_take q)
theorem SqTf.take_ {a : Addr} {xs : List V} (h : SqTf K H β a xs) : SqTf K H (β.take n) a xs := ⟨h.1, not_take h.2.1, h.2.2⟩
theorem CT.take_ {a : Addr} {xs : List V} (h : CT K H β a xs) : CT K H (β.take n) a xs := by
  rcases h with ⟨h, h1, h2⟩ | h
  · exact .inl ⟨h, not_take h1, h2⟩
  · exact .inr h
theorem SqLf.take_ {a : Addr} {xs : List V} (h : SqLf K H β a xs) : SqLf K H (β.take n) a xs := by
  rcases h with ⟨h, h1, h2⟩ | h
  · exact .inl ⟨h, not_take h1, h2⟩
  · exact .inr h
mutual
theorem PRel.take_ : ∀ (v : PV) {x : V}, PRel K H β v x → v.lo n = true → PRel K H (β.take n) v x
  | .non, x, h, _ => by unfold PRel at h ⊢; exact h
  | .bl b, x, h, _ => by unfold PRel at h ⊢; exact h
  | .int i, x, h, _ => by unfold PRel at h ⊢; exact h
  | .str s, x, h, _ => by unfold PRel at h ⊢; exact h
  | .op v, x, h, _ => by unfold PRel at h ⊢; exact h
  | .ref k, x, h, q => by
    unfold PRel at h ⊢
    obtain ⟨a, e1, e2⟩ := h
    unfold PV.lo at q
    exact ⟨a, e1, by rw [List.getElem?_take, if_pos (of_decide_eq_true q)]; exact e2⟩
  | .tup xs, x, h, q => by
    unfold PRel at h ⊢
    obtain ⟨a, vs, e1, h1, h2⟩ := h
    unfold PV.lo at q
    exact ⟨a, vs, e1, h1.take_, PRels.take_ xs h2 q⟩
  | .frl xs, x, h, q => by
    unfold PRel at h ⊢
    obtain ⟨a, vs, e1, ⟨h1, hn, na⟩, h2⟩ := h
    unfold PV.lo at q
    exact ⟨a, vs, e1, ⟨h1, not_take hn, na⟩, PRels.take_ xs h2 q⟩
  | .scr xs, x, h, q => by
    unfold PRel at h ⊢
    obtain ⟨a, vs, e1, h1, h2⟩ := h
    unfold PV.lo at q
    exact ⟨a, vs, e1, h1.take_, PRels.take_ xs h2 q⟩
  | .ctp xs, x, h, q => by
    unfold PRel at h ⊢
    obtain ⟨a, vs, e1, h1, h2⟩ := h
    unfold PV.lo at q
    exact ⟨a, vs, e1, h1.take_, PRels.take_ xs h2 q⟩
  | .frd t ks xs, x, h, q => by
    unfold PRel at h ⊢
    obtain ⟨a, vs, e1, ⟨h1, hn, na⟩, h2⟩ := h
    unfold PV.lo at q
    exact ⟨a, vs, e1, ⟨h1, not_take hn, na⟩, PRels.take_ xs h2 q⟩
theorem PRels.take_ : ∀ (v : List PV) {x : List V}, PRels K H β v x → PV.los n v = true → PRels K H (β.take n) v x
  | [], x, h, _ => by unfold PRels at h ⊢; exact h
  | v :: vs, x, h, q => by
    unfold PRels at h ⊢
    obtain ⟨y, ys, e1, h1, h2⟩ := h
    unfold PV.los at q
    rw [Bool.and_eq_true] at q
    exact ⟨y, ys, e1, PRel.take_ v h1 q.1, PRels.take_ vs h2 q.2⟩
end
theorem ORel.take_ {a : Addr} {o : MO} (h : ORel K H β a o) (q : o.lo n = true) : ORel K H (β.take n) a o := by
  cases o with
  | lst xs => obtain ⟨vs, z, p⟩ := h; exact ⟨vs, z, PRels.take_ _ p q⟩
  | dK xs => obtain ⟨vs, z, p⟩ := h; exact ⟨vs, z, p.1, PRels.take_ _ p.2 q⟩
  | dT xs => obtain ⟨vs, z, p⟩ := h; exact ⟨vs, z, p.1, PRels.take_ _ p.2 q⟩
theorem ORel.lo_ {a : Addr} {o : MO} (h : ORel K H β a o) : o.lo β.length = true := by
  cases o with
  | lst xs => obtain ⟨vs, z, p⟩ := h; exact PRels.lo_ _ p
  | dK xs => obtain ⟨vs, z, p⟩ := h; exact PRels.lo_ _ p.2
  | dT xs => obtain ⟨vs, z, p⟩ := h; exact PRels.lo_ _ p.2
theorem MO.lo_mono {m : Nat} (h : n ≤ m) {o : MO} (q : o.lo n = true) : o.lo m = true := by
  cases o with
  | lst xs => exact PV.los_mono h _ q
  | dK xs => exact PV.los_mono h _ q
  | dT xs => exact PV.los_mono h _ q
end
/-- a result told to the callers: as it is, or a new list frozen -/
def Fz (n : Nat) (ν : MH) (v0 v : PV) : Prop := (v = v0 ∧ v0.lo n = true) ∨ ∃ k xs, v0 = .ref k ∧ n ≤ k ∧ ν[k]? = some (.lst xs) ∧ PV.los n xs = true ∧ v = .frl xs
/-- f' is f, with what is left over dropped -/
structure Drops (μ μ1 junk : MH) : Prop where
  le : μ.length ≤ μ1.length
  old : ∀ (i : Nat) (o : MO), μ1[i]? = some o → μ[i]? = some o ∨ o.lo μ1.length = true
def Ref (f' f : MF) : Prop := ∀ args μ, match f' args μ with
  | .bad => True
  | .ok v μ1 => ∃ junk v0, f args μ = .ok v0 (μ1 ++ junk) ∧ Drops μ μ1 junk ∧ Fz μ1.length (μ1 ++ junk) v0 v
  | .err c p μ1 => ∃ junk, f args μ = .err c p (μ1 ++ junk) ∧ Drops μ μ1 junk ∧ PV.los μ1.length p = true
structure XROk (XR : XRel) : Prop where
  take : ∀ c p cls d H β n, XR c p cls d H β → PV.los n p = true → XR c p cls d H (β.take n)
theorem Drops.ok {K : Gx} {H H' : Hp} {β β' : List Addr} {μ μ1 junk : MH} (d : Drops μ μ1 junk) (rl : Rl K H β μ) (ex : Ext H β H' β') (rl' : Rl K H' β' (μ1 ++ junk)) : Ext H β H' (β'.take μ1.length) ∧ Rl K H' (β'.take μ1.length) μ1 := by
  have hle := d.le
  have hl' : β'.length = μ1.length + junk.length := by rw [rl'.len, List.length_append]
  constructor
  · obtain ⟨nw, e1, f⟩ := ex.pre
    refine ⟨⟨nw.take (μ1.length - β.length), ?_, fun a ha => f a (List.mem_of_mem_take ha)⟩, ex.stay, ex.live⟩
    rw [e1, List.take_append, List.take_of_length_le (by rw [rl.len]; exact hle)]
  · refine ⟨by rw [List.length_take, hl']; omega, List.Nodup.sublist (List.take_sublist _ _) rl'.nd, fun n a o h1 h2 => ?_, rl'.avt⟩
    have hn : n < μ1.length := (List.getElem?_eq_some_iff.mp h2).1
    rw [List.getElem?_take, if_pos hn] at h1
    have q := rl'.obj n a o h1 (by rw [List.getElem?_append_left hn]; exact h2)
    refine q.take_ ?_
    rcases d.old n o h2 with z | z
    · obtain ⟨b, hb, ob⟩ := rl.at_ z
      exact MO.lo_mono (by rw [rl.len]; exact hle) ob.lo_
    · exact z
theorem spM_ref {K : PySem.W.Frag} {XR : XRel} {f f' : MF} (xo : XROk XR) (r : Ref f' f) (vs : List V) (H : Hp) (Q : VK) (E : XK) (h : spM K XR f' vs H Q E) : spM K XR f vs H Q E := by
  obtain ⟨av, β, μ, args, rl, pr, h⟩ := h
  refine ⟨av, β, μ, args, rl, pr, ?_⟩
  have q := r args μ
  cases e : f' args μ with
  | bad => rw [e] at h; exact h.elim
  | ok v μ1 =>
    rw [e] at h q
    obtain ⟨junk, v0, e0, d, fz⟩ := q
    rw [e0]
    intro x H' β' ex rl' p
    obtain ⟨ex1, rl1⟩ := d.ok rl ex rl'
    refine h x H' _ ex1 rl1 ?_
    rcases fz with ⟨rfl, hb⟩ | ⟨k, xs, rfl, hk, hx, hb, rfl⟩
    · exact p.take_ _ hb
    · unfold PRel at p ⊢
      obtain ⟨a, e1, e2⟩ := p
      have ob := rl'.obj k a _ e2 hx
      obtain ⟨ws, z, w⟩ := ob
      refine ⟨a, ws, e1, ⟨z, fun hm => ?_, fun hm => ?_⟩, PRels.take_ _ w hb⟩
      · obtain ⟨j, hj, ej⟩ := List.mem_iff_getElem.mp hm
        rw [List.length_take] at hj
        rw [List.getElem_take] at ej
        obtain ⟨hk2, ek⟩ := List.getElem?_eq_some_iff.mp e2
        have := (List.getElem_inj rl'.nd).mp (ej.trans ek.symm)
        omega
      · obtain ⟨nw, e3, f⟩ := ex.pre
        obtain ⟨hk2, ek⟩ := List.getElem?_eq_some_iff.mp e2
        have hle := d.le
        rw [e3, List.getElem?_append_right (by rw [rl.len]; omega)] at e2
        exact rl.avt a hm (f a (List.mem_of_getElem? e2))
  | err c pp μ1 =>
    rw [e] at h q
    obtain ⟨junk, e0, d, hb⟩ := q
    rw [e0]
    intro cls dd H' β' ex rl' p
    obtain ⟨ex1, rl1⟩ := d.ok rl ex rl'
    exact h cls dd H' _ ex1 rl1 (xo.take _ _ _ _ _ _ _ p hb)
end Mini

/-! M6: a law's end over FnG: what is tracked of the script at the call (scrH), and the end (walkG). -/
namespace Mini
open PySem PySem.Spec PyProof.Rows L2
/-- a law's script: a list of integers at a -/
structure Scr (z : Shared) (a : Addr) (vals : List Value) (ns : List Int) : Prop where
  at_ : z.heap.get? a = some { cls := .type "list", data := .seq vals.toArray }
  whole : IntsAre vals ns
  short : ns.length ≤ sizeLine
def scrO (vals : List Value) (ns : List Int) : HO := .frz { cls := .type "list", data := .seq vals.toArray } (.lst (ns.map V.int))
/-- the script is tracked, unless the part of the heap that is known holds it -/
noncomputable def scrH (K : PySem.W.Frag) (a : Addr) (vals : List Value) (ns : List Int) : Hp := fun b => if a = b ∧ (K.lookup a).isNone = true then some (scrO vals ns) else none
section
variable {K : PySem.W.Frag} {a b : Addr} {vals : List Value} {ns : List Int} {z : Shared} {P : Program} {w : World} {mg mb : Str → Option Value}
theorem scrH_cases : scrH K a vals ns b = none ∨ (a = b ∧ K.lookup a = none ∧ scrH K a vals ns b = some (scrO vals ns)) := by
  by_cases c : a = b ∧ (K.lookup a).isNone = true
  · exact .inr ⟨c.1, by simpa using c.2, if_pos c⟩
  · exact .inl (if_neg c)
theorem scrH_only : Only (scrH K a vals ns) := fun b => by
  rcases scrH_cases (K := K) (a := a) (b := b) (vals := vals) (ns := ns) with e | ⟨_, _, e⟩
  · exact .inl e
  · exact .inr ⟨_, _, e⟩
theorem scrH_sq (S : Scr z a vals ns) (kz : K.In z.heap) : SqL K (scrH K a vals ns) a (ns.map V.int) := by
  cases e : K.lookup a with
  | none => exact .inl (.inr ⟨_, show scrH K a vals ns a = some (scrO vals ns) from if_pos ⟨rfl, by simp [e]⟩⟩)
  | some o =>
    have same : o = { cls := .type "list", data := .seq vals.toArray } := Option.some.inj ((kz a o e).symm.trans S.at_)
    subst same
    exact .inr ⟨_, vals.toArray, _, e, rfl, rfl, rfl, by simp only [List.size_toArray, S.whole.length]; exact S.short, by simpa using L2.vals_ints S.whole⟩
theorem scrH_hok (S : Scr z a vals ns) : HOk P w (scrH K a vals ns) z.heap := fun b u e => by
  rcases scrH_cases (K := K) (a := a) (b := b) (vals := vals) (ns := ns) with n | ⟨rfl, _, y⟩
  · rw [n] at e; cases e
  · rw [y] at e
    cases e
    exact ⟨S.at_, by simpa using S.short, vals, _, L2.vals_ints S.whole, S.at_⟩
/-- what is no list stays in sight when the script is tracked -/
theorem scrH_sees (S : Scr z a vals ns) {o : Obj} (e : z.heap.get? b = some o) (h : ∀ xs n, o.data ≠ .seq xs n) : (hidT z.heap (scrH K a vals ns)).get? b = some o := by
  refine hidT_get e ?_
  rcases scrH_cases (K := K) (a := a) (b := b) (vals := vals) (ns := ns) with n | ⟨rfl, _, _⟩
  · exact n
  · rw [S.at_] at e
    cases e
    exact (h _ _ rfl).elim
theorem scrH_ns (S : Scr z a vals ns) {m : Str → Option Value} (n : z.heap.Ns b m) : (hidT z.heap (scrH K a vals ns)).Ns b m := by
  obtain ⟨o, es, ep, e, d, r⟩ := n
  exact ⟨o, es, ep, scrH_sees S e (fun xs k q => by rw [d] at q; cases q), d, r⟩
theorem scrH_in (kz : K.In z.heap) : K.In (hidT z.heap (scrH K a vals ns)) := fun b o e => hidT_get (kz b o e) <| by
  rcases scrH_cases (K := K) (a := a) (b := b) (vals := vals) (ns := ns) with n | ⟨rfl, y, _⟩
  · exact n
  · rw [y] at e; cases e
theorem scrH_env (S : Scr z a vals ns) (kz : K.In z.heap) (gl : z.heap.Ns mainGlobals mg) (bl : z.heap.Ns builtinsNs mb) (bb : ∀ y : Str, y ≠ "__name__" → mb y = bootBuiltins y) (nl : z.heap.NoLimit) (gn : z.gens = #[]) :
    Env0 P w K mg (hidT z.heap (scrH K a vals ns)) callerA [] z (scrH K a vals ns) where
  frames := rfl
  mod := ⟨scrH_in kz, scrH_ns S gl, ⟨mb, scrH_ns S bl, bb⟩, nl.elim fun mc h => ⟨mc, scrH_ns S h.1, h.2⟩⟩
  bs := fun _ _ => of_hidT
  bsz := Nat.le_of_eq (hidT_size _ _)
  funs := trivial
  frf := fun _ h => nomatch h
  hok := scrH_hok S
  bare := .of_eq gn
/-- nothing old has changed behind the call: the script is frozen, the rest was not tracked -/
theorem scrH_old {H' : Hp} {z' : Shared} (un : Un (frs []) [] (scrH K a vals ns) H' z.heap z'.heap) (hk : HOk P w (scrH K a vals ns) z.heap) (hk' : HOk P w H' z'.heap) : OldK z.heap z'.heap := .of_keep fun b o e => by
  rcases scrH_cases (K := K) (a := a) (b := b) (vals := vals) (ns := ns) with n | ⟨_, _, y⟩
  · exact un.keep b o e n (fun t => by cases t) fun t => by cases t
  · have now := (hk' b _ (un.frzs b _ _ y)).1
    have then_ := (hk b _ y).1
    rw [e] at then_
    rw [now, Option.some.inj then_]
/-- the script's worth -/
theorem scr_rel (S : Scr z a vals ns) (kz : K.In z.heap) : PRel ⟨K, []⟩ (scrH K a vals ns) [] (.scr (ns.map PV.int)) (.ref a) := by
  have each : ∀ ms : List Int, PRels ⟨K, []⟩ (scrH K a vals ns) [] (ms.map PV.int) (ms.map V.int) := fun ms => by
    induction ms with
    | nil => exact .nil
    | cons m ms ih => exact .cons .int_ ih
  unfold PRel
  refine ⟨a, ns.map V.int, rfl, ?_, each ns⟩
  exact (scrH_sq S kz).imp (fun q => ⟨q, by simp, by simp⟩) id
end
/-- the goal that k_head leaves, from the worth of the law's def -/
theorem walkG {l : PySem.W.OpenLaw} {n k : Nat} {q : Program} {loose : List Str} {XP : (Str → Option Value) → Heap → Prop} {YP : World → Heap → Prop} {d : DefRec} {K : Params → PySem.W.Frag} {x : Str} {XR : World → (Str → Option Value) → XRel} {f : MF}
    (most : l.most = some n) (sz : n ≤ sizeLine) (nod : d.params.defaults = []) (room : Room k callerA) (kin : ∀ (w : World) (h : Heap), YP w h → (K w.params).In h)
    (F : ∀ (w : World) (mg : Str → Option Value) (fa : Addr) (h : Heap), (K w.params).In h → h.Ns mainGlobals mg → mg d.name = some (.ref fa) →
      ∃ fd : FuncData, (∀ (s : Shared) (u : Value), BindsTo s fd ⟨[u], []⟩ [(x, u)]) ∧
        ∀ base : Heap, (K w.params).In base → base.Ns mainGlobals mg → FnG l.prog w (K w.params) mg base k fa fd [x] (spM (K w.params) (XR w mg) f))
    (val : ∀ ns : List Int, ns.length ≤ n → ∃ μ, f [.scr (ns.map PV.int)] [] = .ok (.bl true) μ) : PySem.W.WalkO q loose XP YP l.row.toRowW d [] (fun f vs => PySem.call f vs) := by
  apply Att.attach_call most nod
  intro w s₀ z mg mb fa o pm cd doc a vals ns G Y ho hd hcd hmg hobj hints hlen hg
  have S : Scr z a vals ns := ⟨hobj, hints, Nat.le_trans hlen sz⟩
  have kz := kin w _ Y
  obtain ⟨fd, bnd, hF⟩ := F w mg fa _ kz G.T.g hmg
  obtain ⟨μ, hv⟩ := val ns hlen
  have env := scrH_env (P := l.prog) (w := w) S kz G.T.g G.T.b G.T.builtins G.T.nolimit hg
  have told : spM (K w.params) (XR w mg) f [.ref a] (scrH (K w.params) a vals ns) (fun v _ => v = .bl true) (fun _ _ _ => False) := by
    refine ⟨[], [], [], [.scr (ns.map PV.int)], ⟨rfl, List.nodup_nil, by simp, by simp⟩, .cons (scr_rel S kz) .nil, ?_⟩
    rw [hv]
    intro y _ _ _ _ p
    unfold PRel at p
    exact p
  have run := (hF _ env.mod.kin (scrH_ns S G.T.g)).go callerA [] z _ ⟨[.ref a], []⟩ [.ref a] [.ref a] _ _ room rfl env (bnd z (.ref a)) (.cons rfl .nil) told
  apply codeAny_mono run
  rintro (e | (_ | _ | _ | u)) z' c
  · obtain ⟨_, _, _, _, _, _, _, _, _, _, _, _, no⟩ := c
    exact no.elim
  · exact c.elim
  · exact c.elim
  · exact c.elim
  · obtain ⟨v, H', os, bare, un, hok', rv, rfl⟩ := c
    have : u = .bool true := rv
    subst this
    exact ⟨rfl, scrH_old un env.hok hok', os, bare⟩
end Mini

/-! M7: operations by values. -/
namespace Mini
open PySem PySem.Spec PyProof.Rows L2

/-! ### reading lists and tuples -/
def lstM : PV → MH → Option (List PV)
  | .frl xs, _ => some xs
  | .ref n, μ => match μ[n]? with
    | some (.lst xs) => some xs
    | _ => none
  | _, _ => none
def lstR : PV → MH → Option (List PV)
  | .scr xs, _ => some xs
  | v, μ => lstM v μ
section
variable {K : Gx} {H : Hp} {β : List Addr} {μ : MH}
theorem lstM_ok {v : PV} {xs : List PV} {x : V} (rl : Rl K H β μ) (p : PRel K H β v x) (h : lstM v μ = some xs) : ∃ a vs, x = .ref a ∧ H a = some (.lst vs) ∧ PRels K H β xs vs := by
  unfold lstM at h
  split at h
  · cases h
    unfold PRel at p
    obtain ⟨a, vs, e, ⟨h1, _⟩, h2⟩ := p
    exact ⟨a, vs, e, h1, h2⟩
  · split at h
    · rename_i n _ _ e
      cases h
      unfold PRel at p
      obtain ⟨a, e1, e2⟩ := p
      obtain ⟨vs, h1, h2⟩ := rl.obj _ a _ e2 e
      exact ⟨a, vs, e1, h1, h2⟩
    · cases h
  · cases h
theorem lstR_ok {v : PV} {xs : List PV} {x : V} (rl : Rl K H β μ) (p : PRel K H β v x) (h : lstR v μ = some xs) : ∃ a vs, x = .ref a ∧ SqL K.fr H a vs ∧ PRels K H β xs vs := by
  unfold lstR at h
  split at h
  · cases h
    unfold PRel at p
    obtain ⟨a, vs, e, h1, h2⟩ := p
    exact ⟨a, vs, e, h1.sq, h2⟩
  · obtain ⟨a, vs, e, h1, h2⟩ := lstM_ok rl p h
    exact ⟨a, vs, e, SqL.of h1, h2⟩
theorem int_inv {i : Int} {x : V} (p : PRel K H β (.int i) x) : x = .int i := by unfold PRel at p; exact p
theorem str_inv {i : Str} {x : V} (p : PRel K H β (.str i) x) : x = .str i := by unfold PRel at p; exact p
theorem non_inv {x : V} (p : PRel K H β .non x) : x = .non := by unfold PRel at p; exact p
/-- a new tuple, a new frozen list at hand -/
theorem new_tup {E : XK} {Q : VK} {XR : XRel} {ws : List PV} {vs : List V} (rl : Rl K H β μ) (p : PRels K H β ws vs) (h : OutOk K XR H β E Q (.ok (.tup ws) μ)) : ∀ a, H a = none → Q (.ref a) (upd H a (.tup vs)) := fun a ha => by
  refine h _ _ β (Ext.new rl ha _) (rl.new ha _) ?_
  unfold PRel
  exact ⟨a, vs, rfl, ⟨upd_same, rl.fresh ha⟩, PRels.ext (Ext.new rl ha _) _ p⟩
theorem new_frl {E : XK} {Q : VK} {XR : XRel} {ws : List PV} {vs : List V} (rl : Rl K H β μ) (p : PRels K H β ws vs) (h : OutOk K XR H β E Q (.ok (.frl ws) μ)) : ∀ a, H a = none → Q (.ref a) (upd H a (.lst vs)) := fun a ha => by
  refine h _ _ β (Ext.new rl ha _) (rl.new ha _) ?_
  unfold PRel
  exact ⟨a, vs, rfl, ⟨upd_same, rl.fresh ha⟩, PRels.ext (Ext.new rl ha _) _ p⟩
theorem new_lst {E : XK} {Q : VK} {XR : XRel} {ws : List PV} {vs : List V} (rl : Rl K H β μ) (p : PRels K H β ws vs) (h : OutOk K XR H β E Q (.ok (.ref μ.length) (μ ++ [.lst ws]))) : ∀ a, H a = none → Q (.ref a) (upd H a (.lst vs)) := fun a ha =>
  h _ _ (β ++ [a]) (Ext.place rl ha _) (rl.place ha ⟨vs, upd_same, PRels.ext (Ext.place rl ha _) _ p⟩) (PRel.place rl)
end

/-! ### arithmetic -/
def fAdd : PV → PV → MH → R PV
  | .int i, .int j, μ => .ok (.int (i + j)) μ
  | .str a, .str b, μ => if a.length + b.length ≤ sizeLine then .ok (.str (a ++ b)) μ else .bad
  | .tup xs, .tup ys, μ => if xs.length + ys.length ≤ sizeLine then .ok (.tup (xs ++ ys)) μ else .bad
  | v, w, μ => match lstM v μ, lstM w μ with
    | some xs, some ys => if xs.length + ys.length ≤ sizeLine then .ok (.frl (xs ++ ys)) μ else .bad
    | _, _ => .bad
def rAddA (K : PySem.W.Frag) : R2 := fun x y H Q => rI0 (fun i j => .int (i + j)) x y H Q ∨ (∃ i j, x = .str i ∧ y = .str j ∧ i.length + j.length ≤ sizeLine ∧ Q (.str (i ++ j)) H) ∨ rCatA K x y H Q ∨ rCat x y H Q
@[simp] def fSub : PV → PV → MH → R PV
  | .int i, .int j, μ => .ok (.int (i - j)) μ
  | _, _, _ => .bad
def okMul (i j : Int) : Bool := decide (i.natAbs.log2 + j.natAbs.log2 < 1000000)
def fMul : PV → PV → MH → R PV
  | .int i, .int j, μ => if okMul i j then .ok (.int (i * j)) μ else .bad
  | _, _, _ => .bad
def fFdiv : PV → PV → MH → R PV
  | .int i, .int j, μ => if 0 < j ∧ j.natAbs.log2 < 9000 then .ok (.int (i / j)) μ else .bad
  | _, _, _ => .bad
def fMod : PV → PV → MH → R PV
  | .int i, .int j, μ => if j ≠ 0 then .ok (.int (i.fmod j)) μ else .bad
  | _, _, _ => .bad
def fPow : PV → PV → MH → R PV
  | .int i, .int j, μ => if 0 ≤ j ∧ j ≤ 1000000 ∧ i.natAbs < 2 ^ 64 then .ok (.int (i ^ j.toNat)) μ else .bad
  | _, _, _ => .bad
@[simp] def fNeg : PV → MH → R PV
  | .int i, μ => .ok (.int (-i)) μ
  | _, _ => .bad
def fLt : PV → PV → MH → R PV
  | .int i, .int j, μ => .ok (.bl (decide (i < j))) μ
  | .str a, .str b, μ => .ok (.bl (decide (a.cps.toList < b.cps.toList))) μ
  | _, _, _ => .bad
@[simp] def fLe : PV → PV → MH → R PV
  | .int i, .int j, μ => .ok (.bl (decide (i ≤ j))) μ
  | _, _, _ => .bad
@[simp] def fGt : PV → PV → MH → R PV
  | .int i, .int j, μ => .ok (.bl (decide (j < i))) μ
  | _, _, _ => .bad
@[simp] def fGe : PV → PV → MH → R PV
  | .int i, .int j, μ => .ok (.bl (decide (j ≤ i))) μ
  | _, _, _ => .bad
section
variable {X : Cx} {XR : XRel} {K : PySem.W.Frag}
theorem ok_here {G : Gx} {H : Hp} {β : List Addr} {μ : MH} {E : XK} {Q : VK} {v : PV} {x : V} (h : OutOk G XR H β E Q (.ok v μ)) (rl : Rl G H β μ) (p : PRel G H β v x) : Q x H := h x H β .refl rl p
theorem op_addA : OpR X (binaryOp .Add) (rAddA X.K) := op_add.or (op_add_str.or (op_catA.or op_cat))
theorem om_add : OpM K XR fAdd (rAddA K) := by
  intro av E H β μ v w x y Q rl pv pw h
  unfold fAdd at h
  split at h
  · exact .inl ⟨_, _, int_inv pv, int_inv pw, ok_here h rl .int_⟩
  · split at h
    · rename_i hl; exact .inr (.inl ⟨_, _, str_inv pv, str_inv pw, hl, ok_here h rl .str_⟩)
    · exact h.elim
  · rename_i _ xs ys
    split at h
    · rename_i hl
      obtain ⟨a, vs, e1, s1, p1⟩ := tup_inv pv
      obtain ⟨b, ws, e2, s2, p2⟩ := tup_inv pw
      refine .inr (.inr (.inl ⟨a, b, vs, ws, e1, e2, s1.sq, s2.sq, by rw [← p1.length, ← p2.length]; exact hl, fun e => ?_, fun n e => ?_, fun n m => new_tup rl (p1.app p2) h⟩))
      · refine ok_here h rl ?_
        have : xs = [] := List.length_eq_zero_iff.mp (by rw [p1.length, e]; rfl)
        subst this
        unfold PRel
        exact ⟨b, ws, rfl, s2, p2⟩
      · refine ok_here h rl ?_
        have : ys = [] := List.length_eq_zero_iff.mp (by rw [p2.length, e]; rfl)
        subst this
        rw [List.append_nil]
        unfold PRel
        exact ⟨a, vs, rfl, s1, p1⟩
    · exact h.elim
  · split at h
    · rename_i xs ys e1 e2
      split at h
      · rename_i hl
        obtain ⟨a, vs, x1, h1, p1⟩ := lstM_ok rl pv e1
        obtain ⟨b, ws, x2, h2, p2⟩ := lstM_ok rl pw e2
        exact .inr (.inr (.inr ⟨a, b, vs, ws, x1, x2, h1, h2, by rw [← p1.length, ← p2.length]; exact hl, new_frl rl (p1.app p2) h⟩))
      · exact h.elim
    · exact h.elim
theorem om_sub : OpM K XR fSub (rI0 fun i j => .int (i - j)) := by
  intro av E H β μ v w x y Q rl pv pw h
  unfold fSub at h
  split at h
  · exact ⟨_, _, int_inv pv, int_inv pw, ok_here h rl .int_⟩
  · exact h.elim
theorem om_mul : OpM K XR fMul (rI CMulW fun i j => .int (i * j)) := by
  intro av E H β μ v w x y Q rl pv pw h
  unfold fMul at h
  split at h
  · split at h
    · rename_i hl; exact ⟨_, _, int_inv pv, int_inv pw, (by simpa [okMul, CMulW] using hl), ok_here h rl .int_⟩
    · exact h.elim
  · exact h.elim
theorem om_fdiv : OpM K XR fFdiv (rI CDivW fun i j => .int (i / j)) := by
  intro av E H β μ v w x y Q rl pv pw h
  unfold fFdiv at h
  split at h
  · split at h
    · rename_i hl; exact ⟨_, _, int_inv pv, int_inv pw, hl, ok_here h rl .int_⟩
    · exact h.elim
  · exact h.elim
theorem om_mod : OpM K XR fMod (rI (fun _ j => j ≠ 0) fun i j => .int (i.fmod j)) := by
  intro av E H β μ v w x y Q rl pv pw h
  unfold fMod at h
  split at h
  · split at h
    · rename_i hl; exact ⟨_, _, int_inv pv, int_inv pw, hl, ok_here h rl .int_⟩
    · exact h.elim
  · exact h.elim
theorem om_pow : OpM K XR fPow (rI CPow fun i j => .int (i ^ j.toNat)) := by
  intro av E H β μ v w x y Q rl pv pw h
  unfold fPow at h
  split at h
  · split at h
    · rename_i hl; exact ⟨_, _, int_inv pv, int_inv pw, hl, ok_here h rl .int_⟩
    · exact h.elim
  · exact h.elim
theorem um_neg : UnM K XR fNeg (rU fun i => .int (-i)) := by
  intro av E H β μ v x Q rl pv h
  unfold fNeg at h
  split at h
  · exact ⟨_, int_inv pv, ok_here h rl .int_⟩
  · exact h.elim
def rLtA : R2 := fun x y H Q => rI0 (fun i j => .bl (decide (i < j))) x y H Q ∨ ∃ i j, x = .str i ∧ y = .str j ∧ Q (.bl (decide (i.cps.toList < j.cps.toList))) H
theorem op_ltA : OpR X (compareOp .Lt) rLtA := op_lt.or op_lt_str
theorem om_lt : OpM K XR fLt rLtA := by
  intro av E H β μ v w x y Q rl pv pw h
  unfold fLt at h
  split at h
  · exact .inl ⟨_, _, int_inv pv, int_inv pw, ok_here h rl .bl_⟩
  · exact .inr ⟨_, _, str_inv pv, str_inv pw, ok_here h rl .bl_⟩
  · exact h.elim
theorem om_le : OpM K XR fLe (rI0 fun i j => .bl (decide (i ≤ j))) := by
  intro av E H β μ v w x y Q rl pv pw h
  unfold fLe at h
  split at h
  · exact ⟨_, _, int_inv pv, int_inv pw, ok_here h rl .bl_⟩
  · exact h.elim
theorem om_gt : OpM K XR fGt (rI0 fun i j => .bl (decide (j < i))) := by
  intro av E H β μ v w x y Q rl pv pw h
  unfold fGt at h
  split at h
  · exact ⟨_, _, int_inv pv, int_inv pw, ok_here h rl .bl_⟩
  · exact h.elim
theorem om_ge : OpM K XR fGe (rI0 fun i j => .bl (decide (j ≤ i))) := by
  intro av E H β μ v w x y Q rl pv pw h
  unfold fGe at h
  split at h
  · exact ⟨_, _, int_inv pv, int_inv pw, ok_here h rl .bl_⟩
  · exact h.elim
end

/-! ### data: ==, repr -/
mutual
def pD : PV → Option PyData
  | .non => some .none
  | .bl b => some (.bool b)
  | .int i => some (.int i)
  | .str x => some (.str x)
  | .tup xs => (pDs xs).map .tuple
  | .frl xs => (pDs xs).map .list
  | .scr xs => (pDs xs).map .list
  | .ctp xs => (pDs xs).map .tuple
  | _ => none
def pDs : List PV → Option (List PyData)
  | [] => some []
  | x :: xs => match pD x, pDs xs with
    | some d, some ds => some (d :: ds)
    | _, _ => none
end
mutual
/-- .. with places that hold lists of data -/
def toD (μ : MH) : PV → Option PyData
  | .non => some .none
  | .bl b => some (.bool b)
  | .int i => some (.int i)
  | .str x => some (.str x)
  | .tup xs => (toDs μ xs).map .tuple
  | .frl xs => (toDs μ xs).map .list
  | .scr xs => (toDs μ xs).map .list
  | .ctp xs => (toDs μ xs).map .tuple
  | .ref n => match μ[n]? with
    | some (.lst xs) => (pDs xs).map .list
    | _ => none
  | .op _ => none
  | .frd _ _ _ => none
def toDs (μ : MH) : List PV → Option (List PyData)
  | [] => some []
  | x :: xs => match toD μ x, toDs μ xs with
    | some d, some ds => some (d :: ds)
    | _, _ => none
end
section
variable {K : Gx} {H : Hp} {β : List Addr} {μ : MH}
mutual
theorem pD_ok : ∀ (v : PV) {x : V} {d : PyData}, PRel K H β v x → pD v = some d → Dp K.fr H x d
  | .non, x, d, p, h => by unfold PRel at p; unfold pD at h; cases h; subst p; exact .non
  | .bl b, x, d, p, h => by unfold PRel at p; unfold pD at h; cases h; subst p; exact .bl b
  | .int b, x, d, p, h => by unfold PRel at p; unfold pD at h; cases h; subst p; exact .int b
  | .str b, x, d, p, h => by unfold PRel at p; unfold pD at h; cases h; subst p; exact .str b
  | .op b, x, d, p, h => by unfold pD at h; cases h
  | .ref b, x, d, p, h => by unfold pD at h; cases h
  | .tup xs, x, d, p, h => by
    unfold PRel at p
    unfold pD at h
    obtain ⟨a, vs, rfl, h1, h2⟩ := p
    rw [Option.map_eq_some_iff] at h
    obtain ⟨ds, e1, rfl⟩ := h
    exact .tup h1.sq (pDs_ok xs h2 e1)
  | .frl xs, x, d, p, h => by
    unfold PRel at p
    unfold pD at h
    obtain ⟨a, vs, rfl, h1, h2⟩ := p
    rw [Option.map_eq_some_iff] at h
    obtain ⟨ds, e1, rfl⟩ := h
    exact .lst (SqL.of h1.1) (pDs_ok xs h2 e1)
  | .scr xs, x, d, p, h => by
    unfold PRel at p
    unfold pD at h
    obtain ⟨a, vs, rfl, h1, h2⟩ := p
    rw [Option.map_eq_some_iff] at h
    obtain ⟨ds, e1, rfl⟩ := h
    exact .lst h1.sq (pDs_ok xs h2 e1)
  | .ctp xs, x, d, p, h => by
    unfold PRel at p
    unfold pD at h
    obtain ⟨a, vs, rfl, h1, h2⟩ := p
    rw [Option.map_eq_some_iff] at h
    obtain ⟨ds, e1, rfl⟩ := h
    exact .tup h1.sq (pDs_ok xs h2 e1)
  | .frd _ _ _, x, d, p, h => by unfold pD at h; cases h
theorem pDs_ok : ∀ (v : List PV) {x : List V} {d : List PyData}, PRels K H β v x → pDs v = some d → DpAll K.fr H x d
  | [], x, d, p, h => by rw [PRels.nil_iff] at p; unfold pDs at h; cases h; subst p; exact .nil
  | v :: vs, x, d, p, h => by
    obtain ⟨y, ys, rfl, p1, p2⟩ := p.inv
    unfold pDs at h
    split at h
    · rename_i e1 e2
      cases h
      exact .cons (pD_ok v p1 e1) (pDs_ok vs p2 e2)
    · cases h
end
mutual
theorem toD_ok (rl : Rl K H β μ) : ∀ (v : PV) {x : V} {d : PyData}, PRel K H β v x → toD μ v = some d → Dp K.fr H x d
  | .non, x, d, p, h => by unfold PRel at p; unfold toD at h; cases h; subst p; exact .non
  | .bl b, x, d, p, h => by unfold PRel at p; unfold toD at h; cases h; subst p; exact .bl b
  | .int b, x, d, p, h => by unfold PRel at p; unfold toD at h; cases h; subst p; exact .int b
  | .str b, x, d, p, h => by unfold PRel at p; unfold toD at h; cases h; subst p; exact .str b
  | .op b, x, d, p, h => by unfold toD at h; cases h
  | .ref n, x, d, p, h => by
    unfold toD at h
    split at h
    · rename_i xs e
      rw [Option.map_eq_some_iff] at h
      obtain ⟨ds, e1, rfl⟩ := h
      unfold PRel at p
      obtain ⟨a, rfl, e2⟩ := p
      obtain ⟨vs, h1, h2⟩ := rl.obj n a _ e2 e
      exact .lst (SqL.of h1) (pDs_ok xs h2 e1)
    · cases h
  | .tup xs, x, d, p, h => by
    unfold PRel at p
    unfold toD at h
    obtain ⟨a, vs, rfl, h1, h2⟩ := p
    rw [Option.map_eq_some_iff] at h
    obtain ⟨ds, e1, rfl⟩ := h
    exact .tup h1.sq (toDs_ok rl xs h2 e1)
  | .frl xs, x, d, p, h => by
    unfold PRel at p
    unfold toD at h
    obtain ⟨a, vs, rfl, h1, h2⟩ := p
    rw [Option.map_eq_some_iff] at h
    obtain ⟨ds, e1, rfl⟩ := h
    exact .lst (SqL.of h1.1) (toDs_ok rl xs h2 e1)
  | .scr xs, x, d, p, h => by
    unfold PRel at p
    unfold toD at h
    obtain ⟨a, vs, rfl, h1, h2⟩ := p
    rw [Option.map_eq_some_iff] at h
    obtain ⟨ds, e1, rfl⟩ := h
    exact .lst h1.sq (toDs_ok rl xs h2 e1)
  | .ctp xs, x, d, p, h => by
    unfold PRel at p
    unfold toD at h
    obtain ⟨a, vs, rfl, h1, h2⟩ := p
    rw [Option.map_eq_some_iff] at h
    obtain ⟨ds, e1, rfl⟩ := h
    exact .tup h1.sq (toDs_ok rl xs h2 e1)
  | .frd _ _ _, x, d, p, h => by unfold toD at h; cases h
theorem toDs_ok (rl : Rl K H β μ) : ∀ (v : List PV) {x : List V} {d : List PyData}, PRels K H β v x → toDs μ v = some d → DpAll K.fr H x d
  | [], x, d, p, h => by rw [PRels.nil_iff] at p; unfold toDs at h; cases h; subst p; exact .nil
  | v :: vs, x, d, p, h => by
    obtain ⟨y, ys, rfl, p1, p2⟩ := p.inv
    unfold toDs at h
    split at h
    · rename_i e1 e2
      cases h
      exact .cons (toD_ok rl v p1 e1) (toDs_ok rl vs p2 e2)
    · cases h
end
end
def eqD (v w : PV) (μ : MH) : Option Bool := match toD μ v, toD μ w with
  | some d, some e => if SeqAt.shaped d && SeqAt.shaped e then some (PyData.eqv d e) else none
  | _, _ => none
def fEq : PV → PV → MH → R PV
  | .int i, .int j, μ => .ok (.bl (decide (i = j))) μ
  | .str i, .str j, μ => .ok (.bl (decide (i = j))) μ
  | .bl i, .bl j, μ => .ok (.bl (decide (i = j))) μ
  | v, w, μ => match eqD v w μ with
    | some b => .ok (.bl b) μ
    | none => .bad
def fNe : PV → PV → MH → R PV
  | .int i, .int j, μ => .ok (.bl (!decide (i = j))) μ
  | .str i, .str j, μ => .ok (.bl (!decide (i = j))) μ
  | .bl i, .bl j, μ => .ok (.bl (!decide (i = j))) μ
  | v, w, μ => match eqD v w μ with
    | some b => .ok (.bl (!b)) μ
    | none => .bad
def rEqA (K : PySem.W.Frag) : R2 := fun x y H Q => rEq x y H Q ∨ rEqD K x y H Q
def rNeA (K : PySem.W.Frag) : R2 := fun x y H Q => rNe x y H Q ∨ rNeD K x y H Q
section
variable {X : Cx} {XR : XRel} {K : PySem.W.Frag}
theorem op_eqA {k : Nat} (hr : RoomG k X.A) : OpR X (compareOp .Eq) (rEqA X.K) := op_eq.or (op_eqD hr.room.units)
theorem op_neA {k : Nat} (hr : RoomG k X.A) : OpR X (compareOp .NotEq) (rNeA X.K) := op_ne.or (op_neD hr.room.units)
theorem eqD_ok {G : Gx} {H : Hp} {β : List Addr} {μ : MH} {v w : PV} {x y : V} {b : Bool} (rl : Rl G H β μ) (pv : PRel G H β v x) (pw : PRel G H β w y) (h : eqD v w μ = some b) : ∃ d e, Dp G.fr H x d ∧ Dp G.fr H y e ∧ SeqAt.shaped d = true ∧ SeqAt.shaped e = true ∧ PyData.eqv d e = b := by
  unfold eqD at h
  split at h
  · rename_i d e e1 e2
    split at h
    · rename_i hs
      rw [Bool.and_eq_true] at hs
      cases h
      exact ⟨d, e, toD_ok rl v pv e1, toD_ok rl w pw e2, hs.1, hs.2, rfl⟩
    · cases h
  · cases h
theorem om_eq : OpM K XR fEq (rEqA K) := by
  intro av E H β μ v w x y Q rl pv pw h
  unfold fEq at h
  split at h
  · have e1 := int_inv pv; have e2 := int_inv pw; subst e1; subst e2
    refine .inl ⟨rfl, ?_⟩
    rw [dec_int, Bool.beq_eq_decide_eq]
    exact ok_here h rl .bl_
  · have e1 := str_inv pv; have e2 := str_inv pw; subst e1; subst e2
    refine .inl ⟨rfl, ?_⟩
    rw [dec_str, Bool.beq_eq_decide_eq]
    exact ok_here h rl .bl_
  · have e1 := bl_inv pv; have e2 := bl_inv pw; subst e1; subst e2
    refine .inl ⟨rfl, ?_⟩
    rw [dec_bl, Bool.beq_eq_decide_eq]
    exact ok_here h rl .bl_
  · split at h
    · rename_i b e
      obtain ⟨d, d2, h1, h2, h3, h4, rfl⟩ := eqD_ok rl pv pw e
      exact .inr ⟨d, d2, h1, h2, h3, h4, ok_here h rl .bl_⟩
    · exact h.elim
theorem om_ne : OpM K XR fNe (rNeA K) := by
  intro av E H β μ v w x y Q rl pv pw h
  unfold fNe at h
  split at h
  · have e1 := int_inv pv; have e2 := int_inv pw; subst e1; subst e2
    refine .inl ⟨rfl, ?_⟩
    rw [dec_int, Bool.beq_eq_decide_eq]
    exact ok_here h rl .bl_
  · have e1 := str_inv pv; have e2 := str_inv pw; subst e1; subst e2
    refine .inl ⟨rfl, ?_⟩
    rw [dec_str, Bool.beq_eq_decide_eq]
    exact ok_here h rl .bl_
  · have e1 := bl_inv pv; have e2 := bl_inv pw; subst e1; subst e2
    refine .inl ⟨rfl, ?_⟩
    rw [dec_bl, Bool.beq_eq_decide_eq]
    exact ok_here h rl .bl_
  · split at h
    · rename_i b e
      obtain ⟨d, d2, h1, h2, h3, h4, rfl⟩ := eqD_ok rl pv pw e
      exact .inr ⟨d, d2, h1, h2, h3, h4, ok_here h rl .bl_⟩
    · exact h.elim
end
/-- repr -/
def reprOf (v : PV) (μ : MH) : R PV := match toD μ v with
  | some d => if d.showable = true ∧ d.shown.length ≤ sizeLine ∧ d.depth ≤ 60 then .ok (.str d.shown) μ else .bad
  | none => .bad
def fRepr : List PV → MH → R PV
  | [.frl xs], μ => reprOf (.frl xs) μ
  | [.tup xs], μ => reprOf (.tup xs) μ
  | [.ctp xs], μ => reprOf (.ctp xs) μ
  | _, _ => .bad
def rRepr (K : PySem.W.Frag) : List V → Hp → VK → Prop := fun vs H Q => ∃ a d, vs = [.ref a] ∧ Dp K H (.ref a) d ∧ d.showable = true ∧ d.shown.length ≤ sizeLine ∧ d.depth ≤ 60 ∧ Q (.str d.shown) H
section
variable {X : Cx} {XR : XRel} {K : PySem.W.Frag}
mutual
theorem Dp.noDict {H : Hp} : ∀ (d : PyData) {v : V}, Dp K H v d → d.hasDict = false
  | .none, _, _ => by unfold PyData.hasDict; rfl
  | .bool _, _, _ => by unfold PyData.hasDict; rfl
  | .int _, _, _ => by unfold PyData.hasDict; rfl
  | .str _, _, _ => by unfold PyData.hasDict; rfl
  | .list xs, _, h => by
    cases h with
    | lst h1 h2 => unfold PyData.hasDict; exact DpAll.noDict xs h2
  | .tuple xs, _, h => by
    cases h with
    | tup h1 h2 => unfold PyData.hasDict; exact DpAll.noDict xs h2
  | .dict _, _, h => by cases h
theorem DpAll.noDict {H : Hp} : ∀ (ds : List PyData) {vs : List V}, DpAll K H vs ds → PyData.hasDictAll ds = false
  | [], _, _ => by unfold PyData.hasDictAll; rfl
  | d :: ds, _, h => by
    cases h with
    | cons h1 h2 => unfold PyData.hasDictAll; rw [Dp.noDict d h1, DpAll.noDict ds h2]; rfl
end
theorem cr_repr {k : Nat} (hr : RoomG k X.A) : CallR X (.builtin "repr") (rRepr X.K) := by
  intro pins s σ H vs us Q I r h
  obtain ⟨a, d, rfl, hd, h1, h2, h3, q⟩ := h
  have e := Vals.ref1 r
  subst e
  obtain ⟨as, rd⟩ := L2.Dp.reads I d (.ref a) (.ref a) hd rfl
  have hu := hr.room.units
  refine repr_of_reads' rd h1 (fun z => ?_) hr.bare (by omega) (fun _ _ e => e) (fun h' u tk hk => ⟨.str d.shown, H, I.kept hk, ⟨u, rfl⟩, q⟩) h2
  rw [Dp.noDict d hd] at z; cases z
theorem reprOf_ok {av : List Addr} {E : XK} {H : Hp} {β : List Addr} {μ : MH} {v : PV} {a : Addr} {Q : VK} (rl : Rl ⟨K, av⟩ H β μ) (p : PRel ⟨K, av⟩ H β v (.ref a)) (h : OutOk ⟨K, av⟩ XR H β E Q (reprOf v μ)) : rRepr K [.ref a] H Q := by
  unfold reprOf at h
  split at h
  · rename_i d e
    split at h
    · rename_i hc
      exact ⟨a, d, rfl, toD_ok rl v p e, hc.1, hc.2.1, hc.2.2, ok_here h rl .str_⟩
    · exact h.elim
  · exact h.elim
theorem one_inv {G : Gx} {H : Hp} {β : List Addr} {v : PV} {x : List V} (p : PRels G H β [v] x) : ∃ y, x = [y] ∧ PRel G H β v y := by
  obtain ⟨y, ys, rfl, p1, p2⟩ := p.inv
  rw [PRels.nil_iff] at p2
  subst p2
  exact ⟨y, rfl, p1⟩
theorem two_inv {G : Gx} {H : Hp} {β : List Addr} {v w : PV} {x : List V} (p : PRels G H β [v, w] x) : ∃ y z, x = [y, z] ∧ PRel G H β v y ∧ PRel G H β w z := by
  obtain ⟨y, ys, rfl, p1, p2⟩ := p.inv
  obtain ⟨z, rfl, p3⟩ := one_inv p2
  exact ⟨y, z, rfl, p1, p3⟩
theorem cm_repr : CallM K XR fRepr (rRepr K) := by
  intro av E H β μ v x Q rl pv h
  unfold fRepr at h
  split at h
  · obtain ⟨y, rfl, p⟩ := one_inv pv
    have p' := p
    unfold PRel at p'
    obtain ⟨a, _, rfl, _⟩ := p'
    exact reprOf_ok rl p h
  · obtain ⟨y, rfl, p⟩ := one_inv pv
    have p' := p
    unfold PRel at p'
    obtain ⟨a, _, rfl, _⟩ := p'
    exact reprOf_ok rl p h
  · obtain ⟨y, rfl, p⟩ := one_inv pv
    have p' := p
    unfold PRel at p'
    obtain ⟨a, _, rfl, _⟩ := p'
    exact reprOf_ok rl p h
  · exact h.elim
end
end Mini

/-! M8: lists, tuples, dicts: items, stores, membership, built-ins. -/
namespace Mini
open PySem PySem.Spec PyProof.Rows L2

/-! ### dict entries -/
/-- what is found -/
def LkRel (G : Gx) (H : Hp) (β : List Addr) (o : Option PV) (o' : Option V) : Prop := match o with
  | some v => ∃ w, o' = some w ∧ PRel G H β v w
  | none => o' = none
section
variable {κ : Type} [DecidableEq κ]
def dval (kvs : List (κ × PV)) (k : κ) : Option PV := (kvs.find? fun kv => decide (kv.1 = k)).map (·.2)
def dput (kvs : List (κ × PV)) (k : κ) (v : PV) : List (κ × PV) := if (kvs.any fun kv => decide (kv.1 = k)) = true then kvs.map (fun kv => if kv.1 = k then (kv.1, v) else kv) else kvs ++ [(k, v)]
variable {G : Gx} {H : Hp} {β : List Addr}
theorem DRel.nil : DRel (κ := κ) G H β [] [] := ⟨rfl, .nil⟩
theorem DRel.cons {k : κ} {v : PV} {x : V} {kvs : List (κ × PV)} {kvs' : List (κ × V)} (p : PRel G H β v x) (t : DRel G H β kvs kvs') : DRel G H β ((k, v) :: kvs) ((k, x) :: kvs') :=
  ⟨by simp [t.1], by simpa using PRels.cons p t.2⟩
theorem DRel.inv {k : κ} {v : PV} {kvs : List (κ × PV)} {l : List (κ × V)} (h : DRel G H β ((k, v) :: kvs) l) : ∃ x kvs', l = (k, x) :: kvs' ∧ PRel G H β v x ∧ DRel G H β kvs kvs' := by
  obtain ⟨h1, h2⟩ := h
  cases l with
  | nil => simp at h1
  | cons q l =>
    obtain ⟨k', x⟩ := q
    simp at h1
    obtain ⟨rfl, h1⟩ := h1
    simp only [List.map_cons] at h2
    obtain ⟨y, ys, e, p1, p2⟩ := h2.inv
    cases e
    exact ⟨x, l, rfl, p1, h1, p2⟩
theorem DRel.nil_inv {l : List (κ × V)} (h : DRel G H β [] l) : l = [] := by
  obtain ⟨h1, _⟩ := h
  simpa using h1.symm
theorem DRel.len {kvs : List (κ × PV)} {l : List (κ × V)} (h : DRel G H β kvs l) : kvs.length = l.length := by
  have := congrArg List.length h.1
  simpa using this
theorem DRel.val (k : κ) : ∀ {kvs : List (κ × PV)} {l : List (κ × V)}, DRel G H β kvs l → LkRel G H β (dval kvs k) (valV l k)
  | [], l, h => by rw [h.nil_inv]; rfl
  | (k', v) :: kvs, l, h => by
    obtain ⟨x, l', rfl, p, t⟩ := h.inv
    have ih := DRel.val k t
    by_cases e : k' = k
    · have e1 : dval ((k', v) :: kvs) k = some v := by simp [dval, e]
      rw [e1]
      exact ⟨x, valV_pos (p := (k', x)) e, p⟩
    · have e1 : dval ((k', v) :: kvs) k = dval kvs k := by simp [dval, e]
      rw [e1, valV_neg (p := (k', x)) e]
      exact ih
theorem DRel.any (k : κ) {kvs : List (κ × PV)} {l : List (κ × V)} (h : DRel G H β kvs l) : (kvs.any fun kv => decide (kv.1 = k)) = (l.any fun kv => decide (kv.1 = k)) := by
  have e1 : (kvs.any fun kv => decide (kv.1 = k)) = (kvs.map (·.1)).any fun j => decide (j = k) := by rw [List.any_map]; rfl
  have e2 : (l.any fun kv => decide (kv.1 = k)) = (l.map (·.1)).any fun j => decide (j = k) := by rw [List.any_map]; rfl
  rw [e1, e2, h.1]
theorem DRel.app : ∀ {kvs kvs2 : List (κ × PV)} {l l2 : List (κ × V)}, DRel G H β kvs l → DRel G H β kvs2 l2 → DRel G H β (kvs ++ kvs2) (l ++ l2) := fun h t => ⟨by simp [h.1, t.1], by simpa using h.2.app t.2⟩
theorem DRel.repl (k : κ) {v : PV} {x : V} (p : PRel G H β v x) : ∀ {kvs : List (κ × PV)} {l : List (κ × V)}, DRel G H β kvs l → DRel G H β (kvs.map fun kv => if kv.1 = k then (kv.1, v) else kv) (l.map fun kv => if kv.1 = k then (kv.1, x) else kv)
  | [], l, h => by rw [h.nil_inv]; exact .nil
  | (k', w) :: kvs, l, h => by
    obtain ⟨y, l', rfl, p', t⟩ := h.inv
    have ih := DRel.repl k p t
    rw [List.map_cons, List.map_cons]
    by_cases e : k' = k
    · simp only [e, if_true]
      exact .cons p ih
    · simp only [e, if_false]
      exact .cons p' ih
theorem DRel.put (k : κ) {v : PV} {x : V} (p : PRel G H β v x) {kvs : List (κ × PV)} {l : List (κ × V)} (h : DRel G H β kvs l) : DRel G H β (dput kvs k v) (putK l k x) := by
  unfold dput putK
  rw [← h.any k]
  by_cases e : (kvs.any fun kv => decide (kv.1 = k)) = true
  · rw [if_pos e, if_pos e]
    exact h.repl k p
  · rw [if_neg e, if_neg e]
    exact h.app (.cons p .nil)
end
def keyOf : PV → Option Key
  | .int i => some (Sum.inl i)
  | .str x => some (Sum.inr x)
  | _ => none
def keysOf : List PV → Option (List Key)
  | [] => some []
  | x :: xs => match keyOf x, keysOf xs with
    | some k, some ks => some (k :: ks)
    | _, _ => none
/-- what a dict holds under a key: none, no dict (or no key of its kind); some o: there or not -/
def dlook (d k : PV) (μ : MH) : Option (Option PV) := match d with
  | .ref n => match μ[n]? with
    | some (.dK kvs) => (keyOf k).map fun j => dval kvs j
    | some (.dT kvs) => match k with
      | .tup xs => (keysOf xs).map fun j => dval kvs j
      | _ => none
    | _ => none
  | _ => none
def dstore (d k v : PV) (μ : MH) : Option MH := match d with
  | .ref n => match μ[n]? with
    | some (.dK kvs) => match keyOf k with
      | some j => if kvs.length < sizeLine then some (μ.set n (.dK (dput kvs j v))) else none
      | none => none
    | some (.dT kvs) => match k with
      | .tup xs => match keysOf xs with
        | some j => if kvs.length < sizeLine then some (μ.set n (.dT (dput kvs j v))) else none
        | none => none
      | _ => none
    | _ => none
  | _ => none
section
variable {G : Gx} {H : Hp} {β : List Addr} {μ : MH}
theorem keyOf_ok {v : PV} {x : V} {k : Key} (p : PRel G H β v x) (h : keyOf v = some k) : x = kV k := by
  unfold keyOf at h
  split at h <;> cases h
  · exact int_inv p
  · exact str_inv p
theorem keysOf_ok : ∀ {vs : List PV} {xs : List V} {ks : List Key}, PRels G H β vs xs → keysOf vs = some ks → xs = ks.map kV
  | [], xs, ks, p, h => by rw [PRels.nil_iff] at p; unfold keysOf at h; cases h; exact p
  | v :: vs, xs, ks, p, h => by
    obtain ⟨y, ys, rfl, p1, p2⟩ := p.inv
    unfold keysOf at h
    split at h
    · rename_i e1 e2
      cases h
      rw [keyOf_ok p1 e1, keysOf_ok p2 e2]
      rfl
    · cases h
theorem dlook_ok {d k : PV} {x y : V} {o : Option PV} (rl : Rl G H β μ) (pd : PRel G H β d x) (pk : PRel G H β k y) (h : dlook d k μ = some o) :
    ∃ a o', x = .ref a ∧ DGet H a y o' ∧ LkRel G H β o o' := by
  unfold dlook at h
  cases d <;> first
    | cases h
    | (rename_i n
       simp only at h
       unfold PRel at pd
       obtain ⟨a, rfl, e2⟩ := pd
       cases e : μ[n]? with
       | none => rw [e] at h; cases h
       | some m =>
         rw [e] at h
         cases m with
         | lst xs => cases h
         | dK kvs =>
           obtain ⟨l, h1, h2⟩ := rl.obj n a _ e2 e
           simp only [Option.map_eq_some_iff] at h
           obtain ⟨j, ej, rfl⟩ := h
           refine ⟨a, valV l j, rfl, by rw [keyOf_ok pk ej]; exact DGet.k h1, ?_⟩
           exact h2.val j
         | dT kvs =>
           obtain ⟨l, h1, h2⟩ := rl.obj n a _ e2 e
           cases k <;> first
             | cases h
             | (rename_i xs
                simp only [Option.map_eq_some_iff] at h
                obtain ⟨j, ej, rfl⟩ := h
                obtain ⟨b, vs, rfl, s1, p1⟩ := tup_inv pk
                have hb := s1.1
                rw [keysOf_ok p1 ej] at hb
                refine ⟨a, valV l j, rfl, DGet.t h1 hb, ?_⟩
                exact h2.val j))
end
/-- sequences -/
def seqT : PV → Option (List PV)
  | .tup xs => some xs
  | .ctp xs => some xs
  | _ => none
theorem seqT_ok {G : Gx} {H : Hp} {β : List Addr} {v : PV} {xs : List PV} {x : V} (p : PRel G H β v x) (h : seqT v = some xs) : ∃ a vs, x = .ref a ∧ SqT G.fr H a vs ∧ PRels G H β xs vs := by
  unfold seqT at h
  split at h <;> cases h
  · obtain ⟨a, vs, e, s, p⟩ := tup_inv p; exact ⟨a, vs, e, s.sq, p⟩
  · obtain ⟨a, vs, e, s, p⟩ := ctp_inv p; exact ⟨a, vs, e, s.sq, p⟩
/-! ### items -/
def ixP (xs : List PV) (i : Int) : Option PV := atI xs i
def fIx : PV → PV → MH → R PV := fun o k μ => match seqT o, k with
  | some xs, .int i => match atI xs i with
    | some v => .ok v μ
    | none => .bad
  | _, _ => match lstR o μ, k with
    | some xs, .int i => match atI xs i with
      | some v => .ok v μ
      | none => .bad
    | _, _ => match o, k with
      | .str z, .int i => if z.length ≤ sizeLine then (match atI z.cps.toList i with
        | some c => .ok (.str ⟨#[c]⟩) μ
        | none => .bad) else .bad
      | _, _ => match dlook o k μ with
        | some (some v) => .ok v μ
        | _ => .bad
def rIxD : R2 := fun x y H Q => ∃ a v, x = .ref a ∧ DGet H a y (some v) ∧ Q v H
def rIxA (K : PySem.W.Frag) : R2 := fun x y H Q => rIxL K x y H Q ∨ rIxT K x y H Q ∨ rIxS x y H Q ∨ rIxD x y H Q
section
variable {X : Cx} {XR : XRel} {K : PySem.W.Frag}
theorem ix_dict {k : Nat} (hr : RoomG k X.A) : IxR X rIxD := by
  intro value slice pins s σ H x y v u Q I rx ry h hs
  obtain ⟨a, w, rfl, g, q⟩ := h
  cases rx
  have hu := hr.room.units
  exact tail_any (dict_typeIs I g) PySem.F.slot_dict_getitem.lookup (d_getItem (by omega) I g ry fun w' s3 I3 rw' => ⟨w, H, I3, rw', q⟩) hs
theorem ix_all {k : Nat} (hr : RoomG k X.A) : IxR X (rIxA X.K) := ix_list.or (ix_tup.or (ix_str.or (ix_dict hr)))
theorem atI_rel {G : Gx} {H : Hp} {β : List Addr} {xs : List PV} {vs : List V} {i : Int} {v : PV} (p : PRels G H β xs vs) (h : atI xs i = some v) : ∃ x, atI vs i = some x ∧ PRel G H β v x := by
  unfold atI at h ⊢
  rw [p.length] at h
  cases e : ixN vs.length i with
  | none => rw [e] at h; cases h
  | some j =>
    rw [e] at h
    exact p.get (by simpa using h)
theorem om_ix : OpM K XR fIx (rIxA K) := by
  intro av E H β μ v w x y Q rl pv pw h
  unfold fIx at h
  split at h
  · rename_i xs i e
    obtain ⟨a, vs, rfl, s, p⟩ := seqT_ok pv e
    split at h
    · rename_i z ez
      obtain ⟨zx, e1, pz⟩ := atI_rel p ez
      exact .inr (.inl ⟨a, vs, i, zx, rfl, int_inv pw, s, e1, ok_here h rl pz⟩)
    · exact h.elim
  · split at h
    · rename_i xs i e _
      obtain ⟨a, vs, rfl, s, p⟩ := lstR_ok rl pv e
      split at h
      · rename_i z ez
        obtain ⟨zx, e1, pz⟩ := atI_rel p ez
        exact .inl ⟨a, vs, i, zx, rfl, int_inv pw, s, e1, ok_here h rl pz⟩
      · exact h.elim
    · split at h
      · split at h
        · rename_i hz
          split at h
          · rename_i c ec
            exact .inr (.inr (.inl ⟨_, _, c, str_inv pv, int_inv pw, hz, ec, ok_here h rl .str_⟩))
          · exact h.elim
        · exact h.elim
      · split at h
        · rename_i z e
          obtain ⟨a, o', rfl, g, q⟩ := dlook_ok rl pv pw e
          obtain ⟨zx, rfl, pz⟩ := q
          exact .inr (.inr (.inr ⟨a, zx, rfl, g, ok_here h rl pz⟩))
        · exact h.elim
theorem me_ix {k : Nat} {a b : Expr} {ma mb : ME} {E : L2.St → XK} {pos : Pos} (hr : RoomG k X.A) (ha : PM X XR E a ma) (hb : PM X XR E b mb) (hs : PlainIx b := by exact fun _ _ => rfl) : PM X XR E (.Subscript a b pos) (mOp fIx ma mb) :=
  PE.imp (pe_ix (ix_all hr) ha hb hs) (tm_op om_ix)

/-! ### stores -/
def lstore (o i v : PV) (μ : MH) : Option MH := match o, i with
  | .ref n, .int k => match μ[n]? with
    | some (.lst xs) => (ixN xs.length k).map fun j => μ.set n (.lst (xs.set j v))
    | _ => none
  | _, _ => none
def fStore (o i v : PV) (μ : MH) : Option MH := match lstore o i v μ with
  | some μ1 => some μ1
  | none => dstore o i v μ
theorem set_dictG {k : Nat} (hr : RoomG k X.A) : PSet X rSetD := L2.set_dict (by have := hr.room.units; omega)
theorem PSet.or {t t' : TSet} (h : PSet X t) (h' : PSet X t') : PSet X (fun o i v H Q => t o i v H Q ∨ t' o i v H Q) := by
  intro pins s σ H o i v ov iv u Q I ro ri rv q
  rcases q with q | q
  · exact h pins s σ H o i v ov iv u Q I ro ri rv q
  · exact h' pins s σ H o i v ov iv u Q I ro ri rv q
def rSetA : TSet := fun o i v H Q => rSetL o i v H Q ∨ rSetD o i v H Q
theorem set_all {k : Nat} (hr : RoomG k X.A) : PSet X rSetA := PSet.or set_list (set_dictG hr)
theorem lstore_ok {G : Gx} {H : Hp} {β : List Addr} {μ μ' : MH} {o i v : PV} {ox ix vx : V} {Q : Hp → Prop} (rl : Rl G H β μ) (po : PRel G H β o ox) (pi : PRel G H β i ix) (pv : PRel G H β v vx) (h : lstore o i v μ = some μ') (q : ∀ H', Ext H β H' β → Rl G H' β μ' → Q H') : rSetL ox ix vx H Q := by
  unfold lstore at h
  split at h
  · rename_i n k
    split at h
    · rename_i xs e
      rw [Option.map_eq_some_iff] at h
      obtain ⟨j, ej, rfl⟩ := h
      unfold PRel at po
      obtain ⟨a, rfl, e2⟩ := po
      obtain ⟨vs, h1, h2⟩ := rl.obj n a _ e2 e
      refine ⟨a, vs, k, j, rfl, int_inv pi, h1, by rw [← h2.length]; exact ej, q _ (Ext.write rl e2 _) (rl.write e2 ⟨_, upd_same, PRels.ext (Ext.write rl e2 _) _ (h2.set j pv)⟩)⟩
    · cases h
  · cases h
theorem dT_of_nil {G : Gx} {H : Hp} {β : List Addr} {a : Addr} : True := trivial
theorem dstore_ok {G : Gx} {H : Hp} {β : List Addr} {μ μ' : MH} {o i v : PV} {ox ix vx : V} {Q : Hp → Prop} (rl : Rl G H β μ) (po : PRel G H β o ox) (pi : PRel G H β i ix) (pv : PRel G H β v vx) (h : dstore o i v μ = some μ') (q : ∀ H', Ext H β H' β → Rl G H' β μ' → Q H') : rSetD ox ix vx H Q := by
  unfold dstore at h
  cases o <;> first
    | cases h
    | (rename_i n
       simp only at h
       unfold PRel at po
       obtain ⟨a, rfl, e2⟩ := po
       cases e : μ[n]? with
       | none => rw [e] at h; cases h
       | some m =>
         rw [e] at h
         cases m with
         | lst xs => cases h
         | dK kvs =>
           obtain ⟨l, h1, h2⟩ := rl.obj n a _ e2 e
           cases ek : keyOf i with
           | some j =>
             simp only [ek] at h
             split at h
             · rename_i hl
               cases h
               refine ⟨a, _, rfl, by rw [keyOf_ok pi ek]; exact DPut.k h1 (by rw [← h2.len]; exact hl), q _ (Ext.write rl e2 _) (rl.write e2 ⟨_, upd_same, (h2.put j pv).ext (Ext.write rl e2 _)⟩)⟩
             · cases h
           | none => simp only [ek] at h; cases h
         | dT kvs =>
           obtain ⟨l, h1, h2⟩ := rl.obj n a _ e2 e
           cases i <;> first
             | cases h
             | (rename_i xs
                simp only at h
                cases ek : keysOf xs with
                | none => rw [ek] at h; cases h
                | some j =>
                  rw [ek] at h
                  simp only at h
                  split at h
                  · rename_i hl
                    cases h
                    obtain ⟨b, vs, rfl, s1, p1⟩ := tup_inv pi
                    have hb := s1.1
                    rw [keysOf_ok p1 ek] at hb
                    exact ⟨a, _, rfl, DPut.t h1 hb (by rw [← h2.len]; exact hl), q _ (Ext.write rl e2 _) (rl.write e2 ⟨_, upd_same, (h2.put j pv).ext (Ext.write rl e2 _)⟩)⟩
                  · cases h))
theorem sx_store : SetM K fStore rSetA := by
  intro av H β μ μ' o i v ox ix vx Q rl po pi pv h q
  unfold fStore at h
  split at h
  · rename_i e
    cases h
    exact .inl (lstore_ok rl po pi pv e q)
  · exact .inr (dstore_ok rl po pi pv h q)
end
end Mini

/-! M9: built-ins, methods, displays, what is walked. -/
namespace Mini
open PySem PySem.Spec PyProof.Rows L2

/-! ### built-ins -/
def lenOf (v : PV) (μ : MH) : Option Nat := match seqT v with
  | some xs => some xs.length
  | none => match lstR v μ with
    | some xs => some xs.length
    | none => match v with
      | .str z => if z.length ≤ sizeLine then some z.length else none
      | _ => none
def fLen : List PV → MH → R PV
  | [v], μ => match lenOf v μ with
    | some n => .ok (.int n) μ
    | none => .bad
  | _, _ => .bad
def fInt : List PV → MH → R PV
  | [.int i], μ => .ok (.int i) μ
  | [.bl k], μ => .ok (.int (if k then 1 else 0)) μ
  | [.str a], μ => match PySem.intText? a with
    | some n => if a.length ≤ 640 then .ok (.int n) μ else .bad
    | none => .bad
  | _, _ => .bad
def rInt : List V → Hp → VK → Prop := fun xs H Q => ((∃ i, xs = [.int i] ∧ Q (.int i) H) ∨ ∃ k, xs = [.bl k] ∧ Q (.int (if k then 1 else 0)) H) ∨ ∃ a n, xs = [.str a] ∧ PySem.intText? a = some n ∧ a.length ≤ 640 ∧ Q (.int n) H
@[simp] def fAbs : List PV → MH → R PV
  | [.int i], μ => .ok (.int (if i < 0 then -i else i)) μ
  | _, _ => .bad
@[simp] def fMax2 : List PV → MH → R PV
  | [.int i, .int j], μ => .ok (.int (if j > i then j else i)) μ
  | _, _ => .bad
@[simp] def fMin2 : List PV → MH → R PV
  | [.int i, .int j], μ => .ok (.int (if j < i then j else i)) μ
  | _, _ => .bad
def fTuple : List PV → MH → R PV
  | [v], μ => match seqT v with
    | some _ => .ok v μ
    | none => match lstR v μ with
      | some xs => .ok (.tup xs) μ
      | none => .bad
  | _, _ => .bad
/-- list(..): a frozen one, one that is a place -/
def fList : List PV → MH → R PV
  | [v], μ => match seqT v with
    | some xs => .ok (.frl xs) μ
    | none => match lstR v μ with
      | some xs => .ok (.frl xs) μ
      | none => .bad
  | _, _ => .bad
def fListP : List PV → MH → R PV
  | [v], μ => match seqT v with
    | some xs => .ok (.ref μ.length) (μ ++ [.lst xs])
    | none => match lstR v μ with
      | some xs => .ok (.ref μ.length) (μ ++ [.lst xs])
      | none => .bad
  | _, _ => .bad
def blsOf : List PV → Option (List Bool)
  | [] => some []
  | .bl b :: xs => (blsOf xs).map (b :: ·)
  | _ => none
def intsOf : List PV → Option (List Int)
  | [] => some []
  | .int b :: xs => (intsOf xs).map (b :: ·)
  | _ => none
def strsOf : List PV → Option (List Str)
  | [] => some []
  | .str b :: xs => (strsOf xs).map (b :: ·)
  | _ => none
def fAll : List PV → MH → R PV
  | [v], μ => match (lstR v μ).bind blsOf with
    | some bs => .ok (.bl (bs.all id)) μ
    | none => .bad
  | _, _ => .bad
def fAny : List PV → MH → R PV
  | [v], μ => match (lstR v μ).bind blsOf with
    | some bs => .ok (.bl (bs.any id)) μ
    | none => .bad
  | _, _ => .bad
def fSum : List PV → MH → R PV
  | [v], μ => match (lstR v μ).bind intsOf with
    | some bs => .ok (.int bs.sum) μ
    | none => .bad
  | _, _ => .bad
section
variable {G : Gx} {H : Hp} {β : List Addr} {μ : MH}
theorem bls_rel : ∀ {vs : List PV} {xs : List V} {bs : List Bool}, PRels G H β vs xs → blsOf vs = some bs → xs = bs.map V.bl
  | [], xs, bs, p, h => by rw [PRels.nil_iff] at p; unfold blsOf at h; cases h; exact p
  | v :: vs, xs, bs, p, h => by
    obtain ⟨y, ys, rfl, p1, p2⟩ := p.inv
    cases v <;> first
      | (unfold blsOf at h; cases h; done)
      | (simp only [blsOf, Option.map_eq_some_iff] at h
         obtain ⟨cs, e, rfl⟩ := h
         rw [bl_inv p1, bls_rel p2 e]
         rfl)
theorem ints_rel : ∀ {vs : List PV} {xs : List V} {bs : List Int}, PRels G H β vs xs → intsOf vs = some bs → xs = bs.map V.int
  | [], xs, bs, p, h => by rw [PRels.nil_iff] at p; unfold intsOf at h; cases h; exact p
  | v :: vs, xs, bs, p, h => by
    obtain ⟨y, ys, rfl, p1, p2⟩ := p.inv
    cases v <;> first
      | (unfold intsOf at h; cases h; done)
      | (simp only [intsOf, Option.map_eq_some_iff] at h
         obtain ⟨cs, e, rfl⟩ := h
         rw [int_inv p1, ints_rel p2 e]
         rfl)
theorem strs_rel : ∀ {vs : List PV} {xs : List V} {bs : List Str}, PRels G H β vs xs → strsOf vs = some bs → xs = bs.map V.str
  | [], xs, bs, p, h => by rw [PRels.nil_iff] at p; unfold strsOf at h; cases h; exact p
  | v :: vs, xs, bs, p, h => by
    obtain ⟨y, ys, rfl, p1, p2⟩ := p.inv
    cases v <;> first
      | (unfold strsOf at h; cases h; done)
      | (simp only [strsOf, Option.map_eq_some_iff] at h
         obtain ⟨cs, e, rfl⟩ := h
         rw [str_inv p1, strs_rel p2 e]
         rfl)
theorem rel_ints : ∀ ns : List Int, PRels G H β (ns.map PV.int) (ns.map V.int)
  | [] => .nil
  | n :: ns => .cons .int_ (rel_ints ns)
theorem rel_strs : ∀ ns : List Str, PRels G H β (ns.map PV.str) (ns.map V.str)
  | [] => .nil
  | n :: ns => .cons .str_ (rel_strs ns)
theorem intsOf_map : ∀ ns : List Int, intsOf (ns.map PV.int) = some ns
  | [] => rfl
  | n :: ns => by simp [intsOf, intsOf_map ns]
theorem strsOf_map : ∀ ns : List Str, strsOf (ns.map PV.str) = some ns
  | [] => rfl
  | n :: ns => by simp [strsOf, strsOf_map ns]
theorem blsOf_map : ∀ ns : List Bool, blsOf (ns.map PV.bl) = some ns
  | [] => rfl
  | n :: ns => by simp [blsOf, blsOf_map ns]
theorem lenOf_ok {v : PV} {x : V} {n : Nat} (rl : Rl G H β μ) (p : PRel G H β v x) (h : lenOf v μ = some n) : LenV G.fr x H n := by
  unfold lenOf at h
  split at h
  · rename_i xs e
    cases h
    obtain ⟨a, vs, rfl, s, q⟩ := seqT_ok p e
    exact Or.inr ⟨vs, s, q.length⟩
  · split at h
    · rename_i xs e
      cases h
      obtain ⟨a, vs, rfl, s, q⟩ := lstR_ok rl p e
      exact Or.inl ⟨vs, s, q.length⟩
    · split at h
      · split at h
        · rename_i hz
          cases h
          rw [str_inv p]
          exact ⟨hz, rfl⟩
        · cases h
      · cases h
end
section
variable {X : Cx} {XR : XRel} {K : PySem.W.Frag}
theorem cm_len : CallM K XR fLen (rLen K) := by
  intro av E H β μ v x Q rl pv h
  unfold fLen at h
  split at h
  · obtain ⟨y, rfl, p⟩ := one_inv pv
    split at h
    · rename_i n e
      exact ⟨y, n, rfl, lenOf_ok rl p e, ok_here h rl .int_⟩
    · exact h.elim
  · exact h.elim
theorem cr_int : CallR X (.type "int") rInt := call_int1.or call_int_str
theorem cm_int : CallM K XR fInt rInt := by
  intro av E H β μ v x Q rl pv h
  unfold fInt at h
  split at h
  · obtain ⟨y, rfl, p⟩ := one_inv pv
    exact .inl (.inl ⟨_, by rw [int_inv p], ok_here h rl .int_⟩)
  · obtain ⟨y, rfl, p⟩ := one_inv pv
    exact .inl (.inr ⟨_, by rw [bl_inv p], ok_here h rl .int_⟩)
  · obtain ⟨y, rfl, p⟩ := one_inv pv
    split at h
    · rename_i n e
      split at h
      · rename_i hl
        exact .inr ⟨_, n, by rw [str_inv p], e, hl, ok_here h rl .int_⟩
      · exact h.elim
    · exact h.elim
  · exact h.elim
theorem cm_abs : CallM K XR fAbs (fun xs H Q => ∃ i, xs = [.int i] ∧ Q (.int (if i < 0 then -i else i)) H) := by
  intro av E H β μ v x Q rl pv h
  unfold fAbs at h
  split at h
  · obtain ⟨y, rfl, p⟩ := one_inv pv
    exact ⟨_, by rw [int_inv p], ok_here h rl .int_⟩
  · exact h.elim
theorem cm_max2 : CallM K XR fMax2 (fun xs H Q => ∃ i j, xs = [.int i, .int j] ∧ Q (.int (if j > i then j else i)) H) := by
  intro av E H β μ v x Q rl pv h
  unfold fMax2 at h
  split at h
  · obtain ⟨y, z, rfl, p, p2⟩ := two_inv pv
    exact ⟨_, _, by rw [int_inv p, int_inv p2], ok_here h rl .int_⟩
  · exact h.elim
theorem cm_min2 : CallM K XR fMin2 (fun xs H Q => ∃ i j, xs = [.int i, .int j] ∧ Q (.int (if j < i then j else i)) H) := by
  intro av E H β μ v x Q rl pv h
  unfold fMin2 at h
  split at h
  · obtain ⟨y, z, rfl, p, p2⟩ := two_inv pv
    exact ⟨_, _, by rw [int_inv p, int_inv p2], ok_here h rl .int_⟩
  · exact h.elim
def rTuple (K : PySem.W.Frag) : List V → Hp → VK → Prop := fun xs H Q => ∃ p ys, xs = [.ref p] ∧ ((SqL K H p ys ∧ ∀ l, H l = none → Q (.ref l) (upd H l (.tup ys))) ∨ (SqT K H p ys ∧ Q (.ref p) H))
theorem cm_tuple : CallM K XR fTuple (rTuple K) := by
  intro av E H β μ v x Q rl pv h
  unfold fTuple at h
  split at h
  · obtain ⟨y, rfl, p⟩ := one_inv pv
    split at h
    · rename_i xs e
      obtain ⟨a, vs, rfl, s, q⟩ := seqT_ok p e
      exact ⟨a, vs, rfl, .inr ⟨s, ok_here h rl p⟩⟩
    · split at h
      · rename_i xs e
        obtain ⟨a, vs, rfl, s, q⟩ := lstR_ok rl p e
        exact ⟨a, vs, rfl, .inl ⟨s, new_tup rl q h⟩⟩
      · exact h.elim
  · exact h.elim
def rList (K : PySem.W.Frag) : List V → Hp → VK → Prop := fun xs H Q => ∃ p ys, xs = [.ref p] ∧ (SqL K H p ys ∨ SqT K H p ys) ∧ ∀ l, H l = none → Q (.ref l) (upd H l (.lst ys))
theorem cm_list : CallM K XR fList (rList K) := by
  intro av E H β μ v x Q rl pv h
  unfold fList at h
  split at h
  · obtain ⟨y, rfl, p⟩ := one_inv pv
    split at h
    · rename_i xs e
      obtain ⟨a, vs, rfl, s, q⟩ := seqT_ok p e
      exact ⟨a, vs, rfl, .inr s, new_frl rl q h⟩
    · split at h
      · rename_i xs e
        obtain ⟨a, vs, rfl, s, q⟩ := lstR_ok rl p e
        exact ⟨a, vs, rfl, .inl s, new_frl rl q h⟩
      · exact h.elim
  · exact h.elim
theorem cm_listP : CallM K XR fListP (rList K) := by
  intro av E H β μ v x Q rl pv h
  unfold fListP at h
  split at h
  · obtain ⟨y, rfl, p⟩ := one_inv pv
    split at h
    · rename_i xs e
      obtain ⟨a, vs, rfl, s, q⟩ := seqT_ok p e
      exact ⟨a, vs, rfl, .inr s, new_lst rl q h⟩
    · split at h
      · rename_i xs e
        obtain ⟨a, vs, rfl, s, q⟩ := lstR_ok rl p e
        exact ⟨a, vs, rfl, .inl s, new_lst rl q h⟩
      · exact h.elim
  · exact h.elim
theorem cm_all : CallM K XR fAll (rAll K) := by
  intro av E H β μ v x Q rl pv h
  unfold fAll at h
  split at h
  · obtain ⟨y, rfl, p⟩ := one_inv pv
    split at h
    · rename_i bs e
      rw [Option.bind_eq_some_iff] at e
      obtain ⟨xs, e1, e2⟩ := e
      obtain ⟨a, vs, rfl, s, q⟩ := lstR_ok rl p e1
      exact ⟨a, bs, rfl, by rw [← bls_rel q e2]; exact s, ok_here h rl .bl_⟩
    · exact h.elim
  · exact h.elim
theorem cm_any : CallM K XR fAny (rAny K) := by
  intro av E H β μ v x Q rl pv h
  unfold fAny at h
  split at h
  · obtain ⟨y, rfl, p⟩ := one_inv pv
    split at h
    · rename_i bs e
      rw [Option.bind_eq_some_iff] at e
      obtain ⟨xs, e1, e2⟩ := e
      obtain ⟨a, vs, rfl, s, q⟩ := lstR_ok rl p e1
      exact ⟨a, bs, rfl, by rw [← bls_rel q e2]; exact s, ok_here h rl .bl_⟩
    · exact h.elim
  · exact h.elim
theorem cm_sum : CallM K XR fSum (rSum K) := by
  intro av E H β μ v x Q rl pv h
  unfold fSum at h
  split at h
  · obtain ⟨y, rfl, p⟩ := one_inv pv
    split at h
    · rename_i bs e
      rw [Option.bind_eq_some_iff] at e
      obtain ⟨xs, e1, e2⟩ := e
      obtain ⟨a, vs, rfl, s, q⟩ := lstR_ok rl p e1
      exact ⟨a, bs, rfl, by rw [← ints_rel q e2]; exact s, ok_here h rl .int_⟩
    · exact h.elim
  · exact h.elim
end

/-! ### sorted of ints -/
def sortI (ns : List Int) : List Int := ns.mergeSort fun a b => decide (a ≤ b)
theorem sortI_perm (ns : List Int) : (sortI ns).Perm ns := List.mergeSort_perm _ _
theorem sortI_pair (ns : List Int) : (sortI ns).Pairwise (· ≤ ·) := by
  have := List.pairwise_mergeSort (le := fun a b : Int => decide (a ≤ b)) (fun a b c h1 h2 => by simp at h1 h2 ⊢; omega) (fun a b => by simp; omega) ns
  exact this.imp fun h => by simpa using h
theorem sortI_eq {ns ys : List Int} (h1 : ys.Perm ns) (h2 : ys.Pairwise (· ≤ ·)) : ys = sortI ns :=
  List.Perm.eq_of_pairwise (le := (· ≤ ·)) (fun a b _ _ h1 h2 => Int.le_antisymm h1 h2) h2 (sortI_pair ns) (h1.trans (sortI_perm ns).symm)
def keyInts : List (Key × PV) → Option (List Int)
  | [] => some []
  | (.inl k, _) :: r => (keyInts r).map (k :: ·)
  | _ => none
def fSorted : List PV → MH → R PV
  | [v], μ => match (lstR v μ).bind intsOf with
    | some ns => if ns.length < 64 then .ok (.frl ((sortI ns).map PV.int)) μ else .bad
    | none => match v with
      | .ref n => match μ[n]? with
        | some (.dK kvs) => match keyInts kvs with
          | some ns => if ns.length < 64 then .ok (.frl ((sortI ns).map PV.int)) μ else .bad
          | none => .bad
        | _ => .bad
      | _ => .bad
  | _, _ => .bad
def rSortedA (K : PySem.W.Frag) : List V → Hp → VK → Prop := fun xs H Q => rSorted K xs H Q ∨ ∃ (a : Addr) (kvs : List (Key × V)) (ks : List Int), xs = [.ref a] ∧ Rd H a (.dK kvs) ∧ kvs.map (·.1) = ks.map Sum.inl ∧ ks.length < 64 ∧
    ∀ (ys : List Int) (p : Addr), ys.Perm ks → ys.Pairwise (· ≤ ·) → H p = none → Q (.ref p) (upd H p (.lst (ys.map V.int)))
theorem keyInts_ok : ∀ {kvs : List (Key × PV)} {ns : List Int}, keyInts kvs = some ns → kvs.map (·.1) = ns.map Sum.inl
  | [], ns, h => by unfold keyInts at h; cases h; rfl
  | (.inl k, v) :: r, ns, h => by
    simp only [keyInts, Option.map_eq_some_iff] at h
    obtain ⟨ms, e, rfl⟩ := h
    simp [keyInts_ok e]
  | (.inr k, v) :: r, ns, h => by unfold keyInts at h; cases h
section
variable {X : Cx} {XR : XRel} {K : PySem.W.Frag}
theorem cr_sortedA (hc : X.calm = true) : CallR X (.builtin "sorted") (rSortedA X.K) := cr_sorted.or (call_sortedDI hc)
theorem cm_sorted : CallM K XR fSorted (rSortedA K) := by
  intro av E H β μ v x Q rl pv h
  unfold fSorted at h
  split at h
  · obtain ⟨y, rfl, p⟩ := one_inv pv
    split at h
    · rename_i ns e
      rw [Option.bind_eq_some_iff] at e
      obtain ⟨xs, e1, e2⟩ := e
      obtain ⟨a, vs, rfl, s, q⟩ := lstR_ok rl p e1
      split at h
      · rename_i hl
        refine .inl ⟨a, ns, rfl, by rw [← ints_rel q e2]; exact s, hl, fun ys b h1 h2 h3 => ?_⟩
        rw [sortI_eq h1 h2]
        exact new_frl rl (rel_ints _) h b h3
      · exact h.elim
    · split at h
      · rename_i n _
        split at h
        · rename_i kvs e
          split at h
          · rename_i ns e2
            split at h
            · rename_i hl
              unfold PRel at p
              obtain ⟨a, rfl, ea⟩ := p
              obtain ⟨l, h1, h2⟩ := rl.obj n a _ ea e
              refine .inr ⟨a, l, ns, rfl, .inl h1, by rw [← h2.1]; exact keyInts_ok e2, hl, fun ys b q1 q2 q3 => ?_⟩
              rw [sortI_eq q1 q2]
              exact new_frl rl (rel_ints _) h b q3
            · exact h.elim
          · exact h.elim
        · exact h.elim
      · exact h.elim
  · exact h.elim
end
end Mini

/-! M10: membership, methods, slices, displays, what is walked. -/
namespace Mini
open PySem PySem.Spec PyProof.Rows L2

/-! ### values alike -/
mutual
def PV.same : PV → PV → Bool
  | .non, .non => true
  | .bl a, .bl b => a == b
  | .int a, .int b => a == b
  | .str a, .str b => a == b
  | .op a, .op b => decide (a = b)
  | .ref a, .ref b => a == b
  | .tup a, .tup b => PV.sames a b
  | .frl a, .frl b => PV.sames a b
  | .scr a, .scr b => PV.sames a b
  | .ctp a, .ctp b => PV.sames a b
  | .frd t k a, .frd u l b => t == u && (decide (k = l) && PV.sames a b)
  | _, _ => false
def PV.sames : List PV → List PV → Bool
  | [], [] => true
  | a :: as, b :: bs => a.same b && PV.sames as bs
  | _, _ => false
end
mutual
theorem PV.same_eq : ∀ (a b : PV), a.same b = true → a = b
  | .non, b, h => by cases b <;> simp [PV.same] at h <;> rfl
  | .bl _, b, h => by cases b <;> simp [PV.same] at h; subst h; rfl
  | .int _, b, h => by cases b <;> simp [PV.same] at h; subst h; rfl
  | .str _, b, h => by cases b <;> simp [PV.same] at h; subst h; rfl
  | .op _, b, h => by cases b <;> simp [PV.same] at h; subst h; rfl
  | .ref _, b, h => by cases b <;> simp [PV.same] at h; subst h; rfl
  | .tup xs, b, h => by cases b <;> simp [PV.same] at h; rw [PV.sames_eq _ _ h]
  | .frl xs, b, h => by cases b <;> simp [PV.same] at h; rw [PV.sames_eq _ _ h]
  | .scr xs, b, h => by cases b <;> simp [PV.same] at h; rw [PV.sames_eq _ _ h]
  | .ctp xs, b, h => by cases b <;> simp [PV.same] at h; rw [PV.sames_eq _ _ h]
  | .frd t k xs, b, h => by cases b <;> simp [PV.same] at h; rw [PV.sames_eq _ _ h.2.2, h.1, h.2.1]
theorem PV.sames_eq : ∀ (a b : List PV), PV.sames a b = true → a = b
  | [], b, h => by cases b <;> simp [PV.sames] at h; rfl
  | x :: xs, b, h => by
    cases b with
    | nil => simp [PV.sames] at h
    | cons y ys =>
      simp [PV.sames] at h
      rw [PV.same_eq x y h.1, PV.sames_eq xs ys h.2]
end
mutual
theorem PV.same_refl : ∀ (a : PV), a.same a = true
  | .non | .bl _ | .int _ | .str _ | .op _ | .ref _ => by simp [PV.same]
  | .tup xs | .frl xs | .scr xs | .ctp xs | .frd _ _ xs => by simp [PV.same, PV.sames_refl xs]
theorem PV.sames_refl : ∀ (a : List PV), PV.sames a a = true
  | [] => by simp [PV.sames]
  | x :: xs => by simp [PV.sames, PV.same_refl x, PV.sames_refl xs]
end

/-! ### what is walked -/
def always : MH → Bool := fun _ => true
/-- the list at a place, as long as it stays as it is -/
def stays (n : Nat) (xs : List PV) : MH → Bool := fun μ => match μ[n]? with
  | some (.lst ys) => PV.sames ys xs
  | _ => false
theorem stays_ok {n : Nat} {xs : List PV} {μ : MH} (h : stays n xs μ = true) : μ[n]? = some (.lst xs) := by
  unfold stays at h
  split at h
  · rename_i ys e; rw [e, PV.sames_eq _ _ h]
  · cases h
theorem stays_self {n : Nat} {xs : List PV} {μ : MH} (h : μ[n]? = some (.lst xs)) : stays n xs μ = true := by
  unfold stays; rw [h]; exact PV.sames_refl xs
def planOf (v : PV) (μ : MH) : Option Plan := match v with
  | .tup xs => some ⟨xs, always⟩
  | .ctp xs => some ⟨xs, always⟩
  | .frl xs => some ⟨xs, always⟩
  | .scr xs => some ⟨xs, always⟩
  | .ref n => match μ[n]? with
    | some (.lst xs) => some ⟨xs, stays n xs⟩
    | _ => none
  | _ => none
def mOver (a : ME) : MI := fun s μ => (a s μ).bind fun v μ1 => match planOf v μ1 with
  | some p => .ok p μ1
  | none => .bad
def rangeVals (lo : Int) (n : Nat) : List PV := (List.range n).map fun i => .int (lo + (i : Nat))
/-- small enough for range -/
def okRange : Int → Bool
  | .ofNat n => Nat.ble n 1000000000
  | .negSucc n => Nat.ble n 1000000000
theorem okRange_ok {j : Int} (h : okRange j = true) : j < 2 ^ 62 ∧ -(2 ^ 62) ≤ j := by
  cases j with
  | ofNat n =>
    have : n ≤ 1000000000 := Nat.le_of_ble_eq_true h
    have e : (Int.ofNat n) = (n : Int) := rfl
    rw [e]
    omega
  | negSucc n =>
    have : n ≤ 1000000000 := Nat.le_of_ble_eq_true h
    have e : (Int.negSucc n) = -((n : Int) + 1) := rfl
    rw [e]
    omega
theorem okRange_nat {n : Nat} (h : n ≤ 1000000000) : okRange ((n : Nat) : Int) = true := Nat.ble_eq_true_of_le h
def mRange1 (a : ME) : MI := fun s μ => (a s μ).bind fun v μ1 => match v with
  | .int j => if okRange j = true then .ok ⟨rangeVals 0 j.toNat, always⟩ μ1 else .bad
  | _ => .bad
def mRange2 (a b : ME) : MI := fun s μ => (a s μ).bind fun v μ1 => (b s μ1).bind fun w μ2 => match v, w with
  | .int i, .int j => if okRange i = true ∧ okRange j = true then .ok ⟨rangeVals i (j - i).toNat, always⟩ μ2 else .bad
  | _, _ => .bad
def zipVals : List PV → List PV → List PV
  | x :: xs, y :: ys => .tup [x, y] :: zipVals xs ys
  | _, _ => []
def isT : PV → Bool
  | .tup _ => true
  | .ctp _ => true
  | _ => false
def mZip (a b : ME) : MI := fun s μ => (a s μ).bind fun v μ1 => (b s μ1).bind fun w μ2 => match planOf v μ2, planOf w μ2 with
  | some p, some q => if isT v == isT w then .ok ⟨zipVals p.vals q.vals, fun μ => p.chk μ && q.chk μ⟩ μ2 else .bad
  | _, _ => .bad
def enumVals : Nat → List PV → List PV
  | _, [] => []
  | i, x :: xs => .tup [.int (i : Nat), x] :: enumVals (i + 1) xs
def mEnum (a : ME) : MI := fun s μ => (a s μ).bind fun v μ1 => match planOf v μ1 with
  | some p => .ok ⟨enumVals 0 p.vals, p.chk⟩ μ1
  | none => .bad
def mChars (a : ME) : MI := fun s μ => (a s μ).bind fun v μ1 => match v with
  | .str z => .ok ⟨z.cps.toList.map fun c => .str ⟨#[c]⟩, always⟩ μ1
  | _ => .bad
/-- how the items of a plan stand at a later heap -/
inductive PlanAt (K : PySem.W.Frag) (av : List Addr) (H : Hp) (β : List Addr) : PV → Plan → Addr → List V → Prop
  | tup {v xs a vs} (e : seqT v = some xs) (h : SqT K H a vs) (p : PRels ⟨K, av⟩ H β xs vs) (n : (H a = some (.tup vs) ∧ a ∉ β) ∨ CT ⟨K, av⟩ H β a vs) : PlanAt K av H β v ⟨xs, always⟩ a vs
section
variable {K : PySem.W.Frag} {av : List Addr} {XR : XRel} {H : Hp} {β : List Addr} {μ : MH}
theorem not_av {av' : List Addr} {a : Addr} (hv : ∀ a ∈ av', a ∈ av ∨ H a = none) (h : H a ≠ none) (hn : a ∉ av) : a ∉ av' := fun q => by
  rcases hv a q with z | z
  · exact hn z
  · exact h z
theorem planOf_tup {v : PV} {p : Plan} {x : V} (pv : PRel ⟨K, av⟩ H β v x) (h : planOf v μ = some p) (t : isT v = true) : ∃ a vs, x = .ref a ∧ p.chk = always ∧ PRels ⟨K, av⟩ H β p.vals vs ∧ SqT K H a vs ∧ ∀ av' : List Addr, (∀ a ∈ av', a ∈ av ∨ H a = none) → ∀ H' β', ExtW av' H β H' β' → SqT K H' a vs := by
  cases v <;> first
    | exact Bool.noConfusion (show false = true from t)
    | (unfold planOf at h
       cases h
       first
       | (obtain ⟨a, vs, rfl, s, q⟩ := tup_inv pv
          exact ⟨a, vs, rfl, rfl, q, s.sq, fun av' hv H' β' e => .inl (.inl (e.stay _ _ s.1 s.2.1 (not_av hv (by rw [s.1]; exact fun q => nomatch q) s.2.2)))⟩)
       | (obtain ⟨a, vs, rfl, s, q⟩ := ctp_inv pv
          exact ⟨a, vs, rfl, rfl, q, s.sq, fun av' hv H' β' e => by
            rcases s with ⟨⟨o, h, _⟩, n, na⟩ | s
            · exact .inl (.inr ⟨o, e.stay _ _ h n (not_av hv (by rw [h]; exact fun q => nomatch q) na)⟩)
            · exact CT.sq (K := ⟨K, av⟩) (β := β) (.inr s)⟩))
theorem SqLf.up {av' : List Addr} (hs : ∀ a, (H a ≠ none ∧ a ∉ β ∧ a ∉ av) → a ∉ β ∧ a ∉ av') {a : Addr} {vs : List V} (h : SqLf ⟨K, av⟩ H β a vs) : SqLf ⟨K, av'⟩ H β a vs := by
  rcases h with ⟨h, n, na⟩ | h
  · exact .inl ⟨h, hs a ⟨Rd.some h, n, na⟩⟩
  · exact .inr h
/-- a list that is walked: its items at each later heap at which the check holds -/
theorem planOf_lst {v : PV} {p : Plan} {x : V} (rl : Rl ⟨K, av⟩ H β μ) (pv : PRel ⟨K, av⟩ H β v x) (h : planOf v μ = some p) (t : isT v = false) : ∃ a, x = .ref a ∧ (∃ vs, SqL K H a vs) ∧
    ∀ av' : List Addr, (∀ a ∈ av', a ∈ av ∨ H a = none) → ∀ H' β' μ', ExtW av' H β H' β' → Rl ⟨K, av'⟩ H' β' μ' → p.chk μ' = true → ∃ vs, SqL K H' a vs ∧ PRels ⟨K, av'⟩ H' β' p.vals vs := by
  have up : ∀ av' : List Addr, (∀ a ∈ av', a ∈ av ∨ H a = none) → ∀ a, (H a ≠ none ∧ a ∉ β ∧ a ∉ av) → a ∉ β ∧ a ∉ av' := fun av' hv a ⟨h1, h2, h3⟩ => ⟨h2, fun q => by
    rcases hv a q with z | z
    · exact h3 z
    · exact h1 z⟩
  cases v <;> first
    | exact Bool.noConfusion (show true = false from t)
    | (unfold planOf at h; cases h; done)
    | skip
  · rename_i n
    unfold planOf at h
    simp only at h
    split at h
    · rename_i xs e
      cases h
      unfold PRel at pv
      obtain ⟨a, rfl, ea⟩ := pv
      obtain ⟨vs, h1, h2⟩ := rl.obj n a _ ea e
      refine ⟨a, rfl, ⟨vs, SqL.of h1⟩, fun av' _ H' β' μ' ex rl' ck => ?_⟩
      obtain ⟨ws, h3, h4⟩ := rl'.obj n a _ (ex.ix ea) (stays_ok ck)
      exact ⟨ws, SqL.of h3, h4⟩
    · cases h
  · rename_i xs
    unfold planOf at h
    cases h
    unfold PRel at pv
    obtain ⟨a, vs, rfl, ⟨h1, h2, h3⟩, q⟩ := pv
    exact ⟨a, rfl, ⟨vs, SqL.of h1⟩, fun av' hv H' β' μ' ex rl' _ => ⟨vs, SqL.of (ex.stay _ _ h1 h2 (not_av hv (by rw [h1]; exact fun q => nomatch q) h3)), PRels.extW ex _ (PRels.av_ (K := K) (up av' hv) (fun _ _ h => h) _ q)⟩⟩
  · rename_i xs
    unfold planOf at h
    cases h
    unfold PRel at pv
    obtain ⟨a, vs, rfl, s, q⟩ := pv
    exact ⟨a, rfl, ⟨vs, s.sq⟩, fun av' hv H' β' μ' ex rl' _ => ⟨vs, ((s.up (up av' hv)).extW ex).sq, PRels.extW ex _ (PRels.av_ (K := K) (up av' hv) (fun _ _ h => h) _ q)⟩⟩
theorem up_rels {av' : List Addr} {vs : List PV} {xs : List V} (hv : ∀ a ∈ av', a ∈ av ∨ H a = none) (q : PRels ⟨K, av⟩ H β vs xs) {H' : Hp} {β' : List Addr} (ex : ExtW av' H β H' β') : PRels ⟨K, av'⟩ H' β' vs xs :=
  PRels.extW ex _ (PRels.av_ (K := K) (fun a ⟨h1, h2, h3⟩ => ⟨h2, fun q => by
    rcases hv a q with z | z
    · exact h3 z
    · exact h1 z⟩) (fun _ _ h => h) _ q)
end
section
variable {X : Cx} {XR : XRel} {E : L2.St → XK} {tg : Expr}
theorem ti_e {K : PySem.W.Frag} {av : List Addr} {σ : L2.St} {H : Hp} {m : ME} {k : PV → MH → R Plan} {β : List Addr} {s : MS} {μ : MH} {Q : VK} {Q' : It → Hp → Prop} (rl : Rl ⟨K, av⟩ H β μ) (sr : SRel ⟨K, av⟩ H β s σ) (h : IOutOk ⟨K, av⟩ XR H β (E σ) Q' ((m s μ).bind k))
    (q : ∀ v μ' x H' β', Ext H β H' β' → Rl ⟨K, av⟩ H' β' μ' → SRel ⟨K, av⟩ H' β' s σ → PRel ⟨K, av⟩ H' β' v x → IOutOk ⟨K, av⟩ XR H' β' (E σ) Q' (k v μ') → Q x H') : tM K XR E m σ H Q := by
  refine ⟨av, β, s, μ, rl, sr, ?_⟩
  cases e : m s μ with
  | bad => rw [e] at h; exact h
  | err c p μ' => rw [e] at h; exact h
  | ok v μ' =>
    rw [e] at h
    refine fun x H' β' ex rl' pr => q v μ' x H' β' ex rl' (sr.ext ex) pr ?_
    cases e2 : k v μ' with
    | bad => simp only [R.bind, e2] at h; exact h
    | err c p μ2 => simp only [R.bind, e2] at h; exact fun cls d H2 β2 ex2 => h cls d H2 β2 (ex.trans ex2)
    | ok pl μ2 => simp only [R.bind, e2] at h; exact fun J H2 β2 ex2 => h J H2 β2 (ex.trans ex2)
theorem mi_over {e : Expr} {m : ME} (he : PM X XR E e m) : PIM X XR E tg e (mOver m) := by
  refine ⟨fun pins z σ H R I ⟨av, β, s, μ, rl, sr, h⟩ => ?_⟩
  have h' := ti_e (Q := fun x H1 => (∃ a, x = .ref a ∧ (∃ xs, SqL X.K H1 a xs) ∧ R (Itl X.K a) H1) ∨ (∃ a, x = .ref a ∧ (∃ xs, SqT X.K H1 a xs) ∧ R (Itt X.K a) H1)) rl sr h fun v μ1 x H1 β1 ex rl1 sr1 p q => by
    cases e1 : planOf v μ1 with
    | none => rw [e1] at q; exact q.elim
    | some pl =>
      rw [e1] at q
      by_cases t : isT v = true
      · obtain ⟨a, vs, rfl, ck, pr, st, keep⟩ := planOf_tup p e1 t
        refine .inr ⟨a, rfl, ⟨vs, st⟩, q _ H1 β1 .refl rl1 fun av' hv H2 β2 μ2 ex2 rl2 _ i => ?_⟩
        have st2 := keep av' hv H2 β2 ex2
        have pr2 := up_rels hv pr ex2
        cases e2 : pl.vals[i]? with
        | none => exact ⟨vs, st2, by rw [← pr2.length]; exact List.getElem?_eq_none_iff.mp e2⟩
        | some w =>
          obtain ⟨y, e3, p3⟩ := pr2.get e2
          refine ⟨⟨vs, y, st2, e3⟩, fun x' H3 ⟨e4, f⟩ => ?_⟩
          subst e4
          have := f vs st2
          rw [e3] at this
          cases this
          exact ⟨.refl, rl2, p3⟩
      · obtain ⟨a, rfl, st, keep⟩ := planOf_lst rl1 p e1 (by simpa using t)
        refine .inl ⟨a, rfl, st, q _ H1 β1 .refl rl1 fun av' hv H2 β2 μ2 ex2 rl2 ck i => ?_⟩
        obtain ⟨vs, st2, pr2⟩ := keep av' hv H2 β2 μ2 ex2 rl2 ck
        cases e2 : pl.vals[i]? with
        | none => exact ⟨vs, st2, by rw [← pr2.length]; exact List.getElem?_eq_none_iff.mp e2⟩
        | some w =>
          obtain ⟨y, e3, p3⟩ := pr2.get e2
          refine ⟨⟨vs, y, st2, e3⟩, fun x' H3 ⟨e4, f⟩ => ?_⟩
          subst e4
          have := f vs st2
          rw [e3] at this
          cases this
          exact ⟨.refl, rl2, p3⟩
  refine thn (he.run pins z σ H _ I h') fun v z1 ⟨x, H1, I1, r1, q1⟩ => ?_
  rcases q1 with ⟨a, rfl, ⟨xs, hq⟩, q⟩ | ⟨a, rfl, ⟨xs, hq⟩, q⟩
  · cases r1
    obtain ⟨its, rv, pl, hz⟩ := I1.list hq
    refine wpAny_pyIter_list pl.isList ⟨z1.heap.objs.size, [z1.heap.objs.size], _, _, H1, rfl, I1.kept (t' := z1.toks) fun b o e => Heap.get?_push_of_some _ e, turn_list a _, ⟨_, Heap.get?_push_size _ rfl, rfl, rfl⟩, fun b hb => ?_, q⟩
    obtain rfl : b = z1.heap.objs.size := by simpa using hb
    exact I1.fpOk (Nat.le_refl _) (I1.hok.fresh (Nat.le_refl _))
  · cases r1
    obtain ⟨its, rv, pl, hz⟩ := I1.tuple hq
    refine wpAny_pyIter_tuple (show z1.heap.IsTuple a its.toArray from pl) ⟨z1.heap.objs.size, [z1.heap.objs.size], _, _, H1, rfl, I1.kept (t' := z1.toks) fun b o e => Heap.get?_push_of_some _ e, turn_tuple a _, ⟨_, Heap.get?_push_size _ rfl, rfl, rfl⟩, fun b hb => ?_, q⟩
    obtain rfl : b = z1.heap.objs.size := by simpa using hb
    exact I1.fpOk (Nat.le_refl _) (I1.hok.fresh (Nat.le_refl _))
/-- a range -/
theorem range_plan {K : Gx} {H : Hp} {β : List Addr} {lo : Int} {n : Nat} : PlanOk K H β ⟨rangeVals lo n, always⟩ (Itr lo n) := by
  intro av' _ H2 β2 μ2 ex2 rl2 _ i
  show match (rangeVals lo n)[i]? with | some v => _ | none => _
  unfold rangeVals
  rw [List.getElem?_map]
  by_cases hi : i < n
  · rw [List.getElem?_range hi]
    refine ⟨hi, fun x H3 ⟨e1, e2⟩ => ?_⟩
    subst e1; subst e2
    exact ⟨.refl, rl2, .int_⟩
  · rw [List.getElem?_eq_none (by simpa using hi)]
    exact Nat.le_of_not_lt hi
theorem ti_args1 {K : PySem.W.Frag} {av : List Addr} {σ : L2.St} {H : Hp} {m : ME} {k : PV → MH → R Plan} {β : List Addr} {s : MS} {μ : MH} {Q : List V → Hp → Prop} {Q' : It → Hp → Prop} (rl : Rl ⟨K, av⟩ H β μ) (sr : SRel ⟨K, av⟩ H β s σ) (h : IOutOk ⟨K, av⟩ XR H β (E σ) Q' ((m s μ).bind k))
    (q : ∀ v μ' x H' β', Ext H β H' β' → Rl ⟨K, av⟩ H' β' μ' → SRel ⟨K, av⟩ H' β' s σ → PRel ⟨K, av⟩ H' β' v x → IOutOk ⟨K, av⟩ XR H' β' (E σ) Q' (k v μ') → Q [x] H') : tCons (tM K XR E m) tNil σ H Q :=
  ti_e rl sr h fun v μ' x H' β' a b c d e => q v μ' x H' β' a b c d e
theorem ti_args2 {K : PySem.W.Frag} {av : List Addr} {σ : L2.St} {H : Hp} {m m2 : ME} {k : PV → PV → MH → R Plan} {β : List Addr} {s : MS} {μ : MH} {Q : List V → Hp → Prop} {Q' : It → Hp → Prop} (rl : Rl ⟨K, av⟩ H β μ) (sr : SRel ⟨K, av⟩ H β s σ) (h : IOutOk ⟨K, av⟩ XR H β (E σ) Q' ((m s μ).bind fun v μ1 => (m2 s μ1).bind fun w μ2 => k v w μ2))
    (q : ∀ v w μ' x y H' β', Ext H β H' β' → Rl ⟨K, av⟩ H' β' μ' → SRel ⟨K, av⟩ H' β' s σ → PRel ⟨K, av⟩ H' β' v x → PRel ⟨K, av⟩ H' β' w y → IOutOk ⟨K, av⟩ XR H' β' (E σ) Q' (k v w μ') → Q [x, y] H') : tCons (tM K XR E m) (tCons (tM K XR E m2) tNil) σ H Q :=
  ti_e rl sr h fun v μ1 x H1 β1 ex1 rl1 sr1 p1 h1 => ti_e rl1 sr1 h1 fun w μ2 y H2 β2 ex2 rl2 sr2 p2 h2 => q v w μ2 x y H2 β2 (ex1.trans ex2) rl2 sr2 (p1.ext ex2) p2 h2
theorem pa1 {a : Expr} {ma : ME} (ha : PM X XR E a ma) (hs : starEach [a] X.env = (false, eval a X.env) :: starEach [] X.env := by rfl) : PA X [a] (tCons (tM X.K XR E ma) tNil) := pa_cons ha pa_nil hs
theorem pa2 {a b : Expr} {ma mb : ME} (ha : PM X XR E a ma) (hb : PM X XR E b mb) (hs : starEach [a, b] X.env = (false, eval a X.env) :: starEach [b] X.env := by rfl) (hs2 : starEach [b] X.env = (false, eval b X.env) :: starEach [] X.env := by rfl) : PA X [a, b] (tCons (tM X.K XR E ma) (tCons (tM X.K XR E mb) tNil)) := pa_cons ha (pa_cons hb pa_nil hs2) hs
theorem mi_range1 {a : Expr} {ma : ME} {p pos : Pos} (hg : Gl X "range") (hm : X.mg "range" = none) (ha : PM X XR E a ma) (hs : starEach [a] X.env = [(false, eval a X.env)] := by rfl) : PIM X XR E tg (.Call (.Name "range" p) [a] [] pos) (mRange1 ma) :=
  PI.imp (pi_range1 hg hm (pa1 ha hs) hs) fun σ H Q ⟨av, β, s, μ, rl, sr, h⟩ => by
    unfold iRng1
    refine ti_args1 rl sr h fun v μ1 x H1 β1 ex rl1 sr1 p q => ?_
    cases v <;> first
      | exact q.elim
      | (simp only at q
         split at q
         · rename_i hb
           exact ⟨_, by rw [int_inv p], (okRange_ok hb).2, (okRange_ok hb).1, q _ H1 β1 .refl rl1 range_plan⟩
         · exact q.elim)
theorem mi_range2 {a b : Expr} {ma mb : ME} {p pos : Pos} (hg : Gl X "range") (hm : X.mg "range" = none) (ha : PM X XR E a ma) (hb : PM X XR E b mb) (hs : starEach [a, b] X.env = [(false, eval a X.env), (false, eval b X.env)] := by rfl) (hs2 : starEach [b] X.env = [(false, eval b X.env)] := by rfl) :
    PIM X XR E tg (.Call (.Name "range" p) [a, b] [] pos) (mRange2 ma mb) :=
  PI.imp (pi_range2 hg hm (pa2 ha hb (by rw [hs, hs2]) hs2) hs hs2) fun σ H Q ⟨av, β, s, μ, rl, sr, h⟩ => by
    unfold iRng2
    refine ti_args2 rl sr h fun v w μ1 x y H1 β1 ex rl1 sr1 p p2 q => ?_
    cases v <;> first
      | exact q.elim
      | (cases w <;> first
          | exact q.elim
          | (simp only at q
             split at q
             · rename_i hb
               exact ⟨_, _, by rw [int_inv p, int_inv p2], ⟨(okRange_ok hb.1).2, (okRange_ok hb.1).1, (okRange_ok hb.2).2, (okRange_ok hb.2).1⟩, q _ H1 β1 .refl rl1 range_plan⟩
             · exact q.elim))
end
end Mini

/-! M11: zip, enumerate, signs of a text, two clauses. -/
namespace Mini
open PySem PySem.Spec PyProof.Rows L2 RZ

section
variable {X : Cx} {XR : XRel} {E : L2.St → XK} {tg : Expr}
theorem zip_get : ∀ {xs ys : List PV} {i : Nat}, (zipVals xs ys)[i]? = (match xs[i]?, ys[i]? with | some x, some y => some (.tup [x, y]) | _, _ => none)
  | [], ys, i => by simp [zipVals]
  | x :: xs, [], i => by simp [zipVals]
  | x :: xs, y :: ys, 0 => by simp [zipVals]
  | x :: xs, y :: ys, i + 1 => by simp only [zipVals, List.getElem?_cons_succ]; exact zip_get
theorem enum_get : ∀ {xs : List PV} {k i : Nat}, (enumVals k xs)[i]? = xs[i]?.map fun x => .tup [.int ((k + i : Nat) : Int), x]
  | [], k, i => by simp [enumVals]
  | x :: xs, k, 0 => by simp [enumVals]
  | x :: xs, k, i + 1 => by
    simp only [enumVals, List.getElem?_cons_succ]
    rw [enum_get]
    congr 1
    funext y
    rw [show k + 1 + i = k + (i + 1) by omega]
/-- a new pair at hand -/
theorem pair_new {K : PySem.W.Frag} {av : List Addr} {H : Hp} {β : List Addr} {μ : MH} {T : Addr} {ws : List PV} {vs : List V} (rl : Rl ⟨K, av⟩ H β μ) (hT : H T = none) (p : PRels ⟨K, av⟩ H β ws vs) :
    Ext H β (upd H T (.tup vs)) β ∧ Rl ⟨K, av⟩ (upd H T (.tup vs)) β μ ∧ PRel ⟨K, av⟩ (upd H T (.tup vs)) β (.tup ws) (.ref T) := by
  refine ⟨Ext.new rl hT _, rl.new hT _, ?_⟩
  unfold PRel
  exact ⟨T, vs, rfl, ⟨upd_same, rl.fresh hT⟩, PRels.ext (Ext.new rl hT _) _ p⟩
theorem mi_zip {a b : Expr} {ma mb : ME} {p pos tpos : Pos} {elts : List Expr} {kk : Nat} (hg : Gl X "zip") (hm : X.mg "zip" = none) (ha : PM X XR E a ma) (hb : PM X XR E b mb) (hs : starEach [a, b] X.env = (false, eval a X.env) :: starEach [b] X.env := by rfl) (hs2 : starEach [b] X.env = (false, eval b X.env) :: starEach [] X.env := by rfl)
    (hpl : (backTo pos (starEach [b] X.env)).any (·.1) = false := by rfl) : PIM X XR E (.Tuple elts kk tpos) (.Call (.Name "zip" p) [a, b] [] pos) (mZip ma mb) :=
  PI.imp (pi_zipA hg hm (pa2 ha hb hs hs2) hs hpl) fun σ H Q ⟨av, β, s, μ, rl, sr, h⟩ => by
    unfold iZipA
    refine ti_args2 rl sr h fun v w μ1 x y H1 β1 ex rl1 sr1 pv pw q => ?_
    cases e1 : planOf v μ1 with
    | none => rw [e1] at q; exact q.elim
    | some p1 =>
      cases e2 : planOf w μ1 with
      | none => rw [e1, e2] at q; exact q.elim
      | some p2 =>
        rw [e1, e2] at q
        simp only at q
        split at q
        · rename_i ht
          have ht' : isT v = isT w := by simpa using ht
          by_cases t : isT v = true
          · obtain ⟨a, vs, rfl, ck, pr, st, keep⟩ := planOf_tup pv e1 t
            obtain ⟨b, ws, rfl, ck2, pr2, st2, keep2⟩ := planOf_tup pw e2 (ht' ▸ t)
            refine ⟨a, b, vs, ws, rfl, .inr ⟨st, st2, q _ H1 β1 .refl rl1 fun av' hv H2 β2 μ2 ex2 rl2 _ i => ?_⟩⟩
            have s1 := keep av' hv H2 β2 ex2
            have s2 := keep2 av' hv H2 β2 ex2
            have q1 := up_rels hv pr ex2
            have q2 := up_rels hv pr2 ex2
            show match (zipVals p1.vals p2.vals)[i]? with | some v => _ | none => _
            rw [zip_get]
            cases e3 : p1.vals[i]? with
            | none => exact ⟨vs, ws, s1, s2, .inl (by rw [← q1.length]; exact List.getElem?_eq_none_iff.mp e3)⟩
            | some z1 =>
              cases e4 : p2.vals[i]? with
              | none => exact ⟨vs, ws, s1, s2, .inr (by rw [← q2.length]; exact List.getElem?_eq_none_iff.mp e4)⟩
              | some z2 =>
                obtain ⟨y1, f1, g1⟩ := q1.get e3
                obtain ⟨y2, f2, g2⟩ := q2.get e4
                refine ⟨⟨vs, ws, y1, y2, s1, s2, f1, f2⟩, fun x' H3 ⟨T, u1, u2, ex', hT, eH, k1, k2⟩ => ?_⟩
                have k1' := k1 vs s1
                have k2' := k2 ws s2
                rw [f1] at k1'; rw [f2] at k2'
                cases k1'; cases k2'
                subst ex'; subst eH
                exact pair_new rl2 hT (.cons g1 (.cons g2 .nil))
          · have t1 : isT v = false := by simpa using t
            obtain ⟨a, rfl, ⟨vs, st⟩, keep⟩ := planOf_lst rl1 pv e1 t1
            obtain ⟨b, rfl, ⟨ws, st2⟩, keep2⟩ := planOf_lst rl1 pw e2 (ht' ▸ t1)
            refine ⟨a, b, vs, ws, rfl, .inl ⟨st, st2, q _ H1 β1 .refl rl1 fun av' hv H2 β2 μ2 ex2 rl2 ck i => ?_⟩⟩
            have ck' : (p1.chk μ2 && p2.chk μ2) = true := ck
            rw [Bool.and_eq_true] at ck'
            obtain ⟨vs, s1, q1⟩ := keep av' hv H2 β2 μ2 ex2 rl2 ck'.1
            obtain ⟨ws, s2, q2⟩ := keep2 av' hv H2 β2 μ2 ex2 rl2 ck'.2
            show match (zipVals p1.vals p2.vals)[i]? with | some v => _ | none => _
            rw [zip_get]
            cases e3 : p1.vals[i]? with
            | none => exact ⟨vs, ws, s1, s2, .inl (by rw [← q1.length]; exact List.getElem?_eq_none_iff.mp e3)⟩
            | some z1 =>
              cases e4 : p2.vals[i]? with
              | none => exact ⟨vs, ws, s1, s2, .inr (by rw [← q2.length]; exact List.getElem?_eq_none_iff.mp e4)⟩
              | some z2 =>
                obtain ⟨y1, f1, g1⟩ := q1.get e3
                obtain ⟨y2, f2, g2⟩ := q2.get e4
                refine ⟨⟨vs, ws, y1, y2, s1, s2, f1, f2⟩, fun x' H3 ⟨T, u1, u2, ex', hT, eH, k1, k2⟩ => ?_⟩
                have k1' := k1 vs s1
                have k2' := k2 ws s2
                rw [f1] at k1'; rw [f2] at k2'
                cases k1'; cases k2'
                subst ex'; subst eH
                exact pair_new rl2 hT (.cons g1 (.cons g2 .nil))
        · exact q.elim

/-! ### enumerate, of a tuple too -/
/-- the tuple at a, each item in a new pair -/
def IteT (K : PySem.W.Frag) (a : Addr) : It where
  go i H := ∃ (xs : List V) (x : V), SqT K H a xs ∧ xs[i]? = some x
  yld i H v H' := ∃ T x, v = .ref T ∧ H T = none ∧ H' = upd H T (.tup [.int (i : Nat), x]) ∧ ∀ xs, SqT K H a xs → xs[i]? = some x
  stop i H := ∃ xs : List V, SqT K H a xs ∧ xs.length ≤ i
/-- where an enumerate over the tuple at a stands -/
structure AtT (e it a : Addr) (i : Nat) (h : Heap) : Prop where
  en : ∃ old, IsEnum h e it ((i : Nat) : Int) old
  it_ : h.IsTupleIter it a i
  ne1 : e ≠ it
  ne2 : a ≠ e
  ne3 : a ≠ it
/-- an iterator over the tuple at a that has come behind its end draws nothing -/
theorem draws_none {P : Program} {w : World} {A : Around} (hd : A.handled = none) {it a : Addr} {i : Nat} {its : Array Value} (out : its.size ≤ i) :
    Draws P w A it [it, a] 0 (fun _ _ => True) (fun _ h => h.IsTupleIter it a i ∧ h.IsTuple a its) where
  live _ _ st := st.1.elim fun o h => ⟨o, h.1⟩
  frame _ _ _ st k := ⟨st.1.at (k it (by simp)), st.2.at (k a (by simp))⟩
  item _ _ _ _ no := absurd no (Nat.not_lt_zero _)
  done _ _ _ st := wpAny_nextOf_tuple_end hd st.1 st.2 (by simp [out])
theorem turn_enumT {P : Program} {w : World} {K : PySem.W.Frag} {elts : List Expr} {kk : Nat} {tpos : Pos} (a e it : Addr) : Turn P w K (.Tuple elts kk tpos) (IteT K a) [e, it] e (AtT e it a) where
  mem := List.mem_cons_self
  obj i h st b hb := by
    obtain ⟨⟨old, he⟩, ⟨o, ho, _, hd⟩, _, _, _⟩ := st
    simp only [List.mem_cons, List.not_mem_nil, or_false] at hb
    cases hb with
    | inl q => subst q; exact ⟨_, he, by simp⟩
    | inr q => subst q; exact ⟨o, ho, by simp [hd]⟩
  keep i h h' st k := { st with en := st.en.imp fun _ he => k e (by simp) _ he, it_ := st.it_.at fun o q => k it (by simp) o q }
  self A i s Q E st h := st.en.elim fun _ he => wpAny_pyIter_enum he h
  item X hP hw hK hc i pins s σ H E I hf st hg := by
    cases hP; cases hw; cases hK
    obtain ⟨xs, x, sq, hx⟩ := hg
    obtain ⟨its, rv, p, _⟩ := I.tuple sq
    obtain ⟨u, hu, ru⟩ := rv.get hx
    have iu : its.toArray[i]? = some u := by simpa using hu
    have W := WalksT.enumerateD (Draws.tuple (prog := X.prog) (w := X.w) (A := X.A.in1) (I.ok.hd hc) it a st.ne3 its.toArray) e st.ne1 (by simp [st.ne1, st.ne2.symm]) (by simp)
    apply W.item i s _ _ (Array.getElem?_eq_some_iff.mp iu).1 ⟨st.en, st.it_, p⟩
    rintro T vals h1 tk ⟨t, y, hy, rfl⟩ above isT mid same1
    cases iu.symm.trans hy
    refine ⟨_, rfl, W.go elts kk tpos i T _ _ _ mid fun h2 st2 same2 => ?_⟩
    have same : ∀ b o, b ∉ [e, it] → s.heap.get? b = some o → h2.get? b = some o := fun b o hb q => same2 b o hb (same1 b o hb q)
    have apart : ∀ b ∈ [e, it], b ≠ T := fun b hb q => W.apart i T h1 mid (q ▸ hb)
    have isT2 : h2.IsTuple T #[.int (i : Nat) t, u] := isT.at fun o q => same2 T o (fun hb => apart T hb rfl) q
    refine ⟨.ref T, upd H T (.tup [.int (i : Nat), x]), I.turnedNew (ch := [e, it]) same hf above ?_, rfl, ⟨T, x, rfl, I.hok.fresh above, rfl, fun ys hy => ?_⟩, ?_, fun b hb => ?_⟩
    · exact ⟨by show 2 ≤ sizeLine; decide, [.int (i : Nat) t, u], .cons ⟨t, rfl⟩ (.cons ru .nil), isT2⟩
    · rw [I.tuple_inj hy sq]; exact hx
    · exact { st with en := st2.1, it_ := st2.2.1 }
    · rw [upd_ne (apart b hb)]; exact (hf b hb).1
  done X hP hw hK hc i pins s σ H E I hf st hg := by
    cases hP; cases hw; cases hK
    obtain ⟨xs, sq, hx⟩ := hg
    obtain ⟨its, rv, p, _⟩ := I.tuple sq
    obtain ⟨old, he⟩ := st.en
    have ended := draws_none (P := X.prog) (w := X.w) (A := X.A.in1) (it := it) (a := a) (i := i) (its := its.toArray) (I.ok.hd hc) (by rw [rv.length] at hx; simpa using hx)
    apply wpAny_pyNext_enum_endD ended he ⟨st.it_, p⟩
    intro h' eb
    have fp := hf it (by simp)
    exact ⟨rfl, I.turned (t' := s.toks) (fun b o hb q => eb b o hb q) fp.1 fp.2.1 fp.2.2.2.1 fp.2.2.2.2.1 fp.2.2.2.2.2⟩
/-- a Boolean at hand: both ways stand -/
theorem pure_bool {M : Model} {A : Around} {E : Value → Shared → Prop} {s : Shared} {Q : Bool → Shared → Prop} {b : Bool} (yes : Q true s) (no : Q false s) : wpAny M A (pure b) Q E s :=
  wpAny_pure (b.rec no yes)
/-- a new enumerate, of anything that an iterator begins -/
theorem enum_meets {v : Value} {o : Obj} {Hs : Heap → Prop} (B : Begins v o Hs) : Meets (Builtin.«enumerate.__new__» ⟨[.type "enumerate", v], []⟩) (fun _ R s => Hs s.heap ∧
    R (.ok (.ret (.ref (s.heap.push o).objs.size))) { s with heap := (s.heap.push o).push { cls := .type "enumerate", data := .fields #[.none, .bool false, .ref s.heap.objs.size, rawInt 0, .none, .none] } }) := by
  apply Meets.of_wp
  rintro prog w A R ⟨h, g, d, tk, os⟩ ⟨ok, fin⟩
  have is := sub_enumerate
  have iter : ∀ {A' : Around} {E : Value → Shared → Prop} {Q : Value → Shared → Prop}, Q (.ref h.objs.size) ⟨h.push o, g, d, tk, os⟩ → wpAny (model prog w) A' (pyIter v) Q E ⟨h, g, d, tk, os⟩ := B.iter prog w _ _ ⟨h, g, d, tk, os⟩ _ ok
  wp_walk using iter
  apply wpAny_stack_any
  intro st
  apply pure_bool <;> wp_walk using iter <;> exact ⟨_, rfl, fin⟩
def iEnumT (K : PySem.W.Frag) (ta : TA) : TI := fun σ H R => ta σ H fun vs H1 => ∃ a xs, vs = [.ref a] ∧ SqT K H1 a xs ∧ R (IteT K a) H1
/-- the call enumerate(t) of a tuple: a new tuple iterator, behind it the new enumerate -/
theorem enum_made {prog : Program} {w : World} {A : Around} {E : Value → Shared → Prop} {s : Shared} {a : Addr} {items : Array Value} {Q : Value → Shared → Prop} (tu : s.heap.IsTuple a items)
    (h : ∀ h', IsEnum h' (s.heap.objs.size + 1) s.heap.objs.size 0 .none → h'.IsTupleIter s.heap.objs.size a 0 → (∀ b o, s.heap.get? b = some o → h'.get? b = some o) → Q (.ref (s.heap.objs.size + 1)) { s with heap := h' }) :
    wpAny (model prog w) A (call (.type "enumerate") [.ref a]) Q E s := by
  apply callType_new F.called_enumerate (by decide) (F.typeCall_enumerate_1 _) (F.newCall_enumerate_1 _) (fun obj => F.args_object_init_2 obj _) F.entry_enumerate_new (enum_meets (begins_tuple a items))
  have size : (s.heap.push { cls := .type "tuple_iterator", data := .fields #[.ref a, .int 0 0] }).objs.size = s.heap.objs.size + 1 := Heap.size_push ..
  have new : ∀ (h0 : Heap) (o : Obj), o.isFreed = false → (h0.push o).get? h0.objs.size = some o := fun h0 o q => Heap.get?_push_size h0 q
  have old : ∀ {h0 : Heap} (o : Obj) {b : Addr} {o' : Obj}, h0.get? b = some o' → (h0.push o).get? b = some o' := fun o _ _ q => Heap.get?_push_of_some o q
  simp only [size]
  refine ⟨tu, ⟨_, ?en, rfl⟩, h _ ?en ⟨_, old _ (new _ _ rfl), rfl, rfl⟩ fun b o q => old _ (old _ q)⟩
  have := new (s.heap.push { cls := .type "tuple_iterator", data := .fields #[.ref a, .int 0 0] }) { cls := .type "enumerate", data := .fields #[.none, .bool false, .ref s.heap.objs.size, rawInt 0, .none, .none] } rfl
  rw [size] at this
  exact this
/-- enumerate of a list, of a tuple -/
theorem mi_enum {a : Expr} {ma : ME} {p pos tpos : Pos} {elts : List Expr} {kk : Nat} (hg : Gl X "enumerate") (hm : X.mg "enumerate" = none) (ha : PM X XR E a ma) (hs : starEach [a] X.env = [(false, eval a X.env)] := by rfl) :
    PIM X XR E (.Tuple elts kk tpos) (.Call (.Name "enumerate" p) [a] [] pos) (mEnum ma) := by
  refine ⟨fun pins z σ H R I ⟨av, β, s, μ, rl, sr, h⟩ => ?_⟩
  have h' := ti_e (Q := fun x H1 => (∃ a xs, x = .ref a ∧ SqL X.K H1 a xs ∧ R (Ite X.K a) H1) ∨ (∃ a xs, x = .ref a ∧ SqT X.K H1 a xs ∧ R (IteT X.K a) H1)) rl sr h fun v μ1 x H1 β1 ex rl1 sr1 p q => by
    cases e1 : planOf v μ1 with
    | none => rw [e1] at q; exact q.elim
    | some pl =>
      rw [e1] at q
      by_cases t : isT v = true
      · obtain ⟨a, vs, rfl, ck, pr, st, keep⟩ := planOf_tup p e1 t
        refine .inr ⟨a, vs, rfl, st, q _ H1 β1 .refl rl1 fun av' hv H2 β2 μ2 ex2 rl2 _ i => ?_⟩
        have st2 := keep av' hv H2 β2 ex2
        have pr2 := up_rels hv pr ex2
        show match (enumVals 0 pl.vals)[i]? with | some v => _ | none => _
        rw [enum_get]
        cases e2 : pl.vals[i]? with
        | none => exact ⟨vs, st2, by rw [← pr2.length]; exact List.getElem?_eq_none_iff.mp e2⟩
        | some w =>
          obtain ⟨y, e3, p3⟩ := pr2.get e2
          refine ⟨⟨vs, y, st2, e3⟩, fun x' H3 ⟨T, u, ex', hT, eH, f⟩ => ?_⟩
          have f' := f vs st2
          rw [e3] at f'
          cases f'; subst ex'; subst eH
          refine pair_new rl2 hT (.cons ?_ (.cons p3 .nil))
          rw [Nat.zero_add]
          exact .int_
      · obtain ⟨a, rfl, ⟨vs0, st⟩, keep⟩ := planOf_lst rl1 p e1 (by simpa using t)
        refine .inl ⟨a, vs0, rfl, st, q _ H1 β1 .refl rl1 fun av' hv H2 β2 μ2 ex2 rl2 ck i => ?_⟩
        obtain ⟨vs, st2, pr2⟩ := keep av' hv H2 β2 μ2 ex2 rl2 ck
        show match (enumVals 0 pl.vals)[i]? with | some v => _ | none => _
        rw [enum_get]
        cases e2 : pl.vals[i]? with
        | none => exact ⟨vs, st2, by rw [← pr2.length]; exact List.getElem?_eq_none_iff.mp e2⟩
        | some w =>
          obtain ⟨y, e3, p3⟩ := pr2.get e2
          refine ⟨⟨vs, y, st2, e3⟩, fun x' H3 ⟨T, u, ex', hT, eH, f⟩ => ?_⟩
          have f' := f vs st2
          rw [e3] at f'
          cases f'; subst ex'; subst eH
          refine pair_new rl2 hT (.cons ?_ (.cons p3 .nil))
          rw [Nat.zero_add]
          exact .int_
  refine Call_ (ld_blt I hg hm boot_enumerate (PyProof.Rows.callWith_type1 (thn ((pa1 ha hs).run pos pins z σ H (fun vs H1 => ∃ x, vs = [x] ∧ ((∃ a xs, x = .ref a ∧ SqL X.K H1 a xs ∧ R (Ite X.K a) H1) ∨ (∃ a xs, x = .ref a ∧ SqT X.K H1 a xs ∧ R (IteT X.K a) H1))) I ?_) fun us z1 ⟨vs, H1, I1, r1, q1⟩ => ?_) hs rfl))
  · obtain ⟨av, β, s, μ, rl, sr, o⟩ := h'
    refine ⟨av, β, s, μ, rl, sr, ?_⟩
    cases e : ma s μ with
    | bad => rw [e] at o; exact o
    | err c p μ' => rw [e] at o; exact o
    | ok v μ' => rw [e] at o; exact fun x H' β' a b c => ⟨x, rfl, o x H' β' a b c⟩
  · obtain ⟨x, rfl, q1⟩ := q1
    obtain ⟨u, rfl, rx⟩ := vals1 r1
    have fp : ∀ b, b ∈ [z1.heap.objs.size + 1, z1.heap.objs.size] → FpOk X pins H1 b := fun b hb => by
      have hb' : b = z1.heap.objs.size + 1 ∨ b = z1.heap.objs.size := by simpa using hb
      have hle : z1.heap.objs.size ≤ b := by rcases hb' with z | z <;> omega
      exact I1.fpOk hle (I1.hok.fresh hle)
    rcases q1 with ⟨a, xs, rfl, hq, q⟩ | ⟨a, xs, rfl, hq, q⟩
    · cases rx
      obtain ⟨its, rv, p', hz⟩ := I1.list hq
      exact call_enumerate_list p'.isList fun h' he hit hsz hk => wpAny_pyIter_enum he ⟨z1.heap.objs.size + 1, [z1.heap.objs.size + 1, z1.heap.objs.size], _, _, H1, rfl, I1.kept (t' := z1.toks) hk, turn_enum a (z1.heap.objs.size + 1) z1.heap.objs.size, ⟨⟨.none, he⟩, hit, Nat.succ_ne_self _⟩, fp, q⟩
    · cases rx
      obtain ⟨its, rv, p', hz⟩ := I1.tuple hq
      have hal : a < z1.heap.objs.size := p'.lt
      exact enum_made p' fun h' he hit hk => wpAny_pyIter_enum he ⟨z1.heap.objs.size + 1, [z1.heap.objs.size + 1, z1.heap.objs.size], _, _, H1, rfl, I1.kept (t' := z1.toks) hk, turn_enumT a (z1.heap.objs.size + 1) z1.heap.objs.size, ⟨⟨.none, he⟩, hit, Nat.succ_ne_self _, Nat.ne_of_lt (Nat.lt_succ_of_lt hal), Nat.ne_of_lt hal⟩, fp, q⟩
theorem chars_eq {z : Str} {i : Nat} : z.cps.toList[i]? = z.cps[i]? := by simp
theorem chars_stop {z : Str} {i : Nat} {H : Hp} (h : z.cps.toList[i]? = none) : (Its z).stop i H := by
  rw [List.getElem?_eq_none_iff] at h
  show z.cps.size ≤ i
  simpa using h
theorem chars_go {z : Str} {i : Nat} {c : Nat} {H : Hp} (h : z.cps.toList[i]? = some c) : (Its z).go i H := by
  obtain ⟨q, _⟩ := List.getElem?_eq_some_iff.mp h
  show i < z.cps.size
  simpa using q
theorem chars_yld {z : Str} {i : Nat} {c : Nat} {H H' : Hp} {v : V} (h : z.cps.toList[i]? = some c) (y : (Its z).yld i H v H') : H' = H ∧ v = .str ⟨#[c]⟩ := by
  obtain ⟨e, d, e1, e2⟩ := y
  rw [chars_eq, e1] at h
  cases h
  exact ⟨e, e2⟩
/-- the signs of a text -/
theorem mi_chars {e : Expr} {m : ME} (he : PM X XR E e m) : PIM X XR E tg e (mChars m) :=
  PI.imp (pi_str he) fun σ H Q ⟨av, β, s, μ, rl, sr, h⟩ => by
    unfold iStr
    refine ti_e rl sr h fun v μ1 x H1 β1 ex rl1 sr1 p q => ?_
    cases v <;> first
      | exact q.elim
      | (rename_i z
         refine ⟨z, str_inv p, q _ H1 β1 .refl rl1 fun av' hv H2 β2 μ2 ex2 rl2 _ i => ?_⟩
         show match (z.cps.toList.map fun c => PV.str ⟨#[c]⟩)[i]? with | some v => _ | none => _
         rw [List.getElem?_map]
         cases e2 : z.cps.toList[i]? with
         | none => exact chars_stop e2
         | some c => exact ⟨chars_go e2, fun x' H3 y => by
             obtain ⟨e3, e4⟩ := chars_yld e2 y
             subst e3; subst e4
             exact ⟨.refl, rl2, .str_⟩⟩)
end
end Mini

/-! M12: two clauses. -/
namespace Mini
open PySem PySem.Spec PyProof.Rows L2 RZ
section
variable {X : Cx} {XR : XRel} {E : L2.St → XK}
/-- the turns of the inner clause, then more -/
theorem COk.nil_bind {K : PySem.W.Frag} {av : List Addr} {H1 : Hp} {β1 : List Addr} {D : Addr} {Qe : Hp → Prop} {chk : MH → Bool} {t : MT} {c : MB} {body : MS → MH → List PV → R (List PV)} {s : MS} {μ : MH} {acc : List PV} {k : List PV → MH → R (List PV)}
    (h : COk K av H1 β1 D Qe ((compGo chk t c body s [] μ acc).bind k)) : chk μ = true ∧ COk K av H1 β1 D Qe (k acc μ) := by
  unfold compGo at h
  split at h
  · rename_i hk; exact ⟨hk, h⟩
  · exact h.elim
theorem COk.cons_bind {K : PySem.W.Frag} {av : List Addr} {H1 : Hp} {β1 : List Addr} {D : Addr} {Qe : Hp → Prop} {chk : MH → Bool} {t : MT} {c : MB} {body : MS → MH → List PV → R (List PV)} {s : MS} {v : PV} {vs : List PV} {μ : MH} {acc : List PV} {k : List PV → MH → R (List PV)}
    (h : COk K av H1 β1 D Qe ((compGo chk t c body s (v :: vs) μ acc).bind k)) : chk μ = true ∧ ∃ s1, bindT t v s = some s1 ∧
      COk K av H1 β1 D Qe ((c s1 μ).bind fun b μ1 => if b then (body s1 μ1 acc).bind fun acc1 μ2 => (compGo chk t c body s vs μ2 acc1).bind k else (compGo chk t c body s vs μ1 acc).bind k) := by
  unfold compGo at h
  split at h
  · rename_i hk
    refine ⟨hk, ?_⟩
    cases e : bindT t v s with
    | none => rw [e] at h; exact h.elim
    | some s1 =>
      rw [e] at h
      refine ⟨s1, rfl, ?_⟩
      simp only at h
      cases e2 : c s1 μ with
      | bad => rw [e2] at h; exact h.elim
      | err q p μ' => rw [e2] at h; exact h.elim
      | ok b μ1 =>
        rw [e2] at h
        simp only [R.bind] at h ⊢
        cases b with
        | false => simpa [R.bind] using h
        | true =>
          simp only [if_true] at h ⊢
          cases e3 : body s1 μ1 acc with
          | bad => rw [e3] at h; exact h.elim
          | err q p μ' => rw [e3] at h; exact h.elim
          | ok a μ2 => rw [e3] at h; simpa [R.bind] using h
  · exact h.elim
theorem bind_pure {r : R (List PV)} : r.bind (fun a μ => .ok a μ) = r := by cases r <;> rfl
def mLc2K (k : List PV → MH → R PV) (vs vs1 : List Nat) (i : MI) (t : MT) (c : MB) (i1 : MI) (t1 : MT) (c1 : MB) (e : ME) : ME := fun s μ => (i s μ).bind fun p μ1 =>
  (noErr (compGo p.chk t c (twoElt vs1 i1 t1 c1 e) (wipeM s vs) p.vals μ1 [])).bind k
def mLc2L (vs vs1 : List Nat) (i : MI) (t : MT) (c : MB) (i1 : MI) (t1 : MT) (c1 : MB) (e : ME) : ME := mLc2K (fun acc μ2 => .ok (.ref μ2.length) (μ2 ++ [.lst acc])) vs vs1 i t c i1 t1 c1 e
theorem lc2_read {σ : L2.St} {H : Hp} {Q : VK} {av : List Addr} {β : List Addr} {s : MS} {μ : MH} {mi mi1 : MI} {t t1 : MT} {mc mc1 : MB} {me : ME} {K : PySem.W.Frag} {vs vs1 : List Nat} (k : List PV → MH → R PV) (rl : Rl ⟨K, av⟩ H β μ) (sr : SRel ⟨K, av⟩ H β s σ) (hsl : ∀ i ∈ slotsT t, i ∈ vs) (hsl1 : ∀ i ∈ slotsT t1, i ∈ vs1)
    (h : OutOk ⟨K, av⟩ XR H β (E σ) Q (mLc2K k vs vs1 mi t mc mi1 t1 mc1 me s μ))
    (hk : ∀ acc μ2 H1 β1 D H' β' xs, H1 D = none → (∀ a ∈ av, H1 a ≠ none) → OutOk ⟨K, av⟩ XR H1 β1 (E σ) Q (k acc μ2) → Ext H1 β1 H' β' → Rl ⟨K, D :: av⟩ H' β' μ2 → H' D = some (.lst xs) → D ∉ β' → PRels ⟨K, D :: av⟩ H' β' acc xs → Q (.ref D) H') :
    tLc2 (tI K XR E mi) (tgOf K t) (tMb K XR EF mc) (tI K XR EF mi1) (tgOf K t1) (tMb K XR EF mc1) (tM K XR EF me) vs vs1 σ H Q := by
  unfold tLc2
  unfold mLc2K at h
  refine ⟨av, β, s, μ, rl, sr, ?_⟩
  cases e : mi s μ with
  | bad => rw [e] at h; exact h
  | err c p μ' => rw [e] at h; exact h
  | ok p μ1 =>
    rw [e] at h
    intro J H1 β1 ex1 rl1 pl D hD
    have h1 := OutOk.ext ex1 h
    simp only [R.bind] at h1
    have hc1 : COk K av H1 β1 D (fun H' => Q (.ref D) H') ((compGo p.chk t mc (twoElt vs1 mi1 t1 mc1 me) (wipeM s vs) p.vals μ1 []).bind fun a μ => .ok a μ) := by
      rw [bind_pure]
      cases e2 : compGo p.chk t mc (twoElt vs1 mi1 t1 mc1 me) (wipeM s vs) p.vals μ1 [] with
      | bad => rw [e2] at h1; exact h1
      | err c q μ' => rw [e2] at h1; exact h1
      | ok acc μ2 =>
        rw [e2] at h1
        exact fun H' β' xs a1 a2 a3 a4 a5 => hk acc μ2 H1 β1 D H' β' xs hD rl1.avt h1 a1 a2 a3 a4 a5
    have upD : ∀ a ∈ D :: av, a ∈ av ∨ H1 a = none := fun a ha => by
      rcases List.mem_cons.mp ha with z | z
      · rw [z]; exact .inr hD
      · exact .inl z
    refine ⟨fun i m H => m = p.vals.length - i ∧ ∃ β μ acc, CAt K av H1 β1 D (wipeM s vs) (wipe σ vs) H β μ acc ∧ COk K av H1 β1 D (fun H' => Q (.ref D) H') ((compGo p.chk t mc (twoElt vs1 mi1 t1 mc1 me) (wipeM s vs) (p.vals.drop i) μ acc).bind fun a μ => .ok a μ),
      ⟨_, rfl, β1, μ1, [], CAt.start rl1 (sr.ext ex1) hD vs, hc1⟩, ?_⟩
    rintro i m H2 ⟨rfl, β2, μ2, acc, c, h2⟩
    have pl2 := pl (D :: av) upD H2 β2 μ2 c.ext.toW c.rl
    cases hd : p.vals.drop i with
    | nil =>
      rw [hd] at h2
      obtain ⟨hk1, h3⟩ := COk.nil_bind h2
      have q := pl2 hk1 i
      have hn : p.vals[i]? = none := List.getElem?_eq_none_iff.mpr (List.drop_eq_nil_iff.mp hd)
      rw [hn] at q
      exact .inl ⟨q, c.fin h3⟩
    | cons v vals =>
      rw [hd] at h2
      obtain ⟨hv, hvs⟩ := drop_get hd
      have hlt : i < p.vals.length := (List.getElem?_eq_some_iff.mp hv).1
      obtain ⟨hk1, s3, eb, h3⟩ := COk.cons_bind h2
      have q := pl2 hk1 i
      rw [hv] at q
      refine .inr ⟨q.1, fun H' => ∃ β μ acc, CAt K av H1 β1 D (wipeM s vs) (wipe σ vs) H' β μ acc ∧ COk K av H1 β1 D (fun H' => Q (.ref D) H') ((compGo p.chk t mc (twoElt vs1 mi1 t1 mc1 me) (wipeM s vs) vals μ acc).bind fun a μ => .ok a μ),
        fun H' ⟨b, m, a, z1, z2⟩ => ⟨p.vals.length - (i + 1), by omega, rfl, b, m, a, z1, by rw [hvs]; exact z2⟩, fun x H3 y => ?_⟩
      obtain ⟨ex3, rl3, p3⟩ := q.2 x H3 y
      have c3 := c.step ex3 rl3
      refine tg_ok t c3.sr p3 eb fun σ3 sr3 sm3 => ⟨by rw [wipe_of_same sm3 hsl, wipe_wipe], ?_⟩
      refine tmb_c c3.rl sr3 h3 fun b μ4 H4 β4 ex4 rl4 h4 => ?_
      have c4 := c3.step ex4 rl4
      cases b with
      | false => exact ⟨β4, μ4, acc, c4, h4⟩
      | true =>
        simp only [if_true] at h4 ⊢
        have sr4 := sr3.ext ex4
        -- the inner source
        refine ⟨D :: av, β4, s3, μ4, c4.rl, sr4, ?_⟩
        have e6 : twoElt vs1 mi1 t1 mc1 me s3 μ4 acc = (mi1 s3 μ4).bind fun p1 μ3 => compGo p1.chk t1 mc1 (oneElt me) (wipeM s3 vs1) p1.vals μ3 acc := rfl
        rw [e6] at h4
        cases e5 : mi1 s3 μ4 with
        | bad => rw [e5] at h4; exact h4.elim
        | err c p μ' => rw [e5] at h4; exact h4.elim
        | ok p1 μ5 =>
          rw [e5] at h4
          intro J1 H5 β5 ex5 rl5 pl5
          have c5 := c4.step ex5 rl5
          have sr5 := (sr4.ext ex5).wipe vs1
          have h5 : COk K av H1 β1 D (fun H' => Q (.ref D) H') ((compGo p1.chk t1 mc1 (oneElt me) (wipeM s3 vs1) p1.vals μ5 acc).bind fun acc1 μ2 => (compGo p.chk t mc (twoElt vs1 mi1 t1 mc1 me) (wipeM s vs) vals μ2 acc1).bind fun a μ => .ok a μ) := h4
          refine ⟨fun j k H => k = p1.vals.length - j ∧ ∃ β μ acc, CAt K av H1 β1 D (wipeM s vs) (wipe σ vs) H β μ acc ∧ SRel ⟨K, D :: av⟩ H β (wipeM s3 vs1) (wipe σ3 vs1) ∧ ExtW (D :: av) H5 β5 H β ∧
              COk K av H1 β1 D (fun H' => Q (.ref D) H') ((compGo p1.chk t1 mc1 (oneElt me) (wipeM s3 vs1) (p1.vals.drop j) μ acc).bind fun acc1 μ2 => (compGo p.chk t mc (twoElt vs1 mi1 t1 mc1 me) (wipeM s vs) vals μ2 acc1).bind fun a μ => .ok a μ),
            ⟨_, rfl, β5, μ5, acc, c5, sr5, .refl, h5⟩, ?_⟩
          rintro j k H6 ⟨rfl, β6, μ6, acc6, c6, sr6, ew6, h6⟩
          have pl6 := pl5 (D :: av) (fun a ha => .inl ha) H6 β6 μ6 ew6 c6.rl
          cases hd1 : p1.vals.drop j with
          | nil =>
            rw [hd1] at h6
            obtain ⟨hk2, h7⟩ := COk.nil_bind h6
            have q1 := pl6 hk2 j
            have hn : p1.vals[j]? = none := List.getElem?_eq_none_iff.mpr (List.drop_eq_nil_iff.mp hd1)
            rw [hn] at q1
            exact .inl ⟨q1, β6, μ6, acc6, c6, h7⟩
          | cons v1 vals1 =>
            rw [hd1] at h6
            obtain ⟨hv1, hvs1⟩ := drop_get hd1
            have hlt1 : j < p1.vals.length := (List.getElem?_eq_some_iff.mp hv1).1
            obtain ⟨hk2, s7, eb7, h7⟩ := COk.cons_bind h6
            have q1 := pl6 hk2 j
            rw [hv1] at q1
            refine .inr ⟨q1.1, fun H => ∃ β μ acc, CAt K av H1 β1 D (wipeM s vs) (wipe σ vs) H β μ acc ∧ SRel ⟨K, D :: av⟩ H β (wipeM s3 vs1) (wipe σ3 vs1) ∧ ExtW (D :: av) H5 β5 H β ∧
              COk K av H1 β1 D (fun H' => Q (.ref D) H') ((compGo p1.chk t1 mc1 (oneElt me) (wipeM s3 vs1) vals1 μ acc).bind fun acc1 μ2 => (compGo p.chk t mc (twoElt vs1 mi1 t1 mc1 me) (wipeM s vs) vals μ2 acc1).bind fun a μ => .ok a μ),
              fun H' ⟨b, m, a, z1, z2, z3, z4⟩ => ⟨p1.vals.length - (j + 1), by omega, rfl, b, m, a, z1, z2, z3, by rw [hvs1]; exact z4⟩, fun x7 H7 y7 => ?_⟩
            obtain ⟨ex7, rl7, p7⟩ := q1.2 x7 H7 y7
            have c7 := c6.step ex7 rl7
            refine tg_ok t1 (sr6.ext ex7) p7 eb7 fun σ8 sr8 sm8 => ⟨by rw [wipe_of_same sm8 hsl1, wipe_wipe], ?_⟩
            refine tmb_c c7.rl sr8 h7 fun b8 μ8 H8 β8 ex8 rl8 h8 => ?_
            have c8 := c7.step ex8 rl8
            have sr9 := (sr6.ext ex7).ext ex8
            have ew8 := (ew6.trans ex7.toW).trans ex8.toW
            cases b8 with
            | false => exact ⟨β8, μ8, acc6, c8, sr9, ew8, h8⟩
            | true =>
              simp only [if_true] at h8 ⊢
              have e9 : oneElt me s7 μ8 acc6 = (me s7 μ8).bind fun v μ1 => if acc6.length < sizeLine then .ok (acc6 ++ [v]) μ1 else .bad := rfl
              rw [e9] at h8
              refine ⟨_, _, _, _, c8.rl, sr8.ext ex8, ?_⟩
              cases e10 : me s7 μ8 with
              | bad => rw [e10] at h8; exact h8.elim
              | err c p μ' => rw [e10] at h8; exact h8.elim
              | ok w9 μ9 =>
                rw [e10] at h8
                intro y9 H9 β9 ex9 rl9 p9
                have c9 := c8.step ex9 rl9
                by_cases hz : acc6.length < sizeLine
                · simp only [R.bind, if_pos hz] at h8
                  obtain ⟨xs, hx, px⟩ := c9.dl
                  have ew9 := ew8.trans ex9.toW
                  refine ⟨xs, hx, by rw [← px.length]; exact hz, β9, μ9, acc6 ++ [w9], c9.put hD hx p9, (sr9.ext ex9).acc, ⟨ew9.pre, fun a o u1 u2 u3 => ?_, fun a u => ?_⟩, h8⟩
                  · rw [upd_ne fun z => u3 (by rw [z]; exact List.mem_cons_self)]
                    exact ew9.stay a o u1 u2 u3
                  · by_cases z : a = D
                    · rw [z, upd_same] at u; cases u
                    · rw [upd_ne z] at u; exact ew9.live a u
                · simp only [R.bind, if_neg hz] at h8
                  exact h8.elim
section
variable {elt tg iter tg1 iter1 : Expr} {ifs ifs1 : List Expr} {scope : Scope} {own : List (Str × Nat)} {vs1 : List Nat} {pos : Pos} {mi mi1 : MI} {t t1 : MT} {mc mc1 : MB} {me : ME}
theorem me_lc2 (hc : X.calm = true) (hN : X.N.Nodup) (hi : PIM X XR E tg iter mi) (ok : BlkOk X.N X.env.scope scope own) (hv : ∀ i ∈ vs1, i ∈ own.map (·.2)) (hsl : ∀ i ∈ slotsT t, i ∈ own.map (·.2)) (hsl1 : ∀ i ∈ slotsT t1, i ∈ vs1)
    (hg : ∀ (s : Shared) (H : Hp) (C : Addr) (cl : List (Str × Addr)) (fp : List Addr), PG (X.blk s H scope (compEnvC scope cl C X.env) fp) tg (tgOf X.K t)) (ht : ∀ (s : Shared) (H : Hp) (C : Addr) (cl : List (Str × Addr)) (fp : List Addr), PTsM (X.blk s H scope (compEnvC scope cl C X.env) fp) XR ifs mc)
    (hi1 : ∀ (s : Shared) (H : Hp) (C : Addr) (cl : List (Str × Addr)) (fp : List Addr), PIM (X.blk s H scope (compEnvC scope cl C X.env) fp) XR EF tg1 iter1 mi1)
    (hg1 : ∀ (s : Shared) (H : Hp) (C : Addr) (cl : List (Str × Addr)) (fp : List Addr), PG (X.blk s H scope (compEnvC scope cl C X.env) fp) tg1 (tgOf X.K t1)) (ht1 : ∀ (s : Shared) (H : Hp) (C : Addr) (cl : List (Str × Addr)) (fp : List Addr), PTsM (X.blk s H scope (compEnvC scope cl C X.env) fp) XR ifs1 mc1)
    (he : ∀ (s : Shared) (H : Hp) (C : Addr) (cl : List (Str × Addr)) (fp : List Addr), PM (X.blk s H scope (compEnvC scope cl C X.env) fp) XR EF elt me) (hs : ∀ x, foldedSetIterable iter X.env x = pure x := by intro _; rfl) (hs1 : ∀ env x, foldedSetIterable iter1 env x = pure x := by intro _ _; rfl) :
    PM X XR E (.ListComp elt [⟨tg, iter, ifs, 0⟩, ⟨tg1, iter1, ifs1, 0⟩] scope pos) (mLc2 (own.map (·.2)) vs1 mi t mc mi1 t1 mc1 me) :=
  PE.imp (pe_lc2 hc hN hi ok hv hg ht hi1 hg1 ht1 he hs hs1) fun σ H Q ⟨av, β, s, μ, rl, sr, h⟩ => lc2_read (fun acc μ2 => .ok (.frl acc) μ2) rl sr hsl hsl1 h k_frl
theorem me_lc2L (hc : X.calm = true) (hN : X.N.Nodup) (hi : PIM X XR E tg iter mi) (ok : BlkOk X.N X.env.scope scope own) (hv : ∀ i ∈ vs1, i ∈ own.map (·.2)) (hsl : ∀ i ∈ slotsT t, i ∈ own.map (·.2)) (hsl1 : ∀ i ∈ slotsT t1, i ∈ vs1)
    (hg : ∀ (s : Shared) (H : Hp) (C : Addr) (cl : List (Str × Addr)) (fp : List Addr), PG (X.blk s H scope (compEnvC scope cl C X.env) fp) tg (tgOf X.K t)) (ht : ∀ (s : Shared) (H : Hp) (C : Addr) (cl : List (Str × Addr)) (fp : List Addr), PTsM (X.blk s H scope (compEnvC scope cl C X.env) fp) XR ifs mc)
    (hi1 : ∀ (s : Shared) (H : Hp) (C : Addr) (cl : List (Str × Addr)) (fp : List Addr), PIM (X.blk s H scope (compEnvC scope cl C X.env) fp) XR EF tg1 iter1 mi1)
    (hg1 : ∀ (s : Shared) (H : Hp) (C : Addr) (cl : List (Str × Addr)) (fp : List Addr), PG (X.blk s H scope (compEnvC scope cl C X.env) fp) tg1 (tgOf X.K t1)) (ht1 : ∀ (s : Shared) (H : Hp) (C : Addr) (cl : List (Str × Addr)) (fp : List Addr), PTsM (X.blk s H scope (compEnvC scope cl C X.env) fp) XR ifs1 mc1)
    (he : ∀ (s : Shared) (H : Hp) (C : Addr) (cl : List (Str × Addr)) (fp : List Addr), PM (X.blk s H scope (compEnvC scope cl C X.env) fp) XR EF elt me) (hs : ∀ x, foldedSetIterable iter X.env x = pure x := by intro _; rfl) (hs1 : ∀ env x, foldedSetIterable iter1 env x = pure x := by intro _ _; rfl) :
    PM X XR E (.ListComp elt [⟨tg, iter, ifs, 0⟩, ⟨tg1, iter1, ifs1, 0⟩] scope pos) (mLc2L (own.map (·.2)) vs1 mi t mc mi1 t1 mc1 me) :=
  PE.imp (pe_lc2 hc hN hi ok hv hg ht hi1 hg1 ht1 he hs hs1) fun σ H Q ⟨av, β, s, μ, rl, sr, h⟩ => lc2_read (mc := mc) (me := me) (fun acc μ2 => R.ok (PV.ref μ2.length) (μ2 ++ [MO.lst acc])) rl sr hsl hsl1 h k_lst
end
end
end Mini

/-! M13: membership, methods, slices, stars, dict displays. -/
namespace Mini
open PySem PySem.Spec PyProof.Rows L2 RZ

/-! ### in -/
def flatP : PV → Option V
  | .non => some .non
  | .bl b => some (.bl b)
  | .int i => some (.int i)
  | .str x => some (.str x)
  | _ => none
def flatPs : List PV → Option (List V)
  | [] => some []
  | x :: xs => match flatP x, flatPs xs with
    | some v, some vs => some (v :: vs)
    | _, _ => none
def seqR (v : PV) (μ : MH) : Option (List PV) := match seqT v with
  | some xs => some xs
  | none => lstR v μ
/-- is it in? none: not known here -/
def inOf (v c : PV) (μ : MH) : Option Bool := match seqR c μ with
  | some xs => match flatP v, flatPs xs with
    | some x, some ys => some (inV x ys)
    | _, _ => match toD μ v, toD μ c with
      | some d, some (.list ds) => if SeqAt.shaped d && SeqAt.shaped (.list ds) then some (ds.any fun z => PyData.eqv z d) else none
      | _, _ => none
  | none => match v, c with
    | .str ⟨⟨[k]⟩⟩, .str z => some (decide (k ∈ z.cps.toList))
    | _, _ => (dlook c v μ).map fun o => o.isSome
def fIn : PV → PV → MH → R PV := fun v c μ => match inOf v c μ with
  | some b => .ok (.bl b) μ
  | none => .bad
def fNotIn : PV → PV → MH → R PV := fun v c μ => match inOf v c μ with
  | some b => .ok (.bl (!b)) μ
  | none => .bad
def rInDi (neg : Bool) : R2 := fun y x H Q => ∃ a o, x = .ref a ∧ DGet H a y o ∧ Q (.bl (if neg then !o.isSome else o.isSome)) H
def rSign (neg : Bool) : R2 := fun x y H Q => ∃ (c : Nat) (z : Str), x = .str ⟨#[c]⟩ ∧ y = .str z ∧ Q (.bl (if neg then !decide (c ∈ z.cps.toList) else decide (c ∈ z.cps.toList))) H
def rInL (K : PySem.W.Frag) (neg : Bool) : R2 := fun x y H Q => ∃ d ds, Dp K H x d ∧ Dp K H y (.list ds) ∧ SeqAt.shaped d = true ∧ SeqAt.shaped (.list ds) = true ∧ Q (.bl (if neg then !ds.any (fun z => PyData.eqv z d) else ds.any fun z => PyData.eqv z d)) H
def rInA (K : PySem.W.Frag) (neg : Bool) : R2 := fun x y H Q => rIn K neg x y H Q ∨ rInL K neg x y H Q ∨ rSign neg x y H Q ∨ rInDi neg x y H Q
section
variable {X : Cx} {XR : XRel} {K : PySem.W.Frag}
theorem op_inA {k : Nat} (hr : RoomG (k + 1) X.A) : OpR X (compareOp .In) (rInA X.K false) := by
  refine op_in_seq.or (OpR.or (r := rInL X.K false) (fun pins s σ H x y v u Q I rx ry ⟨d, ds, h1, h2, h3, h4, q⟩ => ?_) (OpR.or (r := rSign false) (fun pins s σ H x y v u Q I rx ry ⟨c, z, h1, h2, q⟩ => ?_) fun pins s σ H x y v u Q I rx ry ⟨a, o, h1, h2, q⟩ => ?_))
  · exact op_inD (by have := hr.room.un; omega) pins s σ H x y v u Q I rx ry ⟨d, ds, h1, h2, h3, h4, q⟩
  · exact op_in_sign pins s σ H x y v u Q I rx ry ⟨c, z, h1, h2, q⟩
  · subst h1
    cases ry
    have hu := hr.room.units
    exact d_in (by omega) I h2 rx fun s3 I3 => ⟨V.bl o.isSome, H, I3, rfl, q⟩
theorem op_notInA {k : Nat} (hr : RoomG (k + 1) X.A) : OpR X (compareOp .NotIn) (rInA X.K true) := by
  refine op_notIn_seq.or (OpR.or (r := rInL X.K true) (fun pins s σ H x y v u Q I rx ry ⟨d, ds, h1, h2, h3, h4, q⟩ => ?_) (OpR.or (r := rSign true) (fun pins s σ H x y v u Q I rx ry ⟨c, z, h1, h2, q⟩ => ?_) fun pins s σ H x y v u Q I rx ry ⟨a, o, h1, h2, q⟩ => ?_))
  · exact op_notInD (by have := hr.room.un; omega) pins s σ H x y v u Q I rx ry ⟨d, ds, h1, h2, h3, h4, q⟩
  · exact op_notIn_sign pins s σ H x y v u Q I rx ry ⟨c, z, h1, h2, q⟩
  · subst h1
    cases ry
    have hu := hr.room.units
    exact d_notIn (by omega) I h2 rx fun s3 I3 => ⟨V.bl (!o.isSome), H, I3, rfl, q⟩
theorem flatP_rel {G : Gx} {H : Hp} {β : List Addr} {v : PV} {x y : V} (p : PRel G H β v x) (h : flatP v = some y) : x = y ∧ flatV y = true := by
  cases v <;> first
    | cases h
    | skip
  · exact ⟨non_inv p, rfl⟩
  · exact ⟨bl_inv p, rfl⟩
  · exact ⟨int_inv p, rfl⟩
  · exact ⟨str_inv p, rfl⟩
theorem flatPs_rel {G : Gx} {H : Hp} {β : List Addr} : ∀ {vs : List PV} {xs ys : List V}, PRels G H β vs xs → flatPs vs = some ys → xs = ys ∧ ys.all flatV = true
  | [], xs, ys, p, h => by rw [PRels.nil_iff] at p; unfold flatPs at h; cases h; exact ⟨p, rfl⟩
  | v :: vs, xs, ys, p, h => by
    obtain ⟨y, ys', rfl, p1, p2⟩ := p.inv
    unfold flatPs at h
    split at h
    · rename_i e1 e2
      cases h
      obtain ⟨f1, f2⟩ := flatP_rel p1 e1
      obtain ⟨f3, f4⟩ := flatPs_rel p2 e2
      exact ⟨by rw [f1, f3], by simp [f2, f4]⟩
    · cases h
theorem seqR_ok {G : Gx} {H : Hp} {β : List Addr} {μ : MH} {v : PV} {xs : List PV} {x : V} (rl : Rl G H β μ) (p : PRel G H β v x) (h : seqR v μ = some xs) : ∃ a vs, x = .ref a ∧ (SqL G.fr H a vs ∨ SqT G.fr H a vs) ∧ PRels G H β xs vs := by
  unfold seqR at h
  split at h
  · rename_i e
    cases h
    obtain ⟨a, vs, e1, s, q⟩ := seqT_ok p e
    exact ⟨a, vs, e1, .inr s, q⟩
  · obtain ⟨a, vs, e1, s, q⟩ := lstR_ok rl p h
    exact ⟨a, vs, e1, .inl s, q⟩
theorem inOf_ok {av : List Addr} {H : Hp} {β : List Addr} {μ : MH} {v c : PV} {x y : V} {b : Bool} {neg : Bool} {Q : VK} (rl : Rl ⟨K, av⟩ H β μ) (pv : PRel ⟨K, av⟩ H β v x) (pc : PRel ⟨K, av⟩ H β c y) (h : inOf v c μ = some b) (q : Q (.bl (if neg then !b else b)) H) : rInA K neg x y H Q := by
  unfold inOf at h
  split at h
  · rename_i xs e
    split at h
    · rename_i xv ys e1 e2
      cases h
      obtain ⟨a, vs, rfl, s, p⟩ := seqR_ok rl pc e
      obtain ⟨f1, f2⟩ := flatP_rel pv e1
      obtain ⟨f3, f4⟩ := flatPs_rel p e2
      refine .inl ⟨a, vs, rfl, s, by rw [f1]; exact f2, by rw [f3]; exact f4, ?_⟩
      rw [f1, f3]
      exact q
    · split at h
      · rename_i d ds e4 hd
        split at h
        · rename_i hs
          rw [Bool.and_eq_true] at hs
          cases h
          exact .inr (.inl ⟨d, ds, toD_ok rl v pv e4, toD_ok rl c pc hd, hs.1, hs.2, q⟩)
        · cases h
      · cases h
  · split at h
    · cases h
      exact .inr (.inr (.inl ⟨_, _, str_inv pv, str_inv pc, q⟩))
    · rw [Option.map_eq_some_iff] at h
      obtain ⟨o, e, rfl⟩ := h
      obtain ⟨a, o', rfl, g, r⟩ := dlook_ok rl pc pv e
      refine .inr (.inr (.inr ⟨a, o', rfl, g, ?_⟩))
      have : o'.isSome = o.isSome := by
        cases o with
        | none => have r' : o' = none := r; rw [r']; rfl
        | some w => obtain ⟨w', e', _⟩ := r; rw [e']; rfl
      rw [this]
      exact q
theorem me_in {k : Nat} {E : L2.St → XK} {a b : Expr} {ma mb : ME} {pos : Pos} (hr : RoomG (k + 1) X.A) (ha : PM X XR E a ma) (hb : PM X XR E b mb) (hm : behindInMarks .In b = false := by rfl) : PM X XR E (.Compare a [.In] [b] pos) (mOp fIn ma mb) :=
  me_cmp (op_inA hr) (fun av E H β μ v w x y Q rl pv pw h => by
    unfold fIn at h
    split at h
    · rename_i b e; exact inOf_ok (neg := false) rl pv pw e (ok_here h rl .bl_)
    · exact h.elim) ha hb hm
theorem me_notIn {k : Nat} {E : L2.St → XK} {a b : Expr} {ma mb : ME} {pos : Pos} (hr : RoomG (k + 1) X.A) (ha : PM X XR E a ma) (hb : PM X XR E b mb) (hm : behindInMarks .NotIn b = false := by rfl) : PM X XR E (.Compare a [.NotIn] [b] pos) (mOp fNotIn ma mb) :=
  me_cmp (op_notInA hr) (fun av E H β μ v w x y Q rl pv pw h => by
    unfold fNotIn at h
    split at h
    · rename_i b e; exact inOf_ok (neg := true) rl pv pw e (ok_here h rl .bl_)
    · exact h.elim) ha hb hm
theorem mb_in {k : Nat} {E : L2.St → XK} {a b : Expr} {ma mb : ME} {pos : Pos} (hr : RoomG (k + 1) X.A) (ha : PM X XR E a ma) (hb : PM X XR E b mb) (hm : behindInMarks .In b = false := by rfl) : PMb X XR E (.Compare a [.In] [b] pos) (mbE (mOp fIn ma mb)) :=
  mb_cmp (op_inA hr) (fun av E H β μ v w x y Q rl pv pw h => by
    unfold fIn at h
    split at h
    · rename_i b e; exact inOf_ok (neg := false) rl pv pw e (ok_here h rl .bl_)
    · exact h.elim) ha hb hm
theorem mb_notIn {k : Nat} {E : L2.St → XK} {a b : Expr} {ma mb : ME} {pos : Pos} (hr : RoomG (k + 1) X.A) (ha : PM X XR E a ma) (hb : PM X XR E b mb) (hm : behindInMarks .NotIn b = false := by rfl) : PMb X XR E (.Compare a [.NotIn] [b] pos) (mbE (mOp fNotIn ma mb)) :=
  mb_cmp (op_notInA hr) (fun av E H β μ v w x y Q rl pv pw h => by
    unfold fNotIn at h
    split at h
    · rename_i b e; exact inOf_ok (neg := true) rl pv pw e (ok_here h rl .bl_)
    · exact h.elim) ha hb hm
end

/-! ### methods of lists -/
/-- o.m(e, ..): the receiver's type is seen first -/
@[simp] def mMeth (ty : PV → MH → Bool) (f : PV → List PV → MH → R PV) (o : ME) (a : MEs) : ME := fun s μ => (o s μ).bind fun v μ1 => if ty v μ1 then (a s μ1).bind fun xs μ2 => f v xs μ2 else .bad
def isL (v : PV) (μ : MH) : Bool := (lstR v μ).isSome
def MethM (K : PySem.W.Frag) (XR : XRel) (f : PV → List PV → MH → R PV) (r : V → List V → Hp → VK → Prop) : Prop :=
  ∀ (av : List Addr) (E : XK) (H : Hp) (β : List Addr) (μ : MH) (v : PV) (x : V) (vs : List PV) (xs : List V) (Q : VK), Rl ⟨K, av⟩ H β μ → PRel ⟨K, av⟩ H β v x → PRels ⟨K, av⟩ H β vs xs → OutOk ⟨K, av⟩ XR H β E Q (f v vs μ) → r x xs H Q
section
variable {X : Cx} {XR : XRel} {E : L2.St → XK} {K : PySem.W.Frag}
theorem tm_meth {T : String} {ty : PV → MH → Bool} {f : PV → List PV → MH → R PV} {r : V → List V → Hp → VK → Prop} {mo : ME} {ma : MEs} (hf : MethM K XR f r) (ht : ∀ av H β μ v x, Rl ⟨K, av⟩ H β μ → PRel ⟨K, av⟩ H β v x → ty v μ = true → tyV K T x H) (σ : L2.St) (H : Hp) (Q : VK)
    (h : tM K XR E (mMeth ty f mo ma) σ H Q) : tBM K T r (tM K XR E mo) (tMs K XR E ma) σ H Q := by
  obtain ⟨av, β, s, μ, rl, sr, h⟩ := h
  unfold tBM
  refine tm_e rl sr h fun v μ1 x H1 β1 _ ex rl1 sr1 p q => ?_
  by_cases t : ty v μ1 = true
  · rw [if_pos t] at q
    exact ⟨ht av H1 β1 μ1 v x rl1 p t, tms_e rl1 sr1 q fun vs μ2 xs H2 β2 _ ex2 rl2 sr2 p2 q2 => hf av _ H2 β2 μ2 v x vs xs Q rl2 (p.ext ex2) p2 q2⟩
  · rw [if_neg t] at q; exact q.elim
theorem isL_ty : ∀ (av : List Addr) (H : Hp) (β : List Addr) (μ : MH) (v : PV) (x : V), Rl ⟨K, av⟩ H β μ → PRel ⟨K, av⟩ H β v x → isL v μ = true → tyV K "list" x H := by
  intro av H β μ v x rl p h
  unfold isL at h
  rw [Option.isSome_iff_exists] at h
  obtain ⟨xs, e⟩ := h
  obtain ⟨a, vs, rfl, s, _⟩ := lstR_ok rl p e
  exact .inl ⟨rfl, vs, s⟩
def fAppend : PV → List PV → MH → R PV
  | .ref n, [v], μ => match μ[n]? with
    | some (.lst xs) => if xs.length < sizeLine then .ok .non (μ.set n (.lst (xs ++ [v]))) else .bad
    | _ => .bad
  | _, _, _ => .bad
theorem om_append : MethM K XR fAppend rAppend := by
  intro av E H β μ v x vs xs Q rl p ps h
  unfold fAppend at h
  split at h
  · rename_i n w
    obtain ⟨y, rfl, pw⟩ := one_inv ps
    split at h
    · rename_i ys e
      split at h
      · rename_i hl
        unfold PRel at p
        obtain ⟨a, rfl, ea⟩ := p
        obtain ⟨us, h1, h2⟩ := rl.obj n a _ ea e
        exact ⟨a, us, y, rfl, rfl, h1, by rw [← h2.length]; exact hl, h _ _ β (Ext.write rl ea _) (rl.write ea ⟨_, upd_same, PRels.ext (Ext.write rl ea _) _ (h2.app (.cons pw .nil))⟩) .non_⟩
      · exact h.elim
    · exact h.elim
  · exact h.elim
def fExtend : PV → List PV → MH → R PV
  | .ref n, [v], μ => match μ[n]?, lstM v μ with
    | some (.lst xs), some ys => if xs.length + ys.length ≤ sizeLine then .ok .non (μ.set n (.lst (xs ++ ys))) else .bad
    | _, _ => .bad
  | _, _, _ => .bad
theorem om_extend : MethM K XR fExtend rExtend := by
  intro av E H β μ v x vs xs Q rl p ps h
  unfold fExtend at h
  split at h
  · rename_i n w
    obtain ⟨y, rfl, pw⟩ := one_inv ps
    split at h
    · rename_i ys zs e e2
      split at h
      · rename_i hl
        unfold PRel at p
        obtain ⟨a, rfl, ea⟩ := p
        obtain ⟨us, h1, h2⟩ := rl.obj n a _ ea e
        obtain ⟨b, ws, rfl, h3, h4⟩ := lstM_ok rl pw e2
        exact ⟨a, b, us, ws, rfl, rfl, h1, h3, by rw [← h2.length, ← h4.length]; exact hl, h _ _ β (Ext.write rl ea _) (rl.write ea ⟨_, upd_same, PRels.ext (Ext.write rl ea _) _ (h2.app h4)⟩) .non_⟩
      · exact h.elim
    · exact h.elim
  · exact h.elim
/-- a method of a built-in class, the library's rule pe_bm handed over -/
theorem me_bm {T : String} {r : V → List V → Hp → VK → Prop} {is : PV → MH → Bool} {f : PV → List PV → MH → R PV} {c : Expr} {mo : ME} {ma : MEs} (om : MethM X.K XR f r)
    (ty : ∀ (av : List Addr) (H : Hp) (β : List Addr) (μ : MH) (v : PV) (x : V), Rl ⟨X.K, av⟩ H β μ → PRel ⟨X.K, av⟩ H β v x → is v μ = true → tyV X.K T x H)
    (rule : PE X c (tBM X.K T r (tM X.K XR E mo) (tMs X.K XR E ma))) : PM X XR E c (mMeth is f mo ma) :=
  PE.imp rule (tm_meth om ty)
end
end Mini

/-! M14: dict displays, starred items, slices, tuple.index, constants of the module. -/
namespace Mini
open PySem PySem.Spec PyProof.Rows L2 StX
section
variable {K : PySem.W.Frag} {av : List Addr} {XR : XRel} {D : Addr} {H H1 H' : Hp} {β β1 β' : List Addr} {μ μ2 : MH}
theorem start_av {s : MS} {σ : L2.St} {o : HO} (rl : Rl ⟨K, av⟩ H1 β1 μ) (sr : SRel ⟨K, av⟩ H1 β1 s σ) (h0 : H1 D = none) : Rl ⟨K, D :: av⟩ (upd H1 D o) β1 μ ∧ SRel ⟨K, D :: av⟩ (upd H1 D o) β1 s σ := by
  have hn := rl.notMem h0
  refine ⟨⟨rl.len, rl.nd, fun n a m h1 h2 => ?_, fun a ha q => ?_⟩, ?_⟩
  · exact ((rl.obj n a m h1 h2).av_ (up_av h0) (fun _ _ h => h)).acc fun e => hn (by rw [← e]; exact List.mem_of_getElem? h1)
  · by_cases z : a = D
    · rw [z, upd_same] at q; cases q
    · rw [upd_ne z] at q
      rcases List.mem_cons.mp ha with e | ha
      · exact z e
      · exact rl.avt a ha q
  · exact (sr.av_ (up_av h0)).acc
theorem seal_av {mo : MO} (hD : H1 D = none) (ex : Ext H1 β1 H' β') (rl : Rl ⟨K, D :: av⟩ H' β' μ2) (hn : D ∉ β') (p : ORel ⟨K, D :: av⟩ H' β' D mo) : Ext H1 β1 H' (β' ++ [D]) ∧ Rl ⟨K, av⟩ H' (β' ++ [D]) (μ2 ++ [mo]) ∧ PRel ⟨K, av⟩ H' (β' ++ [D]) (.ref μ2.length) (.ref D) := by
  have hs : ∀ a, (H' a ≠ none ∧ a ∉ β' ∧ a ∉ D :: av) → a ∉ β' ++ [D] ∧ a ∉ av := fun a ⟨_, h2, h3⟩ => ⟨fun q => by
    rcases List.mem_append.mp q with q | q
    · exact h2 q
    · simp at q; exact h3 (by rw [q]; exact List.mem_cons_self), fun q => h3 (List.mem_cons_of_mem _ q)⟩
  have hβ : ∀ (n : Nat) (a : Addr), β'[n]? = some a → (β' ++ [D])[n]? = some a := fun n a h => by
    rw [List.getElem?_append_left (List.getElem?_eq_some_iff.mp h).1]; exact h
  refine ⟨?_, ⟨by simp [rl.len], ?_, fun n a m h1 h2 => ?_, fun a ha => rl.avt a (List.mem_cons_of_mem _ ha)⟩, ?_⟩
  · obtain ⟨nw, e1, f⟩ := ex.pre
    exact ⟨⟨nw ++ [D], by rw [e1, List.append_assoc], fun a ha => by
      rcases List.mem_append.mp ha with q | q
      · exact f a q
      · simp at q; rw [q]; exact hD⟩, ex.stay, ex.live⟩
  · rw [List.nodup_append]
    refine ⟨rl.nd, by simp, fun a ha b hb e => ?_⟩
    simp at hb; subst hb; subst e
    exact hn ha
  · by_cases hl : n < β'.length
    · rw [List.getElem?_append_left hl] at h1
      rw [List.getElem?_append_left (by rw [← rl.len]; exact hl)] at h2
      exact (rl.obj n a m h1 h2).av_ hs hβ
    · rw [List.getElem?_append_right (by omega)] at h1
      rw [List.getElem?_append_right (by rw [← rl.len]; omega)] at h2
      rw [← rl.len] at h2
      cases e : n - β'.length with
      | zero =>
        rw [e] at h1 h2
        simp at h1 h2
        subst h1; subst h2
        exact p.av_ hs hβ
      | succ k => rw [e] at h1; simp at h1
  · unfold PRel
    exact ⟨D, rfl, by rw [← rl.len]; simp⟩
theorem notin_ext {o : HO} (hn : D ∉ β1) (ex : Ext (upd H1 D o) β1 H' β') : D ∉ β' ∧ H' D = some o := by
  obtain ⟨nw, e1, f⟩ := ex.pre
  refine ⟨fun q => ?_, ex.stay D o upd_same hn⟩
  rw [e1] at q
  rcases List.mem_append.mp q with q | q
  · exact hn q
  · have := f D q; rw [upd_same] at this; cases this
end
/-! ### {k: v} -/
def mD1 (k v : ME) : ME := fun s μ => (noErr (k s μ)).bind fun kv μ1 => (noErr (v s μ1)).bind fun vv μ2 => match keyOf kv with
  | some key => .ok (.ref μ2.length) (μ2 ++ [.dK [(key, vv)]])
  | none => .bad
section
variable {X : Cx} {XR : XRel} {E : L2.St → XK}
theorem td1_ok {K : PySem.W.Frag} {mk mv : ME} (σ : L2.St) (H : Hp) (Q : VK) (h : tM K XR E (mD1 mk mv) σ H Q) : tDisp [(tM K XR E mk, tM K XR E mv)] σ H Q := by
  obtain ⟨av, β, s, μ, rl, sr, h⟩ := h
  intro p hp
  obtain ⟨rl1, sr1⟩ := start_av (o := .dK []) rl sr hp
  refine ⟨_, _, s, μ, rl1, sr1, ?_⟩
  unfold mD1 at h
  cases e1 : mk s μ with
  | bad => rw [e1] at h; exact h
  | err c p μ' => rw [e1] at h; exact h.elim
  | ok kv μ1 =>
    rw [e1] at h
    intro kx H1 β1 ex1 rl1' pk
    refine ⟨_, _, s, μ1, rl1', sr1.ext ex1, ?_⟩
    simp only [R.bind, noErr] at h
    cases e2 : mv s μ1 with
    | bad => rw [e2] at h; exact h
    | err c p μ' => rw [e2] at h; exact h.elim
    | ok vv μ2 =>
      rw [e2] at h
      simp only at h
      intro vx H2 β2 ex2 rl2 pv
      cases ek : keyOf kv with
      | none => rw [ek] at h; exact h.elim
      | some key =>
        rw [ek] at h
        have hn := rl.notMem hp
        have ex := ex1.trans ex2
        obtain ⟨hn2, hd⟩ := notin_ext hn ex
        have rl3 : Rl ⟨K, p :: av⟩ (upd H2 p (.dK [(key, vx)])) β2 μ2 := rl2.acc hn2
        have ex0 : Ext H β H2 β2 := (Ext.new rl hp (.dK [])).trans ex
        have ex3 : Ext H β (upd H2 p (.dK [(key, vx)])) β2 := Ext.acc hd ex0 hp
        obtain ⟨ex4, rl4, pr⟩ := seal_av (mo := .dK [(key, vv)]) hp ex3 rl3 hn2 ⟨[(key, vx)], upd_same, rfl, PRels.acc _ (.cons pv .nil)⟩
        refine ⟨hd, [(key, vx)], ?_, (by show 1 ≤ 15; decide), ?_⟩
        · simp only [List.map_cons, List.map_nil]
          rw [keyOf_ok (pk.ext ex2) ek]
        · exact h _ _ _ ex4 rl4 pr
theorem me_d1 {k v : Expr} {mk mv : ME} {pos : Pos} (hk : PM X XR E k mk) (hv : PM X XR E v mv) : PM X XR E (.Dict [some k] [v] pos) (mD1 mk mv) :=
  PE.imp (pe_disp (pps_cons hk hv pps_nil) rfl rfl (fun e => nomatch e) (by show 1 ≤ 15; decide)) td1_ok
/-! ### {} -/
def mD0K : ME := fun s μ => .ok (.ref μ.length) (μ ++ [.dK []])
def mD0T : ME := fun s μ => .ok (.ref μ.length) (μ ++ [.dT []])
/-! ### starred items -/
def starOf (v : PV) (μ : MH) : Option (List PV) := match seqT v with
  | some xs => some xs
  | none => lstR v μ
@[simp] def msStar (a : ME) (r : MEs) : MEs := fun s μ => (a s μ).bind fun v μ1 => match starOf v μ1 with
  | some xs => (r s μ1).bind fun ws μ2 => .ok (xs ++ ws) μ2
  | none => .bad
theorem starOf_ok {G : Gx} {H : Hp} {β : List Addr} {μ : MH} {v : PV} {xs : List PV} {x : V} (rl : Rl G H β μ) (p : PRel G H β v x) (h : starOf v μ = some xs) : ∃ a vs, x = .ref a ∧ (SqT G.fr H a vs ∨ SqL G.fr H a vs) ∧ PRels G H β xs vs := by
  unfold starOf at h
  split at h
  · rename_i e
    cases h
    obtain ⟨a, vs, e1, e2, e3⟩ := seqT_ok p e
    exact ⟨a, vs, e1, .inl e2, e3⟩
  · obtain ⟨a, vs, e1, e2, e3⟩ := lstR_ok rl p h
    exact ⟨a, vs, e1, .inr e2, e3⟩
theorem tms_star {K : PySem.W.Frag} {a : ME} {b : MEs} (σ : L2.St) (H : Hp) (Q : List V → Hp → Prop) (h : tMs K XR E (msStar a b) σ H Q) : tStar K (tM K XR E a) (tMs K XR E b) σ H Q := by
  obtain ⟨av, β, s, μ, rl, sr, h⟩ := h
  refine ⟨av, β, s, μ, rl, sr, ?_⟩
  unfold msStar at h
  cases e1 : a s μ with
  | bad => rw [e1] at h; exact h
  | err c p μ' => rw [e1] at h; exact h
  | ok v μ1 =>
    rw [e1] at h
    intro x H1 β1 ex1 rl1 p
    simp only [R.bind] at h
    cases e2 : starOf v μ1 with
    | none => rw [e2] at h; exact h.elim
    | some xs =>
      rw [e2] at h
      obtain ⟨ad, vs, rfl, sq, q⟩ := starOf_ok rl1 p e2
      refine ⟨ad, vs, rfl, sq, av, β1, s, μ1, rl1, sr.ext ex1, ?_⟩
      simp only at h
      cases e3 : b s μ1 with
      | bad => rw [e3] at h; exact h
      | err c p μ' => rw [e3] at h; exact fun cls d H' β' ex => h cls d H' β' (ex1.trans ex)
      | ok ws μ2 =>
        rw [e3] at h
        intro ys H2 β2 ex2 rl2 q2
        exact h _ H2 β2 (ex1.trans ex2) rl2 ((q.ext ex2).app q2)
theorem mas_star {e : Expr} {es : List Expr} {a : ME} {b : MEs} {p : Pos} (ha : PM X XR E e a) (hb : PMs X XR E es b) (hs : starEach (.Starred e p :: es) X.env = (true, eval e X.env) :: starEach es X.env := by rfl) : PMs X XR E (.Starred e p :: es) (msStar a b) :=
  PA.imp (pa_star ha hb hs) tms_star
/-! ### a tuple whose object is known -/
@[simp] def fCtp (xs : List PV) (μ : MH) : R PV := if xs.length ≤ sizeLine then .ok (.ctp xs) μ else .bad
def tCtp (t : TA) : TE := fun σ H Q => t σ H fun xs H1 => xs.length ≤ sizeLine ∧ ∀ p (o : Obj), H1 p = none → o.cls = .type "tuple" → o.dict = none → Q (.ref p) (upd H1 p (.frz o (.tup xs)))
def tupO (us : List Value) : Obj := { cls := .type "tuple", data := .seq us.toArray }
/-- a new tuple joins what is tracked, its object known -/
theorem ctp_new {pins : List (Addr × Obj)} {σ : L2.St} {H : Hp} {s : Shared} {us : List Value} {xs : List V} (I : Inv X pins σ H s) (r : Vals xs us) (z : xs.length ≤ sizeLine) :
    Inv X pins σ (upd H s.heap.objs.size (.frz (tupO us) (.tup xs))) { s with heap := s.heap.push (tupO us) } := by
  have at_ : (s.heap.push (tupO us)).get? s.heap.objs.size = some (tupO us) := Heap.get?_push_size _ rfl
  apply I.laid (t' := s.toks) (fun _ _ => Heap.get?_push_of_some _) (Nat.le_refl _)
  exact ⟨at_, z, us, r, _, at_, rfl, _, rfl⟩
theorem pe_ctp {es : List Expr} {t : TA} {x1 pos} (h : PA X es t) : PE X (.Tuple es x1 pos) (tCtp t) where
  run pins s σ H Q I hq := by
    apply wpAny_Tuple_spliced
    apply thn (h.run pos pins s σ H _ I hq)
    rintro us s1 ⟨xs, H1, I1, r, z, q⟩
    exact ⟨r.length ▸ z, .ref s1.heap.objs.size, _, ctp_new I1 r z, rfl, q _ _ (I1.hok.fresh (Nat.le_refl _)) rfl rfl⟩
theorem me_ctp {es : List Expr} {m : MEs} {x1} {pos : Pos} (h : PMs X XR E es m) : PM X XR E (.Tuple es x1 pos) (mCallP fCtp m) :=
  PE.imp (pe_ctp h) fun σ H Q ⟨av, β, s, μ, rl, sr, h⟩ => tms_e rl sr h fun v μ' x H' β' _ ex rl' _ p q => by
    unfold fCtp at q
    split at q
    · rename_i hl
      refine ⟨by rw [← p.length]; exact hl, fun a o ha hc hd => ?_⟩
      refine q _ _ β' (Ext.new rl' ha _) (rl'.new ha _) ?_
      unfold PRel
      exact ⟨a, x, rfl, .inl ⟨⟨o, upd_same, hc, hd⟩, rl'.fresh ha⟩, PRels.ext (Ext.new rl' ha _) _ p⟩
    · exact q.elim
/-! ### a method of such a tuple -/
def tBMT (K : PySem.W.Frag) (r : V → List V → Hp → VK → Prop) (to : TE) (t : TA) : TE := fun σ H Q => to σ H fun x H1 => (∃ av β a vs, x = .ref a ∧ CT ⟨K, av⟩ H1 β a vs) ∧ t σ H1 fun xs H2 => r x xs H2 Q
theorem ct_is {K : PySem.W.Frag} {pins : List (Addr × Obj)} {σ : L2.St} {H : Hp} {s : Shared} {av β : List Addr} {a : Addr} {vs : List V} (hK : X.K = K) (I : Inv X pins σ H s) (h : CT ⟨K, av⟩ H β a vs) : s.TypeIs (.ref a) "tuple" ∧ ∀ b, Value.ref a = .ref b → ∃ ob, s.heap.get? b = some ob ∧ ob.dict = none := by
  subst hK
  rcases h with ⟨⟨o, h, hc, hd⟩, _⟩ | ⟨o, its, n, hl, hc, hd, _⟩
  · have := (I.hok a _ h).1
    exact ⟨⟨o, this, hc⟩, fun b e => by cases e; exact ⟨o, this, hd⟩⟩
  · have := I.kIn a o hl
    exact ⟨⟨o, this, hc⟩, fun b e => by cases e; exact ⟨o, this, hd⟩⟩
/-- a call o.m(e, ..) as the library's wpAny_Call_method_late goes through it -/
def Late (X : Cx) (o : Expr) (name : Str) (apos : Pos) (es : List Expr) (cpos : Pos) : Prop := ∀ {Q E : Value → Shared → Prop} {s : Shared},
  wpAny (model X.prog X.w) X.A (eval o X.env) (fun ov z => MethodOn X.prog X.w X.A name cpos ov (backTo cpos (starEach es X.env)) Q E z) E s → wpAny (model X.prog X.w) X.A (eval (.Call (.Attribute o name apos) es [] cpos) X.env) Q E s
/-- a method of a tuple whose object is known -/
theorem pe_bmT {o e : Expr} {to : TE} {t : TA} {name : Str} {apos cpos : Pos} {id : String} {r : V → List V → Hp → VK → Prop} (slot : Slot "tuple" name id) (desc : typeOf (.builtin id) = pure (.type "method_descriptor")) (does : MtR X id r) (ho : PE X o to) (ha : PA X [e] t)
    (late : Late X o name apos [e] cpos) (one : starEach [e] X.env = [(false, eval e X.env)]) : PE X (.Call (.Attribute o name apos) [e] [] cpos) (tBMT X.K r to t) where
  run pins s σ H Q I h := by
    apply late
    apply thn (ho.run pins s σ H _ I h)
    rintro v s1 ⟨_, H1, I1, is, ⟨_, _, a, _, rfl, ct⟩, q⟩
    have : v = .ref a := is
    subst this
    have ⟨cl, bare⟩ := ct_is rfl I1 ct
    have args := ha.run cpos pins s1 σ H1 _ I1 q
    rw [one] at args
    unfold MethodOn
    rw [one]
    refine ⟨"tuple", id, PySem.F.plainAttrs_tuple, slot, desc, cl, bare, ?_⟩
    apply Calls.callWith_builtin rfl
    apply Calls.evalArgs_plain
    apply thn args
    rintro us s2 ⟨ws, H2, I2, rs, q2⟩
    exact does pins s2 σ H2 (.ref a) ws (.ref a) us Q I2 rfl rs q2
def idxOf (z : Str) : List Str → Option Nat
  | [] => none
  | y :: ys => if y = z then some 0 else (idxOf z ys).map (· + 1)
theorem idxOf_ok {z : Str} : ∀ {ys : List Str} {j : Nat}, idxOf z ys = some j → ys[j]? = some z ∧ ∀ m, m < j → ys[m]? ≠ some z
  | [], j, h => by unfold idxOf at h; cases h
  | y :: ys, j, h => by
    unfold idxOf at h
    split at h
    · rename_i e; cases h; subst e; exact ⟨rfl, fun m hm => absurd hm (Nat.not_lt_zero m)⟩
    · rename_i e
      rw [Option.map_eq_some_iff] at h
      obtain ⟨i, e2, rfl⟩ := h
      obtain ⟨h1, h2⟩ := idxOf_ok e2
      refine ⟨by simpa using h1, fun m hm => ?_⟩
      cases m with
      | zero => simp; exact e
      | succ m => simpa using h2 m (by omega)
def isCtp : PV → Bool
  | .ctp _ => true
  | _ => false
def fIndexT : PV → List PV → MH → R PV
  | .ctp xs, [.str z], μ => match strsOf xs with
    | some ys => match idxOf z ys with
      | some j => .ok (.int (j : Nat)) μ
      | none => .bad
    | none => .bad
  | _, _, _ => .bad
theorem tm_methT {K : PySem.W.Frag} {f : PV → List PV → MH → R PV} {r : V → List V → Hp → VK → Prop} {mo : ME} {ma : MEs} (hf : MethM K XR f r) (σ : L2.St) (H : Hp) (Q : VK)
    (h : tM K XR E (mMeth (fun v _ => isCtp v) f mo ma) σ H Q) : tBMT K r (tM K XR E mo) (tMs K XR E ma) σ H Q := by
  obtain ⟨av, β, s, μ, rl, sr, h⟩ := h
  unfold mMeth at h
  refine tm_e rl sr h fun v μ1 x H1 β1 _ ex1 rl1 sr1 p q => ?_
  split at q
  · rename_i hc
    cases v <;> first
      | exact Bool.noConfusion hc
      | skip
    rename_i xs
    refine ⟨?_, tms_e rl1 sr1 q fun ws μ2 ys H2 β2 _ ex2 rl2 sr2 p2 q2 => hf _ _ H2 β2 μ2 _ x ws ys Q rl2 (p.ext ex2) p2 q2⟩
    obtain ⟨a, vs, rfl, ct, _⟩ := ctp_inv p
    exact ⟨_, _, a, vs, rfl, ct⟩
  · exact q.elim
abbrev rIndexT (K : PySem.W.Frag) : V → List V → Hp → VK → Prop := fun x xs H Q => ∃ p, ∃ ys : List Str, ∃ z j, x = .ref p ∧ xs = [.str z] ∧ SqT K H p (ys.map V.str) ∧ ys[j]? = some z ∧ (∀ m, m < j → ys[m]? ≠ some z) ∧ Q (.int (j : Nat)) H
theorem om_indexT {K : PySem.W.Frag} : MethM K XR fIndexT (rIndexT K) := by
  intro av E H β μ v x vs xs Q rl p ps h
  unfold fIndexT at h
  split at h
  · rename_i us z
    obtain ⟨y, rfl, pw⟩ := one_inv ps
    split at h
    · rename_i zs e1
      split at h
      · rename_i j e2
        obtain ⟨a, ws, rfl, ct, q⟩ := ctp_inv p
        obtain ⟨h1, h2⟩ := idxOf_ok e2
        refine ⟨a, zs, z, j, rfl, by rw [str_inv pw], ?_, h1, h2, ok_here h rl .int_⟩
        rw [← strs_rel q e1]
        exact ct.sq
      · exact h.elim
    · exact h.elim
  · exact h.elim
theorem me_indexT {o e : Expr} {mo : ME} {ma : MEs} {apos cpos : Pos} (ho : PM X XR E o mo) (ha : PMs X XR E [e] ma) (late : Late X o "index" apos [e] cpos := by exact fun h => wpAny_Call_method_late rfl rfl rfl rfl h)
    (one : starEach [e] X.env = [(false, eval e X.env)] := by rfl) : PM X XR E (.Call (.Attribute o "index" apos) [e] [] cpos) (mMeth (fun v _ => isCtp v) fIndexT mo ma) :=
  PE.imp (pe_bmT PySem.F.slot_tuple_index PySem.F.type_tuple_index mt_tup_index ho ha late one) (tm_methT om_indexT)
/-! ### a tuple of the module -/
theorem me_globT {x : Str} {a : Addr} {xs : List PV} {vs : List V} {o : Obj} {its : Array Value} {n : Nat} {pos : Pos} (hg : Gl X x) (hm : X.mg x = some (.ref a)) (hl : X.K.lookup a = some o) (hc : o.cls = .type "tuple") (hd : o.dict = none) (hD : o.data = .seq its n) (hz : its.size ≤ sizeLine) (hv : Vals vs its.toList)
    (hr : ∀ (G : Gx) (H : Hp) (β : List Addr), PRels G H β xs vs) (hdb : (x == ("__debug__" : Str)) = false := by decide) : PM X XR E (.Name x pos) (mC (.ctp xs)) :=
  PE.imp (pe_glob (v := .ref a) hg hm rfl hdb) fun σ H Q ⟨av, β, s, μ, rl, sr, h⟩ => h _ H β .refl rl (by
    unfold PRel
    exact ⟨a, vs, rfl, .inr ⟨o, its, n, hl, hc, hd, hD, hz, hv⟩, hr _ H β⟩)
end
end Mini

/-! M15: slices. -/
namespace Mini
open PySem PySem.Spec PyProof.Rows L2
def cutL {α : Type} (xs : List α) (lo hi : Option Int) : List α := (xs.drop (HT.sIx xs.length 0 lo)).take (HT.sIx xs.length xs.length hi - HT.sIx xs.length 0 lo)
abbrev Part := Option ME
@[simp] def evPt : Part → MS → MH → R (Option Int)
  | none, _, μ => .ok none μ
  | some m, s, μ => (m s μ).bind fun v μ1 => match v with
    | .int i => .ok (some i) μ1
    | _ => .bad
def fSl (v : PV) (lo hi : Option Int) (μ : MH) : R PV := match seqT v with
  | some xs => if HT.sIx xs.length 0 lo = 0 ∧ HT.sIx xs.length xs.length hi = xs.length then .ok v μ else .ok (.tup (cutL xs lo hi)) μ
  | none => match lstR v μ with
    | some xs => .ok (.frl (cutL xs lo hi)) μ
    | none => match v with
      | .str z => if z.length ≤ sizeLine then .ok (.str (cutS z lo hi)) μ else .bad
      | _ => .bad
def mSl (o : ME) (l h : Part) : ME := fun s μ => (o s μ).bind fun v μ1 => (evPt l s μ1).bind fun lo μ2 => (evPt h s μ2).bind fun hi μ3 => fSl v lo hi μ3
section
variable {X : Cx} {XR : XRel} {E : L2.St → XK}
def ptT (K : PySem.W.Frag) (XR : XRel) (E : L2.St → XK) : Part → TO
  | none => tNoPart
  | some m => tPart (tM K XR E m)
theorem tpt {K : PySem.W.Frag} {av : List Addr} {σ : L2.St} {H : Hp} {β : List Addr} {s : MS} {μ : MH} {l : Part} {k : Option Int → MH → R PV} {Q : Option Int → Hp → Prop} {Q' : VK} (rl : Rl ⟨K, av⟩ H β μ) (sr : SRel ⟨K, av⟩ H β s σ) (h : OutOk ⟨K, av⟩ XR H β (E σ) Q' ((evPt l s μ).bind k))
    (q : ∀ i μ' H' β', Ext H β H' β' → Rl ⟨K, av⟩ H' β' μ' → SRel ⟨K, av⟩ H' β' s σ → OutOk ⟨K, av⟩ XR H' β' (E σ) Q' (k i μ') → Q i H') : ptT K XR E l σ H Q := by
  cases l with
  | none => exact q none μ H β .refl rl sr h
  | some m =>
    have e : (evPt (some m) s μ).bind k = (m s μ).bind fun v μ1 => (match v with | .int i => R.ok (some i) μ1 | _ => R.bad : R (Option Int)).bind k := by
      show ((m s μ).bind _).bind k = _
      cases m s μ <;> rfl
    rw [e] at h
    show tM K XR E m σ H _
    refine tm_e rl sr h fun v μ1 x H1 β1 _ ex1 rl1 sr1 p q1 => ?_
    cases v <;> first
      | exact q1.elim
      | exact ⟨_, int_inv p, q _ μ1 H1 β1 ex1 rl1 sr1 q1⟩
def rSlAll (K : PySem.W.Frag) : V → Option Int → Option Int → Hp → VK → Prop := fun x lo hi H Q => rSlA K x lo hi H Q ∨ rSlL K x lo hi H Q ∨ rSlS x lo hi H Q
theorem sl_all : SlR X (rSlAll X.K) := sl_tupA.or (sl_list.or sl_str)
theorem PRels.drop_ {G : Gx} {H : Hp} {β : List Addr} : ∀ {xs : List PV} {vs : List V} (n : Nat), PRels G H β xs vs → PRels G H β (xs.drop n) (vs.drop n)
  | xs, vs, 0, p => by simpa using p
  | [], vs, n + 1, p => by unfold PRels at p; subst p; simp; exact .nil
  | x :: xs, vs, n + 1, p => by
    unfold PRels at p
    obtain ⟨y, ys, rfl, p1, p2⟩ := p
    simpa using p2.drop_ n
theorem PRels.take_n {G : Gx} {H : Hp} {β : List Addr} : ∀ {xs : List PV} {vs : List V} (n : Nat), PRels G H β xs vs → PRels G H β (xs.take n) (vs.take n)
  | xs, vs, 0, p => by simp; exact .nil
  | [], vs, n + 1, p => by unfold PRels at p; subst p; simp; exact .nil
  | x :: xs, vs, n + 1, p => by
    unfold PRels at p
    obtain ⟨y, ys, rfl, p1, p2⟩ := p
    simp only [List.take_succ_cons]
    exact .cons p1 (p2.take_n n)
theorem PRels.cut {G : Gx} {H : Hp} {β : List Addr} {xs : List PV} {vs : List V} {lo hi : Option Int} (p : PRels G H β xs vs) : PRels G H β (cutL xs lo hi) (cutV vs lo hi) := by
  unfold cutL cutV
  rw [p.length]
  exact (p.drop_ _).take_n _
theorem tm_slice {K : PySem.W.Frag} {o : ME} {l u : Part} (σ : L2.St) (H : Hp) (Q : VK) (h : tM K XR E (mSl o l u) σ H Q) : tSl (rSlAll K) (tM K XR E o) (ptT K XR E l) (ptT K XR E u) σ H Q := by
  obtain ⟨av, β, s, μ, rl, sr, h⟩ := h
  unfold mSl at h
  refine tm_e rl sr h fun v μ1 x H1 β1 _ ex1 rl1 sr1 p q => ?_
  refine tpt rl1 sr1 q fun lo μ2 H2 β2 ex2 rl2 sr2 q2 => ?_
  refine tpt rl2 sr2 q2 fun hi μ3 H3 β3 ex3 rl3 sr3 q3 => ?_
  have p3 := (p.ext ex2).ext ex3
  unfold fSl at q3
  split at q3
  · rename_i xs e
    obtain ⟨a, vs, rfl, sq, ps⟩ := seqT_ok p3 e
    refine .inl ⟨a, vs, rfl, sq, fun hw => ?_, fun hw => ?_⟩
    · rw [if_pos (by rw [ps.length]; exact hw)] at q3
      exact ok_here q3 rl3 p3
    · rw [if_neg (by rw [ps.length]; exact hw)] at q3
      exact new_tup rl3 ps.cut q3
  · split at q3
    · rename_i xs e
      obtain ⟨a, vs, rfl, sq, ps⟩ := lstR_ok rl3 p3 e
      exact .inr (.inl ⟨a, vs, rfl, sq, new_frl rl3 ps.cut q3⟩)
    · split at q3
      · split at q3
        · rename_i hz
          exact .inr (.inr ⟨_, str_inv p3, hz, ok_here q3 rl3 .str_⟩)
        · exact q3.elim
      · exact q3.elim
theorem me_slice00 {e : Expr} {o : ME} {pos p2 : Pos} (he : PM X XR E e o) : PM X XR E (.Subscript e (.Slice none none none p2) pos) (mSl o none none) := PE.imp (pe_slice sl_all he po_none po_none) tm_slice
theorem me_slice01 {e h : Expr} {o mh : ME} {pos p2 : Pos} (he : PM X XR E e o) (hh : PM X XR E h mh) : PM X XR E (.Subscript e (.Slice none (some h) none p2) pos) (mSl o none (some mh)) := PE.imp (pe_slice sl_all he po_none (po_some hh)) tm_slice
theorem me_slice10 {e l : Expr} {o ml : ME} {pos p2 : Pos} (he : PM X XR E e o) (hl : PM X XR E l ml) : PM X XR E (.Subscript e (.Slice (some l) none none p2) pos) (mSl o (some ml) none) := PE.imp (pe_slice sl_all he (po_some hl) po_none) tm_slice
theorem me_slice11 {e l h : Expr} {o ml mh : ME} {pos p2 : Pos} (he : PM X XR E e o) (hl : PM X XR E l ml) (hh : PM X XR E h mh) : PM X XR E (.Subscript e (.Slice (some l) (some h) none p2) pos) (mSl o (some ml) (some mh)) := PE.imp (pe_slice sl_all he (po_some hl) (po_some hh)) tm_slice
/-! ### x += n -/
@[simp] def fAddI : PV → PV → MH → R PV
  | .int i, .int j, μ => .ok (.int (i + j)) μ
  | _, _, _ => .bad
theorem om_ipAdd {K : PySem.W.Frag} : OpM K XR fAddI (ipI fun i j => i + j) := by
  intro av E H β μ v w x y Q rl pv pw h
  unfold fAddI at h
  split at h
  · exact ⟨_, _, int_inv pv, int_inv pw, ok_here h rl .int_⟩
  · exact h.elim
/-! ### a tuple of the module -/
def GlobT (K : PySem.W.Frag) (mg : Str → Option Value) (x : Str) (xs : List PV) : Prop := ∃ (a : Addr) (vs : List V) (o : Obj) (its : Array Value) (n : Nat), mg x = some (.ref a) ∧ K.lookup a = some o ∧ o.cls = .type "tuple" ∧ o.dict = none ∧ o.data = .seq its n ∧ its.size ≤ sizeLine ∧ Vals vs its.toList ∧
  ∀ (G : Gx) (H : Hp) (β : List Addr), PRels G H β xs vs
theorem me_globK {x : Str} {xs : List PV} {pos : Pos} (hg : Gl X x) (h : GlobT X.K X.mg x xs) (hdb : (x == ("__debug__" : Str)) = false := by decide) : PM X XR E (.Name x pos) (mC (.ctp xs)) := by
  obtain ⟨a, vs, o, its, n, h1, h2, h3, h4, h5, h6, h7, h8⟩ := h
  exact me_globT hg h1 h2 h3 h4 h5 h6 h7 h8 hdb
end
end Mini

/-! M16: how long a text of data is; a def's raw worth cleaned. -/
namespace Mini
open PySem PySem.Spec PyProof.Rows L2
/-! ### shown -/
mutual
def shw : PyData → Nat
  | .none => 4
  | .bool _ => 5
  | .int i => i.natAbs.log2 + 3
  | .str x => 10 * x.length + 2
  | .list xs => shws xs + 4
  | .tuple xs => shws xs + 4
  | .dict _ => 0
def shws : List PyData → Nat
  | [] => 0
  | x :: xs => shw x + 2 + shws xs
end
mutual
def okD : PyData → Bool
  | .none => true
  | .bool _ => true
  | .int i => decide (i.natAbs.log2 < 1920)
  | .str x => x.cps.toList.all fun c => decide (c < 16 ^ 8)
  | .list xs => okDs xs
  | .tuple xs => okDs xs
  | .dict _ => false
def okDs : List PyData → Bool
  | [] => true
  | x :: xs => okD x && okDs xs
end
theorem piled_eq (x : Str) (ts : List Str) : piled (x :: ts) = x.length + 2 + piled ts := by simp [piled]
theorem listText_le : ∀ ts : List Str, (listText ts).length ≤ piled ts + 4
  | [] => by decide
  | t :: ts => by
    have h1 : (textFrom 0 "[" (t :: ts)).length ≤ 1 + piled (t :: ts) := by
      show (textFrom 1 (("[" : Str) ++ "" ++ t) ts).length ≤ _
      rw [textFrom_length_pos ts 1 _ (by decide), piled_eq, PySem.Str.length_append, PySem.Str.length_append]
      have : ("[" : Str).length = 1 := by decide
      have e : ("" : Str).length = 0 := by decide
      omega
    unfold listText
    rw [PySem.Str.length_append]
    have : ("]" : Str).length = 1 := by decide
    omega
theorem tupleText_le (ts : List Str) : (tupleText ts).length ≤ piled ts + 4 := by
  unfold tupleText
  rw [PySem.Str.length_append, PySem.Str.length_append]
  have h1 : ("(" : Str).length = 1 := by decide
  have h2 : ((if ts.length == 1 then ",)" else ")" : String) : Str).length ≤ 2 := by split <;> decide
  have h3 : (Str.join ", " ts).length ≤ piled ts := by
    cases ts with
    | nil => decide
    | cons t ts => have := join_length_add (t :: ts) (by simp); omega
  omega
mutual
theorem shown_le : ∀ d : PyData, okD d = true → d.shown.length ≤ shw d
  | .none, _ => by decide
  | .bool b, _ => by cases b <;> decide
  | .int i, h => by
    unfold okD at h
    have := int_text_length_le (a := i) (k := i.natAbs.log2 + 1) (by omega) (by omega)
    have e : (PyData.shown (.int i)).length = (Str.ofString (toString i)).length := by
      simp only [PyData.shown]
    unfold shw
    rw [e, PySem.ofString_length]
    omega
  | .str x, h => by
    unfold okD at h
    simp only [PyData.shown, shw]
    exact StrLaws.reprText_len x fun c hc => of_decide_eq_true (List.all_eq_true.mp h c hc)
  | .list xs, h => by
    unfold okD at h
    simp only [PyData.shown, shw]
    have := listText_le (PyData.shownAll xs)
    have := shownAll_le xs h
    omega
  | .tuple xs, h => by
    unfold okD at h
    simp only [PyData.shown, shw]
    have := tupleText_le (PyData.shownAll xs)
    have := shownAll_le xs h
    omega
  | .dict kvs, h => by unfold okD at h; cases h
theorem shownAll_le : ∀ ds : List PyData, okDs ds = true → piled (PyData.shownAll ds) ≤ shws ds
  | [], _ => by decide
  | d :: ds, h => by
    unfold okDs at h
    rw [Bool.and_eq_true] at h
    have h1 := shown_le d h.1
    have h2 := shownAll_le ds h.2
    simp only [PyData.shownAll, shws]
    rw [piled_eq]
    omega
end
mutual
theorem okD_show : ∀ d : PyData, okD d = true → d.showable = true
  | .none, _ => by unfold PyData.showable; rfl
  | .bool b, _ => by unfold PyData.showable; rfl
  | .int i, h => by unfold okD at h; unfold PyData.showable; exact h
  | .str x, h => by unfold PyData.showable; rfl
  | .list xs, h => by unfold okD at h; unfold PyData.showable; exact okDs_show xs h
  | .tuple xs, h => by unfold okD at h; unfold PyData.showable; exact okDs_show xs h
  | .dict kvs, h => by unfold okD at h; cases h
theorem okDs_show : ∀ ds : List PyData, okDs ds = true → PyData.showableAll ds = true
  | [], _ => by unfold PyData.showableAll; rfl
  | d :: ds, h => by
    unfold okDs at h
    rw [Bool.and_eq_true] at h
    unfold PyData.showableAll
    rw [okD_show d h.1, okDs_show ds h.2]
    rfl
end
/-- data that repr can show -/
def Fits (d : PyData) : Prop := okD d = true ∧ shw d ≤ 16000000 ∧ d.depth ≤ 58
theorem reprOf_fits {v : PV} {μ : MH} {d : PyData} (h : toD μ v = some d) (f1 : okD d = true) (f2 : shw d ≤ sizeLine) (f3 : d.depth ≤ 60) : reprOf v μ = .ok (.str d.shown) μ := by
  unfold reprOf
  rw [h]
  simp only
  rw [if_pos ⟨okD_show d f1, Nat.le_trans (shown_le d f1) f2, f3⟩]
/-! ### a raw worth, cleaned -/
def MO.same : MO → MO → Bool
  | .lst xs, .lst ys => PV.sames xs ys
  | .dK a, .dK b => decide (a.map (·.1) = b.map (·.1)) && PV.sames (a.map (·.2)) (b.map (·.2))
  | .dT a, .dT b => decide (a.map (·.1) = b.map (·.1)) && PV.sames (a.map (·.2)) (b.map (·.2))
  | _, _ => false
theorem map_pair {α β : Type} : ∀ {a b : List (α × β)}, a.map (·.1) = b.map (·.1) → a.map (·.2) = b.map (·.2) → a = b
  | [], [], _, _ => rfl
  | [], _ :: _, h, _ => by simp at h
  | _ :: _, [], h, _ => by simp at h
  | (x, y) :: a, (z, w) :: b, h1, h2 => by
    simp at h1 h2
    rw [h1.1, h2.1, map_pair h1.2 h2.2]
theorem MO.same_eq {a b : MO} (h : MO.same a b = true) : a = b := by
  unfold MO.same at h
  split at h
  · rw [PV.sames_eq _ _ h]
  · rw [Bool.and_eq_true, decide_eq_true_eq] at h; rw [map_pair h.1 (PV.sames_eq _ _ h.2)]
  · rw [Bool.and_eq_true, decide_eq_true_eq] at h; rw [map_pair h.1 (PV.sames_eq _ _ h.2)]
  · cases h
theorem MO.same_refl (a : MO) : MO.same a a = true := by
  cases a <;> unfold MO.same <;> simp [PV.sames_refl]
def keepsB (μ : MH) : MH → Nat → Nat → Bool
  | [], _, _ => true
  | o :: os, i, n => ((match μ[i]? with | some o' => MO.same o' o | none => false) || o.lo n) && keepsB μ os (i + 1) n
def keepOk (μ ν : MH) : Bool := decide (μ.length ≤ ν.length) && keepsB μ (ν.take μ.length) 0 μ.length
/-- a result as the callers see it -/
def fzV (n : Nat) (ν : MH) (v0 : PV) : Option PV := if v0.lo n then some v0 else match v0 with
  | .ref k => match ν[k]? with
    | some (.lst xs) => if decide (n ≤ k) && PV.los n xs then some (.frl xs) else none
    | _ => none
  | _ => none
def cl (μ : MH) : R PV → R PV
  | .ok v0 ν => match keepOk μ ν, fzV μ.length ν v0 with
    | true, some v => .ok v (ν.take μ.length)
    | _, _ => .bad
  | .err c p ν => match keepOk μ ν, PV.los μ.length p with
    | true, true => .err c p (ν.take μ.length)
    | _, _ => .bad
  | .bad => .bad
/-- the old places kept, what stands behind them dropped, a new list frozen -/
def cleanF (f : MF) : MF := fun args μ => cl μ (f args μ)
theorem keepsB_ok {μ : MH} : ∀ (os : MH) (i n : Nat), keepsB μ os i n = true → ∀ (j : Nat) (o : MO), os[j]? = some o → μ[i + j]? = some o ∨ o.lo n = true
  | [], i, n, _, j, o, e => by simp at e
  | x :: os, i, n, h, j, o, e => by
    unfold keepsB at h
    rw [Bool.and_eq_true, Bool.or_eq_true] at h
    cases j with
    | zero =>
      simp at e
      subst e
      rcases h.1 with q | q
      · left
        split at q
        · rename_i o' eo
          rw [Nat.add_zero, eo]
          rw [MO.same_eq q]
        · cases q
      · exact .inr q
    | succ j =>
      simp at e
      have := keepsB_ok os (i + 1) n h.2 j o e
      rw [show i + (j + 1) = i + 1 + j by omega]
      exact this
theorem drops_clean {μ ν : MH} (h1 : μ.length ≤ ν.length) (h2 : keepsB μ (ν.take μ.length) 0 μ.length = true) : ν = ν.take μ.length ++ ν.drop μ.length ∧ Drops μ (ν.take μ.length) (ν.drop μ.length) := by
  refine ⟨(List.take_append_drop _ _).symm, ⟨by rw [List.length_take]; omega, fun i o e => ?_⟩⟩
  have := keepsB_ok _ _ _ h2 i o e
  rw [Nat.zero_add] at this
  rw [List.length_take, Nat.min_eq_left h1]
  exact this
theorem fzV_ok {n : Nat} {ν : MH} {v0 v : PV} (h : fzV n ν v0 = some v) : Fz n ν v0 v := by
  unfold fzV at h
  by_cases hv : v0.lo n = true
  · rw [if_pos hv] at h; cases h; exact .inl ⟨rfl, hv⟩
  · rw [if_neg hv] at h
    cases v0 <;> simp only at h <;> first
      | (cases h; done)
      | skip
    rename_i k
    split at h
    · rename_i xs ex
      split at h
      · rename_i hx
        rw [Bool.and_eq_true, decide_eq_true_eq] at hx
        cases h
        exact .inr ⟨k, xs, rfl, hx.1, ex, hx.2, rfl⟩
      · cases h
    · cases h
theorem ref_clean (f : MF) : Ref (cleanF f) f := by
  intro args μ
  unfold cleanF
  cases e : f args μ with
  | bad => trivial
  | err c p ν =>
    unfold cl
    simp only
    cases hk : keepOk μ ν with
    | false => trivial
    | true =>
      cases hp : PV.los μ.length p with
      | false => trivial
      | true =>
        unfold keepOk at hk
        rw [Bool.and_eq_true, decide_eq_true_eq] at hk
        obtain ⟨e1, d⟩ := drops_clean hk.1 hk.2
        refine ⟨ν.drop μ.length, by rw [← e1], d, ?_⟩
        rw [List.length_take, Nat.min_eq_left hk.1]
        exact hp
  | ok v0 ν =>
    unfold cl
    simp only
    cases hk : keepOk μ ν with
    | false => trivial
    | true =>
      cases hf : fzV μ.length ν v0 with
      | none => trivial
      | some v =>
        unfold keepOk at hk
        rw [Bool.and_eq_true, decide_eq_true_eq] at hk
        obtain ⟨e1, d⟩ := drops_clean hk.1 hk.2
        refine ⟨ν.drop μ.length, v0, by rw [← e1], d, ?_⟩
        rw [← e1, List.length_take, Nat.min_eq_left hk.1]
        exact fzV_ok hf
/-! ### what cleans well -/
theorem keepsB_id {μ : MH} : ∀ (os : MH) (i n : Nat), (∀ (j : Nat) (o : MO), os[j]? = some o → μ[i + j]? = some o ∨ o.lo n = true) → keepsB μ os i n = true
  | [], i, n, _ => rfl
  | x :: os, i, n, h => by
    unfold keepsB
    rw [Bool.and_eq_true, Bool.or_eq_true]
    refine ⟨?_, keepsB_id os (i + 1) n fun j o e => ?_⟩
    · rcases h 0 x rfl with q | q
      · left
        rw [Nat.add_zero] at q
        rw [q]
        exact MO.same_refl x
      · exact .inr q
    · have := h (j + 1) o (by simpa using e)
      rw [show i + 1 + j = i + (j + 1) by omega]
      exact this
theorem cl_ok {μ ν : MH} {v0 v : PV} (h1 : μ.length ≤ ν.length) (h2 : ∀ (j : Nat) (o : MO), j < μ.length → ν[j]? = some o → μ[j]? = some o ∨ o.lo μ.length = true) (hf : fzV μ.length ν v0 = some v) : cl μ (.ok v0 ν) = .ok v (ν.take μ.length) := by
  have hk : keepOk μ ν = true := by
    unfold keepOk
    rw [Bool.and_eq_true, decide_eq_true_eq]
    refine ⟨h1, keepsB_id _ _ _ fun j o e => ?_⟩
    rw [List.getElem?_take] at e
    split at e
    · rename_i hj
      rw [Nat.zero_add]
      exact h2 j o hj e
    · cases e
  unfold cl
  simp only
  rw [hk, hf]
theorem cl_self {μ : MH} {v : PV} (h : v.lo μ.length = true) : cl μ (.ok v μ) = .ok v μ := by
  have := cl_ok (μ := μ) (ν := μ) (v0 := v) (v := v) (Nat.le_refl _) (fun j o _ e => .inl e) (by unfold fzV; rw [if_pos h])
  rw [this, List.take_length]
theorem cl_app {μ junk : MH} {v0 v : PV} (hf : fzV μ.length (μ ++ junk) v0 = some v) : cl μ (.ok v0 (μ ++ junk)) = .ok v μ := by
  have := cl_ok (μ := μ) (ν := μ ++ junk) (v0 := v0) (v := v) (by simp) (fun j o hj e => .inl (by rw [List.getElem?_append_left hj] at e; exact e)) hf
  rw [this, List.take_left]
theorem fz_lo {n : Nat} {ν : MH} {v : PV} (h : v.lo n = true) : fzV n ν v = some v := by unfold fzV; rw [if_pos h]
theorem fz_new {n k : Nat} {ν : MH} {xs : List PV} (h : n ≤ k) (e : ν[k]? = some (.lst xs)) (hx : PV.los n xs = true) : fzV n ν (.ref k) = some (.frl xs) := by
  unfold fzV
  rw [if_neg (by unfold PV.lo; simp; omega)]
  simp only
  rw [e]
  simp only
  rw [if_pos (by rw [Bool.and_eq_true, decide_eq_true_eq]; exact ⟨h, hx⟩)]
theorem le_bigN {n : Nat} (h : n ≤ 1000000000) : n ≤ bigN := by
  unfold bigN
  exact Nat.le_trans (Nat.le_trans h (by decide : 1000000000 ≤ 2 ^ 30)) (Nat.pow_le_pow_right (by decide) (by decide))
theorem pow_bigN {n k : Nat} (h : n < 2 ^ k) (hk : k ≤ 20000) : n < bigN := by
  unfold bigN
  exact Nat.lt_of_lt_of_le h (Nat.pow_le_pow_right (by decide) hk)
end Mini

/-! M17: how minis run. -/
namespace Mini
open PySem PySem.Spec PyProof.Rows L2
@[simp] theorem bindT_nm {i : Nat} {v : PV} {s : MS} : bindT (.nm i) v s = some (s.set i (some v)) := by simp only [bindT]
@[simp] theorem bindT_tup {ts : List MT} {vs : List PV} {s : MS} : bindT (.tp ts) (.tup vs) s = bindTs ts vs s := by simp only [bindT]
@[simp] theorem bindT_ctp {ts : List MT} {vs : List PV} {s : MS} : bindT (.tp ts) (.ctp vs) s = bindTs ts vs s := by simp only [bindT]
@[simp] theorem bindTs_nil {s : MS} : bindTs [] [] s = some s := by simp only [bindTs]
theorem bindTs_cons {t : MT} {ts : List MT} {v : PV} {vs : List PV} {s s1 : MS} (h : bindT t v s = some s1) : bindTs (t :: ts) (v :: vs) s = bindTs ts vs s1 := by simp only [bindTs, h]
@[simp] theorem bindTs_nm {i : Nat} {ts : List MT} {v : PV} {vs : List PV} {s : MS} : bindTs (.nm i :: ts) (v :: vs) s = bindTs ts vs (s.set i (some v)) := bindTs_cons bindT_nm
@[simp] theorem R.bind_ok {α β : Type} {a : α} {μ : MH} {f : α → MH → R β} : (R.ok a μ).bind f = f a μ := rfl
@[simp] theorem R.bind_err {α β : Type} {c : Str} {p : List PV} {μ : MH} {f : α → MH → R β} : (R.err c p μ : R α).bind f = .err c p μ := rfl
@[simp] theorem R.bind_bad {α β : Type} {f : α → MH → R β} : (R.bad : R α).bind f = .bad := rfl
@[simp] theorem sBind_ok {α : Type} {a : α} {μ : MH} {s : MS} {k : α → MH → RS} : sBind (.ok a μ) s k = k a μ := rfl
@[simp] theorem sBind_err {α : Type} {c : Str} {p : List PV} {μ : MH} {s : MS} {k : α → MH → RS} : sBind (.err c p μ : R α) s k = .er c p s μ := rfl
@[simp] theorem sBind_bad {α : Type} {s : MS} {k : α → MH → RS} : sBind (.bad : R α) s k = .bad := rfl
@[simp] theorem noErr_okE {α : Type} {a : α} {μ : MH} : noErr (R.ok a μ) = .ok a μ := rfl
@[simp] theorem bOf_bl {b : Bool} {μ : MH} : bOf (.bl b) μ = .ok b μ := rfl
@[simp] theorem fAdd_int {i j : Int} {μ : MH} : fAdd (.int i) (.int j) μ = .ok (.int (i + j)) μ := by unfold fAdd; rfl
@[simp] theorem fLt_int {i j : Int} {μ : MH} : fLt (.int i) (.int j) μ = .ok (.bl (decide (i < j))) μ := by unfold fLt; rfl
@[simp] theorem fEq_int {i j : Int} {μ : MH} : fEq (.int i) (.int j) μ = .ok (.bl (decide (i = j))) μ := by unfold fEq; rfl
@[simp] theorem fEq_str {i j : Str} {μ : MH} : fEq (.str i) (.str j) μ = .ok (.bl (decide (i = j))) μ := by unfold fEq; rfl
@[simp] theorem fNe_int {i j : Int} {μ : MH} : fNe (.int i) (.int j) μ = .ok (.bl (!decide (i = j))) μ := by unfold fNe; rfl
@[simp] theorem fInt_int {i : Int} {μ : MH} : fInt [.int i] μ = .ok (.int i) μ := by unfold fInt; rfl
@[simp] theorem fInt_bl {i : Bool} {μ : MH} : fInt [.bl i] μ = .ok (.int (if i then 1 else 0)) μ := by unfold fInt; rfl
@[simp] theorem fIx_tup {xs : List PV} {i : Int} {μ : MH} : fIx (.tup xs) (.int i) μ = match atI xs i with | some v => .ok v μ | none => .bad := by unfold fIx seqT; rfl
@[simp] theorem fIx_ctp {xs : List PV} {i : Int} {μ : MH} : fIx (.ctp xs) (.int i) μ = match atI xs i with | some v => .ok v μ | none => .bad := by unfold fIx seqT; rfl
@[simp] theorem fIx_frl {xs : List PV} {i : Int} {μ : MH} : fIx (.frl xs) (.int i) μ = match atI xs i with | some v => .ok v μ | none => .bad := by unfold fIx seqT lstR lstM; rfl
theorem fIx_ref {n : Nat} {xs : List PV} {i : Int} {μ : MH} (h : μ[n]? = some (.lst xs)) : fIx (.ref n) (.int i) μ = match atI xs i with | some v => .ok v μ | none => .bad := by unfold fIx seqT lstR lstM; simp only [h] <;> rfl
theorem fMod_ok {i j : Int} {μ : MH} (h : j ≠ 0) : fMod (.int i) (.int j) μ = .ok (.int (i.fmod j)) μ := by unfold fMod; exact if_pos h
theorem fMul_ok {i j : Int} {μ : MH} (h : okMul i j = true) : fMul (.int i) (.int j) μ = .ok (.int (i * j)) μ := by unfold fMul; exact if_pos h
theorem fFdiv_ok {i j : Int} {μ : MH} (h : 0 < j ∧ j.natAbs.log2 < 9000) : fFdiv (.int i) (.int j) μ = .ok (.int (i / j)) μ := by unfold fFdiv; exact if_pos h
theorem fFdiv_lt {i j : Int} {μ : MH} (h : 0 < j) (h2 : j < 1000000000000000000) : fFdiv (.int i) (.int j) μ = .ok (.int (i / j)) μ := fFdiv_ok ⟨h, by
  have : j.natAbs < 2 ^ 60 := by omega
  have h0 : j.natAbs ≠ 0 := by omega
  have := (Nat.log2_lt h0).mpr this
  omega⟩
theorem fPow_ok {i j : Int} {μ : MH} (h : 0 ≤ j ∧ j ≤ 1000000 ∧ i.natAbs < 2 ^ 64) : fPow (.int i) (.int j) μ = .ok (.int (i ^ j.toNat)) μ := by unfold fPow; exact if_pos h
/-! ### sizes -/
def Sz (k : Nat) (x : Int) : Prop := x.natAbs < 2 ^ k
theorem Sz.log {k : Nat} {x : Int} (h : Sz k x) (hk : 0 < k) : x.natAbs.log2 < k := by
  by_cases h0 : x.natAbs = 0
  · rw [h0]; simpa using hk
  · exact (Nat.log2_lt h0).mpr h
theorem Sz.mono {k m : Nat} {x : Int} (h : Sz k x) (hm : k ≤ m) : Sz m x := Nat.lt_of_lt_of_le h (Nat.pow_le_pow_right (by decide) hm)
theorem Sz.mul {k m : Nat} {x y : Int} (h : Sz k x) (h' : Sz m y) : Sz (k + m) (x * y) := by
  unfold Sz at *
  rw [Int.natAbs_mul, Nat.pow_add]
  by_cases h0 : y.natAbs = 0
  · rw [h0, Nat.mul_zero]; exact Nat.mul_pos (Nat.pow_pos (by decide)) (Nat.pow_pos (by decide))
  · exact Nat.mul_lt_mul'' h h'
theorem Sz.add {k : Nat} {x y : Int} (h : Sz k x) (h' : Sz k y) : Sz (k + 1) (x + y) := by
  unfold Sz at *
  have := Int.natAbs_add_le x y
  rw [Nat.pow_succ]
  omega
theorem Sz.neg {k : Nat} {x : Int} (h : Sz k x) : Sz k (-x) := by unfold Sz at *; rw [Int.natAbs_neg]; exact h
theorem Sz.okMul {k m : Nat} {x y : Int} (h : Sz k x) (h' : Sz m y) (hk : k + m ≤ 1000000) (k0 : 0 < k) (m0 : 0 < m) : okMul x y = true := by
  unfold Mini.okMul
  have := h.log k0
  have := h'.log m0
  exact decide_eq_true (by omega)
instance {k : Nat} {x : Int} : Decidable (Sz k x) := by unfold Sz; infer_instance
inductive All2 {α β : Type} (R : α → β → Prop) : List α → List β → Prop
  | nil : All2 R [] []
  | cons {a b as bs} : R a b → All2 R as bs → All2 R (a :: as) (b :: bs)
/-! ### loops -/
theorem comp_pure {chk : MH → Bool} {t : MT} {c : MB} {me : ME} {s : MS} {μ : MH} (F : PV → Option PV) (hchk : chk μ = true) : ∀ (vs acc : List PV),
    (∀ v ∈ vs, ∃ s1, bindT t v s = some s1 ∧ ((c s1 μ = .ok false μ ∧ F v = none) ∨ (c s1 μ = .ok true μ ∧ ∃ w, me s1 μ = .ok w μ ∧ F v = some w))) → acc.length + vs.length ≤ sizeLine →
    compGo chk t c (oneElt me) s vs μ acc = .ok (acc ++ vs.filterMap F) μ
  | [], acc, _, _ => by unfold compGo; rw [if_pos hchk]; simp
  | v :: vs, acc, h, hl => by
    unfold compGo
    rw [if_pos hchk]
    obtain ⟨s1, e1, q⟩ := h v (by simp)
    rw [e1]
    simp only [List.length_cons] at hl
    rcases q with ⟨e2, e3⟩ | ⟨e2, w, e3, e4⟩
    · simp only
      rw [e2]
      simp only [R.bind, Bool.false_eq_true, if_false]
      rw [comp_pure F hchk vs acc (fun u hu => h u (by simp [hu])) (by omega)]
      simp [List.filterMap_cons, e3]
    · simp only
      rw [e2]
      simp only [R.bind, if_true]
      have e5 : oneElt me s1 μ acc = .ok (acc ++ [w]) μ := by
        unfold oneElt
        rw [e3]
        exact if_pos (by omega)
      rw [e5]
      simp only [R.bind]
      rw [comp_pure F hchk vs (acc ++ [w]) (fun u hu => h u (by simp [hu])) (by simp; omega)]
      simp [List.filterMap_cons, e4]
theorem comp_inv {chk : MH → Bool} {t : MT} {c : MB} {body : MS → MH → List PV → R (List PV)} {s : MS} (I : Nat → MH → List PV → Prop) : ∀ (vs : List PV) (k : Nat) (μ : MH) (acc : List PV), I k μ acc →
    (∀ i v μ acc, vs[i]? = some v → I (k + i) μ acc → chk μ = true ∧ ∃ s1, bindT t v s = some s1 ∧ ∃ b μ1, c s1 μ = .ok b μ1 ∧ ((b = false ∧ I (k + i + 1) μ1 acc) ∨ (b = true ∧ ∃ acc2 μ2, body s1 μ1 acc = .ok acc2 μ2 ∧ I (k + i + 1) μ2 acc2))) →
    (∀ μ acc, I (k + vs.length) μ acc → chk μ = true) → ∃ μ' acc', compGo chk t c body s vs μ acc = .ok acc' μ' ∧ I (k + vs.length) μ' acc'
  | [], k, μ, acc, h, _, he => ⟨μ, acc, by unfold compGo; rw [if_pos (he μ acc h)], h⟩
  | v :: vs, k, μ, acc, h, hs, he => by
    obtain ⟨h1, s1, e1, b, μ1, e2, q⟩ := hs 0 v μ acc rfl h
    have hs' : ∀ i v μ acc, vs[i]? = some v → I (k + 1 + i) μ acc → chk μ = true ∧ ∃ s1, bindT t v s = some s1 ∧ ∃ b μ1, c s1 μ = .ok b μ1 ∧ ((b = false ∧ I (k + 1 + i + 1) μ1 acc) ∨ (b = true ∧ ∃ acc2 μ2, body s1 μ1 acc = .ok acc2 μ2 ∧ I (k + 1 + i + 1) μ2 acc2)) := fun i v μ acc e hi => by
      rw [show k + 1 + i = k + (i + 1) by omega] at hi ⊢
      exact hs (i + 1) v μ acc (by simpa using e) hi
    have he' : ∀ μ acc, I (k + 1 + vs.length) μ acc → chk μ = true := fun μ acc hi => he μ acc (by rw [List.length_cons, show k + (vs.length + 1) = k + 1 + vs.length by omega]; exact hi)
    rw [List.length_cons, show k + (vs.length + 1) = k + 1 + vs.length by omega]
    unfold compGo
    rw [if_pos h1, e1]
    simp only
    rw [e2]
    simp only [R.bind]
    rcases q with ⟨rfl, q⟩ | ⟨rfl, acc2, μ2, e3, q⟩
    · simp only [Bool.false_eq_true, if_false]
      exact comp_inv I vs (k + 1) μ1 acc q hs' he'
    · simp only [if_true]
      rw [e3]
      exact comp_inv I vs (k + 1) μ2 acc2 q hs' he'
theorem for_inv {chk : MH → Bool} {t : MT} {b : MSt} (I : Nat → MS → MH → Prop) (J : MS → MH → Prop) : ∀ (vs : List PV) (k : Nat) (s : MS) (μ : MH), I k s μ →
    (∀ i v s μ, vs[i]? = some v → I (k + i) s μ → chk μ = true ∧ ∃ s1, bindT t v s = some s1 ∧ ∃ s2 μ2, ((b s1 μ = .nx s2 μ2 ∨ b s1 μ = .ct s2 μ2) ∧ I (k + i + 1) s2 μ2) ∨ (b s1 μ = .bk s2 μ2 ∧ J s2 μ2)) →
    (∀ s μ, I (k + vs.length) s μ → chk μ = true ∧ J s μ) → ∃ s' μ', forGo chk t b vs s μ = .nx s' μ' ∧ J s' μ'
  | [], k, s, μ, h, _, he => ⟨s, μ, by unfold forGo; rw [if_pos (he s μ h).1], (he s μ h).2⟩
  | v :: vs, k, s, μ, h, hs, he => by
    obtain ⟨h1, s1, e1, s2, μ2, q⟩ := hs 0 v s μ rfl h
    have hs' : ∀ i v s μ, vs[i]? = some v → I (k + 1 + i) s μ → chk μ = true ∧ ∃ s1, bindT t v s = some s1 ∧ ∃ s2 μ2, ((b s1 μ = .nx s2 μ2 ∨ b s1 μ = .ct s2 μ2) ∧ I (k + 1 + i + 1) s2 μ2) ∨ (b s1 μ = .bk s2 μ2 ∧ J s2 μ2) := fun i v s μ e hi => by
      rw [show k + 1 + i = k + (i + 1) by omega] at hi ⊢
      exact hs (i + 1) v s μ (by simpa using e) hi
    have he' : ∀ s μ, I (k + 1 + vs.length) s μ → chk μ = true ∧ J s μ := fun s μ hi => he s μ (by rw [List.length_cons, show k + (vs.length + 1) = k + 1 + vs.length by omega]; exact hi)
    unfold forGo
    rw [if_pos h1, e1]
    simp only
    rcases q with ⟨e2 | e2, q⟩ | ⟨e2, q⟩
    · rw [e2]; exact for_inv I J vs (k + 1) s2 μ2 q hs' he'
    · rw [e2]; exact for_inv I J vs (k + 1) s2 μ2 q hs' he'
    · rw [e2]; exact ⟨s2, μ2, rfl, q⟩
theorem while_inv {c : MB} {b : MSt} (I : Nat → MS → MH → Prop) (J : MS → MH → Prop) (hs : ∀ m s μ, I m s μ → ∃ k μ1, c s μ = .ok k μ1 ∧ ((k = false ∧ J s μ1) ∨ (k = true ∧ ∃ s2 μ2, ((b s μ1 = .nx s2 μ2 ∨ b s μ1 = .ct s2 μ2) ∧ ∃ m', m' < m ∧ I m' s2 μ2) ∨ (b s μ1 = .bk s2 μ2 ∧ J s2 μ2)))) :
    ∀ (n m : Nat) (s : MS) (μ : MH), m < n → I m s μ → ∃ s' μ', whileGo c b n s μ = .nx s' μ' ∧ J s' μ'
  | 0, m, s, μ, hn, _ => absurd hn (Nat.not_lt_zero m)
  | n + 1, m, s, μ, hn, h => by
    obtain ⟨k, μ1, e, q⟩ := hs m s μ h
    unfold whileGo
    rw [e]
    simp only [sBind]
    rcases q with ⟨rfl, q⟩ | ⟨rfl, s2, μ2, ⟨e2, m', hm, q⟩ | ⟨e2, q⟩⟩
    · exact ⟨s, μ1, rfl, q⟩
    · simp only [if_true]
      rcases e2 with e2 | e2
      · rw [e2]; exact while_inv I J hs n m' s2 μ2 (by omega) q
      · rw [e2]; exact while_inv I J hs n m' s2 μ2 (by omega) q
    · simp only [if_true]
      rw [e2]
      exact ⟨s2, μ2, rfl, q⟩
@[simp] theorem isCtp_ctp {xs : List PV} : isCtp (.ctp xs) = true := rfl
/-! ### a new place -/
theorem get_new (μ : MH) (o : MO) : (μ ++ [o])[μ.length]? = some o := by simp
theorem set_new (μ : MH) (o o' : MO) : (μ ++ [o]).set μ.length o' = μ ++ [o'] := by simp [List.set_append]
theorem isL_new (μ : MH) (xs : List PV) : isL (.ref μ.length) (μ ++ [.lst xs]) = true := by unfold isL lstR lstM; simp
theorem append_new {μ : MH} {xs : List PV} {v : PV} (h : xs.length < 16777216) : fAppend (.ref μ.length) [v] (μ ++ [.lst xs]) = .ok .non (μ ++ [.lst (xs ++ [v])]) := by
  unfold fAppend
  simp only [get_new, set_new]
  exact if_pos h
theorem fLen_new {μ : MH} {xs : List PV} : fLen [.ref μ.length] (μ ++ [.lst xs]) = .ok (.int (xs.length : Nat)) (μ ++ [.lst xs]) := by
  unfold fLen lenOf
  simp [seqT, lstR, lstM]
theorem fLen_frl {μ : MH} {xs : List PV} : fLen [.frl xs] μ = .ok (.int (xs.length : Nat)) μ := rfl
theorem fLen_tup {μ : MH} {xs : List PV} : fLen [.tup xs] μ = .ok (.int (xs.length : Nat)) μ := rfl
theorem fLen_ctp {μ : MH} {xs : List PV} : fLen [.ctp xs] μ = .ok (.int (xs.length : Nat)) μ := rfl
theorem los_ints (n : Nat) : ∀ ns : List Int, PV.los n (ns.map PV.int) = true
  | [] => by unfold PV.los; rfl
  | x :: xs => by
    rw [List.map_cons]
    unfold PV.los
    rw [los_ints n xs]
    simp [PV.lo]
theorem los_nats (n : Nat) : ∀ ns : List Nat, PV.los n (ns.map fun k => PV.int (k : Nat)) = true
  | [] => by unfold PV.los; rfl
  | x :: xs => by
    rw [List.map_cons]
    unfold PV.los
    rw [los_nats n xs]
    simp [PV.lo]
theorem los_strs (n : Nat) : ∀ ns : List Str, PV.los n (ns.map PV.str) = true
  | [] => by unfold PV.los; rfl
  | x :: xs => by
    rw [List.map_cons]
    unfold PV.los
    rw [los_strs n xs]
    simp [PV.lo]
theorem range_ok {m : ME} {s : MS} {μ μ1 : MH} {n : Nat} (h : m s μ = .ok (.int (n : Nat)) μ1) (hn : n ≤ 1000000000) : mRange1 m s μ = .ok ⟨rangeVals 0 n, always⟩ μ1 := by
  unfold mRange1
  rw [h]
  show (if okRange ((n : Nat) : Int) = true then _ else _) = _
  rw [if_pos (okRange_nat hn)]
  rfl
@[simp] theorem range_lit60 {s : MS} {μ : MH} : mRange1 (mC (.int 60)) s μ = .ok ⟨rangeVals 0 60, always⟩ μ := range_ok (n := 60) rfl (by decide)
@[simp] theorem range_lit10 {s : MS} {μ : MH} : mRange1 (mC (.int 10)) s μ = .ok ⟨rangeVals 0 10, always⟩ μ := range_ok (n := 10) rfl (by decide)
@[simp] theorem range_lit20 {s : MS} {μ : MH} : mRange1 (mC (.int 20)) s μ = .ok ⟨rangeVals 0 20, always⟩ μ := range_ok (n := 20) rfl (by decide)
@[simp] theorem range_lit4 {s : MS} {μ : MH} : mRange1 (mC (.int 4)) s μ = .ok ⟨rangeVals 0 4, always⟩ μ := range_ok (n := 4) rfl (by decide)
@[simp] theorem always_true {μ : MH} : always μ = true := rfl
@[simp] theorem sizeLine_u : sizeLine = 16777216 := by decide
end Mini

/-! M18: dicts in plain runs. -/
namespace Mini
open PySem PySem.Spec PyProof.Rows L2
theorem lstR_dK {μ : MH} {n : Nat} {kvs : List (Key × PV)} (h : μ[n]? = some (.dK kvs)) : lstR (.ref n) μ = none := by
  unfold lstR lstM
  simp only [h]
theorem dlook_dK {μ : MH} {n : Nat} {kvs : List (Key × PV)} {i : Int} (h : μ[n]? = some (.dK kvs)) : dlook (.ref n) (.int i) μ = some (dval kvs (.inl i)) := by
  unfold dlook
  simp only [h]
  rfl
theorem fIx_dK {μ : MH} {n : Nat} {kvs : List (Key × PV)} {i : Int} {v : PV} (h : μ[n]? = some (.dK kvs)) (hv : dval kvs (.inl i) = some v) : fIx (.ref n) (.int i) μ = .ok v μ := by
  unfold fIx seqT
  simp only [lstR_dK h, dlook_dK h, hv]
theorem inOf_dK {μ : MH} {n : Nat} {kvs : List (Key × PV)} {i : Int} (h : μ[n]? = some (.dK kvs)) : inOf (.int i) (.ref n) μ = some (dval kvs (.inl i)).isSome := by
  unfold inOf seqR seqT
  simp only [lstR_dK h, dlook_dK h]
  rfl
theorem fNotIn_dK {μ : MH} {n : Nat} {kvs : List (Key × PV)} {i : Int} (h : μ[n]? = some (.dK kvs)) : fNotIn (.int i) (.ref n) μ = .ok (.bl (!(dval kvs (.inl i)).isSome)) μ := by
  unfold fNotIn
  rw [inOf_dK h]
theorem fIn_dK {μ : MH} {n : Nat} {kvs : List (Key × PV)} {i : Int} (h : μ[n]? = some (.dK kvs)) : fIn (.int i) (.ref n) μ = .ok (.bl (dval kvs (.inl i)).isSome) μ := by
  unfold fIn
  rw [inOf_dK h]
theorem fStore_dK {μ : MH} {n : Nat} {kvs : List (Key × PV)} {i : Int} {v : PV} (h : μ[n]? = some (.dK kvs)) (hl : kvs.length < 16777216) : fStore (.ref n) (.int i) v μ = some (μ.set n (.dK (dput kvs (.inl i) v))) := by
  have e : lstore (.ref n) (.int i) v μ = none := by
    unfold lstore
    simp only [h]
  unfold fStore
  rw [e]
  simp only
  unfold dstore
  simp only [h, keyOf]
  exact if_pos hl
theorem dput_new {κ : Type} [DecidableEq κ] {kvs : List (κ × PV)} {k : κ} {v : PV} (h : dval kvs k = none) : dput kvs k v = kvs ++ [(k, v)] := by
  unfold dput
  rw [if_neg]
  intro q
  rw [List.any_eq_true] at q
  obtain ⟨x, hx, e⟩ := q
  unfold dval at h
  rw [Option.map_eq_none_iff, List.find?_eq_none] at h
  exact h x hx e
theorem dval_mem {κ : Type} [DecidableEq κ] {kvs : List (κ × PV)} {k : κ} : (dval kvs k).isSome = true ↔ k ∈ kvs.map (·.1) := by
  unfold dval
  rw [Option.isSome_map, List.find?_isSome]
  simp
theorem dval_some {κ : Type} [DecidableEq κ] {kvs : List (κ × PV)} {k : κ} {v : PV} (h : dval kvs k = some v) : (k, v) ∈ kvs := by
  unfold dval at h
  rw [Option.map_eq_some_iff] at h
  obtain ⟨p, hp, rfl⟩ := h
  have h1 := List.mem_of_find?_eq_some hp
  have h2 := List.find?_some hp
  simp at h2
  subst h2
  exact h1
theorem nodup_len : ∀ (n : Nat) (ks : List Nat), ks.Nodup → (∀ k ∈ ks, k < n) → ks.length ≤ n
  | 0, [], _, _ => by simp
  | 0, k :: ks, _, h => absurd (h k (by simp)) (by omega)
  | n + 1, ks, hn, h => by
    have := nodup_len n (ks.erase n) (hn.erase n) fun k hk => by
      have h1 := (hn.mem_erase_iff.mp hk)
      have := h k h1.2
      have := h1.1
      omega
    rw [List.length_erase] at this
    split at this <;> omega
end Mini

/-! M19: from the top's facts to the defs. -/
namespace Mini
open PySem PySem.Spec PyProof.Rows L2
structure FactD (K : PySem.W.Frag) (x : Str) (st : Stmt) : Prop where
  ex : ∃ (f : Addr) (oc : Value) (od : Option Addr) (kV doc pm : Value) (an : Option Addr) (cdv ct : Value) (osl : Array (Option Value)), PySem.W.nsIn K mainGlobals x = some (some (.ref f)) ∧
    K.lookup f = some ⟨oc, od, .func (PySem.W.fnOf x x (defArgs st) (defBody st) (defScope st) .none kV doc pm an cdv ct), osl⟩ ∧ PySem.W.codeIn K cdv x = true ∧ PySem.W.keepIn K (.ref f) = true
theorem FactD.of {K : PySem.W.Frag} {x : Str} {st : Stmt} {f : Addr} {oc : Value} {od : Option Addr} {kV doc pm : Value} {an : Option Addr} {cdv ct : Value} {osl : Array (Option Value)} (a : PySem.W.nsIn K mainGlobals x = some (some (.ref f)))
    (l : K.lookup f = some ⟨oc, od, .func (PySem.W.fnOf x x (defArgs st) (defBody st) (defScope st) .none kV doc pm an cdv ct), osl⟩) (c : PySem.W.codeIn K cdv x = true) (k : PySem.W.keepIn K (.ref f) = true) : FactD K x st := ⟨f, oc, od, kV, doc, pm, an, cdv, ct, osl, a, l, c, k⟩
theorem FactD.get {K : PySem.W.Frag} {x : Str} {st : Stmt} {h : Heap} {mg : Str → Option Value} (D : FactD K x st) (KX : K.In h) (G : h.Ns mainGlobals mg) {ps : List Str}
    (hb : ∀ (kV doc pm : Value) (an : Option Addr) (cdv ct : Value) (us : List Value), us.length = ps.length → bindArgs (PySem.W.fnOf x x (defArgs st) (defBody st) (defScope st) .none kV doc pm an cdv ct) ⟨us, []⟩ = pure (ps.zip us)) :
    ∃ (f : Addr) (fd : FuncData), mg x = some (.ref f) ∧ Fun K x x st f fd ∧ Binds K fd ps [] := by
  obtain ⟨f, oc, od, kV, doc, pm, an, cdv, ct, osl, a, l, c, k⟩ := D.ex
  have F := fun_mk (st := st) l c k
  exact ⟨f, _, PySem.W.mg_of KX G a, F, F.binds hb⟩
def noXR : XRel := fun _ _ _ _ _ _ => False
theorem noXR_ok : XROk noXR := ⟨fun _ _ _ _ _ _ _ h => h.elim⟩
theorem DefOk.clean {P : Program} {w : World} {K : PySem.W.Frag} {mg : Str → Option Value} {base : Heap} {x : Str} {k : Nat} {f : MF} (D : DefOk P w K mg base x k (spM K noXR f)) : DefOk P w K mg base x k (spM K noXR (cleanF f)) :=
  D.imp (spM_ref noXR_ok (ref_clean f))
def GlobF (K : PySem.W.Frag) (x : Str) (xs : List PV) : Prop := ∃ (a : Addr) (vs : List V) (o : Obj) (its : Array Value) (n : Nat), PySem.W.nsIn K mainGlobals x = some (some (.ref a)) ∧ K.lookup a = some o ∧ o.cls = .type "tuple" ∧ o.dict = none ∧ o.data = .seq its n ∧ its.size ≤ sizeLine ∧ Vals vs its.toList ∧
  ∀ (G : Gx) (H : Hp) (β : List Addr), PRels G H β xs vs
theorem GlobF.get {K : PySem.W.Frag} {x : Str} {xs : List PV} {h : Heap} {mg : Str → Option Value} (g : GlobF K x xs) (KX : K.In h) (G : h.Ns mainGlobals mg) : GlobT K mg x xs := by
  obtain ⟨a, vs, o, its, n, h1, h2⟩ := g
  exact ⟨a, vs, o, its, n, PySem.W.mg_of KX G h1, h2⟩
end Mini

/-! M20: data that can be shown. -/
namespace Mini
open PySem PySem.Spec PyProof.Rows L2
structure Dat (n b : Nat) (v : PV) (d : PyData) : Prop where
  p : pD v = some d
  t : ∀ μ, toD μ v = some d
  ok : okD d = true
  w : shw d ≤ n
  dp : d.depth ≤ b
theorem Dat.mono {n b n' b' : Nat} {v : PV} {d : PyData} (h : Dat n b v d) (hn : n ≤ n') (hb : b ≤ b') : Dat n' b' v d := ⟨h.p, h.t, h.ok, Nat.le_trans h.w hn, Nat.le_trans h.dp hb⟩
theorem dat_int {k : Nat} {i : Int} (h : Sz k i) (k0 : 0 < k) (hk : k ≤ 1900) : Dat (k + 3) 0 (.int i) (.int i) := by
  have := h.log k0
  exact ⟨by simp [pD], fun μ => by simp [toD], by simp [okD]; omega, by simp [shw]; omega, by simp [PyData.depth]⟩
theorem dat_nat {i : Nat} (h : i < 2 ^ 60) : Dat 63 0 (.int (i : Nat)) (.int (i : Nat)) := dat_int (k := 60) (by unfold Sz; rw [Int.natAbs_natCast]; exact h) (by decide) (by decide)
theorem dat_bl {b : Bool} : Dat 5 0 (.bl b) (.bool b) := ⟨by simp [pD], fun μ => by simp [toD], by simp [okD], by simp [shw], by simp [PyData.depth]⟩
theorem dat_non : Dat 5 0 .non .none := ⟨by simp [pD], fun μ => by simp [toD], by simp [okD], by simp [shw], by simp [PyData.depth]⟩
theorem dat_str {x : Str} {n : Nat} (h : okD (.str x) = true) (hn : x.length ≤ n) : Dat (10 * n + 2) 0 (.str x) (.str x) := ⟨by simp [pD], fun μ => by simp [toD], h, by simp [shw]; omega, by simp [PyData.depth]⟩
theorem dats {n b : Nat} : ∀ xs : List PV, (∀ x ∈ xs, ∃ d, Dat n b x d) → ∃ ds, pDs xs = some ds ∧ (∀ μ, toDs μ xs = some ds) ∧ okDs ds = true ∧ shws ds ≤ xs.length * (n + 2) ∧ PyData.depthAll ds ≤ b
  | [], _ => ⟨[], by simp [pDs], fun μ => by simp [toDs], by simp [okDs], by simp [shws], by simp [PyData.depthAll]⟩
  | x :: xs, h => by
    obtain ⟨d, hd⟩ := h x (by simp)
    obtain ⟨ds, h1, h2, h3, h4, h5⟩ := dats xs fun y hy => h y (by simp [hy])
    refine ⟨d :: ds, by simp [pDs, hd.p, h1], fun μ => by simp [toDs, hd.t μ, h2 μ], by simp [okDs, hd.ok, h3], ?_, ?_⟩
    · have := hd.w
      simp only [shws, List.length_cons, Nat.add_mul]
      omega
    · have := hd.dp
      simp only [PyData.depthAll]
      omega
theorem dat_tup {n b : Nat} {xs : List PV} (h : ∀ x ∈ xs, ∃ d, Dat n b x d) : ∃ d, Dat (xs.length * (n + 2) + 4) (b + 1) (.tup xs) d := by
  obtain ⟨ds, h1, h2, h3, h4, h5⟩ := dats xs h
  exact ⟨.tuple ds, by simp [pD, h1], fun μ => by simp [toD, h2 μ], by simp [okD, h3], by simp [shw]; omega, by simp [PyData.depth]; omega⟩
theorem dat_ctp {n b : Nat} {xs : List PV} (h : ∀ x ∈ xs, ∃ d, Dat n b x d) : ∃ d, Dat (xs.length * (n + 2) + 4) (b + 1) (.ctp xs) d := by
  obtain ⟨ds, h1, h2, h3, h4, h5⟩ := dats xs h
  exact ⟨.tuple ds, by simp [pD, h1], fun μ => by simp [toD, h2 μ], by simp [okD, h3], by simp [shw]; omega, by simp [PyData.depth]; omega⟩
theorem dat_frl {n b : Nat} {xs : List PV} (h : ∀ x ∈ xs, ∃ d, Dat n b x d) : ∃ d, Dat (xs.length * (n + 2) + 4) (b + 1) (.frl xs) d := by
  obtain ⟨ds, h1, h2, h3, h4, h5⟩ := dats xs h
  exact ⟨.list ds, by simp [pD, h1], fun μ => by simp [toD, h2 μ], by simp [okD, h3], by simp [shw]; omega, by simp [PyData.depth]; omega⟩
/-- a place and the frozen list of the same items -/
theorem toD_ref {μ : MH} {n m b : Nat} {xs : List PV} {d : PyData} (h : μ[n]? = some (.lst xs)) (hd : Dat m b (.frl xs) d) : toD μ (.ref n) = some d := by
  have := hd.p
  unfold pD at this
  unfold toD
  rw [h]
  exact this
theorem repr_dat {v : PV} {d : PyData} {n b : Nat} {μ : MH} (hd : Dat n b v d) (hn : n ≤ 16000000) (hb : b ≤ 60) : reprOf v μ = .ok (.str d.shown) μ := reprOf_fits (hd.t μ) hd.ok (Nat.le_trans hd.w (Nat.le_trans hn (by decide))) (Nat.le_trans hd.dp hb)
end Mini

/-! M21: what is not reached; is None. -/
namespace Mini
open PySem PySem.Spec PyProof.Rows L2
section
variable {X : Cx} {XR : XRel} {E : L2.St → XK}
@[simp] def sBad : MSt := fun _ _ => .bad
@[simp] def mBad : ME := fun _ _ => .bad
/-- a statement, an expression that is never reached -/
theorem sm_bad {st : Stmt} : PSM X XR E st sBad := ⟨fun pins s σ H Q I h => by obtain ⟨av, β, sm, μ, rl, sr, h⟩ := h; exact h.elim⟩
theorem me_bad {e : Expr} : PM X XR E e mBad := ⟨fun pins s σ H Q I h => by obtain ⟨av, β, sm, μ, rl, sr, h⟩ := h; exact h.elim⟩
/-- x is None, by values -/
def isNon : PV → Option Bool
  | .non => some true
  | .op _ => none
  | _ => some false
def fIsN : PV → PV → MH → R PV
  | v, .non, μ => match isNon v with
    | some b => .ok (.bl b) μ
    | none => .bad
  | _, _, _ => .bad
def fIsNotN : PV → PV → MH → R PV
  | v, .non, μ => match isNon v with
    | some b => .ok (.bl (!b)) μ
    | none => .bad
  | _, _, _ => .bad
theorem isNon_ok {G : Gx} {H : Hp} {β : List Addr} {v : PV} {x : V} {b : Bool} (p : PRel G H β v x) (h : isNon v = some b) : decide (x = .non) = b := by
  cases v <;> unfold isNon at h <;> first
    | (cases h; done)
    | (cases h; unfold PRel at p; subst p; first | rfl | exact decide_eq_false (fun e => nomatch e))
    | (cases h; unfold PRel at p; obtain ⟨a, vs, rfl, _⟩ := p; exact decide_eq_false (fun e => nomatch e))
    | (cases h; unfold PRel at p; obtain ⟨a, rfl, _⟩ := p; exact decide_eq_false (fun e => nomatch e))
theorem om_isN {K : PySem.W.Frag} : OpM K XR fIsN (fun x y H Q => y = .non ∧ Q (.bl (decide (x = .non))) H) := by
  intro av E H β μ v w x y Q rl pv pw h
  unfold fIsN at h
  split at h
  · split at h
    · rename_i b e
      refine ⟨non_inv pw, ?_⟩
      rw [isNon_ok pv e]
      exact ok_here h rl .bl_
    · exact h.elim
  · exact h.elim
theorem om_isNotN {K : PySem.W.Frag} : OpM K XR fIsNotN (fun x y H Q => y = .non ∧ Q (.bl (!decide (x = .non))) H) := by
  intro av E H β μ v w x y Q rl pv pw h
  unfold fIsNotN at h
  split at h
  · split at h
    · rename_i b e
      refine ⟨non_inv pw, ?_⟩
      rw [isNon_ok pv e]
      exact ok_here h rl .bl_
    · exact h.elim
  · exact h.elim
end
end Mini

/-! M22: lists walked, sums, where an exception is handled. -/
namespace Mini
open PySem PySem.Spec PyProof.Rows L2 HotX
section
variable {prog : Program} {w : World} {A : Around} {E : Value → Shared → Prop} {s : Shared}
/-- StopIteration is raised where an exception is handled -/
theorem stop_hot {α : Type} {Q : α → Shared → Prop} {x1 : Addr} (hot : HotAt A x1 s.heap)
    (hE : ∀ h' e, (∀ b o, s.heap.get? b = some o → h'.get? b = some o) → (∃ o, h'.get? e = some o ∧ o.cls = .type "StopIteration") → E (.ref e) { s with heap := h' }) :
    wpAny (model prog w) A (Builtin.SmallTypes.stopIteration : Sem α) Q E s := by
  obtain ⟨h, g, d, t, os⟩ := s
  unfold Builtin.SmallTypes.stopIteration
  wp_walk
  obtain ⟨hh, o1, vs1, h1, d1, c1⟩ := hot
  have size : ∀ o : Obj, (h.push o).objs.size = h.objs.size + 1 := fun o => Heap.size_push ..
  have lt : x1 < h.objs.size := Heap.lt_size h1
  have old : ∀ {o o' : Obj} {b : Addr} {u : Obj}, h.get? b = some u → ((h.push o).push o').get? b = some u := fun q => Heap.get?_push_of_some _ (Heap.get?_push_of_some _ q)
  apply raiseNew_hot ⟨hh, o1, vs1, old h1, d1, c1⟩ _ (Heap.get?_push_size _ rfl) rfl
  · simp only [Array.size_append]
    show 2 < 6 + _
    omega
  · refine hE _ _ (fun b o q => ?_) ⟨_, Heap.get?_update_self _ (Heap.get?_push_size _ rfl) rfl, rfl⟩
    have ltb : b < h.objs.size := Heap.lt_size q
    rw [Heap.get?_update_other _ _ (by rw [size]; exact Nat.ne_of_gt (Nat.lt_succ_of_lt ltb))]
    exact old q
  · rw [size]; exact Nat.ne_of_lt (Nat.lt_succ_of_lt lt)
theorem list_stop {it l x1 : Addr} {i : Nat} {items : Array Value} {Q : Option Value → Shared → Prop} (hot : HotAt A x1 s.heap) (hit : s.heap.IsListIter it l i) (hl : s.heap.IsList l items) (out : items.size ≤ i) (ne : x1 ≠ it)
    (hQ : ∀ h', (∀ b o, b ≠ it → s.heap.get? b = some o → h'.get? b = some o) → Q none { s with heap := h' }) : wpAny (model prog w) A (pyNext (.ref it)) Q E s := by
  unfold pyNext
  apply wpAny_bind
  apply wpAny_attempt
  apply wpAny_callSpecial?_slot (name := Str.ofString "__next__") hit.typeIs slot_listiter_next
  apply wpAny_call_entry slot_listiter_next hit.typeIs entry_listiter_next _ (args_listiter_next _)
  obtain ⟨h, g, d, t, os⟩ := s
  obtain ⟨⟨c, dd, dt, sl⟩, ho, hc, hd⟩ := hit
  obtain ⟨⟨c2, dd2, dt2, sl2⟩, ho2, hc2, n2, hd2⟩ := hl
  simp only at hc hd hc2 hd2 ho ho2
  subst hc hd hc2 hd2
  wp_walk
  have gone : items[((i : Nat) : Int).toNat]? = none := by simpa using out
  rw [gone]
  obtain ⟨hh, o1, vs1, h1, d1, c1⟩ := hot
  apply wpAny_bind
  apply wpAny_rule
  apply wpAny_bind
  apply wpAny_setField ho rfl (by simp)
  refine stop_hot (x1 := x1) ⟨hh, o1, vs1, (Heap.get?_update_other _ _ (Ne.symm ne)).trans h1, d1, c1⟩ fun h' e keep isStop => ?_
  apply wpAny_bind
  obtain ⟨oe, he, ce⟩ := isStop
  refine wpAny_isInstance (T := "StopIteration") (b := true) ⟨oe, he, ce⟩ isSubtype_stop ?_
  exact wpAny_pure (hQ h' fun b o nb q => keep b o ((Heap.get?_update_other _ _ (Ne.symm nb)).trans q))
/-- the library's Walks over a list, in a hot frame -/
theorem walks_hot {it l x1 : Addr} {items : Array Value} {ox : Obj} {vs : Array Value} (hh : A.handled = some (.ref x1)) (dx : ox.data = .fields vs) (cx : vs[2]? = some .none) (ne : x1 ≠ it) (nl : l ≠ it) :
    Walks prog w A it [it, l, x1] [it] items.size (fun i v => items[i]? = some v) (fun i h => h.IsListIter it l i ∧ h.IsList l items ∧ h.get? x1 = some ox) where
  sub b hb := List.mem_cons.mpr (.inl (List.mem_singleton.mp hb))
  frame i h h' st k := ⟨st.1.at fun o q => k it (by simp) o q, st.2.1.at fun o q => k l (by simp) o q, k x1 (by simp) ox st.2.2⟩
  item i s Q E hi st hQ := by
    apply wpAny_pyNext_list_item st.1 st.2.1 (x := items[i]) (by simp [hi])
    intro h' it' same
    exact hQ _ h' s.toks (by simp [hi]) ⟨it', st.2.1.extBut same.extBut nl, (same.2 x1 ne).trans st.2.2⟩ fun b o hb q => (same.2 b (by simpa using hb)).trans q
  done s Q E st hQ := list_stop (x1 := x1) ⟨hh, ox, vs, st.2.2, dx, cx⟩ st.1 st.2.1 (Nat.le_refl _) ne fun h' k => hQ h' s.toks fun b o hb q => k b o (by simpa using hb) q
  self i s Q E st hQ := wpAny_pyIter_listiter st.1 hQ
end
end Mini

/-! M23: [int(x) for x in xs] and sum(..) in a hot frame, by the library's ListComp_goes and call_sum_walkG over walks_hot. -/
namespace Mini
open PySem PySem.Spec PyProof.Rows L2 HotX L2H
section
variable {X : Cx} {pins : List (Addr × Obj)} {σ : L2.St} {H : Hp} {s : Shared}
/-- the handled exception's object, as it stands -/
theorem hot_pin (hc : HotC X) (I : Inv X pins σ H s) : ∃ (x1 : Addr) (ox : Obj) (vs : Array Value), X.A.handled = some (.ref x1) ∧ ox.data = .fields vs ∧ vs[2]? = some .none ∧ s.heap.get? x1 = some ox := by
  obtain ⟨p, ⟨hh, vs, d, c⟩, hp⟩ := hc
  exact ⟨p.1, p.2, vs, hh, d, c, (I.pin p (List.mem_append_left _ hp)).1⟩
def rSumI (K : PySem.W.Frag) : List V → Hp → VK → Prop := fun xs H Q => ∃ (a : Addr) (ns : List Int), xs = [V.ref a] ∧ SqL K H a (ns.map V.int) ∧ Q (.int ns.sum) H
theorem preSum_list {ns : List Int} {val : Nat → Int} (h : ∀ i n, ns[i]? = some n → val i = n) : preSum val ns.length = ns.sum := by
  induction ns generalizing val with
  | nil => rfl
  | cons n ns ih =>
    have := ih (val := fun i => val (i + 1)) fun i m e => h (i + 1) m (by simpa using e)
    have h0 := h 0 n rfl
    rw [List.sum_cons, ← this, ← h0, List.length_cons]
    clear this ih h h0
    induction ns.length with
    | zero => simp [preSum]
    | succ k ih2 =>
      have e1 : preSum val (k + 1 + 1) = preSum val (k + 1) + val (k + 1) := rfl
      have e2 : preSum (fun i => val (i + 1)) (k + 1) = preSum (fun i => val (i + 1)) k + val (k + 1) := rfl
      rw [e1, e2, ih2]
      omega
/-- sum of a list of integers, in a hot frame -/
theorem cr_sumH (hc : HotC X) : CallR X (.builtin "sum") (rSumI X.K) := by
  intro pins s σ H xs us Q I r h
  obtain ⟨a, ns, rfl, sq, q⟩ := h
  obtain ⟨its, rv, pl, _⟩ := I.list sq
  obtain ⟨x1, ox, vs, hh, d, c, at1⟩ := hot_pin hc I
  rw [Vals.ref1 r]
  have lt1 := Heap.lt_size at1
  have lta : a < s.heap.objs.size := by obtain ⟨o, _, e, _⟩ := pl; exact Heap.lt_size e
  have old : ∀ {b : Addr} {o : Obj}, s.heap.get? b = some o → (s.heap.push { cls := .type "list_iterator", data := .fields #[.ref a, .int 0 0] }).get? b = some o := fun e => Heap.get?_push_of_some _ e
  apply call_sum_walkG
  apply wpAny_pyIter_list pl.isList
  refine ⟨s.heap.objs.size, _, _, _, _, _, fun i => ns.getD i 0, rfl, walks_hot (A := X.A.in1) (items := its.toArray) (l := a) hh d c (Nat.ne_of_lt lt1) (Nat.ne_of_lt lta), ?_, ?_, ?_, ?_⟩
  · exact ⟨⟨_, Heap.get?_push_size _ rfl, rfl, rfl⟩, pl.isList.push _, old at1⟩
  · intro b hb
    show b < (s.heap.push _).objs.size
    rw [Heap.size_push]
    simp only [List.mem_cons, List.not_mem_nil, or_false] at hb
    rcases hb with rfl | rfl | rfl
    · exact Nat.lt_succ_self _
    · exact Nat.lt_succ_of_lt lta
    · exact Nat.lt_succ_of_lt lt1
  · intro i v e
    have e' : its[i]? = some v := by simpa using e
    have hn : i < ns.length := by
      have := rv.length
      have := (List.getElem?_eq_some_iff.mp e').1
      simp only [List.length_map] at *
      omega
    obtain ⟨u, hu, ru⟩ := rv.get (i := i) (x := V.int (ns.getD i 0)) (by simp [hn])
    cases hu.symm.trans e'
    exact ru
  · intro h' tk t' keep
    have len : its.toArray.size = ns.length := by simpa using rv.length.symm
    rw [len, preSum_list (fun i n e => by simp [e])]
    exact ⟨.int ns.sum, H, I.kept fun b o e => keep b o (by simpa using Nat.ne_of_lt (Heap.lt_size e)) (old e), ⟨_, rfl⟩, q⟩
def bI (b : Bool) : Int := if b then 1 else 0
/-- [int(x) for x in e], e a list of truths -/
def tLcH (K : PySem.W.Frag) (ti : TE) : TE := fun σ H Q => ti σ H fun v H1 => ∃ (a : Addr) (bs : List Bool), v = .ref a ∧ SqL K H1 a (bs.map V.bl) ∧ ∀ D, H1 D = none → Q (.ref D) (upd H1 D (.lst (bs.map fun b => V.int (bI b))))
theorem bl_value {b : Bool} {u : Value} (r : RelV (V.bl b) u) : u = .bool b := by cases r; rfl
/-- where the comprehension's loop stands: the first i items are told -/
structure AtI (s1 : Shared) (C : Addr) (bs : List Bool) (i : Nat) (ys : List Value) (z : Shared) : Prop where
  only : ∃ h tk, z = { s1 with heap := h, toks := tk }
  old : ∀ b o, s1.heap.get? b = some o → z.heap.get? b = some o
  names : ∃ m, z.heap.Ns C m
  told : Vals ((bs.take i).map fun b => V.int (bI b)) ys
theorem pe_lcH {it : Expr} {ti : TE} {x : Str} {px p1 p2 p3 pos : Pos} {scope : Scope} {cl : List (Str × Addr)} (hc : HotC X) (ha : PE X it ti) (hm : X.mg "int" = none)
    (hclos : closureFor scope X.env = pure cl) (hcell : ∀ y ∈ scope.names, y.2 ≠ .cell) (hkind : scope.kind = .function) (hnames : ∀ y ∈ scope.names, y.2 = .local → scope.names.lookup y.1 = some .local)
    (hx : scope.names.lookup x = some .local) (hint : ∀ C, (compEnvC scope cl C X.env).kindOf "int" = some .globalImplicit) (hdx : (x == ("__debug__" : Str)) = false) (hs : ∀ v, foldedSetIterable it X.env v = pure v := by intro _; rfl) :
    PE X (.ListComp (.Call (.Name "int" p1) [.Name x p2] [] p3) [⟨.Name x px, it, [], 0⟩] scope pos) (tLcH X.K ti) where
  run pins s σ H Q I h := by
    apply ListComp_goes hclos hcell hkind hnames _ hs
    apply thn (ha.run pins s σ H _ I h)
    rintro xv s1 ⟨_, H1, I1, is, a, bs, rfl, sq, q⟩
    have : xv = .ref a := is
    subst this
    obtain ⟨its, rv, pl, zl⟩ := I1.list sq
    obtain ⟨x1, ox, vs, hh, d, c, at1⟩ := hot_pin hc I1
    have lt1 := Heap.lt_size at1
    have lta : a < s1.heap.objs.size := by obtain ⟨o, _, e, _⟩ := pl; exact Heap.lt_size e
    have len : its.toArray.size = bs.length := by simpa using rv.length.symm
    have old : ∀ {b : Addr} {o : Obj}, s1.heap.get? b = some o → (s1.heap.push { cls := .type "list_iterator", data := .fields #[.ref a, .int 0 0] }).get? b = some o := fun e => Heap.get?_push_of_some _ e
    apply wpAny_pyIter_list pl.isList
    have W := walks_hot (prog := X.prog) (w := X.w) (A := X.A) (it := s1.heap.objs.size) (items := its.toArray) (l := a) hh d c (Nat.ne_of_lt lt1) (Nat.ne_of_lt lta)
    refine ⟨s1.heap.objs.size, _, _, its.toArray.size, _, _, rfl, Goes.ofWalks (target := .Name x px) W ?go, by rw [len]; simpa using zl, ⟨⟨_, Heap.get?_push_size _ rfl, rfl, rfl⟩, pl.isList.push _, old at1⟩, ?below, fun D C s3 B => ?_⟩
    case go =>
      intro i v z Q' E' st hq
      obtain ⟨⟨o, ho, hco, hdo⟩, _⟩ := st
      exact go_of ho hco hdo (by decide) hq
    case below =>
      intro b hb
      show b < (s1.heap.push _).objs.size
      rw [Heap.size_push]
      simp only [List.mem_cons, List.not_mem_nil, or_false] at hb
      rcases hb with rfl | rfl | rfl
      · exact Nat.lt_succ_self _
      · exact Nat.lt_succ_of_lt lta
      · exact Nat.lt_succ_of_lt lt1
    obtain ⟨⟨h3, tk3, rfl⟩, old3, newD, newC, ne, names⟩ := B
    have sz2 : (s1.heap.push { cls := .type "list_iterator", data := .fields #[.ref a, .int 0 0] }).objs.size = s1.heap.objs.size + 1 := Heap.size_push ..
    have newD' : s1.heap.objs.size < D := Nat.lt_of_lt_of_le (Nat.lt_succ_self _) (Nat.le_trans (Nat.le_of_eq sz2.symm) newD)
    have newC' : s1.heap.objs.size < C := Nat.lt_of_lt_of_le (Nat.lt_succ_self _) (Nat.le_trans (Nat.le_of_eq sz2.symm) newC)
    refine ⟨AtI s1 C bs, ⟨⟨h3, tk3, rfl⟩, fun b o e => old3 b o (old e), ⟨_, names⟩, .nil⟩, ?keep, ?turn, ?done⟩
    case keep =>
      rintro i ys z h' tk ⟨⟨h4, tk4, rfl⟩, old4, ⟨m, n4⟩, told⟩ k _
      refine ⟨⟨h', tk, rfl⟩, fun b o e => k b o ?_ (old4 b o e), ⟨m, n4.at' fun o e => k C o ?_ e⟩, told⟩
      · have := Heap.lt_size e
        simp only [List.mem_cons, List.not_mem_nil, or_false, not_or]
        exact ⟨Nat.ne_of_lt (Nat.lt_trans this newD'), Nat.ne_of_lt this⟩
      · simp only [List.mem_cons, List.not_mem_nil, or_false, not_or]
        exact ⟨Ne.symm ne, Nat.ne_of_gt newC'⟩
    case turn =>
      rintro i v ys z hi hv st ⟨⟨h4, tk4, rfl⟩, old4, ⟨m, n4⟩, told⟩ isD
      have iv : its[i]? = some v := by simpa using hv
      have hb : i < bs.length := by rw [← len]; exact hi
      obtain ⟨u, hu, ru⟩ := rv.get (i := i) (x := V.bl bs[i]) (by simp [hb])
      cases hu.symm.trans iv
      have eb := bl_value ru
      subst eb
      have kx : (compEnvC scope cl C X.env).kindOf x = some .local := lookup_relabel_local hx
      have plainC : ((compEnvC scope cl C X.env).scope.kind == .class || ((compEnvC scope cl C X.env).scope.kind == .module && (compEnvC scope cl C X.env).locals != (compEnvC scope cl C X.env).globals)) = false := by
        show (scope.kind == .class || (scope.kind == .module && _)) = false
        rw [hkind]; rfl
      apply wpAny_assign_Name
      refine wpAny_storeName_local kx n4 (fun h5 n5 same5 => ?_) plainC
      apply wpAny_tests_nil
      rw [if_pos rfl]
      have keep5 : ∀ b o, b ≠ C → h4.get? b = some o → h5.get? b = some o := fun b o nb e => same5.extBut b o nb e
      have old5 : ∀ b o, s1.heap.get? b = some o → h5.get? b = some o := fun b o e => keep5 b o (Nat.ne_of_lt (Nat.lt_trans (Heap.lt_size e) newC')) (old4 b o e)
      have base5 : ∀ b o, X.base.get? b = some o → h5.get? b = some o := fun b o e => old5 b o (I1.bk b o e)
      obtain ⟨mb, blt, boot⟩ := I1.mod.blt
      apply wpAny_Call_Name_kw
      refine Calls.Name_function_global hkind (hint C) (Calls.loadGlobal_builtin (v := .type "int") ?_ hm ?_ ((boot "int" (by decide)).trans rfl) ?_) (by decide)
      · show h5.Ns X.env.globals X.mg
        rw [I1.ok.glob]; exact I1.mod.glob.keeps base5
      · show h5.Ns X.env.builtins mb
        rw [I1.ok.blt]; exact blt.keeps base5
      refine PyProof.Rows.callWith_type1 ?_ rfl rfl
      show wpAny _ _ (spliced [(false, eval (.Name x p2) (compEnvC scope cl C X.env))]) _ _ _
      apply Calls.spliced_cons
      rw [eval_Name _ _ _ hdx]
      apply wpAny_bind
      apply wpAny_standAt
      refine wpAny_loadName_local hkind kx n5 (v := .bool bs[i]) (by simp) (Calls.spliced_nil ?_)
      apply call_int_bool
      refine ⟨⟨⟨h5, _, rfl⟩, old5, ⟨_, n5⟩, ?_⟩, ⟨st.1.at fun o e => keep5 _ o (Nat.ne_of_lt newC') e, st.2.1.at fun o e => keep5 _ o (Nat.ne_of_lt (Nat.lt_trans lta newC')) e, keep5 _ _ (Nat.ne_of_lt (Nat.lt_trans lt1 newC')) st.2.2⟩, isD.at fun o e => keep5 _ o ne e⟩
      have : (bs.take (i + 1)).map (fun b => V.int (bI b)) = (bs.take i).map (fun b => V.int (bI b)) ++ [V.int (bI bs[i])] := by
        rw [List.take_add_one, List.map_append, List.getElem?_eq_getElem hb]
        rfl
      rw [this]
      exact told.append (.cons ⟨_, rfl⟩ .nil)
    case done =>
      rintro ys z ⟨⟨h4, tk4, rfl⟩, old4, ⟨m, n4⟩, told⟩ isD
      refine ⟨m, n4, fun h' same => ⟨.ref D, _, I1.laid (a := D) (o := .lst (bs.map fun b => V.int (bI b))) (t' := tk4) (fun b o e => same.extBut b o (Nat.ne_of_lt (Nat.lt_trans (Heap.lt_size e) newC')) (old4 b o e)) (Nat.le_of_lt newD') ?_, rfl, q D (I1.hok.fresh (Nat.le_of_lt newD'))⟩⟩
      obtain ⟨n, e⟩ := isD
      refine ⟨by simpa using zl, ys, n, ?_, same.extBut _ _ ne e⟩
      have : bs.take its.toArray.size = bs := List.take_of_length_le (Nat.le_of_eq len.symm)
      rw [this] at told
      exact told
end
end Mini

/-! M24: the laws' _law_error, called in an except suite with the exception that is handled. -/
namespace Mini
open PySem PySem.Spec PyProof.Rows L2 HotX L2H
section
variable {X : Cx} {a D : Addr} {oe : Obj}
theorem mark_same {A : Around} {v : Value} (h : A.handled = some v) : A.mark (some v) = A := by
  cases A
  simp only at h
  subst h
  rfl
/-- isinstance in a frame whose one pin is the handled exception: the library's call_isE for an except suite, taken over -/
theorem call_isH (hn : X.pn = [(a, oe)]) (hh : X.A.handled = some (.ref a)) (hc : X.calm = false) (C : ExcC X.K D) (hz : Zc (.ref D) none oe) (hf : ∃ vs, oe.data = .fields vs) : CallR X (.builtin "isinstance") (rIsE X.K D a) := by
  intro pins s σ H xs us Q I r h
  have e : X.suite a [(a, oe)] = { X with xe := fun _ _ => False } := by
    unfold Cx.suite
    rw [mark_same hh, ← hn, ← hc]
  have T := call_isE (X := X) (a := a) (pn := []) C hz hf
  rw [e] at T
  have := T pins s σ H xs us Q (I.wish _) r h
  exact wpAny_mono this (fun u s' ⟨v, H', J, rr, q⟩ => ⟨v, H', Inv.unwish (E := fun _ _ => False) J, rr, q⟩) fun _ _ no => no.elim
/-- what isinstance says of e, five times -/
theorem pe_isH {x : Str} {c : Addr} {b : Bool} {p1 p2 p3 pos : Pos} (hn : X.pn = [(a, oe)]) (hh : X.A.handled = some (.ref a)) (hc : X.calm = false) (C : ExcC X.K D) (hz : Zc (.ref D) none oe) (hf : ∃ vs, oe.data = .fields vs)
    (gi : Gl X "isinstance") (mi : X.mg "isinstance" = none) (n0 : X.N[0]? = some ("e" : Str)) (v0 : Vis X.env.scope "e") (gx : Gl X x) (mx : X.mg x = some (.ref c)) (kit : PySem.W.kitOne X.K (.ref D) (.ref c) = some b) (hdb : (x == ("__debug__" : Str)) = false := by decide) :
    PE X (.Call (.Name "isinstance" p1) [.Name "e" p2, .Name x p3] [] pos) (fun σ H Q => σ[0]? = some (some (.ref a)) ∧ Q (.bl b) H) :=
  PE.imp (pe_callB (call_isH hn hh hc C hz hf) gi mi (by decide +kernel) (pa_cons (pe_var n0 v0) (pa_cons (pe_glob (v := .ref c) gx mx rfl hdb) pa_nil))) fun σ H Q ⟨e, q⟩ =>
    ⟨_, e, _, _, b, rfl, fun _ r => r, kit, q⟩
def errWords : List Str := ["refused", "large", "missing", "paper", "form"]
def errScope : Scope := { kind := .function, names := [(".0", .local), ("one", .local), ("int", .globalImplicit)], isGenerator := false, isCoroutine := false, more := [] }
/-- what the body of _law_error makes: three lists, then the word -/
def tErr (a : Addr) (bs : List Bool) (r : Str) : TS := fun D σ H => σ[0]? = some (some (.ref a)) ∧ σ.length = 3 ∧ ∀ n1 n2 n3, H n1 = none → upd H n1 (.lst (bs.map V.bl)) n2 = none → upd (upd H n1 (.lst (bs.map V.bl))) n2 (.lst (bs.map fun b => V.int (bI b))) n3 = none →
  D.rt (.str r) (upd (upd (upd H n1 (.lst (bs.map V.bl))) n2 (.lst (bs.map fun b => V.int (bI b)))) n3 (.lst (errWords.map V.str)))
/-- one truth of five, at j -/
def OneOf (bs : List Bool) (j : Nat) (r : Str) : Prop := bs.length = 5 ∧ bs[j]? = some true ∧ (∀ m, m < j → bs[m]? = some false) ∧ (bs.map bI).sum = 1 ∧ errWords[j]? = some r
structure ErrX (X : Cx) : Prop where
  n0 : X.N = [("e" : Str), "names", "one"]
  v0 : Vis X.env.scope "e"
  l1 : X.env.scope.names.lookup ("names" : Str) = some .local
  gi : Gl X "isinstance"
  gs : Gl X "sum"
  mi : X.mg "isinstance" = none
  ms : X.mg "sum" = none
  mt : X.mg "int" = none
theorem pss_err {c1 c2 c3 c4 c5 : Addr} {x1 x2 x3 x4 x5 : Str} {b1 b2 b3 b4 b5 : Bool} {j : Nat} {r : Str}
    {p1 p2 p3 p4 p5 p6 p7 p8 p9 p10 p11 p12 p13 p14 p15 p16 p17 p18 p19 p20 p21 p22 p23 p24 p25 p26 p27 p28 p29 p30 p31 p32 p33 p34 p35 p36 p37 p38 p39 p40 p41 p42 p43 p44 p45 p46 p47 p48 : Pos} {k1 k2 k3 k4 k5 k6 k7 k8 : Nat}
    (N : ErrX X) (hn : X.pn = [(a, oe)]) (hh : X.A.handled = some (.ref a)) (hc : X.calm = false) (hot : HotC X) (C : ExcC X.K D) (hz : Zc (.ref D) none oe) (hf : ∃ vs, oe.data = .fields vs)
    (g1 : Gl X x1) (g2 : Gl X x2) (g3 : Gl X x3) (g4 : Gl X x4) (g5 : Gl X x5) (m1 : X.mg x1 = some (.ref c1)) (m2 : X.mg x2 = some (.ref c2)) (m3 : X.mg x3 = some (.ref c3)) (m4 : X.mg x4 = some (.ref c4)) (m5 : X.mg x5 = some (.ref c5))
    (t1 : PySem.W.kitOne X.K (.ref D) (.ref c1) = some b1) (t2 : PySem.W.kitOne X.K (.ref D) (.ref c2) = some b2) (t3 : PySem.W.kitOne X.K (.ref D) (.ref c3) = some b3) (t4 : PySem.W.kitOne X.K (.ref D) (.ref c4) = some b4) (t5 : PySem.W.kitOne X.K (.ref D) (.ref c5) = some b5)
    (d1 : (x1 == ("__debug__" : Str)) = false) (d2 : (x2 == ("__debug__" : Str)) = false) (d3 : (x3 == ("__debug__" : Str)) = false) (d4 : (x4 == ("__debug__" : Str)) = false) (d5 : (x5 == ("__debug__" : Str)) = false)
    (one : OneOf [b1, b2, b3, b4, b5] j r) (line : (p45.endLine == p46.line) = true) :
    PSs X [.Assign [.Name "names" p1] (.List [.Call (.Name "isinstance" p2) [.Name "e" p3, .Name x1 p4] [] p5, .Call (.Name "isinstance" p6) [.Name "e" p7, .Name x2 p8] [] p9, .Call (.Name "isinstance" p10) [.Name "e" p11, .Name x3 p12] [] p13,
        .Call (.Name "isinstance" p14) [.Name "e" p15, .Name x4 p16] [] p17, .Call (.Name "isinstance" p18) [.Name "e" p19, .Name x5 p20] [] p21] p22) p23,
      .If (.Compare (.Call (.Name "sum" p24) [.ListComp (.Call (.Name "int" p25) [.Name "one" p26] [] p27) [⟨.Name "one" p28, .Name "names" p29, [], 0⟩] errScope p30] [] p31) [.NotEq] [.Constant (.int 1) k1 p32] p33) [.Return (some (.Constant (.str "odd") k2 p34)) p35] [] p36,
      .Return (some (.Subscript (.List [.Constant (.str "refused") k3 p37, .Constant (.str "large") k4 p38, .Constant (.str "missing") k5 p39, .Constant (.str "paper") k6 p40, .Constant (.str "form") k7 p41] p42)
        (.Call (.Attribute (.Name "names" p44) "index" p45) [.Constant (.bool true) k8 p43] [] p46) p47)) p48] (tErr a [b1, b2, b3, b4, b5] r) := by
  have vn : Vis X.env.scope "names" := .inl N.l1
  have hN : X.N.Nodup := by rw [N.n0]; decide
  have n0 : X.N[0]? = some ("e" : Str) := by rw [N.n0]; rfl
  have n1 : X.N[1]? = some ("names" : Str) := by rw [N.n0]; rfl
  have A1 := ps_set (pos := p23) (pos' := p1) hN n1 (.inl N.l1) (pe_lst (pos := p22) (pa_cons (pe_isH (p1 := p2) (p2 := p3) (p3 := p4) (pos := p5) hn hh hc C hz hf N.gi N.mi n0 N.v0 g1 m1 t1 d1) (pa_cons (pe_isH (p1 := p6) (p2 := p7) (p3 := p8) (pos := p9) hn hh hc C hz hf N.gi N.mi n0 N.v0 g2 m2 t2 d2)
    (pa_cons (pe_isH (p1 := p10) (p2 := p11) (p3 := p12) (pos := p13) hn hh hc C hz hf N.gi N.mi n0 N.v0 g3 m3 t3 d3) (pa_cons (pe_isH (p1 := p14) (p2 := p15) (p3 := p16) (pos := p17) hn hh hc C hz hf N.gi N.mi n0 N.v0 g4 m4 t4 d4)
    (pa_cons (pe_isH (p1 := p18) (p2 := p19) (p3 := p20) (pos := p21) hn hh hc C hz hf N.gi N.mi n0 N.v0 g5 m5 t5 d5) pa_nil)))))) rfl (.inr N.l1)
  have comp := pe_lcH (X := X) (it := .Name "names" p29) (ti := tVar 1) (x := "one") (px := p28) (p1 := p25) (p2 := p26) (p3 := p27) (pos := p30) (scope := errScope) (cl := []) hot (pe_var n1 vn) N.mt rfl (by decide) rfl (by decide) rfl (fun C => rfl) rfl
  have A2 := ps_if (pos := p36) (pt_cmpR (pos := p33) op_ne (pe_callB (p := p24) (pos := p31) (cr_sumH hot) N.gs N.ms (by decide +kernel) (pa_cons comp pa_nil)) (pe_int (X := X) (i := 1) (j := k1) (pos := p32)) rfl) (pss_one (ps_ret (pos := p35) (pe_str (X := X) (x := "odd") (j := k2) (pos := p34)))) pss_nil
  have A3 := ps_ret (pos := p48) (pe_ix (pos := p47) ix_list (pe_lst (pos := p42) (pa_cons (pe_str (X := X) (x := "refused") (j := k3) (pos := p37)) (pa_cons (pe_str (X := X) (x := "large") (j := k4) (pos := p38)) (pa_cons (pe_str (X := X) (x := "missing") (j := k5) (pos := p39)) (pa_cons (pe_str (X := X) (x := "paper") (j := k6) (pos := p40)) (pa_cons (pe_str (X := X) (x := "form") (j := k7) (pos := p41)) pa_nil))))))
    (pe_bm (apos := p45) (cpos := p46) PySem.F.plainAttrs_list PySem.F.slot_list_index PySem.F.type_list_index mt_index (pe_var (pos := p44) n1 vn) (pa_cons (pe_bl (X := X) (b := true) (j := k8) (pos := p43)) pa_nil) rfl rfl line rfl rfl) (fun _ _ => rfl))
  refine PSs.imp (pss_cons A1 (pss_cons A2 (pss_one A3))) fun E σ H h => ?_
  obtain ⟨e0, len, h⟩ := h
  obtain ⟨o1, o2, o3, o4, o5⟩ := one
  refine ⟨e0, e0, e0, e0, e0, (by show 5 ≤ sizeLine; decide), fun n1 f1 => ?_⟩
  have at1 : (σ.set 1 (some (V.ref n1)))[1]? = some (some (V.ref n1)) := by
    rw [List.getElem?_set_self (by omega)]
  refine ⟨_, at1, n1, [b1, b2, b3, b4, b5], rfl, .inl (.inl upd_same), fun n2 f2 => ?_⟩
  have f2' : n1 ≠ n2 := fun z => by rw [z, upd_same] at f2; cases f2
  refine ⟨n2, [b1, b2, b3, b4, b5].map bI, rfl, .inl (.inl (by rw [upd_same]; rfl)), rfl, false, ?_, ?_⟩
  · rw [o4]; rfl
  simp only [Bool.false_eq_true, if_false]
  refine ⟨(by show 5 ≤ sizeLine; decide), fun n3 f3 => ?_⟩
  have f3' : n1 ≠ n3 := fun z => by rw [← z, upd_ne f2', upd_same] at f3; cases f3
  have here : upd (upd (upd H n1 (.lst ([b1, b2, b3, b4, b5].map V.bl))) n2 (.lst ([b1, b2, b3, b4, b5].map fun b => V.int (bI b)))) n3 (.lst (errWords.map V.str)) n1 = some (.lst ([b1, b2, b3, b4, b5].map V.bl)) := by
    rw [upd_ne f3', upd_ne f2', upd_same]
  refine ⟨_, at1, .inl ⟨rfl, _, .inl (.inl here)⟩, n1, [b1, b2, b3, b4, b5].map V.bl, .bl true, j, .bl true, rfl, rfl, .inl (.inl here), rfl, rfl, ?_, rfl, ?_, ?_⟩
  · rw [List.getElem?_map, o2]; rfl
  · intro m z hm e
    rw [List.getElem?_map, o3 m hm] at e
    cases e
    rfl
  · refine ⟨n3, errWords.map V.str, (j : Nat), .str r, rfl, rfl, .inl (.inl upd_same), ?_, h n1 n2 n3 f1 f2 f3⟩
    have lj : j < 5 := by
      have := (List.getElem?_eq_some_iff.mp o5).1
      simpa [errWords] using this
    have : j = 0 ∨ j = 1 ∨ j = 2 ∨ j = 3 ∨ j = 4 := by omega
    rcases this with rfl | rfl | rfl | rfl | rfl <;> cases o5 <;> rfl
end
end Mini

/-! M25: _law_error as a def, try .. except TellError as e: return _law_error(e), raise X('..'). -/
namespace Mini
open PySem PySem.Spec PyProof.Rows L2 HotX L2H
/-- what is asked of a caught class C: isinstance knows it, and _law_error's word for it is r -/
structure ErrCls (K : PySem.W.Frag) (mg : Str → Option Value) (C : Addr) (r : Str) : Prop where
  exc : ExcC K C
  kit : ∃ (c1 c2 c3 c4 c5 : Addr) (b1 b2 b3 b4 b5 : Bool) (j : Nat), mg "NotAllowed" = some (.ref c1) ∧ mg "TooLarge" = some (.ref c2) ∧ mg "Missing" = some (.ref c3) ∧ mg "BadPaper" = some (.ref c4) ∧ mg "BadForm" = some (.ref c5) ∧
    PySem.W.kitOne K (.ref C) (.ref c1) = some b1 ∧ PySem.W.kitOne K (.ref C) (.ref c2) = some b2 ∧ PySem.W.kitOne K (.ref C) (.ref c3) = some b3 ∧ PySem.W.kitOne K (.ref C) (.ref c4) = some b4 ∧ PySem.W.kitOne K (.ref C) (.ref c5) = some b5 ∧ OneOf [b1, b2, b3, b4, b5] j r
/-- what _law_error promises of the exception p that is handled -/
structure ErrDef (P : Program) (w : World) (K : PySem.W.Frag) (mg : Str → Option Value) (base : Heap) (k : Nat) (f : Addr) (fd : FuncData) : Prop where
  go : ∀ (A : Around) (above : List Env) (z : Shared) (H : Hp) (args : Args) (Q : VK) (E : XK) (p : Addr × Obj) (C : Addr) (r : Str) (av β : List Addr) (μ : MH), RoomH k A → Hot1 A p → L2N.Zn (.ref C) none p.2 → ErrCls K mg C r → PinOk above H z p → Env0 P w K mg base A above z H →
    BindsTo z fd args [("e", .ref p.1)] → Rl ⟨K, av⟩ H β μ → (∀ H', Ext H β H' β → Rl ⟨K, av⟩ H' β μ → Q (.str r) H') → codeAny (model P w) A (.call (.ref f) args) (CR (L2N.CX P w) above P w H z Q E) z
section
variable {P : Program} {w : World} {K : PySem.W.Frag} {mg : Str → Option Value} {base : Heap} {k : Nat} {f : Addr} {fd : FuncData}
/-- the text of _law_error, whatever its places -/
def IsErr (st : Stmt) : Prop := ∃ (p1 p2 p3 p4 p5 p6 p7 p8 p9 p10 p11 p12 p13 p14 p15 p16 p17 p18 p19 p20 p21 p22 p23 p24 p25 p26 p27 p28 p29 p30 p31 p32 p33 p34 p35 p36 p37 p38 p39 p40 p41 p42 p43 p44 p45 p46 p47 p48 : Pos) (k1 k2 k3 k4 k5 k6 k7 k8 : Nat), (p45.endLine == p46.line) = true ∧
  defBody st = [.Assign [.Name "names" p1] (.List [.Call (.Name "isinstance" p2) [.Name "e" p3, .Name "NotAllowed" p4] [] p5, .Call (.Name "isinstance" p6) [.Name "e" p7, .Name "TooLarge" p8] [] p9, .Call (.Name "isinstance" p10) [.Name "e" p11, .Name "Missing" p12] [] p13,
        .Call (.Name "isinstance" p14) [.Name "e" p15, .Name "BadPaper" p16] [] p17, .Call (.Name "isinstance" p18) [.Name "e" p19, .Name "BadForm" p20] [] p21] p22) p23,
      .If (.Compare (.Call (.Name "sum" p24) [.ListComp (.Call (.Name "int" p25) [.Name "one" p26] [] p27) [⟨.Name "one" p28, .Name "names" p29, [], 0⟩] errScope p30] [] p31) [.NotEq] [.Constant (.int 1) k1 p32] p33) [.Return (some (.Constant (.str "odd") k2 p34)) p35] [] p36,
      .Return (some (.Subscript (.List [.Constant (.str "refused") k3 p37, .Constant (.str "large") k4 p38, .Constant (.str "missing") k5 p39, .Constant (.str "paper") k6 p40, .Constant (.str "form") k7 p41] p42)
        (.Call (.Attribute (.Name "names" p44) "index" p45) [.Constant (.bool true) k8 p43] [] p46) p47)) p48]
structure ErrTxt (mg : Str → Option Value) (sc : Scope) : Prop where
  names : sc.names.lookup ("e" : Str) = some .local ∧ sc.names.lookup ("names" : Str) = some .local ∧ sc.names.lookup ("isinstance" : Str) = some .globalImplicit ∧ sc.names.lookup ("sum" : Str) = some .globalImplicit ∧ sc.names.lookup ("NotAllowed" : Str) = some .globalImplicit ∧
    sc.names.lookup ("TooLarge" : Str) = some .globalImplicit ∧ sc.names.lookup ("Missing" : Str) = some .globalImplicit ∧ sc.names.lookup ("BadPaper" : Str) = some .globalImplicit ∧ sc.names.lookup ("BadForm" : Str) = some .globalImplicit
  mi : mg "isinstance" = none
  ms : mg "sum" = none
  mt : mg "int" = none
theorem err_def {x qual : Str} {st : Stmt} (F : Fun K x qual st f fd) (S : FnScope ["e", "names", "one"] ["e"] (defScope st)) (is : IsErr st) (T : ErrTxt mg (defScope st)) : ErrDef P w K mg base (k + 1) f fd where
  go A above z H args Q E p C r av β μ room hot zn ec pin env bnd rl told := by
    obtain ⟨_, _, _, _, _, _, cdv, _, _, rfl, look, code⟩ := F.ex
    have up : ∀ b o, base.get? b = some o → z.heap.get? b = some o := fun b o q => (env.bs b o q).1
    apply Att.call_fn (binds := [("e", .ref p.1)]) (env.mod.kin.keeps up) (env.mod.nolimit.keeps up) look code room.depth bnd _ (fun z1 x => _) S.co S.gen S.kind
    · simp [T.names.1]
    · intro z1 x
      have start := inv_startH (CX := L2N.CX P w) (E := E) (vs := [.ref p.1]) (us := [.ref p.1]) S pin env rfl (.cons rfl .nil) x
      obtain ⟨c1, c2, c3, c4, c5, b1, b2, b3, b4, b5, j, m1, m2, m3, m4, m5, t1, t2, t3, t4, t5, one⟩ := ec.kit
      obtain ⟨q1, q2, q3, q4, q5, q6, q7, q8, q9, q10, q11, q12, q13, q14, q15, q16, q17, q18, q19, q20, q21, q22, q23, q24, q25, q26, q27, q28, q29, q30, q31, q32, q33, q34, q35, q36, q37, q38, q39, q40, q41, q42, q43, q44, q45, q46, q47, q48, e1, e2, e3, e4, e5, e6, e7, e8, line, eb⟩ := is
      obtain ⟨n1, n2, n3, n4, n5, n6, n7, n8, n9⟩ := T.names
      have B : PSs (cxH (L2N.CX P w) P w K mg base ["e", "names", "one"] qual (defScope st) f cdv A above z H E p) (defBody st) (tErr p.1 [b1, b2, b3, b4, b5] r) := by
        rw [eb]
        exact pss_err (D := C) (oe := p.2) ⟨rfl, .inl n1, n2, n3, n4, T.mi, T.ms, T.mt⟩ rfl hot.1 rfl ⟨p, hot, List.mem_singleton.mpr rfl⟩ ec.exc zn.zc (hot.2.elim fun vs h => ⟨vs, h.1⟩) n5 n6 n7 n8 n9 m1 m2 m3 m4 m5 t1 t2 t3 t4 t5 (by decide) (by decide) (by decide) (by decide) (by decide) one line
      apply wpAny_mono (B.run [] z1 _ H { nx := fun _ H' => Q .non H', rt := Q } start ⟨rfl, rfl, fun a1 a2 a3 f1 f2 f3 => ?_⟩)
      · rintro (_ | _ | _ | u) z' q
        · obtain ⟨_, H', J, q⟩ := q
          exact ⟨.non, H', J.os, J.bare, J.base, J.hok, rfl, q⟩
        · obtain ⟨_, _, _, no⟩ := q; exact no.elim
        · obtain ⟨_, _, _, no⟩ := q; exact no.elim
        · obtain ⟨v, _, H', J, rv, q⟩ := q
          exact ⟨v, H', J.os, J.bare, J.base, J.hok, rv, q⟩
      · exact fun _ _ q => q
      · have e1 := Ext.new rl f1 (.lst ([b1, b2, b3, b4, b5].map V.bl))
        have r1 := rl.new f1 (.lst ([b1, b2, b3, b4, b5].map V.bl))
        have e2 := Ext.new r1 f2 (.lst ([b1, b2, b3, b4, b5].map fun b => V.int (bI b)))
        have r2 := r1.new f2 (.lst ([b1, b2, b3, b4, b5].map fun b => V.int (bI b)))
        exact told _ ((e1.trans e2).trans (Ext.new r2 f3 _)) (r2.new f3 _)
end
end Mini

/-! M26: raise X('..'); try: .. except TellError as e: return _law_error(e). -/
namespace Mini
open PySem PySem.Spec PyProof.Rows L2 HotX L2H
/-- an own class's exception, by the class's name -/
def oR (mg : Str → Option Value) : XRel := fun c p cls d _ _ => p = [] ∧ d = none ∧ ∃ C, mg c = some (.ref C) ∧ cls = .ref C
theorem oR_ok {mg : Str → Option Value} : XROk (oR mg) := ⟨fun _ _ _ _ _ _ _ h _ => h⟩
/-- a class without own __init__, below ValueError, that can be raised -/
structure RaiseX (K : PySem.W.Frag) (mg : Str → Option Value) (c : Str) : Prop where
  ex : ∃ C, mg c = some (.ref C) ∧ PySem.W.excIn K C [.type "ValueError", .type "Exception", .type "BaseException", .type "object"] "ValueError.__new__" = true ∧ PySem.W.keepIn K (.ref C) = true ∧
    PySem.W.subIn K (.ref C) (.type "BaseException") = some true ∧ PySem.W.typeIn K (.ref C) = some (.type "type")
def sRaise (c : Str) : MSt := fun s μ => .er c [] s μ
def sTold (i : Nat) (words : Str → Option Str) (b : MSt) : MSt := fun s μ => match b s μ with
  | .er c [] s1 μ1 => match words c with
    | some r => if i < s1.length then .rt (.str r) μ1 else .bad
    | none => .bad
  | .er _ _ _ _ => .bad
  | r => r
section
variable {X : Cx} {E : L2.St → XK}
theorem sm_raise {W : WX} {c m : Str} {j : Nat} {p p2 pos pos2 : Pos} (R : RaiseX X.K X.mg c) (calm : X.calm = true) (tk : L2N.Takes X W) (g : Gl X c) (hdb : (c == ("__debug__" : Str)) = false := by decide) :
    PSM X (oR X.mg) (WE W) (.Raise (some (.Call (.Name c p) [.Constant (.str m) j p2] [] pos)) none pos2) (sRaise c) := by
  obtain ⟨C, hC, e1, e2, e3, e4⟩ := R.ex
  refine PS.imp (L2N.ps_raise calm tk (L2N.pmk_own PySem.F.excBase_ValueError e1 hC e2 (raises_own e3 e4) g hdb)) fun D σ H ⟨av, β, s, μ, rl, sr, h⟩ => ?_
  exact h (.ref C) none σ H β .refl rl sr ⟨rfl, rfl, C, hC, rfl⟩
/-- what an except suite that tells the word asks -/
def tWord (K : PySem.W.Frag) (mg : Str → Option Value) (i : Nat) (a : Addr) (cls : Value) (d : Option Addr) : TE := fun σ H Q => σ[i]? = some (some (.ref a)) ∧ ∃ (C : Addr) (r : Str) (av β : List Addr) (μ : MH), cls = .ref C ∧ d = none ∧ ErrCls K mg C r ∧ Rl ⟨K, av⟩ H β μ ∧
  ∀ H', Ext H β H' β → Rl ⟨K, av⟩ H' β μ → Q (.str r) H'
theorem pe_word {i k : Nat} {a : Addr} {oe : Obj} {cls : Value} {d : Option Addr} {pn : List (Addr × Obj)} {fE : Addr} {fd : FuncData} {p1 p2 p3 : Pos} (zn : L2N.Zn cls d oe) (hv : ∃ vs, oe.data = .fields vs) (D : ErrDef X.prog X.w X.K X.mg X.base k fE fd) (room : RoomH k X.A) (B : Binds X.K fd ["e"] [])
    (g : Gl X "_law_error") (m : X.mg "_law_error" = some (.ref fE)) (kp : PySem.W.keepIn X.K (.ref fE) = true) (hi : X.N[i]? = some ("e" : Str)) (v : Vis X.env.scope "e") :
    PE (X.suite a ((a, oe) :: pn)) (.Call (.Name "_law_error" p1) [.Name "e" p2] [] p3) (tWord X.K X.mg i a cls d) where
  run pins z σ H Q I h := by
    obtain ⟨at_, C, r, av, β, μ, rfl, rfl, ec, rl, told⟩ := h
    obtain ⟨vs, hd⟩ := hv
    have args : PA (X.suite a ((a, oe) :: pn)) [.Name "e" p2] (tCons (tVar i) tNil) := pa_cons (pe_var hi v) pa_nil
    apply wpAny_Call_Name_kw
    apply ld_glob I g m _ (by decide)
    apply PySem.W.callWith_K (h₀ := X.base) I.ok.mod.kin kp _ rfl rfl
    apply thn (args.run p3 pins z σ H (fun ws H1 => ws = [.ref a] ∧ H1 = H) I ⟨_, at_, rfl, rfl⟩)
    rintro us z1 ⟨ws, H1, I1, rs, rfl, rfl⟩
    refine ⟨I1.kIn, ?_⟩
    obtain ⟨u, rfl, ru⟩ := vals1 rs
    have : u = .ref a := ru
    subst this
    obtain ⟨get, free, nl, nf, nc⟩ := I1.pin (a, oe) (List.mem_append_left _ List.mem_cons_self)
    have pin : PinOk (X.suite a ((a, oe) :: pn)).stack H1 z1 (a, oe) := by
      refine ⟨get, free, fun hm => ?_, nc⟩
      cases List.mem_cons.mp (I1.stkSub a hm) with
      | inl q => exact nl q
      | inr q => exact nf q
    have b := B z1 [.ref a] I1.kIn rfl
    have go := D.go (X.suite a ((a, oe) :: pn)).A (X.suite a ((a, oe) :: pn)).stack z1 H1 ⟨[.ref a], []⟩ Q (fun _ _ _ => False) (a, oe) C r av β μ ⟨room.dp, room.un⟩ ⟨rfl, vs, hd, zn.2.2 vs hd⟩ zn ec pin I1.env0 b rl told
    apply wpAny_call
    apply codeAny_mono go
    rintro (e | (_ | _ | _ | u)) z' q
    · obtain ⟨_, _, _, _, _, _, _, _, _, _, _, _, no⟩ := q
      exact no.elim
    all_goals first
      | exact I1.after q
      | exact q.elim
/-- try: .. except TellError as e: return _law_error(e) -/
theorem sm_told {words : Str → Option Str} {i k : Nat} {te fE : Addr} {fd : FuncData} {body : List Stmt} {mb : MSt} {np p1 p2 p3 p4 pos pos' : Pos} (hs : X.stack = X.env :: X.outer) (hf : X.env.frame = some X.env.locals) (hN : X.N.Nodup) (hi : X.N[i]? = some ("e" : Str)) (hln : X.env.kindOf "e" = some .local)
    (gT : Gl X "TellError") (mT : X.mg "TellError" = some (.ref te)) (D : ErrDef X.prog X.w X.K X.mg X.base k fE fd) (room : RoomH k X.A) (B : Binds X.K fd ["e"] []) (g : Gl X "_law_error") (m : X.mg "_law_error" = some (.ref fE)) (kp : PySem.W.keepIn X.K (.ref fE) = true)
    (tell : ∀ c r C, words c = some r → X.mg c = some (.ref C) → ErrCls X.K X.mg C r ∧ PySem.W.exmOne X.K (.ref C) (.ref te) = some true)
    (hb : ∀ (W : WX) (pn : List (Addr × Obj)) (xe : Value → Shared → Prop), L2N.Takes (X.tr pn xe) W → PassesOwn (model X.prog X.w) X.A X.env xe → PSsM (X.tr pn xe) (oR X.mg) (WE W) body mb) :
    PSM X (oR X.mg) E (.Try body [.ExceptHandler (some (.Name "TellError" np)) (some "e") [.Return (some (.Call (.Name "_law_error" p1) [.Name "e" p2] [] p3)) p4] pos'] [] [] pos) (sTold i words mb) := by
  have T := L2N.ps_try_as (pos := pos) (np := np) (pos' := pos') (Wout := fun _ _ _ _ => False) (tb := fun W => tSM X.K (oR X.mg) (WE W) mb) (ts := fun a cls d D σ H => tWord X.K X.mg i a cls d σ H D.rt) hs hf hN hi hln ⟨gT, by decide, .inl mT⟩
    (fun u s' x => by obtain ⟨_, _, _, _, _, _, _, _, _, _, _, _, _, _, _, _, no⟩ := x; exact no.elim) hb
    (fun a oe cls d pn zn hv => pss_one (ps_ret (pos := p4) (pe_word (p1 := p1) (p2 := p2) (p3 := p3) zn hv D room B g m kp hi (.inl hln))))
  refine PS.imp T fun D σ H ⟨av, β, s, μ, rl, sr, h⟩ => ⟨av, β, s, μ, rl, sr, ?_⟩
  unfold sTold at h
  cases e : mb s μ with
  | er c p s1 μ1 =>
    rw [e] at h
    cases p with
    | cons v vs => exact h.elim
    | nil =>
      simp only at h
      intro cls d σ' H' β' ex rl' sr' ⟨_, hd, C, hC, hcls⟩
      cases ew : words c with
      | none => rw [ew] at h; exact h.elim
      | some r =>
        rw [ew] at h
        simp only at h
        split at h
        case isFalse => exact h.elim
        rename_i ls
        obtain ⟨ec, exm⟩ := tell c r C ew hC
        subst hd hcls
        refine ⟨true, exm, fun _ a na => ?_, fun no => nomatch no⟩
        have li : i < σ'.length := by rw [← sr'.1]; exact ls
        exact ⟨List.getElem?_set_self li, C, r, _, β', μ1, rfl, rfl, ec, rl', fun H2 ex2 rl2 => h _ H2 β' (ex.trans ex2) rl2 .str_⟩
  | bad => rw [e] at h; exact h
  | nx s1 μ1 => rw [e] at h; exact h
  | rt v μ1 => rw [e] at h; exact h
  | bk s1 μ1 => rw [e] at h; exact h
  | ct s1 μ1 => rw [e] at h; exact h
end
end Mini

/-! M27: constants of the module that are numbers or texts, lists and tuples repeated. -/
namespace Mini
open PySem PySem.Spec PyProof.Rows L2
/-! ### numbers and texts of the module -/
def GlobV (mg : Str → Option Value) (x : Str) (pv : PV) : Prop := ∃ (v : V) (u : Value), mg x = some u ∧ RelV v u ∧ ∀ (G : Gx) (H : Hp) (β : List Addr), PRel G H β pv v
theorem globInt {mg : Str → Option Value} {x : Str} {i : Int} {t : Tok} (h : mg x = some (.int i t)) : GlobV mg x (.int i) := ⟨.int i, _, h, ⟨t, rfl⟩, fun _ _ _ => .int_⟩
theorem globStr {mg : Str → Option Value} {x z : Str} {t : Tok} (h : mg x = some (.str z t)) : GlobV mg x (.str z) := ⟨.str z, _, h, ⟨t, rfl⟩, fun _ _ _ => .str_⟩
section
variable {X : Cx} {XR : XRel} {E : L2.St → XK} {K : PySem.W.Frag}
theorem me_globV {x : Str} {pv : PV} {pos : Pos} (hg : Gl X x) (g : GlobV X.mg x pv) (hdb : (x == ("__debug__" : Str)) = false := by decide) : PM X XR E (.Name x pos) (mC pv) := by
  obtain ⟨v, u, hm, r, p⟩ := g
  exact PE.imp (pe_glob hg hm r hdb) fun σ H Q ⟨av, β, s, μ, rl, sr, h⟩ => h _ H β .refl rl (p _ H β)
/-! ### t * 1 is t -/
theorem tuple_mul_one (l : Addr) (items : Array Value) (n : Nat) (dd : Option Addr) (sl : Array (Option Value)) (u : Tok) :
    Meets (Builtin.«tuple.__mul__» ⟨[.ref l, .int 1 u], []⟩) (fun _ R s => s.heap.get? l = some { cls := .type "tuple", dict := dd, data := .seq items n, slots := sl } ∧ R (.ok (.ret (Value.ref l))) s) := by
  apply Meets.of_wp
  rintro prog w A R ⟨hp, g, d, tk, os⟩ ⟨hl, h⟩
  have idx := AutoSeq1.idx_int
  wp_walk using wpAny_loadPart' hl
  exact ⟨_, rfl, h⟩
def rRep1 (K : PySem.W.Frag) : R2 := fun x y H Q => ∃ l xs, x = .ref l ∧ y = .int 1 ∧ SqT K H l xs ∧ Q (.ref l) H
theorem op_rep1 : OpR X (binaryOp .Mult) (rRep1 X.K) := by
  rintro pins s σ H x y v u Q I rx ry ⟨l, xs, rfl, rfl, sq, q⟩
  have : v = .ref l := rx
  subst this
  obtain ⟨t, rfl⟩ := ry
  obtain ⟨its, r, ⟨⟨cls, dd, data, sl⟩, ho, hc, n, hd⟩, _⟩ := I.tuple sq
  simp only at hc hd
  subst hc hd
  have isT : s.TypeIs (.ref l) "tuple" := ⟨_, ho, rfl⟩
  have mul := call_meets F.slot_tuple_mul isT F.entry_tuple_mul (F.args_tuple_mul_2 (.ref l) (.int 1 t)) (tuple_mul_one l its.toArray n dd sl t) (prog := X.prog) (w := X.w) (A := X.A) (Q := EP X pins σ Q) (E := X.xe) ⟨ho, ⟨V.ref l, H, I, rfl, q⟩⟩
  have rmul := call_meets F.slot_int_rmul (typeIs_int s 1 t) F.entry_int_rmul (F.args_int_rmul_2 _ _) (int_rmul_tuple 1 t l its.toArray n dd sl) (prog := X.prog) (w := X.w) (A := X.A) (E := X.xe) (Q := fun v s' => v = .notImplemented ∧ s' = s) ⟨ho, rfl, rfl⟩
  apply wpAny_binaryOp_repeat_ref (T := "tuple") (U := "int") (by decide) isT (fun s' => typeIs_int s' 1 t) noFill_tuple_mul F.fills_int_mul F.slot_int_rmul repeat_tuple F.slot_int_index.lookup
  refine wpAny_mono rmul (fun v s' ⟨e1, e2⟩ => ?_) fun _ _ e => e
  subst e1 e2
  exact ⟨rfl, isT, mul⟩
/-- xs * k, t * k, i * j -/
def fRep (v w : PV) (μ : MH) : R PV := match w with
  | .int k => match v with
    | .int i => fMul (.int i) (.int k) μ
    | _ => match seqT v with
      | some xs => if k = 1 then .ok v μ else if xs ≠ [] ∧ 2 ≤ k ∧ okRange k = true ∧ k ≤ 1000 ∧ xs.length ≤ 1000 then .ok (.tup (List.replicate k.toNat xs).flatten) μ else .bad
      | none => match lstM v μ with
        | some xs => if okRange k = true ∧ xs.length * k.toNat ≤ sizeLine then .ok (.frl (List.replicate k.toNat xs).flatten) μ else .bad
        | none => .bad
  | _ => .bad
def rRepA (K : PySem.W.Frag) : R2 := fun x y H Q => rI CMulW (fun i j => .int (i * j)) x y H Q ∨ rRep1 K x y H Q ∨ rRepT K x y H Q ∨ rRep x y H Q
theorem op_repA : OpR X (binaryOp .Mult) (rRepA X.K) := op_mulW.or (op_rep1.or (op_repT.or op_rep))
theorem PRels.rep {G : Gx} {H : Hp} {β : List Addr} {xs : List PV} {vs : List V} (p : PRels G H β xs vs) : ∀ n, PRels G H β (List.replicate n xs).flatten (List.replicate n vs).flatten
  | 0 => by simpa using PRels.nil
  | n + 1 => by
    simp only [List.replicate_succ, List.flatten_cons]
    exact p.app (p.rep n)
theorem om_rep : OpM K XR fRep (rRepA K) := by
  intro av E H β μ v w x y Q rl pv pw h
  unfold fRep at h
  split at h
  case h_2 => exact h.elim
  rename_i k
  have ey := int_inv pw
  subst ey
  split at h
  · exact .inl (om_mul _ _ _ _ _ _ _ _ _ _ rl pv pw h)
  split at h
  · rename_i xs e
    obtain ⟨a, vs, rfl, sq, ps⟩ := seqT_ok pv e
    split at h
    · rename_i e1
      subst e1
      exact .inr (.inl ⟨a, vs, rfl, rfl, sq, ok_here h rl pv⟩)
    · split at h
      · rename_i c
        obtain ⟨c1, c2, c3, c4, c5⟩ := c
        refine .inr (.inr (.inl ⟨a, k, vs, rfl, rfl, sq, fun z => c1 ?_, c2, c4, by rw [← ps.length]; exact c5, new_tup rl (ps.rep _) h⟩))
        exact List.length_eq_zero_iff.mp (by rw [ps.length, z]; rfl)
      · exact h.elim
  · split at h
    · rename_i xs e
      obtain ⟨a, vs, rfl, at_, ps⟩ := lstM_ok rl pv e
      split at h
      · rename_i c
        have c1 := okRange_ok c.1
        exact .inr (.inr (.inr ⟨a, k, vs, rfl, rfl, at_, by omega, by omega, by rw [← ps.length]; exact c.2, new_frl rl (ps.rep _) h⟩))
      · exact h.elim
    · exact h.elim
end
end Mini

/-! M28: a def that returns a new dict: the caller reads it only (frozen). -/
namespace Mini
open PySem PySem.Spec PyProof.Rows L2
/-- a thing that no value's own reading names: a dict that may change -/
def IsDct (H : Hp) (a : Addr) : Prop := (∃ kvs, H a = some (.dK kvs)) ∨ ∃ kvs, H a = some (.dT kvs)
section
variable {K : Gx} {H : Hp} {β : List Addr} {a : Addr} {o : HO} {μ : MH}
theorem IsDct.ne {b : Addr} {u : HO} (d : IsDct H a) (h : H b = some u) (n1 : ∀ k, u ≠ .dK k) (n2 : ∀ k, u ≠ .dT k) : b ≠ a := by
  rintro rfl
  rcases d with ⟨k, e⟩ | ⟨k, e⟩
  · rw [e] at h; cases h; exact n1 k rfl
  · rw [e] at h; cases h; exact n2 k rfl
theorem upd_keep {b : Addr} {u : HO} (d : IsDct H a) (h : H b = some u) (n1 : ∀ k, u ≠ .dK k) (n2 : ∀ k, u ≠ .dT k) : upd H a o b = some u := by
  rw [upd_ne (d.ne h n1 n2)]; exact h
theorem FrD.upd_ {b : Addr} {t : Bool} {ks : List (List Key)} {vs : List V} (d : IsDct H a) (h : FrD H b t ks vs) : FrD (upd H a o) b t ks vs := by
  obtain ⟨ob, h⟩ := h
  refine ⟨ob, ?_⟩
  cases t
  · obtain ⟨kvs, e, r⟩ := h; exact ⟨kvs, upd_keep d e (by simp) (by simp), r⟩
  · obtain ⟨kvs, e, r⟩ := h; exact ⟨kvs, upd_keep d e (by simp) (by simp), r⟩
mutual
theorem PRel.upd_ (d : IsDct H a) : ∀ (v : PV) {x : V}, PRel K H β v x → PRel K (upd H a o) β v x
  | .non, x, h => by unfold PRel at h ⊢; exact h
  | .bl b, x, h => by unfold PRel at h ⊢; exact h
  | .int i, x, h => by unfold PRel at h ⊢; exact h
  | .str s, x, h => by unfold PRel at h ⊢; exact h
  | .op v, x, h => by unfold PRel at h ⊢; exact h
  | .ref n, x, h => by unfold PRel at h ⊢; exact h
  | .tup xs, x, h => by
    unfold PRel at h ⊢
    obtain ⟨b, vs, e1, ⟨h1, n⟩, h2⟩ := h
    exact ⟨b, vs, e1, ⟨upd_keep d h1 (by simp) (by simp), n⟩, PRels.upd_ d xs h2⟩
  | .frl xs, x, h => by
    unfold PRel at h ⊢
    obtain ⟨b, vs, e1, ⟨h1, n⟩, h2⟩ := h
    exact ⟨b, vs, e1, ⟨upd_keep d h1 (by simp) (by simp), n⟩, PRels.upd_ d xs h2⟩
  | .scr xs, x, h => by
    unfold PRel at h ⊢
    obtain ⟨b, vs, e1, h1, h2⟩ := h
    refine ⟨b, vs, e1, ?_, PRels.upd_ d xs h2⟩
    rcases h1 with ⟨h1 | ⟨ob, h1⟩, n⟩ | h1
    · exact .inl ⟨.inl (upd_keep d h1 (by simp) (by simp)), n⟩
    · exact .inl ⟨.inr ⟨ob, upd_keep d h1 (by simp) (by simp)⟩, n⟩
    · exact .inr h1
  | .ctp xs, x, h => by
    unfold PRel at h ⊢
    obtain ⟨b, vs, e1, h1, h2⟩ := h
    refine ⟨b, vs, e1, ?_, PRels.upd_ d xs h2⟩
    rcases h1 with ⟨⟨ob, h1, hc⟩, n⟩ | h1
    · exact .inl ⟨⟨ob, upd_keep d h1 (by simp) (by simp), hc⟩, n⟩
    · exact .inr h1
  | .frd t ks xs, x, h => by
    unfold PRel at h ⊢
    obtain ⟨b, vs, e1, ⟨h1, n⟩, h2⟩ := h
    exact ⟨b, vs, e1, ⟨h1.upd_ d, n⟩, PRels.upd_ d xs h2⟩
theorem PRels.upd_ (d : IsDct H a) : ∀ (v : List PV) {x : List V}, PRels K H β v x → PRels K (upd H a o) β v x
  | [], x, h => by unfold PRels at h ⊢; exact h
  | v :: vs, x, h => by
    unfold PRels at h ⊢
    obtain ⟨y, ys, e1, h1, h2⟩ := h
    exact ⟨y, ys, e1, PRel.upd_ d v h1, PRels.upd_ d vs h2⟩
end
theorem Rl.upd_ (d : IsDct H a) (n : a ∉ β) (rl : Rl K H β μ) : Rl K (upd H a o) β μ where
  len := rl.len
  nd := rl.nd
  avt b hb q := by
    by_cases e : b = a
    · rw [e, upd_same] at q; cases q
    · rw [upd_ne e] at q; exact rl.avt b hb q
  obj i b m h1 h2 := by
    have ne : b ≠ a := fun e => n (by rw [← e]; exact List.mem_of_getElem? h1)
    have q := rl.obj i b m h1 h2
    cases m with
    | lst xs => obtain ⟨vs, z, p⟩ := q; exact ⟨vs, by rw [upd_ne ne]; exact z, PRels.upd_ d _ p⟩
    | dK xs => obtain ⟨vs, z, p⟩ := q; exact ⟨vs, by rw [upd_ne ne]; exact z, p.1, PRels.upd_ d _ p.2⟩
    | dT xs => obtain ⟨vs, z, p⟩ := q; exact ⟨vs, by rw [upd_ne ne]; exact z, p.1, PRels.upd_ d _ p.2⟩
end
/-- the entries of a dict that has come, its keys, its values -/
def dctAt (μ : MH) (k : Nat) : Option (Bool × List (List Key) × List PV) := match μ[k]? with
  | some (.dK kvs) => some (false, kvs.map (fun p => [p.1]), kvs.map (·.2))
  | some (.dT kvs) => some (true, kvs.map (·.1), kvs.map (·.2))
  | _ => none
/-- f's worth where its new dict is only read by the caller -/
def frzF (f : MF) : MF := fun args μ => match f args μ with
  | .ok (.ref k) ν => match dctAt ν k with
    | some (t, ks, xs) => if μ.length ≤ k ∧ keepOk μ ν = true ∧ PV.los μ.length xs = true then .ok (.frd t ks xs) (ν.take μ.length) else .bad
    | none => .bad
  | _ => .bad
def spD (K : PySem.W.Frag) (XR : XRel) (f : MF) : Sp := fun vs H Q E => ∃ av β μ args, Rl ⟨K, av⟩ H β μ ∧ PRels ⟨K, av⟩ H β args vs ∧ OutOk ⟨K, av⟩ XR H β E Q (frzF f args μ)
def thenFr (Q : VK) : VK := fun v H' => ∃ d u, v = .ref d ∧ H' d = some u ∧ Mut (some u) ∧ ∀ od, Q v (upd H' d (.frz od u))
theorem spD_spM {K : PySem.W.Frag} {XR : XRel} {f : MF} {vs : List V} {H : Hp} {Q : VK} {E : XK} (h : spD K XR f vs H Q E) : spM K XR f vs H (thenFr Q) E := by
  obtain ⟨av, β, μ, args, rl, ps, h⟩ := h
  refine ⟨av, β, μ, args, rl, ps, ?_⟩
  unfold frzF at h
  cases e : f args μ with
  | bad => rw [e] at h; exact h.elim
  | err c p ν => rw [e] at h; exact h.elim
  | ok v0 ν =>
    rw [e] at h
    cases v0 <;> first
      | exact h.elim
      | skip
    rename_i k
    simp only at h
    split at h
    case h_2 => exact h.elim
    rename_i t ks xs ed
    split at h
    case isFalse => exact h.elim
    rename_i c
    obtain ⟨hk, keep, lo⟩ := c
    unfold keepOk at keep
    rw [Bool.and_eq_true, decide_eq_true_eq] at keep
    obtain ⟨e1, dr⟩ := drops_clean keep.1 keep.2
    intro x H' β' ex rl' p
    unfold PRel at p
    obtain ⟨a, rfl, ea⟩ := p
    have len : (ν.take μ.length).length = μ.length := by rw [List.length_take]; exact Nat.min_eq_left keep.1
    obtain ⟨ex1, rl1⟩ := dr.ok rl ex (by rw [← e1]; exact rl')
    rw [len] at ex1 rl1
    have new : H a = none ∧ a ∉ β'.take μ.length := by
      obtain ⟨nw, eb, fresh⟩ := ex.pre
      constructor
      · refine fresh a ?_
        rw [eb, List.getElem?_append_right (by rw [rl.len]; exact hk)] at ea
        exact List.mem_of_getElem? ea
      · intro hm
        obtain ⟨j, hj⟩ := List.mem_iff_getElem?.mp hm
        rw [List.getElem?_take] at hj
        split at hj
        · rename_i lj
          obtain ⟨l1, q1⟩ := List.getElem?_eq_some_iff.mp hj
          obtain ⟨l2, q2⟩ := List.getElem?_eq_some_iff.mp ea
          have := (List.getElem_inj rl'.nd).mp (q1.trans q2.symm)
          omega
        · cases hj
    have fin : ∀ (u : HO), IsDct H' a → H' a = some u → ∀ od, (∀ vs, FrD (upd H' a (.frz od u)) a t ks vs → PRels ⟨K, av⟩ (upd H' a (.frz od u)) (β'.take μ.length) xs vs → Q (.ref a) (upd H' a (.frz od u))) := fun u d hu od vs fr ps =>
      h (.ref a) _ (β'.take μ.length) ⟨ex1.pre, fun b o eb nb => by rw [upd_ne (fun z => by rw [z, new.1] at eb; cases eb)]; exact ex1.stay b o eb nb, fun b eb => ex1.live b (by
        by_cases z : b = a
        · rw [z, upd_same] at eb; cases eb
        · rw [upd_ne z] at eb; exact eb)⟩ (rl1.upd_ d new.2) (by
          unfold PRel
          exact ⟨a, vs, rfl, ⟨fr, new.2, fun hm => rl.avt a hm new.1⟩, ps⟩)
    unfold dctAt at ed
    split at ed
    · rename_i kvs em
      cases ed
      obtain ⟨kvs', z, pk, pv⟩ := rl'.obj k a _ ea em
      refine ⟨a, _, rfl, z, trivial, fun od => fin _ (.inl ⟨_, z⟩) z od (kvs'.map (·.2)) ⟨od, kvs', upd_same, ?_, rfl⟩ ?_⟩
      · have := congrArg (List.map fun x : Key => [x]) pk
        simpa [List.map_map, Function.comp_def] using this
      · have := PRels.take_ (n := μ.length) _ pv lo
        exact PRels.upd_ (.inl ⟨_, z⟩) _ this
    · rename_i kvs em
      cases ed
      obtain ⟨kvs', z, pk, pv⟩ := rl'.obj k a _ ea em
      refine ⟨a, _, rfl, z, trivial, fun od => fin _ (.inr ⟨_, z⟩) z od (kvs'.map (·.2)) ⟨od, kvs', upd_same, pk, rfl⟩ ?_⟩
      have := PRels.take_ (n := μ.length) _ pv lo
      exact PRels.upd_ (.inr ⟨_, z⟩) _ this
    · cases ed
section
variable {X : Cx} {XR : XRel} {E : L2.St → XK} {k j : Nat} {x : Str} {p pos : Pos} {e : Expr} {es : List Expr} {f : MF} {m : MEs}
/-- a call of a def that returns a new dict, read only from now on -/
theorem me_callD (F : DefOk X.prog X.w X.K X.mg X.base x k (spM X.K XR f)) (hr : RoomG j X.A) (hk : k ≤ j) (hg : Gl X x) (hx : ∀ σ, PassesAt (L2N.CX X.prog X.w) X σ (E σ)) (ha : PMs X XR E (e :: es) m)
    (hdb : (x == ("__debug__" : Str)) = false := by decide) (he : starEach (e :: es) X.env = (false, eval e X.env) :: starEach es X.env := by rfl) (hpl : (backTo pos (starEach es X.env)).any (·.1) = false := by rfl) :
    PM X XR E (.Call (.Name x p) (e :: es) [] pos) (mCallP (frzF f) m) where
  run pins z σ H Q I h := by
    obtain ⟨fa, fd, ps, hm, hkp, hb, F⟩ := F.ex
    obtain ⟨av, β, s, μ, rl, sr, h⟩ := h
    have got := ha.run pos pins z σ H (fun vs H1 => spD X.K XR f vs H1 Q (E σ)) I
      (tms_e rl sr h fun v μ' y H' β' _ _ rl' _ p q => ⟨av, β', μ', v, rl', p, q⟩)
    apply wpAny_Call_Name_kw
    apply ld_glob I hg hm _ hdb
    apply PySem.W.callWith_K (h₀ := X.base) I.ok.mod.kin hkp _ he hpl
    apply thn got
    rintro us z1 ⟨vs, H1, I1, r, q⟩
    refine ⟨I1.kIn, ?_⟩
    apply thn (go_call (F.mono hk) hb hr (hx σ) I1 r (spD_spM q))
    rintro u z2 ⟨v, H2, I2, rv, d, o, rfl, at_, mu, q2⟩
    obtain ⟨od, I3⟩ := I2.lock at_ mu
    exact ⟨.ref d, _, I3, rv, q2 od⟩
end
end Mini

/-! M29: tuples whose object is known: tuple(xs), t + u, slices, and the methods index, count. -/
namespace Mini
open PySem PySem.Spec PyProof.Rows L2
section
variable {X : Cx} {XR : XRel} {E : L2.St → XK} {K : PySem.W.Frag}
/-- a new tuple, whose object is known, is promised -/
def newC (Q : VK) (H : Hp) (xs : List V) : Prop := ∀ (p : Addr) (o : Obj), H p = none → o.cls = .type "tuple" → o.dict = none → Q (.ref p) (upd H p (.frz o (.tup xs)))
theorem newC_at {pins : List (Addr × Obj)} {σ : L2.St} {H : Hp} {s : Shared} {us : List Value} {xs : List V} {Q : VK} (I : Inv X pins σ H s) (r : Vals xs us) (z : xs.length ≤ sizeLine) (q : newC Q H xs) :
    EP X pins σ Q (.ref s.heap.objs.size) { s with heap := s.heap.push (tupO us) } :=
  ⟨.ref s.heap.objs.size, _, ctp_new I r z, rfl, q _ (tupO us) (I.hok.fresh (Nat.le_refl _)) rfl rfl⟩
/-- tuple(xs), tuple(t) -/
def rTupC (K : PySem.W.Frag) : List V → Hp → VK → Prop := fun xs H Q => ∃ p ys, xs = [.ref p] ∧ ((SqL K H p ys ∧ newC Q H ys) ∨ (SqT K H p ys ∧ Q (.ref p) H))
theorem cr_tupC : CallR X (.type "tuple") (rTupC X.K) := by
  rintro pins s σ H xs us Q I r ⟨p, ys, rfl, h⟩
  rw [Vals.ref1 r]
  rcases h with ⟨sq, q⟩ | ⟨sq, q⟩
  · obtain ⟨its, rv, pl, z⟩ := I.list sq
    exact call_tuple_list pl.isList (fun h' keep => newC_at (I.kept (t' := s.toks) keep) rv z q) (by rw [List.size_toArray, ← rv.length]; exact z)
  · obtain ⟨its, rv, pl, z⟩ := I.tuple sq
    exact call_tuple_same pl ⟨.ref p, H, I, rfl, q⟩
/-- t + u -/
def rCatC (K : PySem.W.Frag) : R2 := fun x y H Q => ∃ a b xs ys, x = .ref a ∧ y = .ref b ∧ SqT K H a xs ∧ SqT K H b ys ∧ xs.length + ys.length ≤ sizeLine ∧ (xs = [] → Q (.ref b) H) ∧ (xs ≠ [] → ys = [] → Q (.ref a) H) ∧ (xs ≠ [] → ys ≠ [] → newC Q H (xs ++ ys))
theorem op_catC : OpR X (binaryOp .Add) (rCatC X.K) := by
  rintro pins s σ H x y v u Q I rx ry ⟨a, b, xs, ys, rfl, rfl, sa, sb, z, q0, q1, q2⟩
  have ea : v = .ref a := rx
  have eb : u = .ref b := ry
  subst ea eb
  obtain ⟨vs, r1, p1, _⟩ := I.tuple sa
  obtain ⟨ws, r2, p2, _⟩ := I.tuple sb
  by_cases e : xs = []
  · subst e
    cases r1
    exact cat_tup0 p1 p2 ⟨.ref b, H, I, rfl, q0 rfl⟩
  · apply HT.cat_tup p1 p2 (fun n => e (r1.nil_iff.mp n))
    · exact fun n => ⟨.ref a, H, I, rfl, q1 e (r2.nil_iff.mp n)⟩
    · exact fun n => newC_at I (r1.append r2) (by rw [List.length_append]; exact z) (q2 e fun m => n (r2.nil_iff.mpr m))
    · rw [← r1.length, ← r2.length]; exact z
/-- t[lo:hi] -/
def rSlC (K : PySem.W.Frag) : V → Option Int → Option Int → Hp → VK → Prop := fun x lo hi H Q => ∃ a xs, x = .ref a ∧ SqT K H a xs ∧
  (HT.sIx xs.length 0 lo = 0 ∧ HT.sIx xs.length xs.length hi = xs.length → Q (.ref a) H) ∧ (¬ (HT.sIx xs.length 0 lo = 0 ∧ HT.sIx xs.length xs.length hi = xs.length) → newC Q H (cutV xs lo hi))
theorem sl_tupC : SlR X (rSlC X.K) := by
  rintro pins s σ H x v vl vu lo hi sl Q I rx hs pl pu ⟨a, xs, rfl, sq, q1, q2⟩
  have ea : v = .ref a := rx
  subst ea
  obtain ⟨its, r, ht, z⟩ := I.tuple sq
  have len : its.toArray.size = xs.length := by rw [List.size_toArray, r.length]
  refine ⟨"tuple", _, PyProof.Rows.slot_tuple_getitem.lookup, ht.typeIs, ?_⟩
  by_cases w : HT.sIx xs.length 0 lo = 0 ∧ HT.sIx xs.length xs.length hi = xs.length
  · exact getItem_tuple_whole ht hs pl pu (by rw [len]; exact w) ⟨.ref a, H, I, rfl, q1 w⟩
  · apply HT.getItem_tuple_cut ht hs pl pu (by rw [len]; exact w) _ (by rw [len]; exact z)
    rw [len]
    exact newC_at I ((r.drop _).take _) (Nat.le_trans (cutV_length xs lo hi) z) (q2 w)
/-! ### t.index(x), t.count(x), of data -/
theorem tup_data {pins : List (Addr × Obj)} {σ : L2.St} {H : Hp} {s : Shared} {a : Addr} {ds : List PyData} (I : Inv X pins σ H s) (h : Dp X.K H (V.ref a) (.tuple ds)) (sh : SeqAt.shaped (.tuple ds) = true) :
    ∃ (its : List Value) (as : List Addr) (n : Nat) (dd : Option Addr) (sl : Array (Option Value)), s.heap.get? a = some { cls := .type "tuple", dict := dd, data := .seq its.toArray n, slots := sl } ∧ ReadsAll s.heap its ds as ∧ PyData.canLayAll0 ds = true ∧
      its.map (SeqAt.readOf s.heap) = ds ∧ its.length ≤ sizeLine := by
  cases h with
  | tup sq all =>
    obtain ⟨its, rv, ⟨⟨cls, dd, data, sl⟩, e, c, n, d⟩, z⟩ := I.tuple sq
    simp only at c d
    subst c d
    obtain ⟨as, rd⟩ := Dp.readsAll I ds _ its all rv
    have lay : PyData.canLayAll0 ds = true := SeqAt.canLay_of_shaped sh
    exact ⟨its, as, n, dd, sl, e, rd, lay, SeqAt.readsAll_map ds its as lay rd, by rw [← rv.length]; exact z⟩
def rIndexC (K : PySem.W.Frag) : V → List V → Hp → VK → Prop := fun x xs H Q => ∃ (a : Addr) (y : V) (d : PyData) (ds : List PyData) (j : Nat), x = .ref a ∧ xs = [y] ∧ Dp K H (V.ref a) (.tuple ds) ∧ Dp K H y d ∧ SeqAt.shaped (.tuple ds) = true ∧ SeqAt.shaped d = true ∧
  (ds.map fun z => PyData.eqv z d)[j]? = some true ∧ (∀ m, m < j → (ds.map fun z => PyData.eqv z d)[m]? = some false) ∧ Q (.int (j : Nat)) H
theorem mt_indexC (hu : X.A.units + 65 < cLine) : MtR X "tuple.index" (rIndexC X.K) := by
  rintro pins s σ H x xs v us Q I rx rxs ⟨a, y, d, ds, j, rfl, rfl, ht, hy, st, sd, hj, no, q⟩
  have ea : v = .ref a := rx
  subst ea
  obtain ⟨u, rfl, ru⟩ := vals1 rxs
  obtain ⟨bs, rdy⟩ := Dp.reads I d y u hy ru
  obtain ⟨its, as, n, dd, sl, e, rd, lay, mp, z⟩ := tup_data I ht st
  have room : X.A.units + 1 + min (PyData.depthAll ds) d.depth < cLine := room_in_shaped sd hu
  have len : its.length = ds.length := by rw [← mp, List.length_map]
  have lj : j < its.length := by
    have := (List.getElem?_eq_some_iff.mp hj).1
    rw [List.length_map] at this
    omega
  have val : ∀ m (hm : m < its.length), (ds.map fun z => PyData.eqv z d)[m]? = some (PyData.eqv (SeqAt.readOf s.heap its[m]) d) := fun m hm => by
    rw [← mp, List.map_map, List.getElem?_map, List.getElem?_eq_getElem hm]
    rfl
  have at_ : ∀ m (hm : m < its.toArray.size), SeqAt.EqAt X.A.in1 s its.toArray[m] u (((ds.map fun z => PyData.eqv z d)[m]?).getD false) := fun m hm => by
    have hm' : m < its.length := by simpa using hm
    rw [val m hm']
    have := SeqAt.items_eqAt (A := X.A) (vs := its.toArray) rd rdy lay (SeqAt.canLay_of_shaped sd) room its.toArray[m] (by simp)
    simpa using this
  have isT : s.TypeIs (.ref a) "tuple" := ⟨_, e, rfl⟩
  apply call_meets F.slot_tuple_index isT F.entry_tuple_index (F.args_tuple_index_2 _ _)
    (SeqAt.tuple_index2_found a its.toArray n dd sl u (fun m => ((ds.map fun z => PyData.eqv z d)[m]?).getD false) j (by simpa using lj) (Nat.zero_le _) (by simpa using lj) (by rw [hj]; rfl) (fun m _ _ hm => by rw [no m hm]; rfl))
  exact ⟨e, at_, .int (j : Nat), H, I.tok _, ⟨_, rfl⟩, q⟩
def rCountC (K : PySem.W.Frag) : V → List V → Hp → VK → Prop := fun x xs H Q => ∃ (a : Addr) (y : V) (d : PyData) (ds : List PyData), x = .ref a ∧ xs = [y] ∧ Dp K H (V.ref a) (.tuple ds) ∧ Dp K H y d ∧ SeqAt.shaped (.tuple ds) = true ∧ SeqAt.shaped d = true ∧
  Q (.int (ds.countP fun z => PyData.eqv z d : Nat)) H
theorem mt_countC (hu : X.A.units + 65 < cLine) : MtR X "tuple.count" (rCountC X.K) := by
  rintro pins s σ H x xs v us Q I rx rxs ⟨a, y, d, ds, rfl, rfl, ht, hy, st, sd, q⟩
  have ea : v = .ref a := rx
  subst ea
  obtain ⟨u, rfl, ru⟩ := vals1 rxs
  obtain ⟨bs, rdy⟩ := Dp.reads I d y u hy ru
  obtain ⟨its, as, n, dd, sl, e, rd, lay, mp, z⟩ := tup_data I ht st
  have room : X.A.units + 1 + min (PyData.depthAll ds) d.depth < cLine := room_in_shaped sd hu
  have isT : s.TypeIs (.ref a) "tuple" := ⟨_, e, rfl⟩
  apply call_meets F.slot_tuple_count isT F.entry_tuple_count (F.args_tuple_count_2 _ _) (SeqAt.tuple_countAt a its.toArray n dd sl u fun w => PyData.eqv (SeqAt.readOf s.heap w) d)
  refine ⟨e, SeqAt.items_eqAt (A := X.A) (vs := its.toArray) rd rdy lay (SeqAt.canLay_of_shaped sd) room, .int (ds.countP fun z => PyData.eqv z d : Nat), H, I.tok _, ⟨s.toks, ?_⟩, q⟩
  rw [← mp, List.countP_map]
  rfl
end
end Mini

/-! M30: t[::-1]; [f, g, h][i](..); D.get(x, y) of a dict of the module. -/
namespace Mini
open PySem PySem.Spec PyProof.Rows L2
section
variable {prog : Program} {w : World} {A : Around} {E : Value → Shared → Prop} {s : Shared}
theorem filterMap_all {α β : Type} {f : α → Option β} {g : α → β} : ∀ {l : List α}, (∀ k ∈ l, f k = some (g k)) → l.filterMap f = l.map g
  | [], _ => rfl
  | k :: l, h => by rw [List.filterMap_cons_some (h k List.mem_cons_self), filterMap_all fun j hj => h j (List.mem_cons_of_mem _ hj), List.map_cons]
theorem back_items (items : Array Value) : (List.filterMap (fun k : Nat => items[((Builtin.Slice.sliceAdjust none none (-1) (items.size : Int)).fst + (k : Int) * -1).toNat]?)
    (List.range (Builtin.Slice.slicePlaces (Builtin.Slice.sliceAdjust none none (-1) (items.size : Int)).fst (Builtin.Slice.sliceAdjust none none (-1) (items.size : Int)).snd (-1)))).toArray = items.toList.reverse.toArray := by
  have e1 : (Builtin.Slice.sliceAdjust none none (-1) (items.size : Int)) = ((items.size : Int) - 1, -1) := rfl
  have e2 : Builtin.Slice.slicePlaces ((items.size : Int) - 1) (-1) (-1) = items.size := by
    unfold Builtin.Slice.slicePlaces
    rw [if_neg (by decide)]
    by_cases h : ((items.size : Int) - 1) > -1
    · rw [if_pos h]
      simp only [Int.neg_neg, Int.ediv_one]
      omega
    · rw [if_neg h]
      omega
  rw [e1]
  simp only
  rw [e2]
  congr 1
  have all : ∀ k ∈ List.range items.size, items[((items.size : Int) - 1 + (k : Int) * -1).toNat]? = some (items.toList.reverse.getD k .none) := fun k hk => by
    have lk : k < items.size := List.mem_range.mp hk
    have ek : ((items.size : Int) - 1 + (k : Int) * -1).toNat = items.size - 1 - k := by omega
    rw [ek, List.getD_eq_getElem?_getD, List.getElem?_reverse (by simpa using lk)]
    have : items.size - 1 - k < items.size := by omega
    simp [this]
  rw [filterMap_all all]
  apply List.ext_getElem
  · simp
  · intro i h1 h2
    simp at h1
    simp [h1]
theorem tup_rev (l b : Addr) (items : Array Value) (n : Nat) (dd : Option Addr) (sl sl2 : Array (Option Value)) (u : Tok) (dd2 : Option Addr) (hz : items.size ≤ sizeLine) :
    Meets (Builtin.«tuple.__getitem__» ⟨[.ref l, .ref b], []⟩)
      (fun A R s => s.heap.get? l = some { cls := .type "tuple", dict := dd, data := .seq items n, slots := sl } ∧ s.heap.get? b = some { cls := .type "slice", dict := dd2, data := .fields #[.none, .none, .int (-1) u], slots := sl2 } ∧
        R (.ok (.ret (.ref s.heap.objs.size))) { s with heap := s.heap.push { cls := .type "tuple", data := .seq items.toList.reverse.toArray } }) := by
  apply Meets.of_wp
  rintro prog w A R ⟨hp, g, d, tk, os⟩ ⟨hl, hb, h⟩
  have idx := AutoSeq1.idx_int
  wp_walk using wpAny_loadPart' hl, wpAny_loadPart' hb
  simp only [Option.getD_some]
  rw [back_items, if_neg (Nat.not_lt.mpr (by simpa using hz))]
  wp_walk
  exact ⟨_, rfl, h⟩
end
section
variable {X : Cx} {XR : XRel} {E : L2.St → XK} {K : PySem.W.Frag}
/-- t[::-1] -/
def tBack (K : PySem.W.Frag) (te : TE) : TE := fun σ H Q => te σ H fun x H1 => ∃ a xs, x = .ref a ∧ SqT K H1 a xs ∧ newC Q H1 xs.reverse
theorem pe_back {e : Expr} {te : TE} {k : Nat} {p1 p2 p3 pos : Pos} (he : PE X e te) : PE X (.Subscript e (.Slice none none (some (.UnaryOp .USub (.Constant (.int 1) k p1) p2)) p3) pos) (tBack X.K te) where
  run pins s σ H Q I h := by
    have minus : PE X (.UnaryOp .USub (.Constant (.int 1) k p1) p2) (tUn (rU fun i => .int (-i)) (tC (.int 1))) := pe_un un_neg pe_int
    apply Subscript_
    apply thn (he.run pins s σ H _ I h)
    rintro v s1 ⟨_, H1, I1, is, a, xs, rfl, sq, q⟩
    have : v = .ref a := is
    subst this
    apply wpAny_Slice
    rw [evalPart_none]
    apply wpAny_pure
    apply wpAny_pure
    rw [evalPart_some]
    apply thn (minus.run pins s1 σ H1 (fun z H2 => z = .int (-1) ∧ H2 = H1) I1 ⟨1, rfl, rfl, rfl⟩)
    rintro st s2 ⟨_, H2, I2, part, rfl, rfl⟩
    obtain ⟨t, rfl⟩ := part
    have at2 : (s2.heap.push { cls := .type "slice", data := .fields #[.none, .none, .int (-1) t] }).get? s2.heap.objs.size = some { cls := .type "slice", data := .fields #[.none, .none, .int (-1) t] } := Heap.get?_push_size _ rfl
    have I3 : Inv X pins σ H2 { s2 with heap := s2.heap.push { cls := .type "slice", data := .fields #[.none, .none, .int (-1) t] } } := I2.kept (t' := s2.toks) fun b o e => Heap.get?_push_of_some _ e
    obtain ⟨its, r, ⟨⟨cls, dd, data, sl⟩, e, c, n, d⟩, z⟩ := I3.tuple sq
    simp only at c d
    subst c d
    have isT : ({ s2 with heap := s2.heap.push { cls := .type "slice", data := .fields #[.none, .none, .int (-1) t] } } : Shared).TypeIs (.ref a) "tuple" := ⟨_, e, rfl⟩
    refine tail_any (ops := [.ref a, .ref s2.heap.objs.size]) isT PyProof.Rows.slot_tuple_getitem.lookup ?_ (by with_unfolding_all rfl)
    unfold getItem
    apply wpAny_holding
    apply wpAny_bind
    apply wpAny_sequenceKey isT (by decide)
    apply wpAny_bind
    apply wpAny_callSpecial?_slot (name := Str.ofString "__getitem__") isT F.slot_tuple_getitem
    apply call_meets F.slot_tuple_getitem isT F.entry_tuple_getitem (F.args_tuple_getitem_2 _ _) (tup_rev a s2.heap.objs.size its.toArray n dd sl #[] t none (by rw [List.size_toArray, ← r.length]; exact z))
    refine ⟨e, at2, ?_⟩
    exact wpAny_pure (newC_at I3 r.reverse (by rw [List.length_reverse]; exact z) q)
end
end Mini

/-! M31: [f, g, h][i](..); D.get(x, y) of a dict of the module; the operations of known tuples by values. -/
namespace Mini
open PySem PySem.Spec PyProof.Rows L2
section
variable {X : Cx} {XR : XRel} {E : L2.St → XK} {K : PySem.W.Frag}
/-- defs by their names: where they are, what they are worth -/
inductive Fns (X : Cx) (XR : XRel) (j : Nat) : List Expr → List Addr → List MF → Prop
  | nil : Fns X XR j [] [] []
  | cons {x : Str} {p : Pos} {k : Nat} {f : MF} {es : List Expr} {as : List Addr} {fs : List MF} {fa : Addr} (g : Gl X x) (hdb : (x == ("__debug__" : Str)) = false) (m : X.mg x = some (.ref fa)) (kp : PySem.W.keepIn X.K (.ref fa) = true)
      (ok : ∃ (fd : FuncData) (ps : List Str), Binds X.K fd ps [] ∧ FnG X.prog X.w X.K X.mg X.base j fa fd ps (spM X.K XR f)) (t : Fns X XR j es as fs) : Fns X XR j (.Name x p :: es) (fa :: as) (f :: fs)
theorem Fns.one {j k : Nat} {x : Str} {p : Pos} {f : MF} {es : List Expr} {as : List Addr} {fs : List MF} (D : DefOk X.prog X.w X.K X.mg X.base x k (spM X.K XR f)) (hk : k ≤ j) (g : Gl X x) (t : Fns X XR j es as fs) (hdb : (x == ("__debug__" : Str)) = false := by decide) :
    ∃ fa, Fns X XR j (.Name x p :: es) (fa :: as) (f :: fs) := by
  obtain ⟨fa, fd, ps, m, kp, B, F⟩ := D.ex
  exact ⟨fa, .cons (k := k) g hdb m kp ⟨fd, ps, B, F.mono hk⟩ t⟩
theorem pa_fns {j : Nat} {es : List Expr} {as : List Addr} {fs : List MF} (h : Fns X XR j es as fs) : PA X es (fun _ H Q => Q (as.map V.ref) H) := by
  induction h with
  | nil => exact pa_nil
  | cons g hdb m kp ok t ih => exact PA.imp (pa_cons (pe_glob (v := .ref _) g m rfl hdb) ih) fun σ H Q q => q
theorem Fns.at_ {j : Nat} {es : List Expr} {as : List Addr} {fs : List MF} (h : Fns X XR j es as fs) : ∀ {i : Nat} {f : MF}, fs[i]? = some f → ∃ fa, as[i]? = some fa ∧ PySem.W.keepIn X.K (.ref fa) = true ∧ ∃ (fd : FuncData) (ps : List Str), Binds X.K fd ps [] ∧ FnG X.prog X.w X.K X.mg X.base j fa fd ps (spM X.K XR f) := by
  induction h with
  | nil => intro i f e; simp at e
  | cons g hdb m kp ok t ih =>
    intro i f e
    cases i with
    | zero => simp at e; subst e; exact ⟨_, rfl, kp, ok⟩
    | succ i => exact ih (by simpa using e)
theorem Fns.len {j : Nat} {es : List Expr} {as : List Addr} {fs : List MF} (h : Fns X XR j es as fs) : as.length = fs.length ∧ es.length = fs.length := by
  induction h with
  | nil => exact ⟨rfl, rfl⟩
  | cons g hdb m kp ok t ih => exact ⟨by simp [ih.1], by simp [ih.2]⟩
/-- one of several defs, told by a number -/
def mCallI (fs : List MF) (mi : ME) (m : MEs) : ME := fun s μ => (mi s μ).bind fun v μ1 => match v with
  | .int i => match atI fs i with
    | some f => mCallP f m s μ1
    | none => .bad
  | _ => .bad
theorem me_callI {j : Nat} {ns : List Expr} {fs : List MF} {ix e : Expr} {es : List Expr} {mi : ME} {m : MEs} {p1 p2 pos : Pos} (T : ∃ as, Fns X XR j ns as fs) (few : fs.length ≤ 15) (hr : RoomG j X.A) (hx : ∀ σ, PassesAt (L2N.CX X.prog X.w) X σ (E σ))
    (hi : PM X XR E ix mi) (ha : PMs X XR E (e :: es) m) (plain : PlainIx ix := by exact fun _ _ => rfl) (he : starEach (e :: es) X.env = (false, eval e X.env) :: starEach es X.env := by rfl) (hpl : (backTo pos (starEach es X.env)).any (·.1) = false := by rfl) :
    PM X XR E (.Call (.Subscript (.List ns p1) ix p2) (e :: es) [] pos) (mCallI fs mi m) where
  run pins z σ H Q I h := by
    obtain ⟨as, T⟩ := T
    obtain ⟨av, β, s, μ, rl, sr, h⟩ := h
    have pick := pe_ix (pos := p2) ix_list (pe_lst (pos := p1) (pa_fns T)) hi plain
    show wpAny _ _ (do callWith pos (← eval (.Subscript (.List ns p1) ix p2) X.env) [] (backTo pos (starEach (e :: es) X.env)) (backToKw pos (keywordEach [] X.env))) _ _ _
    apply wpAny_bind
    have sz : (as.map V.ref).length ≤ sizeLine := by
      rw [List.length_map, T.len.1]
      exact Nat.le_trans few (by show 15 ≤ 16777216; decide)
    apply thn (pick.run pins z σ H (fun x H2 => ∃ (i : Int) (fa : Addr) (f : MF) (av : List Addr) (β : List Addr) (s : MS) (μ : MH), x = .ref fa ∧ PySem.W.keepIn X.K (.ref fa) = true ∧ (∃ (fd : FuncData) (ps : List Str), Binds X.K fd ps [] ∧ FnG X.prog X.w X.K X.mg X.base j fa fd ps (spM X.K XR f)) ∧
      Rl ⟨X.K, av⟩ H2 β μ ∧ SRel ⟨X.K, av⟩ H2 β s σ ∧ OutOk ⟨X.K, av⟩ XR H2 β (E σ) Q (mCallP f m s μ)) I ⟨sz, fun p fresh => ?_⟩)
    · rintro u z1 ⟨x, H1, I1, ru, i, fa, f, av, β, s, μ, rfl, kp, ⟨fd, ps, B, F⟩, rl, sr, h⟩
      have : u = .ref fa := ru
      subst this
      have got := ha.run pos pins z1 σ H1 (fun vs H1 => spM X.K XR f vs H1 Q (E σ)) I1 (tms_e rl sr h fun v μ' y H' β' _ _ rl' _ p q => ⟨av, β', μ', v, rl', p, q⟩)
      apply PySem.W.callWith_K (h₀ := X.base) I1.ok.mod.kin kp _ he hpl
      apply thn got
      rintro us z2 ⟨vs, H2, I2, r, q⟩
      exact ⟨I2.kIn, go_call F B hr (hx σ) I2 r q⟩
    · have ex0 := Ext.new rl fresh (.lst (as.map V.ref))
      refine tm_e (rl.new fresh _) (sr.ext ex0) (OutOk.ext ex0 h) fun v μ1 y H1 β1 hv ex1 rl1 sr1 pv q => ?_
      clear hv
      cases v <;> first
        | exact q.elim
        | skip
      rename_i i
      simp only at q
      cases ef : atI fs i with
      | none => rw [ef] at q; exact q.elim
      | some f =>
        rw [ef] at q
        unfold atI at ef
        cases en : ixN fs.length i with
        | none => rw [en] at ef; cases ef
        | some n =>
          rw [en] at ef
          obtain ⟨fa, ea, kp, ok⟩ := T.at_ (i := n) (f := f) (by simpa using ef)
          refine ⟨p, as.map V.ref, i, .ref fa, rfl, int_inv pv, .inl (.inl (ex1.stay p _ upd_same (rl.notMem fresh))), ?_, i, fa, f, _, _, _, _, rfl, kp, ok, rl1, sr1, q⟩
          unfold atI
          rw [List.length_map, T.len.1, en]
          simp [ea]
end
end Mini

/-! M32: D.get(x, y) of a dict of the module; the operations of known tuples by values. -/
namespace Mini
open PySem PySem.Spec PyProof.Rows L2
/-- a dict of the module with texts as keys and numbers as values, told at some words -/
def GlobD (K : PySem.W.Frag) (w : World) (mg : Str → Option Value) (x : Str) (tab : List (Str × Int)) (words : List Str) : Prop := ∃ (d : Addr) (es : Array DictEntry) (n : Nat), mg x = some (.ref d) ∧ KDict K w d es n ∧
  ∀ z ∈ words, match tab.lookup z with
    | some i => ∃ t, PySem.W.nsIn K d z = some (some (.int i t))
    | none => PySem.W.nsIn K d z = some none
def mKGet (tab : List (Str × Int)) (words : List Str) (a b : ME) : ME := fun s μ => (a s μ).bind fun v μ1 => (b s μ1).bind fun w μ2 => match v with
  | .str z => if words.contains z = true then (match tab.lookup z with
    | some i => .ok (.int i) μ2
    | none => .ok w μ2) else .bad
  | _ => .bad
section
variable {X : Cx} {XR : XRel} {E : L2.St → XK} {K : PySem.W.Frag}
theorem me_kget {x : Str} {tab : List (Str × Int)} {words : List Str} {e f : Expr} {ma mb : ME} {p apos cpos : Pos} (G : GlobD X.K X.w X.mg x tab words) (g : Gl X x) (ha : PM X XR E e ma) (hb : PM X XR E f mb) (hdb : (x == ("__debug__" : Str)) = false := by decide)
    (late : Late X (.Name x p) "get" apos [e, f] cpos := by exact fun h => wpAny_Call_method_late rfl rfl rfl rfl h) (two : starEach [e, f] X.env = [(false, eval e X.env), (false, eval f X.env)] := by rfl) :
    PM X XR E (.Call (.Attribute (.Name x p) "get" apos) [e, f] [] cpos) (mKGet tab words ma mb) where
  run pins z σ H Q I h := by
    obtain ⟨d, es, n, hm, D, told⟩ := G
    obtain ⟨av, β, s, μ, rl, sr, h⟩ := h
    apply late
    apply ld_glob I g hm _ hdb
    unfold MethodOn
    rw [two]
    refine ⟨"dict", "dict.get", F.plainAttrs_dict, F.slot_dict_get, F.type_dict_get, kd_type D I, fun b q => ?_, ?_⟩
    · cases q
      exact ⟨_, I.kIn d _ D.at_, rfl⟩
    · apply Calls.callWith_builtin rfl
      apply Calls.evalArgs_plain
      apply Calls.spliced_cons
      have t1 : tM X.K XR E ma σ H (fun v H1 => tM X.K XR E mb σ H1 fun w H2 => ∃ zz : Str, v = .str zz ∧ zz ∈ words ∧ (match tab.lookup zz with | some i => Q (.int i) H2 | none => Q w H2)) := by
        refine tm_e rl sr h fun v μ1 y H1 β1 hv1 ex1 rl1 sr1 pv q => ?_
        refine tm_e rl1 sr1 q fun w μ2 y2 H2 β2 hv2 ex2 rl2 sr2 pw q2 => ?_
        clear hv1 hv2
        cases v <;> first
          | exact q2.elim
          | skip
        rename_i zz
        simp only at q2
        split at q2
        · rename_i hw
          refine ⟨zz, str_inv pv, by simpa using hw, ?_⟩
          split at q2
          · exact ok_here q2 rl2 .int_
          · exact ok_here q2 rl2 pw
        · exact q2.elim
      apply thn (ha.run pins z σ H _ I t1)
      rintro u z1 ⟨v, H1, I1, ru, t2⟩
      apply Calls.spliced_cons
      apply thn (hb.run pins z1 σ H1 _ I1 t2)
      rintro u2 z2 ⟨w, H2, I2, ru2, zz, rfl, hz, q⟩
      apply Calls.spliced_nil
      obtain ⟨t, rfl⟩ := ru
      have T := told zz hz
      apply call_meetsIn F.slot_dict_get (kd_type D I2) F.entry_dict_get (F.args_dict_get_3 _ _ _) (meets_dict_get_default (strKind X.prog X.w) d (strKind_is X.prog X.w zz t) D.low u2)
      refine ⟨_, PySem.W.mapOf_K (prog := X.prog) I2.kIn D.at_ D.lit, ?_⟩
      cases e : tab.lookup zz with
      | some i =>
        rw [e] at T q
        obtain ⟨t', T⟩ := T
        rw [PySem.W.find_K D.at_ T]
        exact ⟨.int i, H2, I2.tok _, ⟨t', rfl⟩, q⟩
      | none =>
        rw [e] at T q
        rw [PySem.W.find_K D.at_ T]
        exact ⟨w, H2, I2.tok _, ru2, q⟩
/-! ### known tuples -/
theorem newC_rel {G : Gx} {H : Hp} {β : List Addr} {μ : MH} {Q : VK} {E : XK} {ws : List PV} {vs : List V} (rl : Rl G H β μ) (p : PRels G H β ws vs) (h : OutOk G XR H β E Q (.ok (.ctp ws) μ)) : newC Q H vs := fun a o ha hc hd => by
  refine h _ _ β (Ext.new rl ha _) (rl.new ha _) ?_
  unfold PRel
  exact ⟨a, vs, rfl, .inl ⟨⟨o, upd_same, hc, hd⟩, rl.fresh ha⟩, PRels.ext (Ext.new rl ha _) _ p⟩
def fTupC : List PV → MH → R PV
  | [v], μ => match seqT v with
    | some _ => .ok v μ
    | none => match lstR v μ with
      | some xs => .ok (.ctp xs) μ
      | none => .bad
  | _, _ => .bad
theorem cm_tupC : CallM K XR fTupC (rTupC K) := by
  intro av E H β μ v x Q rl pv h
  unfold fTupC at h
  split at h
  · obtain ⟨y, rfl, p⟩ := one_inv pv
    split at h
    · rename_i xs e
      obtain ⟨a, vs, rfl, sq, ps⟩ := seqT_ok p e
      exact ⟨a, vs, rfl, .inr ⟨sq, ok_here h rl p⟩⟩
    · split at h
      · rename_i xs e
        obtain ⟨a, vs, rfl, sq, ps⟩ := lstR_ok rl p e
        exact ⟨a, vs, rfl, .inl ⟨sq, newC_rel rl ps h⟩⟩
      · exact h.elim
  · exact h.elim
def fAddC (v w : PV) (μ : MH) : R PV := match seqT v, seqT w with
  | some xs, some ys => if xs.length + ys.length ≤ sizeLine then (match xs, ys with
    | [], _ => .ok w μ
    | _, [] => .ok v μ
    | _, _ => .ok (.ctp (xs ++ ys)) μ) else .bad
  | _, _ => fAdd v w μ
def rAddC (K : PySem.W.Frag) : R2 := fun x y H Q => rCatC K x y H Q ∨ rAddA K x y H Q
theorem op_addC : OpR X (binaryOp .Add) (rAddC X.K) := op_catC.or op_addA
theorem om_addC : OpM K XR fAddC (rAddC K) := by
  intro av E H β μ v w x y Q rl pv pw h
  unfold fAddC at h
  split at h
  · rename_i xs ys e1 e2
    obtain ⟨a, vs, rfl, s1, p1⟩ := seqT_ok pv e1
    obtain ⟨b, ws, rfl, s2, p2⟩ := seqT_ok pw e2
    split at h
    · rename_i z
      refine .inl ⟨a, b, vs, ws, rfl, rfl, s1, s2, by rw [← p1.length, ← p2.length]; exact z, fun e => ?_, fun n e => ?_, fun n m => ?_⟩
      · have : xs = [] := List.length_eq_zero_iff.mp (by rw [p1.length, e]; rfl)
        subst this
        exact ok_here h rl pw
      · have nx : xs ≠ [] := fun q => n (List.length_eq_zero_iff.mp (by rw [← p1.length, q]; rfl))
        have : ys = [] := List.length_eq_zero_iff.mp (by rw [p2.length, e]; rfl)
        subst this
        cases xs with
        | nil => exact absurd rfl nx
        | cons _ _ => exact ok_here h rl pv
      · have nx : xs ≠ [] := fun q => n (List.length_eq_zero_iff.mp (by rw [← p1.length, q]; rfl))
        have ny : ys ≠ [] := fun q => m (List.length_eq_zero_iff.mp (by rw [← p2.length, q]; rfl))
        cases xs with
        | nil => exact absurd rfl nx
        | cons _ _ => cases ys with
          | nil => exact absurd rfl ny
          | cons _ _ => exact newC_rel rl (p1.app p2) h
    · exact h.elim
  · exact .inr (om_add _ _ _ _ _ _ _ _ _ _ rl pv pw h)
/-! ### slices of known tuples -/
def fSlC (v : PV) (lo hi : Option Int) (μ : MH) : R PV := match seqT v with
  | some xs => if HT.sIx xs.length 0 lo = 0 ∧ HT.sIx xs.length xs.length hi = xs.length then .ok v μ else .ok (.ctp (cutL xs lo hi)) μ
  | none => fSl v lo hi μ
def mSlC (o : ME) (l h : Part) : ME := fun s μ => (o s μ).bind fun v μ1 => (evPt l s μ1).bind fun lo μ2 => (evPt h s μ2).bind fun hi μ3 => fSlC v lo hi μ3
def rSlB (K : PySem.W.Frag) : V → Option Int → Option Int → Hp → VK → Prop := fun x lo hi H Q => rSlC K x lo hi H Q ∨ rSlL K x lo hi H Q ∨ rSlS x lo hi H Q
theorem sl_allC : SlR X (rSlB X.K) := sl_tupC.or (sl_list.or sl_str)
theorem tm_sliceC {o : ME} {l u : Part} (σ : L2.St) (H : Hp) (Q : VK) (h : tM K XR E (mSlC o l u) σ H Q) : tSl (rSlB K) (tM K XR E o) (ptT K XR E l) (ptT K XR E u) σ H Q := by
  obtain ⟨av, β, s, μ, rl, sr, h⟩ := h
  unfold mSlC at h
  refine tm_e rl sr h fun v μ1 x H1 β1 _ ex1 rl1 sr1 p q => ?_
  refine tpt rl1 sr1 q fun lo μ2 H2 β2 ex2 rl2 sr2 q2 => ?_
  refine tpt rl2 sr2 q2 fun hi μ3 H3 β3 ex3 rl3 sr3 q3 => ?_
  have p3 := (p.ext ex2).ext ex3
  unfold fSlC at q3
  split at q3
  · rename_i xs e
    obtain ⟨a, vs, rfl, sq, ps⟩ := seqT_ok p3 e
    refine .inl ⟨a, vs, rfl, sq, fun hw => ?_, fun hw => ?_⟩
    · rw [if_pos (by rw [ps.length]; exact hw)] at q3
      exact ok_here q3 rl3 p3
    · rw [if_neg (by rw [ps.length]; exact hw)] at q3
      exact newC_rel rl3 ps.cut q3
  · rename_i e
    unfold fSl at q3
    rw [e] at q3
    simp only at q3
    split at q3
    · rename_i xs e
      obtain ⟨a, vs, rfl, sq, ps⟩ := lstR_ok rl3 p3 e
      exact .inr (.inl ⟨a, vs, rfl, sq, new_frl rl3 ps.cut q3⟩)
    · split at q3
      · split at q3
        · rename_i hz
          exact .inr (.inr ⟨_, str_inv p3, hz, ok_here q3 rl3 .str_⟩)
        · exact q3.elim
      · exact q3.elim
theorem me_sliceC00 {e : Expr} {o : ME} {pos p2 : Pos} (he : PM X XR E e o) : PM X XR E (.Subscript e (.Slice none none none p2) pos) (mSlC o none none) := PE.imp (pe_slice sl_allC he po_none po_none) tm_sliceC
theorem me_sliceC01 {e h : Expr} {o mh : ME} {pos p2 : Pos} (he : PM X XR E e o) (hh : PM X XR E h mh) : PM X XR E (.Subscript e (.Slice none (some h) none p2) pos) (mSlC o none (some mh)) := PE.imp (pe_slice sl_allC he po_none (po_some hh)) tm_sliceC
theorem me_sliceC10 {e l : Expr} {o ml : ME} {pos p2 : Pos} (he : PM X XR E e o) (hl : PM X XR E l ml) : PM X XR E (.Subscript e (.Slice (some l) none none p2) pos) (mSlC o (some ml) none) := PE.imp (pe_slice sl_allC he (po_some hl) po_none) tm_sliceC
theorem me_sliceC11 {e l h : Expr} {o ml mh : ME} {pos p2 : Pos} (he : PM X XR E e o) (hl : PM X XR E l ml) (hh : PM X XR E h mh) : PM X XR E (.Subscript e (.Slice (some l) (some h) none p2) pos) (mSlC o (some ml) (some mh)) := PE.imp (pe_slice sl_allC he (po_some hl) (po_some hh)) tm_sliceC
/-- t[::-1] -/
def fBack (v : PV) (μ : MH) : R PV := match seqT v with
  | some xs => .ok (.ctp xs.reverse) μ
  | none => .bad
theorem me_back {e : Expr} {m : ME} {k : Nat} {p1 p2 p3 pos : Pos} (he : PM X XR E e m) : PM X XR E (.Subscript e (.Slice none none (some (.UnaryOp .USub (.Constant (.int 1) k p1) p2)) p3) pos) (mUn fBack m) :=
  PE.imp (pe_back he) fun σ H Q ⟨av, β, s, μ, rl, sr, h⟩ => by
    unfold tBack
    refine tm_e rl sr h fun v μ1 x H1 β1 _ ex1 rl1 sr1 p q => ?_
    unfold fBack at q
    split at q
    · rename_i xs e
      obtain ⟨a, vs, rfl, sq, ps⟩ := seqT_ok p e
      exact ⟨a, vs, rfl, sq, newC_rel rl1 ps.rev q⟩
    · exact q.elim
/-! ### t.index(x), t.count(x), xs.index(x) -/
def firstTrue : List Bool → Option Nat
  | [] => none
  | true :: _ => some 0
  | false :: bs => (firstTrue bs).map (· + 1)
theorem firstTrue_ok : ∀ {bs : List Bool} {j : Nat}, firstTrue bs = some j → bs[j]? = some true ∧ ∀ m, m < j → bs[m]? = some false
  | [], j, h => by cases h
  | true :: bs, j, h => by cases h; exact ⟨rfl, fun m hm => absurd hm (Nat.not_lt_zero m)⟩
  | false :: bs, j, h => by
    unfold firstTrue at h
    rw [Option.map_eq_some_iff] at h
    obtain ⟨i, e, rfl⟩ := h
    obtain ⟨h1, h2⟩ := firstTrue_ok e
    refine ⟨by simpa using h1, fun m hm => ?_⟩
    cases m with
    | zero => rfl
    | succ m => simpa using h2 m (by omega)
/-- two data, the first a tuple -/
def dataOf (v w : PV) (μ : MH) : Option (List PyData × PyData) := match toD μ v, toD μ w with
  | some (.tuple ds), some d => if SeqAt.shaped (.tuple ds) && SeqAt.shaped d then some (ds, d) else none
  | _, _ => none
theorem dataOf_ok {av : List Addr} {H : Hp} {β : List Addr} {μ : MH} {v w : PV} {x y : V} {ds : List PyData} {d : PyData} (rl : Rl ⟨K, av⟩ H β μ) (pv : PRel ⟨K, av⟩ H β v x) (pw : PRel ⟨K, av⟩ H β w y) (h : dataOf v w μ = some (ds, d)) :
    Dp K H x (.tuple ds) ∧ Dp K H y d ∧ SeqAt.shaped (.tuple ds) = true ∧ SeqAt.shaped d = true := by
  unfold dataOf at h
  split at h
  · rename_i e1 e2
    split at h
    · rename_i c
      rw [Bool.and_eq_true] at c
      cases h
      exact ⟨toD_ok rl v pv e1, toD_ok rl w pw e2, c.1, c.2⟩
    · cases h
  · cases h
def fIndexC (v : PV) (ws : List PV) (μ : MH) : R PV := match v, ws with
  | .ctp xs, [w] => match dataOf (.ctp xs) w μ with
    | some (ds, d) => match firstTrue (ds.map fun z => PyData.eqv z d) with
      | some j => .ok (.int (j : Nat)) μ
      | none => .bad
    | none => .bad
  | _, _ => .bad
def fCountC (v : PV) (ws : List PV) (μ : MH) : R PV := match v, ws with
  | .ctp xs, [w] => match dataOf (.ctp xs) w μ with
    | some (ds, d) => .ok (.int (ds.countP fun z => PyData.eqv z d : Nat)) μ
    | none => .bad
  | _, _ => .bad
theorem om_indexC : MethM K XR fIndexC (rIndexC K) := by
  intro av E H β μ v x vs xs Q rl p ps h
  unfold fIndexC at h
  split at h
  · rename_i us w
    obtain ⟨y, rfl, pw⟩ := one_inv ps
    split at h
    · rename_i ds d e
      obtain ⟨d1, d2, s1, s2⟩ := dataOf_ok rl p pw e
      split at h
      · rename_i j ej
        obtain ⟨h1, h2⟩ := firstTrue_ok ej
        obtain ⟨a, ws, rfl, _, _⟩ := ctp_inv p
        exact ⟨a, y, d, ds, j, rfl, rfl, d1, d2, s1, s2, h1, h2, ok_here h rl .int_⟩
      · exact h.elim
    · exact h.elim
  · exact h.elim
theorem om_countC : MethM K XR fCountC (rCountC K) := by
  intro av E H β μ v x vs xs Q rl p ps h
  unfold fCountC at h
  split at h
  · rename_i us w
    obtain ⟨y, rfl, pw⟩ := one_inv ps
    split at h
    · rename_i ds d e
      obtain ⟨d1, d2, s1, s2⟩ := dataOf_ok rl p pw e
      obtain ⟨a, ws, rfl, _, _⟩ := ctp_inv p
      exact ⟨a, y, d, ds, rfl, rfl, d1, d2, s1, s2, ok_here h rl .int_⟩
    · exact h.elim
  · exact h.elim
theorem me_indexC {k : Nat} {o e : Expr} {mo : ME} {ma : MEs} {apos cpos : Pos} (hr : RoomG (k + 1) X.A) (ho : PM X XR E o mo) (ha : PMs X XR E [e] ma) (late : Late X o "index" apos [e] cpos := by exact fun h => wpAny_Call_method_late rfl rfl rfl rfl h)
    (one : starEach [e] X.env = [(false, eval e X.env)] := by rfl) : PM X XR E (.Call (.Attribute o "index" apos) [e] [] cpos) (mMeth (fun v _ => isCtp v) fIndexC mo ma) :=
  PE.imp (pe_bmT PySem.F.slot_tuple_index PySem.F.type_tuple_index (mt_indexC (by have := hr.room.un; omega)) ho ha late one) (tm_methT om_indexC)
theorem me_countC {k : Nat} {o e : Expr} {mo : ME} {ma : MEs} {apos cpos : Pos} (hr : RoomG (k + 1) X.A) (ho : PM X XR E o mo) (ha : PMs X XR E [e] ma) (late : Late X o "count" apos [e] cpos := by exact fun h => wpAny_Call_method_late rfl rfl rfl rfl h)
    (one : starEach [e] X.env = [(false, eval e X.env)] := by rfl) : PM X XR E (.Call (.Attribute o "count" apos) [e] [] cpos) (mMeth (fun v _ => isCtp v) fCountC mo ma) :=
  PE.imp (pe_bmT PySem.F.slot_tuple_count PySem.F.type_tuple_count (mt_countC (by have := hr.room.un; omega)) ho ha late one) (tm_methT om_countC)
/-- xs.index(x) of a list of texts and the like -/
def fIndexL (v : PV) (ws : List PV) (μ : MH) : R PV := match lstR v μ, ws with
  | some xs, [w] => match flatPs xs, flatP w with
    | some ys, some y => match firstTrue (ys.map fun z => eqV z y) with
      | some j => .ok (.int (j : Nat)) μ
      | none => .bad
    | _, _ => .bad
  | _, _ => .bad
theorem om_indexL : MethM K XR fIndexL (rIndex K) := by
  intro av E H β μ v x vs xs Q rl p ps h
  unfold fIndexL at h
  split at h
  · rename_i us w e
    obtain ⟨y, rfl, pw⟩ := one_inv ps
    obtain ⟨a, ws, rfl, sq, pr⟩ := lstR_ok rl p e
    split at h
    · rename_i ys yv e1 e2
      obtain ⟨f1, f2⟩ := flatP_rel pw e2
      obtain ⟨f3, f4⟩ := flatPs_rel pr e1
      subst f1 f3
      split at h
      · rename_i j ej
        obtain ⟨h1, h2⟩ := firstTrue_ok ej
        rw [List.getElem?_map, Option.map_eq_some_iff] at h1
        obtain ⟨z, ez, hz⟩ := h1
        refine ⟨a, ws, y, j, z, rfl, rfl, sq, f2, f4, ez, hz, fun m z' hm e' => ?_, ok_here h rl .int_⟩
        have := h2 m hm
        rw [List.getElem?_map, e'] at this
        simpa using this
      · exact h.elim
    · exact h.elim
  · exact h.elim
end
end Mini

/-! M33: what a law's defs take from _law_error; raise and try as the generator prints them. -/
namespace Mini
open PySem PySem.Spec PyProof.Rows L2 HotX L2H
def lawWords (c : Str) : Option Str := if c = "NotAllowed" then some "refused" else if c = "TooLarge" then some "large" else if c = "Missing" then some "missing" else if c = "BadPaper" then some "paper" else none
structure ErrH (P : Program) (w : World) (K : PySem.W.Frag) (mg : Str → Option Value) (base : Heap) (k : Nat) : Prop where
  ex : ∃ (fE : Addr) (fd : FuncData) (te : Addr), ErrDef P w K mg base k fE fd ∧ Binds K fd ["e"] [] ∧ mg "_law_error" = some (.ref fE) ∧ PySem.W.keepIn K (.ref fE) = true ∧ mg "TellError" = some (.ref te) ∧
    ∀ c r C, lawWords c = some r → mg c = some (.ref C) → ErrCls K mg C r ∧ PySem.W.exmOne K (.ref C) (.ref te) = some true
theorem ErrDef.mono {P : Program} {w : World} {K : PySem.W.Frag} {mg : Str → Option Value} {base : Heap} {k j : Nat} {f : Addr} {fd : FuncData} (D : ErrDef P w K mg base k f fd) (h : k ≤ j) : ErrDef P w K mg base j f fd :=
  ⟨fun A above z H args Q E p C r av β μ room => D.go A above z H args Q E p C r av β μ (room.mono h)⟩
section
variable {X : Cx} {E0 : XK} {E : L2.St → XK}
theorem sm_raiseD {c m : Str} {j : Nat} {p p2 pos pos2 : Pos} (R : RaiseX X.K X.mg c) (calm : X.calm = true) (tk : L2N.Takes X (fun cls d _ H => E0 cls d H)) (g : Gl X c) (hdb : (c == ("__debug__" : Str)) = false := by decide) :
    PSM X (oR X.mg) (fun _ => E0) (.Raise (some (.Call (.Name c p) [.Constant (.str m) j p2] [] pos)) none pos2) (sRaise c) := sm_raise (W := fun cls d _ H => E0 cls d H) R calm tk g hdb
theorem sm_toldH {i k j : Nat} {body : List Stmt} {mb : MSt} {np p1 p2 p3 p4 pos pos' : Pos} (T : ErrH X.prog X.w X.K X.mg X.base k) (hr : RoomG j X.A) (hk : k ≤ j) (hs : X.stack = X.env :: X.outer) (hf : X.env.frame = some X.env.locals) (hN : X.N.Nodup) (hi : X.N[i]? = some ("e" : Str)) (hln : X.env.kindOf "e" = some .local)
    (gT : Gl X "TellError") (g : Gl X "_law_error")
    (hb : ∀ (W : WX) (pn : List (Addr × Obj)) (xe : Value → Shared → Prop), L2N.Takes (X.tr pn xe) W → PassesOwn (model X.prog X.w) X.A X.env xe → PSsM (X.tr pn xe) (oR X.mg) (WE W) body mb) :
    PSM X (oR X.mg) E (.Try body [.ExceptHandler (some (.Name "TellError" np)) (some "e") [.Return (some (.Call (.Name "_law_error" p1) [.Name "e" p2] [] p3)) p4] pos'] [] [] pos) (sTold i lawWords mb) := by
  obtain ⟨fE, fd, te, D, B, m, kp, mT, tell⟩ := T.ex
  exact sm_told hs hf hN hi hln gT mT (D.mono hk) ⟨hr.room.dp, hr.room.un⟩ B g m kp tell hb
end
theorem Fns.ex {X : Cx} {XR : XRel} {j k : Nat} {x : Str} {p : Pos} {f : MF} {es : List Expr} {fs : List MF} (D : DefOk X.prog X.w X.K X.mg X.base x k (spM X.K XR f)) (hk : k ≤ j) (g : Gl X x) (t : ∃ as, Fns X XR j es as fs) (hdb : (x == ("__debug__" : Str)) = false := by decide) :
    ∃ as, Fns X XR j (.Name x p :: es) as (f :: fs) := by
  obtain ⟨as, t⟩ := t
  obtain ⟨fa, h⟩ := Fns.one (p := p) D hk g t hdb
  exact ⟨_, h⟩
section
variable {X : Cx} {XR : XRel} {E : L2.St → XK}
/-- y = [.. for .. for ..], the library's ps_setLc2 handed over -/
theorem sm_setLc2 {i : Nat} {st : Stmt} {vs vs1 : List Nat} {mi mi1 : MI} {t t1 : MT} {mc mc1 : MB} {me : ME} (hp : PS X st (tAsg (tLc2 (tI X.K XR E mi) (tgOf X.K t) (tMb X.K XR EF mc) (tI X.K XR EF mi1) (tgOf X.K t1) (tMb X.K XR EF mc1) (tM X.K XR EF me) vs vs1) (gName i)))
    (hsl : ∀ i ∈ slotsT t, i ∈ vs) (hsl1 : ∀ i ∈ slotsT t1, i ∈ vs1) : PSM X XR E st (sAsg (.nm i) (mLc2 vs vs1 mi t mc mi1 t1 mc1 me)) :=
  PS.imp hp fun D σ H h => by
    have h1 := tasg_ok D σ H h
    unfold tgOf tAsg at h1
    obtain ⟨av, β, s, μ, rl, sr, h2⟩ := h1
    exact lc2_read (fun acc μ2 => .ok (.frl acc) μ2) rl sr hsl hsl1 h2 k_frl
end
/-! ### from the head's facts -/
/-- a class of the module, as the head tells it -/
structure FactC (K : PySem.W.Frag) (c : Str) (C : Addr) : Prop where
  at_ : PySem.W.nsIn K mainGlobals c = some (some (.ref C))
theorem FactC.mg {K : PySem.W.Frag} {c : Str} {C : Addr} {h : Heap} {mg : Str → Option Value} (f : FactC K c C) (KX : K.In h) (G : h.Ns mainGlobals mg) : mg c = some (.ref C) := PySem.W.mg_of KX G f.at_
structure FactR (K : PySem.W.Frag) (C : Addr) : Prop where
  e1 : PySem.W.excIn K C [.type "ValueError", .type "Exception", .type "BaseException", .type "object"] "ValueError.__new__" = true
  e2 : PySem.W.keepIn K (.ref C) = true
  e3 : PySem.W.subIn K (.ref C) (.type "BaseException") = some true
  e4 : PySem.W.typeIn K (.ref C) = some (.type "type")
theorem FactR.raise {K : PySem.W.Frag} {c : Str} {C : Addr} {mg : Str → Option Value} (f : FactR K C) (m : mg c = some (.ref C)) : RaiseX K mg c := ⟨C, m, f.e1, f.e2, f.e3, f.e4⟩
theorem GlobD.of {K : PySem.W.Frag} {w : World} {mg : Str → Option Value} {h : Heap} {x : Str} {tab : List (Str × Int)} {words : List Str} {d : Addr} {es : Array DictEntry} {n : Nat} (KX : K.In h) (G : h.Ns mainGlobals mg) (a : PySem.W.nsIn K mainGlobals x = some (some (.ref d))) (D : KDict K w d es n)
    (t : ∀ z ∈ words, match tab.lookup z with | some i => ∃ t, PySem.W.nsIn K d z = some (some (.int i t)) | none => PySem.W.nsIn K d z = some none) : GlobD K w mg x tab words := ⟨d, es, n, PySem.W.mg_of KX G a, D, t⟩
end Mini

/-! M34: known tuples, data, raises in plain runs. -/
namespace Mini
open PySem PySem.Spec PyProof.Rows L2
theorem sizeLine_n : sizeLine = 16777216 := by decide
@[simp] theorem fAddC_int {i j : Int} {μ : MH} : fAddC (.int i) (.int j) μ = .ok (.int (i + j)) μ := by unfold fAddC fAdd; rfl
@[simp] theorem fRep_int {i j : Int} {μ : MH} : fRep (.int i) (.int j) μ = fMul (.int i) (.int j) μ := rfl
theorem fAddC_ctp {xs ys : List PV} {μ : MH} (h : xs.length + ys.length ≤ sizeLine) : fAddC (.ctp xs) (.ctp ys) μ = .ok (.ctp (xs ++ ys)) μ := by
  unfold fAddC
  simp only [seqT]
  rw [if_pos h]
  cases xs with
  | nil => rfl
  | cons x xs =>
    cases ys with
    | nil => simp
    | cons y ys => rfl
theorem fAddC_frl {xs ys : List PV} {μ : MH} (h : xs.length + ys.length ≤ sizeLine) : fAddC (.frl xs) (.frl ys) μ = .ok (.frl (xs ++ ys)) μ := by
  unfold fAddC fAdd
  simp only [seqT, lstM]
  rw [if_pos h]
theorem fAddC_fref {xs ys : List PV} {n : Nat} {μ : MH} (e : μ[n]? = some (.lst ys)) (h : xs.length + ys.length ≤ sizeLine) : fAddC (.frl xs) (.ref n) μ = .ok (.frl (xs ++ ys)) μ := by
  unfold fAddC fAdd
  simp only [seqT, lstM, e]
  rw [if_pos h]
@[simp] theorem fSlC_ctp {xs : List PV} {lo hi : Option Int} {μ : MH} : fSlC (.ctp xs) lo hi μ = .ok (.ctp (cutL xs lo hi)) μ := by
  unfold fSlC
  simp only [seqT]
  split
  · rename_i h
    unfold cutL
    rw [h.1, h.2]
    simp
  · rfl
@[simp] theorem fSlC_frl {xs : List PV} {lo hi : Option Int} {μ : MH} : fSlC (.frl xs) lo hi μ = .ok (.frl (cutL xs lo hi)) μ := rfl
@[simp] theorem fSlC_scr {xs : List PV} {lo hi : Option Int} {μ : MH} : fSlC (.scr xs) lo hi μ = .ok (.frl (cutL xs lo hi)) μ := rfl
@[simp] theorem fTupC_frl {xs : List PV} {μ : MH} : fTupC [.frl xs] μ = .ok (.ctp xs) μ := rfl
theorem fTupC_ref {xs : List PV} {n : Nat} {μ : MH} (e : μ[n]? = some (.lst xs)) : fTupC [.ref n] μ = .ok (.ctp xs) μ := by
  unfold fTupC
  simp [seqT, lstR, lstM, e]
@[simp] theorem fBack_ctp {xs : List PV} {μ : MH} : fBack (.ctp xs) μ = .ok (.ctp xs.reverse) μ := rfl
@[simp] theorem fLen_ctp' {μ : MH} {xs : List PV} : fLen [.ctp xs] μ = .ok (.int (xs.length : Nat)) μ := rfl
@[simp] theorem fLen_frl' {μ : MH} {xs : List PV} : fLen [.frl xs] μ = .ok (.int (xs.length : Nat)) μ := rfl
theorem fLen_ref {μ : MH} {xs : List PV} {n : Nat} (e : μ[n]? = some (.lst xs)) : fLen [.ref n] μ = .ok (.int (xs.length : Nat)) μ := by
  unfold fLen lenOf
  simp [seqT, lstR, lstM, e]
theorem cutL_map {α β : Type} (f : α → β) (xs : List α) (lo hi : Option Int) : cutL (xs.map f) lo hi = (cutL xs lo hi).map f := by
  unfold cutL
  rw [List.length_map, ← List.map_drop, ← List.map_take]
theorem cutL_len {α : Type} (xs : List α) (lo hi : Option Int) : (cutL xs lo hi).length ≤ xs.length := by
  unfold cutL
  rw [List.length_take, List.length_drop]
  omega
theorem cutL_take {α : Type} (xs : List α) (n : Nat) : cutL xs none (some (n : Int)) = xs.take n := by
  unfold cutL
  rw [HT.sIx_none, HT.sIx_nat]
  simp
theorem cutL_drop {α : Type} (xs : List α) (n : Nat) : cutL xs (some (n : Int)) none = xs.drop n := by
  unfold cutL
  rw [HT.sIx_none, HT.sIx_nat]
  by_cases h : n ≤ xs.length
  · rw [Nat.min_eq_left h, List.take_of_length_le (by simp)]
  · rw [Nat.min_eq_right (by omega)]
    simp [List.drop_of_length_le (by omega : xs.length ≤ n)]
theorem cutL_mid {α : Type} (xs : List α) (a b : Nat) : cutL xs (some (a : Int)) (some (b : Int)) = (xs.drop a).take (b - a) := by
  unfold cutL
  rw [HT.sIx_nat, HT.sIx_nat]
  by_cases h : a ≤ xs.length
  · rw [Nat.min_eq_left h]
    by_cases h2 : b ≤ xs.length
    · rw [Nat.min_eq_left h2]
    · rw [Nat.min_eq_right (by omega : xs.length ≤ b), List.take_of_length_le (by simp), List.take_of_length_le (by simp; omega)]
  · rw [Nat.min_eq_right (by omega : xs.length ≤ a), List.drop_of_length_le (Nat.le_refl _), List.drop_of_length_le (by omega : xs.length ≤ a)]
    simp
theorem cutL_back {α : Type} (xs : List α) (n : Nat) (h : 0 < n) : cutL xs (some (-(n : Int))) none = xs.drop (xs.length - n) := by
  unfold cutL
  have e : HT.sIx xs.length 0 (some (-(n : Int))) = xs.length - n := by
    show (if -(n : Int) < 0 then (-(n : Int) + (xs.length : Int)).toNat else _) = _
    rw [if_pos (by omega)]
    omega
  rw [HT.sIx_none, e, List.take_of_length_le (by simp)]
/-! ### raises -/
theorem cl_err {μ ν : MH} {c : Str} (h1 : μ.length ≤ ν.length) (h2 : ∀ (j : Nat) (o : MO), j < μ.length → ν[j]? = some o → μ[j]? = some o ∨ o.lo μ.length = true) : cl μ (.err c [] ν) = .err c [] (ν.take μ.length) := by
  have hk : keepOk μ ν = true := by
    unfold keepOk
    rw [Bool.and_eq_true, decide_eq_true_eq]
    refine ⟨h1, keepsB_id _ _ _ fun j o e => ?_⟩
    by_cases hj : j < μ.length
    · rw [List.getElem?_take_of_lt hj] at e
      rw [Nat.zero_add]
      exact h2 j o hj e
    · rw [List.getElem?_eq_none (by rw [List.length_take]; omega)] at e
      cases e
  unfold cl
  simp only [hk, PV.los]
theorem cl_errA {μ junk : MH} {c : Str} : cl μ (.err c [] (μ ++ junk)) = .err c [] μ := by
  rw [cl_err (by simp) fun j o hj e => .inl (by rw [List.getElem?_append_left hj] at e; exact e), List.take_left]
theorem cl_err0 {μ : MH} {c : Str} : cl μ (.err c [] μ) = .err c [] μ := by
  have := cl_errA (μ := μ) (junk := []) (c := c)
  rwa [List.append_nil] at this
/-! ### data without bools -/
mutual
def plainD : PyData → Bool
  | .int _ => true
  | .str _ => true
  | .none => true
  | .tuple xs => plainDs xs
  | .list xs => plainDs xs
  | _ => false
def plainDs : List PyData → Bool
  | [] => true
  | x :: xs => plainD x && plainDs xs
end
mutual
theorem eqv_plain : ∀ d e : PyData, plainD d = true → plainD e = true → (PyData.eqv d e = true ↔ d = e)
  | .none, e, _, he => by cases e <;> simp [PyData.eqv]
  | .bool b, e, hd, he => by unfold plainD at hd; cases hd
  | .int i, e, _, he => by cases e <;> simp_all [PyData.eqv, plainD]
  | .str i, e, _, he => by cases e <;> simp_all [PyData.eqv, plainD]
  | .list xs, e, hd, he => by
    cases e with
    | list ys =>
      unfold plainD at hd he
      have := eqvAll_plain xs ys hd he
      simp [PyData.eqv, this]
    | _ => simp [PyData.eqv]
  | .tuple xs, e, hd, he => by
    cases e with
    | tuple ys =>
      unfold plainD at hd he
      have := eqvAll_plain xs ys hd he
      simp [PyData.eqv, this]
    | _ => simp [PyData.eqv]
  | .dict xs, e, hd, he => by unfold plainD at hd; cases hd
theorem eqvAll_plain : ∀ ds es : List PyData, plainDs ds = true → plainDs es = true → (PyData.eqvAll ds es = true ↔ ds = es)
  | [], [], _, _ => by simp [PyData.eqvAll]
  | [], _ :: _, _, _ => by simp [PyData.eqvAll]
  | _ :: _, [], _, _ => by simp [PyData.eqvAll]
  | d :: ds, e :: es, hd, he => by
    unfold plainDs at hd he
    rw [Bool.and_eq_true] at hd he
    have h1 := eqv_plain d e hd.1 he.1
    have h2 := eqvAll_plain ds es hd.2 he.2
    simp [PyData.eqvAll, h1, h2]
end
theorem eqv_plain_dec (d e : PyData) [Decidable (d = e)] (hd : plainD d = true) (he : plainD e = true) : PyData.eqv d e = decide (d = e) := by
  have := eqv_plain d e hd he
  by_cases h : d = e
  · rw [decide_eq_true h]; exact this.mpr h
  · rw [decide_eq_false h]
    cases q : PyData.eqv d e
    · rfl
    · exact absurd (this.mp q) h
/-! ### tuples of texts -/
abbrev sT (xs : List Str) : PV := .ctp (xs.map .str)
abbrev dT (xs : List Str) : PyData := .tuple (xs.map .str)
theorem flatPs_strs : ∀ xs : List Str, flatPs (xs.map .str) = some (xs.map V.str)
  | [] => rfl
  | x :: xs => by
    rw [List.map_cons]
    unfold flatPs
    rw [flatPs_strs xs]
    rfl
theorem toDs_strs (μ : MH) : ∀ xs : List Str, toDs μ (xs.map .str) = some (xs.map .str)
  | [] => by simp [toDs]
  | x :: xs => by
    rw [List.map_cons]
    unfold toDs
    rw [toDs_strs μ xs]
    simp [toD]
theorem pDs_strs : ∀ xs : List Str, pDs (xs.map .str) = some (xs.map .str)
  | [] => by simp [pDs]
  | x :: xs => by
    rw [List.map_cons]
    unfold pDs
    rw [pDs_strs xs]
    simp [pD]
@[simp] theorem toD_sT (μ : MH) (xs : List Str) : toD μ (.ctp (xs.map .str)) = some (dT xs) := by
  unfold toD
  rw [toDs_strs]
  rfl
theorem plainDs_strs : ∀ xs : List Str, plainDs (xs.map .str) = true
  | [] => by simp [plainDs]
  | x :: xs => by
    rw [List.map_cons]
    unfold plainDs
    rw [plainDs_strs xs]
    simp [plainD]
theorem plainD_sT (xs : List Str) : plainD (dT xs) = true := by unfold plainD; exact plainDs_strs xs
theorem strD_inj : Function.Injective PyData.str := fun a b h => by cases h; rfl
theorem dT_inj {xs ys : List Str} : dT xs = dT ys ↔ xs = ys := by
  constructor
  · intro h
    have : xs.map PyData.str = ys.map .str := by injection h
    exact List.map_inj_right (fun a b h => strD_inj h) |>.mp this
  · rintro rfl; rfl
theorem canLay_strs : ∀ xs : List Str, (∀ x ∈ xs, PyData.strOk x = true) → PyData.canLayAll0 (xs.map .str) = true
  | [], _ => by simp [PyData.canLayAll0]
  | x :: xs, h => by
    rw [List.map_cons]
    unfold PyData.canLayAll0
    rw [canLay_strs xs fun y hy => h y (by simp [hy])]
    simp [PyData.canLay0, h x (by simp)]
theorem depth_strs : ∀ xs : List Str, PyData.depthAll (xs.map .str) ≤ 1
  | [] => by simp [PyData.depthAll]
  | x :: xs => by
    rw [List.map_cons]
    have := depth_strs xs
    simp [PyData.depthAll, PyData.depth]
    omega
theorem shaped_sT {xs : List Str} (h : ∀ x ∈ xs, PyData.strOk x = true) : SeqAt.shaped (dT xs) = true := by
  unfold SeqAt.shaped
  rw [Bool.and_eq_true, decide_eq_true_eq]
  have := depth_strs xs
  refine ⟨?_, ?_⟩
  · simp [PyData.canLay0, canLay_strs xs h]
  · simp [PyData.depth]; omega
theorem fEq_sT {xs ys : List Str} {μ : MH} (h : ∀ x ∈ xs, PyData.strOk x = true) (h' : ∀ x ∈ ys, PyData.strOk x = true) : fEq (.ctp (xs.map .str)) (.ctp (ys.map .str)) μ = .ok (.bl (decide (xs = ys))) μ := by
  unfold fEq
  simp only
  unfold eqD
  rw [toD_sT, toD_sT]
  simp only
  rw [if_pos (by rw [shaped_sT h, shaped_sT h']; rfl)]
  have := eqv_plain (dT xs) (dT ys) (plainD_sT xs) (plainD_sT ys)
  rw [dT_inj] at this
  simp only
  congr 2
  by_cases q : xs = ys
  · rw [decide_eq_true q]; exact this.mpr q
  · rw [decide_eq_false q]
    cases r : PyData.eqv (dT xs) (dT ys)
    · rfl
    · exact absurd (this.mp r) q
theorem inV_strs (z : Str) (xs : List Str) : inV (.str z) (xs.map V.str) = decide (z ∈ xs) := by
  unfold inV
  rw [List.any_map]
  simp only [Function.comp_def]
  rw [Bool.eq_iff_iff, List.any_eq_true, decide_eq_true_eq]
  simp [eqV]
  try constructor
  all_goals try (first | (rintro ⟨x, h, rfl⟩; exact h) | (intro h; exact ⟨z, h, rfl⟩))
theorem inOf_strs {z : Str} {c : PV} {xs : List Str} {μ : MH} (h : seqR c μ = some (xs.map .str)) : inOf (.str z) c μ = some (decide (z ∈ xs)) := by
  unfold inOf
  rw [h]
  simp only [flatP, flatPs_strs, inV_strs]
@[simp] theorem fIn_sT {z : Str} {xs : List Str} {μ : MH} : fIn (.str z) (.ctp (xs.map .str)) μ = .ok (.bl (decide (z ∈ xs))) μ := by
  unfold fIn
  rw [inOf_strs (xs := xs) rfl]
@[simp] theorem fNotIn_sT {z : Str} {xs : List Str} {μ : MH} : fNotIn (.str z) (.ctp (xs.map .str)) μ = .ok (.bl (!decide (z ∈ xs))) μ := by
  unfold fNotIn
  rw [inOf_strs (xs := xs) rfl]
theorem fNotIn_fS {z : Str} {xs : List Str} {μ : MH} : fNotIn (.str z) (.frl (xs.map .str)) μ = .ok (.bl (!decide (z ∈ xs))) μ := by
  unfold fNotIn
  rw [inOf_strs (xs := xs) rfl]
theorem count_sT {z : Str} {xs : List Str} {μ : MH} (h : ∀ x ∈ xs, PyData.strOk x = true) (hz : PyData.strOk z = true) : fCountC (.ctp (xs.map .str)) [.str z] μ = .ok (.int (xs.count z : Nat)) μ := by
  unfold fCountC
  simp only
  have e : dataOf (.ctp (xs.map .str)) (.str z) μ = some (xs.map .str, .str z) := by
    unfold dataOf
    rw [toD_sT]
    simp only [toD]
    rw [if_pos (by rw [shaped_sT h]; simp [SeqAt.shaped, PyData.canLay0, hz, PyData.depth])]
  rw [e]
  simp only
  congr 3
  rw [List.countP_map]
  unfold List.count
  congr 1
/-! ### firstTrue -/
theorem firstTrue_at : ∀ (bs : List Bool) (j : Nat), bs[j]? = some true → (∀ m, m < j → bs[m]? = some false) → firstTrue bs = some j
  | [], j, h, _ => by simp at h
  | true :: bs, 0, _, _ => rfl
  | false :: bs, 0, h, _ => by simp at h
  | true :: bs, j + 1, _, h => by have := h 0 (by omega); simp at this
  | false :: bs, j + 1, h, q => by
    unfold firstTrue
    rw [firstTrue_at bs j (by simpa using h) fun m hm => by simpa using q (m + 1) (by omega)]
    rfl
theorem idxOf_first (z : Str) : ∀ xs : List Str, z ∈ xs → firstTrue (xs.map fun y => decide (y = z)) = some (xs.idxOf z)
  | [], h => by simp at h
  | x :: xs, h => by
    rw [List.map_cons]
    by_cases q : x = z
    · subst q; simp [firstTrue]
    · have : z ∈ xs := by
        rcases List.mem_cons.mp h with r | r
        · exact absurd r.symm q
        · exact r
      rw [decide_eq_false q]
      unfold firstTrue
      rw [idxOf_first z xs this, List.idxOf_cons]
      have : (x == z) = false := by simpa using q
      rw [this]
      rfl
theorem indexL_fS {z : Str} {xs : List Str} {μ : MH} (h : z ∈ xs) : fIndexL (.frl (xs.map .str)) [.str z] μ = .ok (.int (xs.idxOf z : Nat)) μ := by
  unfold fIndexL
  simp only [lstR, lstM, flatPs_strs, flatP, List.map_map]
  have e : (xs.map ((fun z1 => eqV z1 (V.str z)) ∘ V.str)) = xs.map fun y => decide (y = z) := by
    apply List.map_congr_left
    intro y _
    simp only [Function.comp_def, eqV]
    try rfl
  rw [e, idxOf_first z xs h]
end Mini

/-! M35: the laws' stream of numbers, their draws. -/
namespace Mini
open PySem PySem.Spec PyProof.Rows L2
abbrev L1__law_stream : MSt :=
  (sSeq (sExpr (mMeth isL fAppend (mVar 1) (msCons (mOp fMod (mCallP fInt (msCons (mVar 3) msNil)) (mC (.int 1009))) msNil)))
  (sSeq (sAsg (.nm 3) (mOp fFdiv (mVar 3) (mC (.int 1009))))
  (sIf (mbE (mOp fEq (mVar 3) (mC (.int 0))))
  sBreak
  sNil)))
abbrev L2__law_stream : MSt :=
  (sSeq (sAsg (.nm 5) (mOp fMod (mCallP fInt (msCons (mOp fAddC (mOp fAddC (mOp fRep (mVar 5) (mC (.int 48271))) (mOp fRep (mC (.int 7)) (mVar 4))) (mC (.int 11))) msNil)) (mC (.int 2147483647))))
  (sExpr (mMeth isL fAppend (mVar 1) (msCons (mOp fMod (mOp fMod (mCallP fInt (msCons (mOp fAddC (mOp fRep (mVar 5) (mC (.int 69621))) (mVar 4)) msNil)) (mC (.int 2147483629))) (mC (.int 1009))) msNil))))
abbrev L3__law_stream : MSt :=
  (sSeq (sAsg (.nm 3) (mCallP fAbs (msCons (mCallP fInt (msCons (mVar 2) msNil)) msNil)))
  (sIf (mbE (mOp fGe (mVar 3) (mOp fPow (mC (.int 10)) (mC (.int 18)))))
  (sFor (.nm 4) (mRange1 (mC (.int 60))) (L1__law_stream))
  (sSeq (sAsg (.nm 5) (mOp fMod (mCallP fInt (msCons (mVar 3) msNil)) (mC (.int 2147483647))))
  (sFor (.nm 4) (mRange1 (mC (.int 10))) (L2__law_stream)))))
def b__law_stream : MSt :=
  (sSeq (sAsg (.nm 1) (mCallP fLst msNil))
  (sSeq (sFor (.nm 2) (mOver (mSlC (mVar 0) none (some (mC (.int 63))))) (L3__law_stream))
  (sSeq (sIf (mbE (mOp fEq (mCallP fLen (msCons (mVar 1) msNil)) (mC (.int 0))))
  (sExpr (mMeth isL fAppend (mVar 1) (msCons (mC (.int 0)) msNil)))
  sNil)
  (sRet (mVar 1)))))
abbrev raw__law_stream : MF := mDef 1 6 (b__law_stream)
def b__law_next : MSt :=
  (sSeq (sSub (mVar 0) (mC (.int 1)) (mOp fAddC (mOp fIx (mVar 0) (mC (.int 1))) (mC (.int 1))) fStore)
  (sSeq (sAsg (.nm 2) (mOp fFdiv (mOp fIx (mVar 0) (mC (.int 1))) (mCallP fLen (msCons (mOp fIx (mVar 0) (mC (.int 0))) msNil))))
  (sRet (mOp fMod (mCallP fInt (msCons (mOp fAddC (mOp fAddC (mOp fIx (mOp fIx (mVar 0) (mC (.int 0))) (mOp fMod (mOp fIx (mVar 0) (mC (.int 1))) (mCallP fLen (msCons (mOp fIx (mVar 0) (mC (.int 0))) msNil)))) (mOp fRep (mVar 2) (mC (.int 389)))) (mOp fRep (mOp fRep (mOp fIx (mVar 0) (mC (.int 1))) (mVar 2)) (mC (.int 17)))) msNil)) (mVar 1)))))
abbrev raw__law_next : MF := mDef 2 3 (b__law_next)
/-! ### draws -/
def GoodN (ms : List Int) : Prop := ms ≠ [] ∧ ms.length ≤ 4000 ∧ ∀ m ∈ ms, 0 ≤ m ∧ m < 1009
def stM (ms : List Int) (c : Int) : MO := .lst [.frl (ms.map .int), .int c]
theorem fmod_range (a : Int) {m : Int} (h : 0 < m) : 0 ≤ a.fmod m ∧ a.fmod m < m := ⟨Int.fmod_nonneg_of_pos a h, Int.fmod_lt_of_pos a h⟩
theorem stream_big {μ : MH} : ∀ (vs : List PV) (a0 a2 a4 a5 : Option PV) (r : Int) (ms : List Int), 0 ≤ r → (∀ m ∈ ms, 0 ≤ m ∧ m < 1009) → ms.length + vs.length ≤ 10000 →
    ∃ (r' : Int) (a4' : Option PV) (ms' : List Int), forGo always (.nm 4) L1__law_stream vs [a0, some (.ref μ.length), a2, some (.int r), a4, a5] (μ ++ [.lst (ms.map .int)]) = .nx [a0, some (.ref μ.length), a2, some (.int r'), a4', a5] (μ ++ [.lst (ms'.map .int)]) ∧ (∀ m ∈ ms', 0 ≤ m ∧ m < 1009) ∧ ms'.length ≤ ms.length + vs.length
  | [], a0, a2, a4, a5, r, ms, hr, hm, hl => ⟨r, a4, ms, by unfold forGo; rfl, hm, by simp⟩
  | v :: vs, a0, a2, a4, a5, r, ms, hr, hm, hl => by
    simp only [List.length_cons] at hl ⊢
    have hr2 : 0 ≤ r / 1009 := Int.ediv_nonneg hr (by decide)
    have hm2 : ∀ m ∈ ms ++ [r.fmod 1009], 0 ≤ m ∧ m < 1009 := fun m h => by
      rcases List.mem_append.mp h with h | h
      · exact hm m h
      · simp at h; rw [h]; exact fmod_range r (by decide)
    have e1 := append_new (μ := μ) (xs := ms.map .int) (v := .int (r.fmod 1009)) (by rw [List.length_map]; omega)
    have e2 : ms.map PV.int ++ [.int (r.fmod 1009)] = (ms ++ [r.fmod 1009]).map PV.int := by simp
    rw [e2] at e1
    unfold forGo
    rw [if_pos always_true]
    by_cases h0 : r / 1009 = 0
    · refine ⟨0, some v, ms ++ [r.fmod 1009], ?_, hm2, by simp⟩
      simp [isL_new, fMod_ok, e1, fFdiv_lt, h0]
    · obtain ⟨r', a4', ms', e, q1, q2⟩ := stream_big (μ := μ) vs a0 a2 (some v) a5 (r / 1009) (ms ++ [r.fmod 1009]) hr2 hm2 (by simp; omega)
      refine ⟨r', a4', ms', ?_, q1, by simp at q2; omega⟩
      simp [isL_new, fMod_ok, e1, fFdiv_lt, h0, -List.map_append]
      simpa using e
theorem stream_small {μ : MH} : ∀ (ks : List Nat) (a0 a2 a3 a4 : Option PV) (r : Int) (ms : List Int), (∀ k ∈ ks, k < 10) → 0 ≤ r → r < 2147483647 → (∀ m ∈ ms, 0 ≤ m ∧ m < 1009) → ms.length + ks.length ≤ 10000 →
    ∃ (r' : Int) (a4' : Option PV) (ms' : List Int), forGo always (.nm 4) L2__law_stream (ks.map fun k => .int (k : Nat)) [a0, some (.ref μ.length), a2, a3, a4, some (.int r)] (μ ++ [.lst (ms.map .int)]) = .nx [a0, some (.ref μ.length), a2, a3, a4', some (.int r')] (μ ++ [.lst (ms'.map .int)]) ∧ (∀ m ∈ ms', 0 ≤ m ∧ m < 1009) ∧ ms'.length ≤ ms.length + ks.length
  | [], a0, a2, a3, a4, r, ms, _, _, _, hm, hl => ⟨r, a4, ms, by unfold forGo; rfl, hm, by simp⟩
  | k :: ks, a0, a2, a3, a4, r, ms, hk, hr, hr2, hm, hl => by
    simp only [List.length_cons] at hl ⊢
    have hk0 := hk k (by simp)
    have s1 : Sz 31 r := by unfold Sz; omega
    have s2 : Sz 16 48271 := by decide
    have s3 : Sz 4 7 := by decide
    have s4 : Sz 4 (k : Nat) := by unfold Sz; omega
    have m1 := s1.okMul s2 (by decide) (by decide) (by decide)
    have m2 := s3.okMul s4 (by decide) (by decide) (by decide)
    have b1 := fmod_range (r * 48271 + 7 * (k : Nat) + 11) (m := 2147483647) (by decide)
    generalize hq : (r * 48271 + 7 * (k : Nat) + 11).fmod 2147483647 = q at b1
    have s5 : Sz 31 q := by unfold Sz; omega
    have s6 : Sz 17 69621 := by decide
    have m3 := s5.okMul s6 (by decide) (by decide) (by decide)
    generalize hp : (q * 69621 + (k : Nat)).fmod 2147483629 = p
    have hm2 : ∀ m ∈ ms ++ [p.fmod 1009], 0 ≤ m ∧ m < 1009 := fun m h => by
      rcases List.mem_append.mp h with h | h
      · exact hm m h
      · simp at h; rw [h]; exact fmod_range p (by decide)
    have e1 := append_new (μ := μ) (xs := ms.map .int) (v := .int (p.fmod 1009)) (by rw [List.length_map]; omega)
    obtain ⟨r', a4', ms', e, q1, q2⟩ := stream_small (μ := μ) ks a0 a2 a3 (some (.int (k : Nat))) q (ms ++ [p.fmod 1009]) (fun k h => hk k (by simp [h])) b1.1 b1.2 hm2 (by simp; omega)
    refine ⟨r', a4', ms', ?_, q1, by simp at q2; omega⟩
    rw [List.map_cons]
    unfold forGo
    rw [if_pos always_true]
    simp [isL_new, fMod_ok, e1, fMul_ok m1, fMul_ok m2, fMul_ok m3, hq, hp]
    simpa using e
theorem rangeVals_nat (n : Nat) : rangeVals 0 n = (List.range n).map fun i => .int (i : Nat) := by
  unfold rangeVals
  simp
theorem stream_all {μ : MH} : ∀ (vs : List Int) (a0 a2 a3 a4 a5 : Option PV) (ms : List Int), (∀ m ∈ ms, 0 ≤ m ∧ m < 1009) → ms.length + 60 * vs.length ≤ 9000 →
    ∃ (a2' a3' a4' a5' : Option PV) (ms' : List Int), forGo always (.nm 2) L3__law_stream (vs.map .int) [a0, some (.ref μ.length), a2, a3, a4, a5] (μ ++ [.lst (ms.map .int)]) = .nx [a0, some (.ref μ.length), a2', a3', a4', a5'] (μ ++ [.lst (ms'.map .int)]) ∧ (∀ m ∈ ms', 0 ≤ m ∧ m < 1009) ∧ ms'.length ≤ ms.length + 60 * vs.length
  | [], a0, a2, a3, a4, a5, ms, hm, hl => ⟨a2, a3, a4, a5, ms, by unfold forGo; rfl, hm, by simp⟩
  | v :: vs, a0, a2, a3, a4, a5, ms, hm, hl => by
    simp only [List.length_cons] at hl ⊢
    generalize hab : (if v < 0 then -v else v) = w
    have hw : 0 ≤ w := by rw [← hab]; split <;> omega
    have e3 : (10 : Int) ^ (18 : Int).toNat = 1000000000000000000 := by decide
    rw [List.map_cons]
    unfold forGo
    rw [if_pos always_true]
    by_cases hb : 1000000000000000000 ≤ w
    · obtain ⟨r', a4', ms1, e, q1, q2⟩ := stream_big (μ := μ) (rangeVals 0 60) a0 (some (.int v)) a4 a5 w ms hw hm (by simp [rangeVals]; omega)
      obtain ⟨b2, b3, b4, b5, ms', e', p1, p2⟩ := stream_all (μ := μ) vs a0 (some (.int v)) (some (.int r')) a4' a5 ms1 q1 (by simp [rangeVals] at q2; omega)
      refine ⟨b2, b3, b4, b5, ms', ?_, p1, by simp [rangeVals] at q2; omega⟩
      simp [hab, fPow_ok, hb, sFor, e]
      simpa using e'
    · have b1 := fmod_range w (m := 2147483647) (by decide)
      obtain ⟨r', a4', ms1, e, q1, q2⟩ := stream_small (μ := μ) (List.range 10) a0 (some (.int v)) (some (.int w)) a4 (w.fmod 2147483647) ms (fun k h => by simpa using h) b1.1 b1.2 hm (by simp; omega)
      rw [← rangeVals_nat] at e
      obtain ⟨b2, b3, b4, b5, ms', e', p1, p2⟩ := stream_all (μ := μ) vs a0 (some (.int v)) (some (.int w)) a4' (some (.int r')) ms1 q1 (by simp at q2; omega)
      refine ⟨b2, b3, b4, b5, ms', ?_, p1, by simp at q2; omega⟩
      simp [hab, fPow_ok, hb, sFor, fMod_ok, e]
      simpa using e'
def LawStream (c : MF) : Prop := ∀ (ns : List Int) (μ : MH), ns.length ≤ 63 → ∃ ms, GoodN ms ∧ c [.scr (ns.map .int)] μ = .ok (.frl (ms.map .int)) μ
theorem law__law_stream : LawStream (cleanF raw__law_stream) := by
  intro ns μ hn
  have hc := cutL_len ns none (some 63)
  obtain ⟨b2, b3, b4, b5, ms, e, h1, h2⟩ := stream_all (μ := μ) (cutL ns none (some 63)) (some (.scr (ns.map .int))) none none none none [] (by simp) (by simp; omega)
  have e1 : ∀ μ, fSlC (.scr (ns.map .int)) none (some 63) μ = .ok (.frl ((cutL ns none (some 63)).map .int)) μ := fun μ => by
    rw [fSlC_scr, cutL_map]
  simp only [List.map_nil] at e
  have hl : ms.length ≤ 60 * 63 := by simp at h2; omega
  have fin : ∀ ms' : List Int, cl μ (.ok (.ref μ.length) (μ ++ [.lst (ms'.map .int)])) = .ok (.frl (ms'.map .int)) μ := fun ms' => cl_app (fz_new (Nat.le_refl _) (by simp) (los_ints _ _))
  unfold cleanF
  by_cases h0 : ms = []
  · subst h0
    refine ⟨[0], ⟨by simp, by simp, by simp⟩, ?_⟩
    have e2 : fAppend (.ref μ.length) [.int 0] (μ ++ [.lst []]) = .ok .non (μ ++ [.lst [.int 0]]) := append_new (by simp)
    have : raw__law_stream [.scr (ns.map .int)] μ = .ok (.ref μ.length) (μ ++ [.lst (([0] : List Int).map .int)]) := by
      unfold raw__law_stream mDef b__law_stream sFor mOver
      simp [mSlC, e1, planOf, e, fLen_new, isL_new, e2]
    rw [this]
    exact fin [0]
  · refine ⟨ms, ⟨h0, by omega, h1⟩, ?_⟩
    have : raw__law_stream [.scr (ns.map .int)] μ = .ok (.ref μ.length) (μ ++ [.lst (ms.map .int)]) := by
      unfold raw__law_stream mDef b__law_stream sFor mOver
      simp [mSlC, e1, planOf, e, fLen_new, h0]
    rw [this]
    exact fin ms
/-! ### draws one by one -/
def DrawF (n : Nat) (P : PV → Prop) (f : MF) (args : List PV) : Prop := ∀ (ms : List Int) (c : Int) (rest : MH), GoodN ms → 0 ≤ c → c + n ≤ 1000000 → ∃ v c', P v ∧ c ≤ c' ∧ c' ≤ c + n ∧ f args (stM ms c :: rest) = .ok v (stM ms c' :: rest)
theorem lo_stM (ms : List Int) (c : Int) (n : Nat) : (stM ms c).lo n = true := by
  unfold stM MO.lo
  simp [PV.los, PV.lo, los_ints]
/-- how the worth of a drawing def is cleaned -/
theorem cl_st {ms : List Int} {c c' : Int} {rest junk : MH} {v0 v : PV} (h : fzV (rest.length + 1) (stM ms c' :: (rest ++ junk)) v0 = some v) : cl (stM ms c :: rest) (.ok v0 (stM ms c' :: (rest ++ junk))) = .ok v (stM ms c' :: rest) := by
  have := cl_ok (μ := stM ms c :: rest) (ν := stM ms c' :: (rest ++ junk)) (v0 := v0) (v := v) (by simp) (fun j o hj e => by
    cases j with
    | zero => simp at e; subst e; exact .inr (lo_stM _ _ _)
    | succ j =>
      left
      simp at hj
      simp only [List.getElem?_cons_succ] at e ⊢
      rw [List.getElem?_append_left hj] at e
      exact e) (by simpa using h)
  rw [this]
  simp
theorem cl_st0 {ms : List Int} {c c' : Int} {rest : MH} {v : PV} (h : v.lo (rest.length + 1) = true) : cl (stM ms c :: rest) (.ok v (stM ms c' :: rest)) = .ok v (stM ms c' :: rest) := by
  have := cl_st (ms := ms) (c := c) (c' := c') (rest := rest) (junk := []) (v0 := v) (v := v) (fz_lo h)
  simpa using this
def isIn (lo hi : Int) (v : PV) : Prop := ∃ d : Int, v = .int d ∧ lo ≤ d ∧ d < hi
theorem atI_nat {α : Type} {xs : List α} {j : Nat} {x : α} (h : xs[j]? = some x) : atI xs (j : Nat) = some x := by
  have hj := (List.getElem?_eq_some_iff.mp h).1
  unfold atI ixN
  rw [if_pos (by omega), if_pos (by omega)]
  simp [h]
theorem atI_int {α : Type} {xs : List α} {d : Int} (h : 0 ≤ d) (h2 : d < xs.length) : ∃ x, xs[d.toNat]? = some x ∧ atI xs d = some x := by
  have hx : xs[d.toNat]? = some (xs[d.toNat]'(by omega)) := List.getElem?_eq_getElem (by omega)
  refine ⟨_, hx, ?_⟩
  have := atI_nat hx
  rwa [Int.toNat_of_nonneg h] at this
def LawNext (f : MF) : Prop := ∀ many : Int, 1 ≤ many → many ≤ 1000000 → DrawF 1 (isIn 0 many) f [.ref 0, .int many]
@[simp] theorem ix_st1 {ms : List Int} {c : Int} {rest : MH} : fIx (.ref 0) (.int 1) (stM ms c :: rest) = .ok (.int c) (stM ms c :: rest) := rfl
@[simp] theorem ix_st0 {ms : List Int} {c : Int} {rest : MH} : fIx (.ref 0) (.int 0) (stM ms c :: rest) = .ok (.frl (ms.map .int)) (stM ms c :: rest) := rfl
@[simp] theorem store_st {ms : List Int} {c d : Int} {rest : MH} : fStore (.ref 0) (.int 1) (.int d) (stM ms c :: rest) = some (stM ms d :: rest) := rfl
theorem law__law_next : LawNext (cleanF raw__law_next) := by
  intro many h1 h2 ms c rest ⟨g1, g2, g3⟩ hc hc2
  have hl : 0 < (ms.length : Int) := by
    cases ms with
    | nil => exact absurd rfl g1
    | cons => simp
  have r1 := fmod_range (c + 1) hl
  obtain ⟨m, hm⟩ : ∃ m, ms[((c + 1).fmod ms.length).toNat]? = some m := ⟨_, List.getElem?_eq_getElem (by omega)⟩
  have hi : atI (ms.map PV.int) ((c + 1).fmod ms.length) = some (.int m) := by
    have := atI_nat (xs := ms.map PV.int) (j := ((c + 1).fmod ms.length).toNat) (x := .int m) (by rw [List.getElem?_map, hm]; rfl)
    rwa [Int.toNat_of_nonneg r1.1] at this
  have t0 : 0 ≤ (c + 1) / (ms.length : Int) := Int.ediv_nonneg (by omega) (by omega)
  have t1 : (c + 1) / (ms.length : Int) ≤ c + 1 := Int.ediv_le_self _ (by omega)
  have s1 : Sz 21 ((c + 1) / (ms.length : Int)) := by unfold Sz; omega
  have s2 : Sz 21 (c + 1) := by unfold Sz; omega
  have m1 := s1.okMul (show Sz 9 389 by decide) (by decide) (by decide) (by decide)
  have m2 := s2.okMul s1 (by decide) (by decide) (by decide)
  have m3 := (s2.mul s1).okMul (show Sz 5 17 by decide) (by decide) (by decide) (by decide)
  have hz : (ms.length : Int) ≠ 0 := by omega
  refine ⟨_, c + 1, ⟨_, rfl, fmod_range (m + (c + 1) / (ms.length : Int) * 389 + (c + 1) * ((c + 1) / (ms.length : Int)) * 17) (by omega)⟩, by omega, by omega, ?_⟩
  have e : raw__law_next [.ref 0, .int many] (stM ms c :: rest) = .ok (.int ((m + (c + 1) / (ms.length : Int) * 389 + (c + 1) * ((c + 1) / (ms.length : Int)) * 17).fmod many)) (stM ms (c + 1) :: rest) := by
    unfold raw__law_next mDef b__law_next
    have hm0 : many ≠ 0 := by omega
    have eF : ∀ ν, fFdiv (.int (c + 1)) (.int (ms.length : Nat)) ν = .ok (.int ((c + 1) / (ms.length : Int))) ν := fun ν => fFdiv_lt hl (by omega)
    have eM : ∀ ν, fMod (.int (c + 1)) (.int (ms.length : Nat)) ν = .ok (.int ((c + 1).fmod (ms.length : Int))) ν := fun ν => fMod_ok hz
    simp [fLen_frl, eF, eM, hi, fMul_ok m1, fMul_ok m2, fMul_ok m3, fMod_ok hm0]
  unfold cleanF
  rw [e]
  exact cl_st0 (by simp [PV.lo])
end Mini

/-! M36: the laws' comparison by texts; statements one behind another. -/
namespace Mini
open PySem PySem.Spec PyProof.Rows L2
def b__law_same : MSt :=
  (sRet (mOp fEq (mCallP fRepr (msCons (mCallP fFrl (msCons (mVar 0) msNil)) msNil)) (mCallP fRepr (msCons (mCallP fFrl (msCons (mVar 1) msNil)) msNil))))
abbrev raw__law_same : MF := mDef 2 2 (b__law_same)
def LawSame (c : MF) : Prop := ∀ (x y : PV) (μ : MH) (d : PyData), toD μ x = some d → toD μ y = some d → okD d = true → shw d ≤ 16000000 → d.depth ≤ 50 → c [x, y] μ = .ok (.bl true) μ
theorem law__law_same : LawSame (cleanF raw__law_same) := by
  intro x y μ d hx hy h1 h2 h3
  have r : ∀ v, toD μ v = some d → fRepr [.frl [v]] μ = .ok (.str (PyData.shown (.list [d]))) μ := fun v hv => by
    show reprOf (.frl [v]) μ = _
    refine reprOf_fits (d := .list [d]) ?_ ?_ ?_ ?_
    · simp only [toD, toDs, hv, Option.map]
    · simp [okD, okDs, h1]
    · simp [shw, shws]; omega
    · simp [PyData.depth, PyData.depthAll]; omega
  have e2 : raw__law_same [x, y] μ = .ok (.bl true) μ := by
    unfold raw__law_same mDef b__law_same
    simp [r x hx, r y hy]
  unfold cleanF
  rw [e2]
  exact cl_self (by simp [PV.lo])
theorem same_dat {c : MF} (h : LawSame c) {v : PV} {d : PyData} {n b : Nat} {μ : MH} (hd : Dat n b v d) (hn : n ≤ 16000000) (hb : b ≤ 50) : c [v, v] μ = .ok (.bl true) μ := h v v μ d (hd.t μ) (hd.t μ) hd.ok (Nat.le_trans hd.w hn) (Nat.le_trans hd.dp hb)
end Mini

/-! M37: the head's facts of constants, classes, _law_error. -/
namespace Mini
open PySem PySem.Spec PyProof.Rows L2 HotX L2H
theorem DefOk.cleanX {P : Program} {w : World} {K : PySem.W.Frag} {mg : Str → Option Value} {base : Heap} {x : Str} {k : Nat} {f : MF} (D : DefOk P w K mg base x k (spM K (oR mg) f)) : DefOk P w K mg base x k (spM K (oR mg) (cleanF f)) :=
  D.imp (spM_ref oR_ok (ref_clean f))
def FactV (K : PySem.W.Frag) (x : Str) (pv : PV) : Prop := ∃ (v : V) (u : Value), PySem.W.nsIn K mainGlobals x = some (some u) ∧ RelV v u ∧ ∀ (G : Gx) (H : Hp) (β : List Addr), PRel G H β pv v
theorem FactV.int {K : PySem.W.Frag} {x : Str} {i : Int} {t : Tok} (h : PySem.W.nsIn K mainGlobals x = some (some (.int i t))) : FactV K x (.int i) := ⟨.int i, _, h, ⟨t, rfl⟩, fun _ _ _ => .int_⟩
theorem FactV.str {K : PySem.W.Frag} {x z : Str} {t : Tok} (h : PySem.W.nsIn K mainGlobals x = some (some (.str z t))) : FactV K x (.str z) := ⟨.str z, _, h, ⟨t, rfl⟩, fun _ _ _ => .str_⟩
theorem FactV.get {K : PySem.W.Frag} {x : Str} {pv : PV} {h : Heap} {mg : Str → Option Value} (f : FactV K x pv) (KX : K.In h) (G : h.Ns mainGlobals mg) : GlobV mg x pv := by
  obtain ⟨v, u, e, r, p⟩ := f
  exact ⟨v, u, PySem.W.mg_of KX G e, r, p⟩
theorem FactD.keep {K : PySem.W.Frag} {x : Str} {st : Stmt} {h : Heap} {mg : Str → Option Value} (D : FactD K x st) (KX : K.In h) (G : h.Ns mainGlobals mg) {f : Addr} (m : mg x = some (.ref f)) : PySem.W.keepIn K (.ref f) = true := by
  obtain ⟨f', oc, od, kV, doc, pm, an, cdv, ct, osl, a, l, c, k⟩ := D.ex
  have := PySem.W.mg_of KX G a
  rw [m] at this
  cases this
  exact k
theorem wd_int {K : PySem.W.Frag} {d : Addr} {z : Str} {i : Int} {t : Tok} (h : PySem.W.nsIn K d z = some (some (.int i t))) : ∃ t, PySem.W.nsIn K d z = some (some (.int i t)) := ⟨t, h⟩
theorem kit_self {K : PySem.W.Frag} {C : Addr} : PySem.W.kitOne K (.ref C) (.ref C) = some true := by
  unfold PySem.W.kitOne
  rw [if_pos (by simp)]
theorem kit_no {K : PySem.W.Frag} {C D : Addr} (n : (Value.ref C == Value.ref D) = false) (i : PySem.W.isClsIn K D = true) (t : PySem.W.typeIn K (.ref D) = some (.type "type")) (s : PySem.W.subIn K (.ref C) (.ref D) = some false) : PySem.W.kitOne K (.ref C) (.ref D) = some false := by
  unfold PySem.W.kitOne
  rw [if_neg (by rw [n]; decide)]
  unfold PySem.W.kitCls
  have i' : (PySem.W.clsIn K D).isSome = true := i
  simp only
  rw [if_pos (by rw [i', t]; rfl)]
  exact s
/-- what the head tells of a class that _law_error knows -/
structure FactX (K : PySem.W.Frag) (c : Str) (C te : Addr) : Prop where
  at_ : PySem.W.nsIn K mainGlobals c = some (some (.ref C))
  exc : ExcC K C
  tell : PySem.W.exmOne K (.ref C) (.ref te) = some true
theorem ErrH.of4 {P : Program} {w : World} {K : PySem.W.Frag} {mg : Str → Option Value} {base h : Heap} {k : Nat} {fE : Addr} {fd : FuncData} {te c1 c2 c3 c4 c5 : Addr} (KX : K.In h) (G : h.Ns mainGlobals mg) (D : ErrDef P w K mg base k fE fd) (B : Binds K fd ["e"] []) (m : mg "_law_error" = some (.ref fE)) (kp : PySem.W.keepIn K (.ref fE) = true)
    (mT : PySem.W.nsIn K mainGlobals "TellError" = some (some (.ref te))) (x1 : FactX K "NotAllowed" c1 te) (x2 : FactX K "TooLarge" c2 te) (x3 : FactX K "Missing" c3 te) (x4 : FactX K "BadPaper" c4 te) (m5 : PySem.W.nsIn K mainGlobals "BadForm" = some (some (.ref c5)))
    (t12 : PySem.W.kitOne K (.ref c1) (.ref c2) = some false) (t13 : PySem.W.kitOne K (.ref c1) (.ref c3) = some false) (t14 : PySem.W.kitOne K (.ref c1) (.ref c4) = some false) (t15 : PySem.W.kitOne K (.ref c1) (.ref c5) = some false)
    (t21 : PySem.W.kitOne K (.ref c2) (.ref c1) = some false) (t23 : PySem.W.kitOne K (.ref c2) (.ref c3) = some false) (t24 : PySem.W.kitOne K (.ref c2) (.ref c4) = some false) (t25 : PySem.W.kitOne K (.ref c2) (.ref c5) = some false)
    (t31 : PySem.W.kitOne K (.ref c3) (.ref c1) = some false) (t32 : PySem.W.kitOne K (.ref c3) (.ref c2) = some false) (t34 : PySem.W.kitOne K (.ref c3) (.ref c4) = some false) (t35 : PySem.W.kitOne K (.ref c3) (.ref c5) = some false)
    (t41 : PySem.W.kitOne K (.ref c4) (.ref c1) = some false) (t42 : PySem.W.kitOne K (.ref c4) (.ref c2) = some false) (t43 : PySem.W.kitOne K (.ref c4) (.ref c3) = some false) (t45 : PySem.W.kitOne K (.ref c4) (.ref c5) = some false) : ErrH P w K mg base k := by
  have n1 := PySem.W.mg_of KX G x1.at_
  have n2 := PySem.W.mg_of KX G x2.at_
  have n3 := PySem.W.mg_of KX G x3.at_
  have n4 := PySem.W.mg_of KX G x4.at_
  have n5 := PySem.W.mg_of KX G m5
  refine ⟨fE, fd, te, D, B, m, kp, PySem.W.mg_of KX G mT, fun c r C hw hm => ?_⟩
  unfold lawWords at hw
  by_cases e1 : c = "NotAllowed"
  · rw [if_pos e1] at hw
    subst e1
    cases hm.symm.trans n1
    cases hw
    exact ⟨⟨x1.exc, c1, c2, c3, c4, c5, true, false, false, false, false, 0, n1, n2, n3, n4, n5, kit_self, t12, t13, t14, t15, rfl, rfl, fun j hj => absurd hj (by omega), rfl, rfl⟩, x1.tell⟩
  rw [if_neg e1] at hw
  by_cases e2 : c = "TooLarge"
  · rw [if_pos e2] at hw
    subst e2
    cases hm.symm.trans n2
    cases hw
    exact ⟨⟨x2.exc, c1, c2, c3, c4, c5, false, true, false, false, false, 1, n1, n2, n3, n4, n5, t21, kit_self, t23, t24, t25, rfl, rfl, fun j hj => by rw [show j = 0 by omega]; rfl, rfl, rfl⟩, x2.tell⟩
  rw [if_neg e2] at hw
  by_cases e3 : c = "Missing"
  · rw [if_pos e3] at hw
    subst e3
    cases hm.symm.trans n3
    cases hw
    exact ⟨⟨x3.exc, c1, c2, c3, c4, c5, false, false, true, false, false, 2, n1, n2, n3, n4, n5, t31, t32, kit_self, t34, t35, rfl, rfl, fun j hj => by rcases (show j = 0 ∨ j = 1 by omega) with rfl | rfl <;> rfl, rfl, rfl⟩, x3.tell⟩
  rw [if_neg e3] at hw
  by_cases e4 : c = "BadPaper"
  · rw [if_pos e4] at hw
    subst e4
    cases hm.symm.trans n4
    cases hw
    exact ⟨⟨x4.exc, c1, c2, c3, c4, c5, false, false, false, true, false, 3, n1, n2, n3, n4, n5, t41, t42, t43, kit_self, t45, rfl, rfl, fun j hj => by rcases (show j = 0 ∨ j = 1 ∨ j = 2 by omega) with rfl | rfl | rfl <;> rfl, rfl, rfl⟩, x4.tell⟩
  rw [if_neg e4] at hw
  cases hw
end Mini

/-! M38: a read dict walked, its keys sorted. -/
namespace Mini
open PySem PySem.Spec PyProof.Rows L2
def kP : Key → PV
  | .inl i => .int i
  | .inr x => .str x
theorem kP_rel {G : Gx} {H : Hp} {β : List Addr} : ∀ k : Key, PRel G H β (kP k) (kV k)
  | .inl _ => .int_
  | .inr _ => .str_
def oneKey : List Key → Option Key
  | [j] => some j
  | _ => none
/-- the keys of a read dict with one key each -/
def fkeys : PV → Option (List Key × List PV)
  | .frd false ks xs => (ks.mapM oneKey).map fun js => (js, xs)
  | _ => none
theorem mapM_one : ∀ (kvs : List (Key × V)) (js : List Key), (kvs.map fun p => [p.1]).mapM oneKey = some js → js = kvs.map (·.1)
  | [], js, h => by simp at h; rw [h]; rfl
  | p :: kvs, js, h => by
    rw [List.map_cons, List.mapM_cons] at h
    cases e : (kvs.map fun p => [p.1]).mapM oneKey with
    | none => rw [e] at h; cases h
    | some rs =>
      rw [e] at h
      cases h
      rw [mapM_one kvs rs e]
      rfl
theorem fkeys_ok {K : PySem.W.Frag} {av : List Addr} {H : Hp} {β : List Addr} {v : PV} {x : V} {js : List Key} {xs : List PV} (p : PRel ⟨K, av⟩ H β v x) (h : fkeys v = some (js, xs)) :
    ∃ (a : Addr) (o : Obj) (kvs : List (Key × V)), x = .ref a ∧ H a = some (.frz o (.dK kvs)) ∧ a ∉ β ∧ a ∉ av ∧ js = kvs.map (·.1) ∧ PRels ⟨K, av⟩ H β xs (kvs.map (·.2)) := by
  unfold fkeys at h
  split at h
  case h_2 => cases h
  rename_i ks ys
  rw [Option.map_eq_some_iff] at h
  obtain ⟨js', e, q⟩ := h
  cases q
  unfold PRel at p
  obtain ⟨a, vs, rfl, ⟨⟨o, kvs, ha, ek, ev⟩, n1, n2⟩, ps⟩ := p
  subst ek
  subst ev
  exact ⟨a, o, kvs, rfl, ha, n1, n2, mapM_one kvs js e, ps⟩
def mKeys (a : ME) : MI := fun s μ => (a s μ).bind fun v μ1 => match fkeys v with
  | some (js, _) => .ok ⟨js.map kP, always⟩ μ1
  | none => .bad
def mItems (a : ME) : MI := fun s μ => (a s μ).bind fun v μ1 => match fkeys v with
  | some (js, xs) => .ok ⟨(js.zip xs).map fun p => .tup [kP p.1, p.2], always⟩ μ1
  | none => .bad
section
variable {X : Cx} {XR : XRel} {E : L2.St → XK} {tg : Expr}
theorem mi_keys {e : Expr} {m : ME} (he : PM X XR E e m) : PIM X XR E tg e (mKeys m) :=
  PI.imp (pi_keys he) fun σ H Q ⟨av, β, s, μ, rl, sr, h⟩ => by
    unfold iKeys
    refine ti_e rl sr h fun v μ1 x H1 β1 ex rl1 sr1 p q => ?_
    split at q
    case h_2 => exact q.elim
    rename_i js xs e1
    obtain ⟨a, o, kvs, rfl, ha, n1, n2, rfl, ps⟩ := fkeys_ok p e1
    refine ⟨a, o, rfl, .inl ⟨kvs, ha, q _ H1 β1 .refl rl1 fun av' hv H2 β2 μ2 ex2 rl2 _ i => ?_⟩⟩
    have at2 := ex2.stay _ _ ha n1 (not_av hv (by rw [ha]; exact fun q => nomatch q) n2)
    show match (List.map kP (kvs.map (·.1)))[i]? with | some v => _ | none => _
    rw [List.getElem?_map, List.getElem?_map]
    cases e2 : kvs[i]? with
    | none => exact ⟨at2, List.getElem?_eq_none_iff.mp e2⟩
    | some kv =>
      refine ⟨⟨at2, (List.getElem?_eq_some_iff.mp e2).1⟩, fun x' H3 ⟨eH, k, w, e3, ex'⟩ => ?_⟩
      rw [e2] at e3
      cases e3
      subst eH
      subst ex'
      exact ⟨.refl, rl2, kP_rel _⟩
theorem mi_items {e : Expr} {m : ME} {elts : List Expr} {kk : Nat} {tpos apos cpos : Pos} (he : PM X XR E e m) (hbase : attributeBase e "items" X.env (eval e X.env) = eval e X.env := by rfl) (hline : (apos.endLine == cpos.line) = true := by rfl) :
    PIM X XR E (.Tuple elts kk tpos) (.Call (.Attribute e "items" apos) [] [] cpos) (mItems m) :=
  PI.imp (pi_items he hbase hline) fun σ H Q ⟨av, β, s, μ, rl, sr, h⟩ => by
    unfold iItems
    refine ti_e rl sr h fun v μ1 x H1 β1 ex rl1 sr1 p q => ?_
    split at q
    case h_2 => exact q.elim
    rename_i js xs e1
    obtain ⟨a, o, kvs, rfl, ha, n1, n2, rfl, ps⟩ := fkeys_ok p e1
    refine ⟨a, o, kvs, rfl, ha, q _ H1 β1 .refl rl1 fun av' hv H2 β2 μ2 ex2 rl2 _ i => ?_⟩
    have at2 := ex2.stay _ _ ha n1 (not_av hv (by rw [ha]; exact fun q => nomatch q) n2)
    have ps2 := up_rels hv ps ex2
    have len := ps2.length
    show match (List.map (fun p : Key × PV => PV.tup [kP p.1, p.2]) ((kvs.map (·.1)).zip xs))[i]? with | some v => _ | none => _
    rw [List.getElem?_map]
    cases e2 : kvs[i]? with
    | none =>
      have : ((kvs.map (·.1)).zip xs)[i]? = none := List.getElem?_eq_none (by
        have := List.getElem?_eq_none_iff.mp e2
        rw [List.length_zip, List.length_map]
        omega)
      rw [this]
      exact ⟨at2, List.getElem?_eq_none_iff.mp e2⟩
    | some kv =>
      obtain ⟨hi, eg⟩ := List.getElem?_eq_some_iff.mp e2
      rw [List.length_map] at len
      have e4 : xs[i]? = some (xs[i]'(by omega)) := List.getElem?_eq_getElem (by omega)
      have : ((kvs.map (·.1)).zip xs)[i]? = some (kv.1, xs[i]'(by omega)) := by
        rw [List.getElem?_zip_eq_some]
        exact ⟨by rw [List.getElem?_map, e2]; rfl, e4⟩
      rw [this]
      obtain ⟨y, e5, p5⟩ := ps2.get e4
      rw [List.getElem?_map, e2] at e5
      cases e5
      refine ⟨⟨at2, hi⟩, fun x' H3 ⟨T, k, w, e3, ex', hT, eH⟩ => ?_⟩
      rw [e2] at e3
      cases e3
      subst eH
      subst ex'
      exact pair_new rl2 hT (.cons (kP_rel _) (.cons p5 .nil))
end
/-! ### sorted -/
def keyInt : Key → Option Int
  | .inl i => some i
  | .inr _ => none
def frKeys (v : PV) : Option (List Int) := match fkeys v with
  | some (js, _) => js.mapM keyInt
  | none => none
theorem mapM_inl : ∀ (js : List Key) (ns : List Int), (js.mapM keyInt) = some ns → js = ns.map Sum.inl
  | [], ns, h => by simp at h; subst h; rfl
  | .inl i :: js, ns, h => by
    rw [List.mapM_cons] at h
    cases e : (js.mapM keyInt) with
    | none => rw [e] at h; cases h
    | some rs =>
      rw [e] at h
      cases h
      rw [mapM_inl js rs e]
      rfl
  | .inr x :: js, ns, h => by rw [List.mapM_cons] at h; cases h
def fSortedX : List PV → MH → R PV
  | [v], μ => match frKeys v with
    | some ns => if ns.length < 64 then .ok (.frl ((sortI ns).map PV.int)) μ else .bad
    | none => fSorted [v] μ
  | _, _ => .bad
theorem cm_sortedX {K : PySem.W.Frag} {XR : XRel} : CallM K XR fSortedX (rSortedA K) := by
  intro av E H β μ v x Q rl pv h
  unfold fSortedX at h
  split at h
  case h_2 => exact h.elim
  rename_i w μ
  split at h
  case h_2 => exact cm_sorted av E H β _ _ x Q rl pv h
  rename_i ns e
  split at h
  case isFalse => exact h.elim
  rename_i hl
  obtain ⟨y, rfl, p⟩ := one_inv pv
  unfold frKeys at e
  split at e
  case h_2 => cases e
  rename_i js xs e1
  obtain ⟨a, o, kvs, rfl, ha, n1, n2, rfl, ps⟩ := fkeys_ok p e1
  refine .inr ⟨a, kvs, ns, rfl, .inr ⟨o, ha⟩, mapM_inl _ _ e, hl, fun ys b h1 h2 h3 => ?_⟩
  rw [sortI_eq h1 h2]
  exact new_frl rl (rel_ints _) h b h3
end Mini

/-! M39: sorted of data. -/
namespace Mini
open PySem PySem.Spec PyProof.Rows L2 PySem.W
def fSortedFL : List PV → MH → R PV
  | [v], μ => match frKeys v with
    | some ns => if ns.length < 64 then .ok (.ref μ.length) (μ ++ [.lst ((sortI ns).map PV.int)]) else .bad
    | none => .bad
  | _, _ => .bad
theorem cm_sortedFL {K : PySem.W.Frag} {XR : XRel} : CallM K XR fSortedFL (rSortedA K) := by
  intro av E H β μ v x Q rl pv h
  unfold fSortedFL at h
  split at h
  case h_2 => exact h.elim
  rename_i w μ
  split at h
  case h_2 => exact h.elim
  rename_i ns e
  split at h
  case isFalse => exact h.elim
  rename_i hl
  obtain ⟨y, rfl, p⟩ := one_inv pv
  unfold frKeys at e
  split at e
  case h_2 => cases e
  rename_i js xs e1
  obtain ⟨a, o, kvs, rfl, ha, n1, n2, rfl, ps⟩ := fkeys_ok p e1
  refine .inr ⟨a, kvs, ns, rfl, .inr ⟨o, ha⟩, mapM_inl _ _ e, hl, fun ys b h1 h2 h3 => ?_⟩
  rw [sortI_eq h1 h2]
  exact new_lst rl (rel_ints _) h b h3
/-! ### data -/
def rSortD (K : PySem.W.Frag) : List V → Hp → VK → Prop := fun vs H Q => ∃ (a : Addr) (bs : List (V × PyData)), vs = [V.ref a] ∧ SqL K H a (bs.map (·.1)) ∧ (∀ b ∈ bs, Dp K H b.1 b.2) ∧ AllAlike (bs.map (·.2)) ∧ Sortable (bs.map (·.2)) ∧ (∀ b ∈ bs, b.2.depth ≤ 60) ∧
  ∀ p, H p = none → Q (.ref p) (upd H p (.lst ((bs.mergeSort (dataLe false (·.2))).map (·.1))))
section
variable {X : Cx}
theorem vals_each {pins : List (Addr × Obj)} {σ : L2.St} {H : Hp} {s : Shared} (I : Inv X pins σ H s) : ∀ {bs : List (V × PyData)} {its : List Value}, Vals (bs.map (·.1)) its → (∀ b ∈ bs, Dp X.K H b.1 b.2) → EachIs (fun u b => RelV b.1 u) its bs ∧ EachIs (fun u b => ∃ as, Reads s.heap u b.2 as) its bs
  | [], its, h, _ => by cases h; exact ⟨.nil, .nil⟩
  | b :: bs, its, h, d => by
    rw [List.map_cons] at h
    cases h with
    | cons r rs =>
      obtain ⟨h1, h2⟩ := vals_each I rs fun c hc => d c (List.mem_cons_of_mem _ hc)
      exact ⟨.cons r h1, .cons (Dp.reads I b.2 b.1 _ (d b List.mem_cons_self) r) h2⟩
theorem each_vals : ∀ {bs : List (V × PyData)} {its : List Value}, EachIs (fun u b => RelV b.1 u) its bs → Vals (bs.map (·.1)) its
  | [], its, h => by cases h; exact .nil
  | b :: bs, its, h => by
    cases h with
    | cons r rs => exact .cons r (each_vals rs)
theorem cr_sortD (hu : X.A.units + 62 < cLine) : CallR X (.builtin "sorted") (rSortD X.K) := by
  intro pins s σ H vs us Q I r h
  obtain ⟨a, bs, rfl, hs, hd, hal, hk, hdp, q⟩ := h
  obtain ⟨its, rv, hl, hz⟩ := I.list hs
  rw [Vals.ref1 r]
  obtain ⟨e1, e2⟩ := vals_each I rv hd
  rw [List.length_map] at hz
  refine sorted_data (R := fun u b => RelV b.1 u) (enc := fun b => b.2) hl.isList e1 e2 hal hk hz (fun b hb => ?_) fun out h1 h2 => ?_
  · have := hdp b hb
    omega
  obtain ⟨ep, he'⟩ := PyProof.Rows.sortedAll_at s.heap its out.toArray
  have hlen : ((bs.mergeSort (dataLe false (·.2))).map (·.1)).length ≤ sizeLine := by rw [List.length_map, List.length_mergeSort]; exact hz
  exact ⟨.ref _, upd H (s.heap.objs.size + 1) (.lst ((bs.mergeSort (dataLe false (·.2))).map (·.1))), I.laid (t' := s.toks) (fun _ _ => PyProof.Rows.sortedAll_old) (Nat.le_succ _) ⟨hlen, out, ep, each_vals h2, he'⟩, rfl, q _ (I.hok.fresh (Nat.le_succ _))⟩
end
def okSort (ds : List PyData) : Bool := ds.all (fun d => ds.all fun e => alike d e) && ds.all (fun d => match d with | .tuple (_ :: _) => true | _ => false) && ds.all fun d => decide (d.depth ≤ 60)
theorem okSort_ok {ds : List PyData} (h : okSort ds = true) : AllAlike ds ∧ Sortable ds ∧ ∀ d ∈ ds, d.depth ≤ 60 := by
  unfold okSort at h
  rw [Bool.and_eq_true, Bool.and_eq_true] at h
  obtain ⟨⟨h1, h2⟩, h3⟩ := h
  refine ⟨fun d hd e he => List.all_eq_true.mp (List.all_eq_true.mp h1 d hd) e he, .inl fun d hd => ?_, fun d hd => of_decide_eq_true (List.all_eq_true.mp h3 d hd)⟩
  have := List.all_eq_true.mp h2 d hd
  split at this
  · rename_i x r; exact ⟨x, r, rfl⟩
  · cases this
def sortPD (xs : List (PV × PyData)) : List PV := (xs.mergeSort (dataLe false (·.2))).map (·.1)
def fSortD : List PV → MH → R PV
  | [v], μ => match lstR v μ with
    | some xs => match toDs μ xs with
      | some ds => if okSort ds = true then .ok (.frl (sortPD (xs.zip ds))) μ else .bad
      | none => .bad
    | none => .bad
  | _, _ => .bad
section
variable {K : PySem.W.Frag} {av : List Addr} {H : Hp} {β : List Addr} {μ : MH}
theorem triples (rl : Rl ⟨K, av⟩ H β μ) : ∀ {xs : List PV} {vs : List V} {ds : List PyData}, PRels ⟨K, av⟩ H β xs vs → toDs μ xs = some ds → ∃ ts : List (PV × V × PyData), ts.map (fun t => (t.1, t.2.2)) = xs.zip ds ∧ ts.map (fun t => t.2.1) = vs ∧ ts.map (fun t => t.2.2) = ds ∧ ∀ t ∈ ts, PRel ⟨K, av⟩ H β t.1 t.2.1 ∧ Dp K H t.2.1 t.2.2
  | [], vs, ds, p, h => by
    rw [PRels.nil_iff] at p
    unfold toDs at h
    cases h
    subst p
    exact ⟨[], rfl, rfl, rfl, by simp⟩
  | x :: xs, vs, ds, p, h => by
    obtain ⟨y, ys, rfl, p1, p2⟩ := p.inv
    unfold toDs at h
    split at h
    case h_2 => cases h
    rename_i d ds' e1 e2
    cases h
    obtain ⟨ts, h1, h2, h3, h4⟩ := triples rl p2 e2
    refine ⟨(x, y, d) :: ts, by rw [List.map_cons, h1]; rfl, by rw [List.map_cons, h2], by rw [List.map_cons, h3], fun t ht => ?_⟩
    rcases List.mem_cons.mp ht with rfl | ht
    · exact ⟨p1, toD_ok rl x p1 e1⟩
    · exact h4 t ht
theorem prels_of : ∀ ts : List (PV × V × PyData), (∀ t ∈ ts, PRel ⟨K, av⟩ H β t.1 t.2.1) → PRels ⟨K, av⟩ H β (ts.map (·.1)) (ts.map fun t => t.2.1)
  | [], _ => .nil
  | t :: ts, h => .cons (h t List.mem_cons_self) (prels_of ts fun u hu => h u (List.mem_cons_of_mem _ hu))
theorem cm_sortD {XR : XRel} : CallM K XR fSortD (rSortD K) := by
  intro av E H β μ v x Q rl pv h
  unfold fSortD at h
  split at h
  case h_2 => exact h.elim
  rename_i w μ
  split at h
  case h_2 => exact h.elim
  rename_i xs e1
  split at h
  case h_2 => exact h.elim
  rename_i ds e2
  split at h
  case isFalse => exact h.elim
  rename_i ok
  obtain ⟨y, rfl, p⟩ := one_inv pv
  obtain ⟨a, vs, rfl, s, ps⟩ := lstR_ok rl p e1
  obtain ⟨h1, h2, h3⟩ := okSort_ok ok
  obtain ⟨ts, t1, t2, t3, t4⟩ := triples rl ps e2
  have m1 : (ts.map fun t => t.2).map (·.1) = vs := by rw [List.map_map]; exact t2
  have m2 : (ts.map fun t => t.2).map (·.2) = ds := by rw [List.map_map]; exact t3
  have s1 : ((ts.map fun t => t.2).mergeSort (dataLe false (·.2))) = (ts.mergeSort (dataLe false fun t => t.2.2)).map fun t => t.2 :=
    (sort_maps (fun t : PV × V × PyData => t.2) (fun _ _ _ _ => rfl)).symm
  have s2 : ((ts.map fun t => (t.1, t.2.2)).mergeSort (dataLe false (·.2))) = (ts.mergeSort (dataLe false fun t => t.2.2)).map fun t => (t.1, t.2.2) :=
    (sort_maps (fun t : PV × V × PyData => (t.1, t.2.2)) (fun _ _ _ _ => rfl)).symm
  refine ⟨a, ts.map fun t => t.2, rfl, by rw [m1]; exact s, fun b hb => ?_, by rw [m2]; exact h1, by rw [m2]; exact h2, fun b hb => ?_, ?_⟩
  · obtain ⟨t, ht, rfl⟩ := List.mem_map.mp hb
    exact (t4 t ht).2
  · exact h3 _ (by rw [← m2]; exact List.mem_map.mpr ⟨b, hb, rfl⟩)
  · have e : sortPD (xs.zip ds) = (ts.mergeSort (dataLe false fun t => t.2.2)).map (·.1) := by
      unfold sortPD
      rw [← t1, s2, List.map_map]
      rfl
    rw [e] at h
    rw [s1, List.map_map]
    exact new_frl rl (prels_of _ fun t ht => (t4 t ((List.mergeSort_perm ts _).mem_iff.mp ht)).1) h
end
end Mini

/-! M40: an own exception class whose __init__ says super().__init__(f'..') and keeps one field, line. -/
namespace Mini
open PySem PySem.Spec PyProof.Rows L2 HotX L2H
/-- the text of such an __init__ -/
def lineBody (pre post : Str) (p1 p2 p3 p4 p5 p6 p7 p8 p9 p10 p11 p12 p13 p14 : Pos) (k1 k2 : Nat) : List Stmt :=
  [.Expr (.Call (.Attribute (.Call (.Name "super" p1) [] [] p2) "__init__" p3) [.JoinedStr [.Constant (.str pre) k1 p4, .FormattedValue (.Name "line" p5) (-1) none p6, .Constant (.str post) k2 p7] p8] [] p9) p10,
   .Assign [.Attribute (.Name "self" p11) "line" p12] (.Name "line" p13) p14]
abbrev lineNames : List (Str × NameKind) := [("self", .local), ("line", .local), ("__class__", .free), ("super", .globalImplicit)]
abbrev lineArgs : List Str := ["self", "line"]
abbrev lineFs (i : Int) : List (Str × V) := [("line", .int i)]
/-- what is asked of the class -/
structure LineC (P : Program) (K : PySem.W.Frag) (mg : Str → Option Value) (C : Addr) : Prop where
  own : OexC K C
  no : PySem.W.findIn K (.ref C) "line" = some none
  sup : PySem.W.ks_superIn K C C "__init__" = some (some (.builtin "ValueError.__init__"))
  sub : PySem.W.subIn K (.ref C) (.type "ValueError") = some true
  mro : PySem.W.mroIn K C (.ref C) = some true
  thr : PySem.W.nsIn K cStatics "thirdparty.any" = some none
  ms : mg "super" = none
  top : (P.main.scope.names.lookup ("super" : Str)).isSome = false
/-- what is asked of its __init__ -/
structure LineF (P : Program) (K : PySem.W.Frag) (C f : Addr) (fd : FuncData) (pre post : Str) : Prop where
  ex : ∃ (name qual : Str) (params : Arguments) (scope : Scope) (dV kV doc pm ct oc o2 o3 : Value) (an od d2 d3 : Option Addr) (cda cc : Addr) (osl sl2 sl3 : Array (Option Value)) (vs : Array Value) (file : Str) (tf : Tok) (ar : Arg)
      (p1 p2 p3 p4 p5 p6 p7 p8 p9 p10 p11 p12 p13 p14 : Pos) (k1 k2 : Nat),
    fd = PySem.W.ksFn name qual params (lineBody pre post p1 p2 p3 p4 p5 p6 p7 p8 p9 p10 p11 p12 p13 p14 k1 k2) scope dV kV doc pm an (.ref cda) ct cc ∧
    K.lookup f = some ⟨oc, od, .func fd, osl⟩ ∧ PySem.W.codeIn K (.ref cda) qual = true ∧
    K.lookup cda = some ⟨o2, d2, .fields vs, sl2⟩ ∧ vs[2]? = some (.str file tf) ∧ ((P.main.file : Str) == file) = true ∧
    K.lookup cc = some ⟨o3, d3, .cell (some (.ref C)), sl3⟩ ∧ (params.posonlyargs ++ params.args).head? = some ar ∧ ar.arg = "self" ∧
    scope.names = lineNames ∧ scope.isCoroutine = false ∧ scope.isGenerator = false ∧ scope.kind = .function ∧ (p3.endLine == p9.line) = true
/-- the promise: the field stands -/
def spLine (C : Addr) : Sp := fun vs H Q _ => ∃ (a : Addr) (i : Int), vs = [.ref a, .int i] ∧ i.natAbs ≤ 999999 ∧ H a = some (exo a C none) ∧
  ∀ d, H d = none → d ≠ a → Q .non (upd (upd H d (exd d (lineFs i))) a (exo a C (some d)))

/-- the method-wrapper of ValueError.__init__ called -/
theorem mw_call {P : Program} {w : World} {K : PySem.W.Frag} {A : Around} {E : Value → Shared → Prop} {hp : Heap} {g : Array GenState} {d : Drawn} {t : Nat} {os : OsState} {C a u t0 : Addr} {us : List Value} {Q : Value → Shared → Prop}
    (T : OexC K C) (X : K.In hp) (hu : hp.get? u = some (PySem.W.kxs_mw "ValueError.__init__" a)) (ha : hp.get? a = some (PySem.HandSPX.excO C t0)) (hl : us.length ≤ sizeLine)
    (q : ∀ h' t1, (∀ b o, b ≠ a → hp.get? b = some o → h'.get? b = some o) → h'.get? a = some (PySem.HandSPX.excO C t1) → Q .none ⟨h', g, d, t, os⟩) :
    wpAny (model P w) A (call (.ref u) us) Q E ⟨hp, g, d, t, os⟩ := by
  obtain ⟨nm, qn, N, bs, bm, sn, sub, ab, col, dd, k0, k1, k2, k3, k5, hC, hbm⟩ := T.cls
  have V := PySem.F.excBase_ValueError
  apply wpAny_call
  apply codeAny_of_tree
  show wpAny _ A.in1 (callAny (.ref u) ⟨us, []⟩) _ _ _
  unfold callAny
  apply wpAny_bind
  refine wpAny_load hu ?_
  simp only [PySem.W.kxs_mw]
  rw [if_pos (by decide)]
  refine PySem.W.KFB.if_so (by decide) ?_
  apply wpAny_bind
  refine PySem.W.check_bound_init V.toExcCallFacts (X _ _ hC) ha rfl ?_
  refine wpAny_pure ?_
  refine ⟨plainId_quiet V.init.plain _, codeAny_builtin V.initEntry ?_⟩
  exact PySem.W.exc_init_tree (cls := .ref C) (t0 := t0) (dv := none) (c2 := .none) (c3 := .none) (b4 := .bool false) ha hl fun h' k e _ => q h' _ k e

/-- the frame of such an __init__ -/
def cxL (CX : CXT) (P : Program) (w : World) (K : PySem.W.Frag) (mg : Str → Option Value) (base : Heap) (qual : Str) (scope : Scope) (f cda cc : Addr) (A : Around) (outer : List Env) (s : Shared) (H : Hp) (E : XK) : Cx where
  prog := P
  w := w
  K := K
  mg := mg
  base := base
  A := A.deeper (PySem.W.ksEnv qual scope s.heap.objs.size f (.ref cda) cc)
  N := ["self", "line"]
  s_0 := s
  H_0 := H
  env := PySem.W.ksEnv qual scope s.heap.objs.size f (.ref cda) cc
  outer := outer
  stack := PySem.W.ksEnv qual scope s.heap.objs.size f (.ref cda) cc :: outer
  ex := []
  calm := true
  fn := fun _ => false
  pn := []
  xe := fun e s' => wpAny (model P w) (A.deeper (PySem.W.ksEnv qual scope s.heap.objs.size f (.ref cda) cc)) (leaving (PySem.W.ksEnv qual scope s.heap.objs.size f (.ref cda) cc) e) (fun _ s'' => CX outer H s E e s'') (fun e' s'' => CX outer H s E e' s'') s'

theorem cls_cell {x : Str} {cc c : Addr} (h : List.lookup x [(("__class__" : Str), cc)] = some c) : x = "__class__" ∧ c = cc := by
  unfold List.lookup at h
  split at h
  · rename_i e
    cases h
    exact ⟨by simpa using e, rfl⟩
  · cases h

theorem line_inv {CX : CXT} {P : Program} {w : World} {K : PySem.W.Frag} {mg : Str → Option Value} {base : Heap} {qual : Str} {scope : Scope} {f cda cc : Addr} {A : Around} {outer : List Env} {s : Shared} {H : Hp} {E : XK} {h0 : Heap} {tk : Nat} {a : Addr} {i : Int} {t : Tok} {oc : Value} {od : Option Addr} {osl : Array (Option Value)} {C : Addr}
    (hd : A.handled = none) (e0 : Env0 P w K mg base A outer s H) (hk : scope.kind = .function) (hn : scope.names = lineNames)
    (lk : K.lookup cc = some ⟨oc, od, .cell (some (.ref C)), osl⟩) (hns : h0.Ns s.heap.objs.size fun x => (lineArgs.zip [Value.ref a, Value.int i t]).reverse.lookup x) (up : ∀ b o, s.heap.get? b = some o → h0.get? b = some o) :
    Inv (cxL CX P w K mg base qual scope f cda cc A outer s H E) [] [some (.ref a), some (.int i)] H { s with heap := h0, toks := tk } := by
  have none_mem : ∀ b : Addr, b ∉ ([] : List Addr) := fun b z => nomatch z
  have at_cc : base.get? cc = some ⟨oc, od, .cell (some (.ref C)), osl⟩ := e0.mod.kin _ _ lk
  refine { ok := ?_, os := rfl, bare := e0.bare, base := Un.kept up, loc := ⟨_, hns, ?_⟩, cell := ?_, free := e0.hok.fresh (Nat.le_refl _), freeC := ?_, pin := fun p hp => (nomatch hp), hok := e0.hok.kept up, len := rfl }
  · refine { mod := e0.mod, kind := hk, glob := rfl, blt := rfl, above := Nat.le_refl _, inj := ?_, has := ?_, cab := fun x c no _ => (nomatch no), hd := fun _ => hd, frames := Around.frames_deeper e0.frames, stk := .inr ⟨rfl, rfl⟩, exf := fun b z => absurd z (none_mem b), bs := e0.bs, bsz := e0.bsz, noex := fun b _ _ => none_mem b, exfs := fun b z => absurd z (none_mem b), funs := e0.funs, frf := e0.frf }
    · intro x y c h1 h2
      exact (cls_cell h1).1.trans (cls_cell h2).1.symm
    · intro x hx
      have hx : scope.names.lookup x = some .cell ∨ scope.names.lookup x = some .free := hx
      rw [hn] at hx
      by_cases e : x = "__class__"
      · subst e
        exact ⟨cc, rfl⟩
      · exfalso
        have e' : (x == ("__class__" : Str)) = false := by simpa using e
        have no : ∀ k : NameKind, k ≠ .local → k ≠ .globalImplicit → List.lookup x lineNames ≠ some k := by
          intro k k1 k2 h
          unfold lineNames at h
          simp only [List.lookup, e'] at h
          cases h1 : x == ("self" : Str) <;> cases h2 : x == ("line" : Str) <;> cases h3 : x == ("super" : Str) <;> rw [h1] at h <;> try rw [h2] at h
          all_goals try rw [h3] at h
          all_goals simp at h
          all_goals first | exact k1 h.symm | exact k2 h.symm
        rcases hx with hx | hx
        · exact no _ (by decide) (by decide) hx
        · exact no _ (by decide) (by decide) hx
  · intro j x v h1 h2 _
    match j, h1, h2 with
    | 0, h1, h2 =>
      cases h1
      cases h2
      exact ⟨.ref a, rfl, .inl ⟨by show scope.names.lookup _ = _; rw [hn]; rfl, rfl⟩⟩
    | 1, h1, h2 =>
      cases h1
      cases h2
      exact ⟨.int i t, ⟨t, rfl⟩, .inl ⟨by show scope.names.lookup _ = _; rw [hn]; rfl, rfl⟩⟩
  · intro x c h
    obtain ⟨_, rfl⟩ := cls_cell h
    exact ⟨_, _, up _ _ (e0.bs _ _ at_cc).1, rfl⟩
  · intro x c h
    obtain ⟨_, rfl⟩ := cls_cell h
    exact (e0.bs _ _ at_cc).2
/-- a method's call within one line -/
theorem call_line {o : Expr} {name : Str} {apos pos : Pos} {args : List Expr} {env : Env} (hl : (apos.endLine == pos.line) = true) (hf : methodCallForm (args.length + 0) (backTo pos (starEach args env)) [] = true) :
    eval (.Call (.Attribute o name apos) args [] pos) env = (do
      let ov ← attributeBase o name env (eval o env)
      standAt apos.atName
      let (f, first) ← holding [ov] (getMethod ov name (do return (← importBound o env).getD true))
      callWith pos f first (backTo pos (starEach args env)) []) := by
  have at_pos : methodCallPos true o env apos pos = pure pos := by
    unfold methodCallPos
    rw [hl]
    rfl
  rw [arm_eval_Call]
  unfold methodCall
  rw [show backToKw pos (keywordEach [] env) = [] from rfl, show args.length + ([] : List Keyword).length = args.length + 0 from rfl, hf, at_pos]
  rfl
theorem small_log {i : Int} (h : i.natAbs ≤ 999999) : i.natAbs.log2 < 1920 := by
  by_cases z : i.natAbs = 0
  · rw [z]; decide
  · have : i.natAbs.log2 < 20 := (Nat.log2_lt z).mpr (by omega)
    omega
/-- the text that is told -/
theorem line_text {X : Cx} {pre post : Str} {p4 p5 p6 p7 p8 : Pos} {k1 k2 j : Nat} (hN : X.N[j]? = some ("line" : Str)) (hv : Vis X.env.scope "line") (hz : pre.length + post.length ≤ 1000) :
    PE X (.JoinedStr [.Constant (.str pre) k1 p4, .FormattedValue (.Name "line" p5) (-1) none p6, .Constant (.str post) k2 p7] p8) (fun σ H Q => ∃ i : Int, σ[j]? = some (some (.int i)) ∧ i.natAbs ≤ 999999 ∧ ∀ z, Q (.str z) H) :=
  PE.imp (pe_joined (PJ.cons pe_str (PJ.cons (pe_fmt (pe_var hN hv)) (PJ.cons pe_str PJ.nil)))) fun σ H Q ⟨i, e, hi, q⟩ => by
    have l10 : (Str.ofString (toString i)).length ≤ 7 := by
      have := int_text_length_le10 (a := i) (k := 6) (by decide) (by omega)
      rw [PySem.ofString_length]
      exact this
    have big : (1007 : Nat) ≤ sizeLine := by rw [sizeLine_eq]; decide
    have add : ∀ a b : Str, (a ++ b).length = a.length + b.length := fun a b => by first | exact Str.length_append a b | simp
    have e0 : (Str.empty : Str).length = 0 := rfl
    refine ⟨pre, rfl, by rw [add, e0]; omega, ?_⟩
    refine ⟨.int i, e, .inr ⟨i, rfl, small_log hi, ?_⟩⟩
    refine ⟨toString i, rfl, by rw [add, add, e0]; omega, ?_⟩
    exact ⟨post, rfl, by rw [add, add, add, e0]; omega, q _⟩

theorem line_init {CX : CXT} {P : Program} {w : World} {K : PySem.W.Frag} {mg : Str → Option Value} {base : Heap} {k : Nat} {C f : Addr} {fd : FuncData} {pre post : Str} (B : LineC P K mg C) (F : LineF P K C f fd pre post) (hz : pre.length + post.length ≤ 1000) :
    FnOk P w K mg base CX (k + 1) f fd lineArgs (spLine C) where
  len vs H Q E h := by
    obtain ⟨a, i, e, _⟩ := h
    rw [e]
    rfl
  run A outer s H args us vs Q E room e0 bnd r hs := by
    obtain ⟨a, i, rfl, hi, ea, hq⟩ := hs
    obtain ⟨name, qual, params, scope, dV, kV, doc, pm, ct, oc, o2, o3, an, od, d2, d3, cda, cc, osl, sl2, sl3, fs, file, tf, ar, p1, p2, p3, p4, p5, p6, p7, p8, p9, p10, p11, p12, p13, p14, k1, k2, rfl, look, code, lcd, hfs, hfile, lcc, hpar, hself, hnames, hco, hgen, hkd, hline⟩ := F.ex
    rcases r with _ | ⟨r1, r⟩
    rcases r with _ | ⟨r2, r⟩
    rcases r with _ | _
    rename_i u1 u2
    obtain rfl : u1 = .ref a := r1
    obtain ⟨t, rfl⟩ := r2
    have up0 : ∀ b o, base.get? b = some o → s.heap.get? b = some o := fun b o q => (e0.bs b o q).1
    have KX : K.In s.heap := e0.mod.kin.keeps up0
    refine PySem.ks_codeAny_call_defAt (body := lineBody pre post p1 p2 p3 p4 p5 p6 p7 p8 p9 p10 p11 p12 p13 p14 k1 k2) room.depth (KX _ _ look) rfl (e0.mod.nolimit.keeps up0) (PySem.W.codeRec_of KX code) rfl bnd ?_ ?_ (fun h0 hns up => ?_) hco hgen hkd
    · intro x hx
      have hx : x ∈ scope.names := hx
      rw [hnames] at hx
      simp at hx
      rcases hx with rfl | rfl | rfl | rfl <;> decide
    · intro x hx
      show scope.names.lookup _ = _
      rw [hnames]
      simp at hx
      rcases hx with rfl | rfl <;> rfl
    · have I := line_inv (CX := CX) (E := E) (f := f) (qual := qual) (cda := cda) (tk := s.toks + 2) room.hd e0 hkd hnames lcc hns up
      obtain ⟨hp, g, dr, tk, os⟩ := s
      have kin := I.kIn
      obtain ⟨nm, qn, N, bs, bm, sn, sub, ab, col, dd, c0, c1, c2, c3, c5, hC, hbm⟩ := B.own.cls
      have hcl : PySem.W.clsIn K C = some { name := nm, bases := bs, mro := .ref C :: bm, ns := N, qualname := qn, hasDict := true, slotNames := sn, subclasses := sub, abstract := ab, collection := col, hasDel := false } := by unfold PySem.W.clsIn; rw [hC] <;> rfl
      obtain ⟨t1, ho⟩ := exo_at I.hok ea
      have inst : PySem.W.InstAt h0 a (PySem.HandSPX.excO C t1) C none := ⟨ho, rfl, rfl, trivial⟩
      obtain ⟨mb, n1, n2⟩ := I.mod.blt
      have dC := kin _ _ hC
      unfold lineBody
      refine PySem.ks_wpAt_execs_cons (PySem.ks_wpAt_Expr_any (PySem.ks_wpAt_MethodCall ?_ (call_line hline rfl)) I.quiet rfl)
      refine PySem.ks_wpAt_super_base (by show scope.names.lookup _ = _; rw [hnames]; rfl) (by show scope.names.lookup _ = _; rw [hnames]; rfl) rfl rfl (kin _ _ look) rfl hpar rfl (kin _ _ lcd) rfl hfs hfile B.top ?_
      refine PySem.W.ks_loadName_global hkd (by show scope.names.lookup _ = _; rw [hnames]; rfl) (PySem.Calls.loadGlobal_builtin (I.mod.glob.keeps I.bk) B.ms (n1.keeps I.bk) ((n2 "super" (by decide)).trans PyProof.Rows.Boot.«super») ⟨rfl, ?_⟩)
      refine PySem.wpAny_loadName_free hkd (by show scope.names.lookup _ = _; rw [hnames]; rfl) rfl ⟨_, kin _ _ lcc, rfl⟩ ?_
      rw [hself]
      refine PySem.wpAny_loadName_local hkd (by show scope.names.lookup _ = _; rw [hnames]; rfl) hns rfl ?_
      refine PySem.ks_wpAny_isType_cls dC rfl ⟨rfl, ?_⟩
      refine PySem.ks_wpAny_call_super dC rfl ho rfl (fun c e => nomatch e) (PySem.W.looks_mroIn kin B.mro) fun h1 e1 up1 => ?_
      have I1 := I.kept (t' := tk + 2) up1
      have kin1 := I1.kIn
      have inst1 : PySem.W.InstAt h1 a (PySem.HandSPX.excO C t1) C none := ⟨up1 _ _ ho, rfl, rfl, trivial⟩
      have sup := B.sup
      unfold PySem.W.ks_superIn at sup
      rw [hcl] at sup
      refine PySem.W.kxs_getMethod PySem.W.kxs_ValueError e1 (PySem.W.looks_opaque kin1 B.thr) ((PySem.W.looks_clsIn kin1 hcl).andThen .now) rfl kin1 sup (inst1.type.andThen (PySem.W.looks_subIn kin1 B.sub)) (PySem.W.ks_ne kin inst hcl) rfl ?_
      have up2 : ∀ b o, h1.get? b = some o → (h1.push (PySem.W.kxs_mw "ValueError.__init__" a)).get? b = some o := fun b o q => Heap.get?_push_of_some _ q
      have at2 : (h1.push (PySem.W.kxs_mw "ValueError.__init__" a)).get? h1.objs.size = some (PySem.W.kxs_mw "ValueError.__init__" a) := Heap.get?_push_size _ rfl
      have free2 : H h1.objs.size = none := I1.hok.fresh (Nat.le_refl _)
      have I2 := I1.kept (t' := tk + 2 + 1) up2
      have I3 := I2.pins_of (pins' := [(h1.objs.size, PySem.W.kxs_mw "ValueError.__init__" a)]) fun p hp => by
        cases List.mem_singleton.mp hp
        refine ⟨at2, free2, fun z => ?_, I1.nofs (Nat.le_refl _), fun v z => nomatch z⟩
        have := I1.lt
        rw [← z] at this
        exact Nat.lt_irrefl _ this
      refine PySem.W.kxs_callWith (i := "ValueError.__init__") (x := a) rfl (PySem.Calls.evalArgs_plain ?_)
      have vis : Vis scope "line" := .inl (by rw [hnames]; rfl)
      have visS : Vis scope "self" := .inl (by rw [hnames]; rfl)
      have args := (pa_cons (line_text (X := cxL CX P w K mg base qual scope f cda cc A outer ⟨hp, g, dr, tk, os⟩ H E) (p4 := p4) (p5 := p5) (p6 := p6) (p7 := p7) (p8 := p8) (k1 := k1) (k2 := k2) (j := 1) rfl vis hz) pa_nil).run p9 _ _ _ H (fun ws H1 => ∃ z, ws = [.str z] ∧ H1 = H) I3 ⟨i, rfl, hi, fun z => ⟨z, rfl, rfl⟩⟩
      refine wpAny_mono args (fun us s4 hus => ?_) fun _ _ x => x
      obtain ⟨ws, H1, I4, rs, z, rfl, rfl⟩ := hus
      have at4 := (I4.pin _ (List.mem_append_right _ (List.mem_singleton.mpr rfl))).1
      refine ⟨at4, ?_⟩
      obtain ⟨t2, ho4⟩ := exo_at I4.hok ea
      have len1 : us.length ≤ sizeLine := by
        rw [← Paired.length rs, sizeLine_eq]
        show 1 ≤ 16777216
        decide
      obtain ⟨h4, g4, d4, tk4, os4⟩ := s4
      refine mw_call B.own I4.kIn at4 ho4 len1 fun h5 t3 keep5 at5 => ?_
      have same : upd H1 a (exo a C none) = H1 := by
        funext b
        by_cases hb : b = a
        · rw [hb, upd_same, ea]
        · exact upd_ne hb
      have I5 := I4.write (t' := tk4) (x := a) (e := a) (o := exo a C none) (by rw [ea]; exact True.intro) (.inl rfl) keep5 ⟨_, at5⟩ (exo_ok at5)
      rw [same] at I5
      have I6 := I5.unpinned (pins := []) (pl := [(h1.objs.size, PySem.W.kxs_mw "ValueError.__init__" a)])
      refine PySem.wpAt_of_wpAny ?_
      have keep := (pss_one (ps_ost (X := cxL CX P w K mg base qual scope f cda cc A outer ⟨hp, g, dr, tk, os⟩ H1 E) (p' := p12) (pos := p14) (pe_var (i := 0) (pos := p11) rfl visS) (pe_var (i := 1) (x := "line") (pos := p13) rfl vis) rfl)).run [] _ _ H1 { nx := fun _ H' => Q .non H', rt := Q } I6
        ⟨_, rfl, _, rfl, a, C, rfl, B.own, B.no, .inl ⟨ea, fun d hd ne => hq d hd ne⟩⟩
      refine wpAny_mono keep (fun fl s6 hs => ?_) fun _ _ x => x
      rcases fl with _ | _ | _ | u
      · obtain ⟨_, H', J, q⟩ := hs
        exact ⟨.non, H', J.os, J.bare, J.base, J.hok, rfl, q⟩
      · obtain ⟨_, _, _, no⟩ := hs; exact no.elim
      · obtain ⟨_, _, _, no⟩ := hs; exact no.elim
      · obtain ⟨v, _, H', J, rv, q⟩ := hs
        exact ⟨v, H', J.os, J.bare, J.base, J.hok, rv, q⟩
end Mini

/-! M41: raise C(n), the line kept; try: .. except C as e: return ('word', e.line); try: .. except C: return None. -/
namespace Mini
open PySem PySem.Spec PyProof.Rows L2 HotX L2H
/-- what a class must have that keeps its line -/
structure LineX (P : Program) (K : PySem.W.Frag) (mg : Str → Option Value) (C : Addr) : Prop where
  cls : LineC P K mg C
  ex : ∃ (f : Addr) (fd : FuncData) (pre post : Str), PySem.W.findIn K (.ref C) "__init__" = some (some (.ref f)) ∧ PySem.W.typeIn K (.ref f) = some (.type "function") ∧ LineF P K C f fd pre post ∧ pre.length + post.length ≤ 1000 ∧ Binds K fd lineArgs []
section
variable {X : Cx} {C : Addr} {x : Str} {p pos : Pos} {e : Expr} {ta : TA}
theorem line_heap {H : Hp} {a d : Addr} {q1 q2 q3 q4 : HO} (hn : H a = none) (ne : d ≠ a) : upd (del (upd (upd (upd H a q1) d q2) a q3) a) d q4 = upd H d q4 := by
  funext b
  by_cases h1 : b = d
  · rw [h1, upd_same, upd_same]
  · rw [upd_ne h1, upd_ne h1]
    by_cases h2 : b = a
    · rw [h2, del_same, hn]
    · rw [del_ne h2, upd_ne h2, upd_ne h1, upd_ne h2]
/-- C(n) -/
theorem pmk_line (B : LineX X.prog X.K X.mg C) (room : Room 2 X.A) (g : Gl X x) (m : X.mg x = some (.ref C)) (ha : PA X [e] ta) (hdb : (x == ("__debug__" : Str)) = false := by decide) (one : starEach [e] X.env = [(false, eval e X.env)] := by rfl) :
    L2N.PMk X (.Call (.Name x p) [e] [] pos) (fun σ H Q => ta σ H fun ws H1 => ∃ i : Int, ws = [.int i] ∧ i.natAbs ≤ 999999 ∧ ∀ d, H1 d = none → Q (.ref C) (some d) (upd H1 d (.xd (lineFs i)))) := by
  intro pins z σ H Q I want
  obtain ⟨f, fd, pre, post, fi, ft, F, short, bnd⟩ := B.ex
  have T := B.cls.own
  obtain ⟨nm, qn, N, bs, bm, sn, sub, ab, col, dd, c0, c1, c2, c3, c5, look, low⟩ := T.cls
  have init := line_init (CX := L2N.CX X.prog X.w) (w := X.w) (base := X.base) (k := 0) B.cls F short
  apply wpAny_Call_Name_kw
  apply ld_glob I g m _ hdb
  apply PySem.W.callWith_K (h₀ := X.base) I.ok.mod.kin T.kC _ one (by rfl)
  apply thn (ha.run pos pins z σ H _ I want)
  rintro us ⟨hp, gs, dr, tk, os⟩ ⟨ws, H1, I1, rs, i, rfl, hi, q⟩
  refine ⟨I1.kIn, ?_⟩
  obtain ⟨u, rfl, t, rfl⟩ := vals1 rs
  have free : H1 (hp.objs.size + 1) = none := I1.hok.fresh (Nat.le_succ _)
  have up : ∀ b o, hp.get? b = some o → ((hp.push (PySem.W.kdv_tup [.int i t])).push (PySem.HandSPX.excO C hp.objs.size)).get? b = some o := fun b o h => Heap.get?_push_of_some _ (Heap.get?_push_of_some _ h)
  have at_ : ((hp.push (PySem.W.kdv_tup [.int i t])).push (PySem.HandSPX.excO C hp.objs.size)).get? (hp.objs.size + 1) = some (PySem.HandSPX.excO C hp.objs.size) := by heap_get
  have I2 := I1.laid (t' := tk) (a := hp.objs.size + 1) (o := exo (hp.objs.size + 1) C none) up (Nat.le_succ _) (exo_ok at_)
  have make := init.run (X.A.under (.builtin "type.__call__" ⟨[.ref C, .int i t], []⟩)) X.stack _ _ ⟨[.ref (hp.objs.size + 1), .int i t], []⟩ [.ref (hp.objs.size + 1), .int i t] [.ref (hp.objs.size + 1), .int i]
    (fun v H2 => v = .non ∧ ∃ d : Addr, H2 (hp.objs.size + 1) = some (exo (hp.objs.size + 1) C (some d)) ∧ H2 d = some (exd d (lineFs i)) ∧ H1 d = none ∧ upd (del H2 (hp.objs.size + 1)) d (.xd (lineFs i)) = upd H1 d (.xd (lineFs i))) (fun _ _ _ => False)
    (room.make C [.int i t] []) (I2.env0.make C [.int i t] []) (by simpa using bnd _ [.ref (hp.objs.size + 1), .int i t] I2.kIn rfl) (.cons rfl (.cons ⟨t, rfl⟩ .nil))
    ⟨_, i, rfl, hi, upd_same, fun d hd ne => ⟨rfl, d, upd_same, by rw [upd_ne ne, upd_same], by rw [upd_ne ne] at hd; exact hd, line_heap free ne⟩⟩
  apply wpAny_call
  apply PySem.HandSPX.call_own PySem.F.excBase_ValueError (fun Y => PySem.HandSPX.refsVE_contains Y bm low) (I1.kIn _ _ look) (PySem.W.looks_findIn I1.kIn fi) (fun self => PySem.W.bind_fn I1.kIn self ft) (by rw [sizeLine_eq]; show 1 ≤ 16777216; decide)
  apply codeAny_mono make
  rintro (er | (_ | _ | _ | u)) z' c
  · obtain ⟨_, _, _, _, _, _, _, _, _, _, _, _, no⟩ := c
    exact no.elim
  · exact c.elim
  · exact c.elim
  · exact c.elim
  · obtain ⟨v, H2, os2, bare2, un2, ok2, rv, rfl, d, ea, ed, hd1, hq⟩ := c
    obtain ⟨h2, g2, d2, t2, os'⟩ := z'
    obtain ⟨t0, G, J, kG, ge, hoe, na⟩ := mk_end0 (d2 := d2) (t2 := t2) I1 (Nat.le_succ _) up un2 ok2 os2 bare2 ea ed hd1
    have end_ := q d hd1
    rw [← hq] at end_
    exact ⟨rv, hp.objs.size + 1, _, _, ⟨G, g2, d2, t2, os'⟩, _, .ref C, some d, rfl, J, kG, ge, hoe, ⟨rfl, rfl, fun vs hv => by cases hv; rfl⟩, rfl, rfl, na, rfl, bare2, raises_own T.exC T.tyC, end_⟩
end
end Mini

/-! M42: exceptions with or without a line, in the calculus. -/
namespace Mini
open PySem PySem.Spec PyProof.Rows L2 HotX L2H
/-- an own class's exception, by the class's name; its line, if it keeps one -/
def oRL (mg : Str → Option Value) : XRel := fun c p cls d H _ => (∃ C, mg c = some (.ref C) ∧ cls = .ref C) ∧ ((p = [] ∧ d = none) ∨ ∃ (i : Int) (dd : Addr), p = [.int i] ∧ d = some dd ∧ H dd = some (.xd (lineFs i)))
theorem oRL_ok {mg : Str → Option Value} : XROk (oRL mg) := ⟨fun _ _ _ _ _ _ _ h _ => h⟩
theorem DefOk.cleanL {P : Program} {w : World} {K : PySem.W.Frag} {mg : Str → Option Value} {base : Heap} {x : Str} {k : Nat} {f : MF} (D : DefOk P w K mg base x k (spM K (oRL mg) f)) : DefOk P w K mg base x k (spM K (oRL mg) (cleanF f)) :=
  D.imp (spM_ref oRL_ok (ref_clean f))
/-- raise C(n) -/
def sRaiseI (c : Str) (m : ME) : MSt := fun s μ => match m s μ with
  | .ok (.int i) μ1 => if Nat.ble i.natAbs 999999 then .er c [.int i] s μ1 else .bad
  | .ok _ _ => .bad
  | .err c p μ1 => .er c p s μ1
  | .bad => .bad
/-- try: .. except C as e: return ('word', e.line) -/
def sToldI (i : Nat) (c word : Str) (b : MSt) : MSt := fun s μ => match b s μ with
  | .er c' [.int k] s1 μ1 => if c' = c ∧ i < s1.length then .rt (.ctp [.str word, .int k]) μ1 else .bad
  | .er _ _ _ _ => .bad
  | r => r
/-- try: .. except C: return None -/
def sTryNon (c : Str) (b : MSt) : MSt := fun s μ => match b s μ with
  | .er c' p s1 μ1 => if c' = c then .rt .non μ1 else .bad
  | r => r
/-- a class that can be caught by its own name -/
structure CatchC (K : PySem.W.Frag) (mg : Str → Option Value) (c : Str) : Prop where
  ex : ∃ C, mg c = some (.ref C) ∧ PySem.W.exmOne K (.ref C) (.ref C) = some true
/-- a class that keeps its line, raised -/
structure RaiseL (P : Program) (K : PySem.W.Frag) (mg : Str → Option Value) (c : Str) : Prop where
  ex : ∃ C, mg c = some (.ref C) ∧ LineX P K mg C
/-- .. and caught, its line read -/
structure CatchL (K : PySem.W.Frag) (mg : Str → Option Value) (c : Str) : Prop where
  ex : ∃ C, mg c = some (.ref C) ∧ PySem.W.exmOne K (.ref C) (.ref C) = some true ∧ XfC K C ∧ PySem.W.findIn K (.ref C) "line" = some none
section
variable {X : Cx} {E0 : XK} {E : L2.St → XK}
theorem sm_raiseE {c m : Str} {j : Nat} {p p2 pos pos2 : Pos} (R : RaiseX X.K X.mg c) (calm : X.calm = true) (tk : L2N.Takes X (fun cls d _ H => E0 cls d H)) (g : Gl X c) (hdb : (c == ("__debug__" : Str)) = false := by decide) :
    PSM X (oRL X.mg) (fun _ => E0) (.Raise (some (.Call (.Name c p) [.Constant (.str m) j p2] [] pos)) none pos2) (sRaise c) := by
  obtain ⟨C, hC, e1, e2, e3, e4⟩ := R.ex
  refine PS.imp (L2N.ps_raise calm tk (L2N.pmk_own PySem.F.excBase_ValueError e1 hC e2 (raises_own e3 e4) g hdb)) fun D σ H ⟨av, β, s, μ, rl, sr, h⟩ => ?_
  exact h (.ref C) none σ H β .refl rl sr ⟨⟨C, hC, rfl⟩, .inl ⟨rfl, rfl⟩⟩
theorem sm_raiseI {k : Nat} {c : Str} {e : Expr} {me : ME} {p pos pos2 : Pos} (R : RaiseL X.prog X.K X.mg c) (calm : X.calm = true) (tk : L2N.Takes X (fun cls d _ H => E0 cls d H)) (hr : RoomG k X.A) (hk : 2 ≤ k) (g : Gl X c) (ha : PM X (oRL X.mg) (fun _ => E0) e me) (hdb : (c == ("__debug__" : Str)) = false := by decide)
    (one : starEach [e] X.env = [(false, eval e X.env)] := by rfl) : PSM X (oRL X.mg) (fun _ => E0) (.Raise (some (.Call (.Name c p) [e] [] pos)) none pos2) (sRaiseI c me) := by
  obtain ⟨C, hC, B⟩ := R.ex
  refine PS.imp (L2N.ps_raise calm tk (pmk_line B (hr.room.mono hk) g hC (pa_cons ha pa_nil one) hdb one)) fun D σ H ⟨av, β, s, μ, rl, sr, h⟩ => ?_
  refine ⟨av, β, s, μ, rl, sr, ?_⟩
  unfold sRaiseI at h
  cases em : me s μ with
  | bad => rw [em] at h; exact h
  | err c p μ1 => rw [em] at h; exact fun cls d H' β' ex rl' xr => h cls d σ H' β' ex rl' (sr.ext ex) xr
  | ok v μ1 =>
    rw [em] at h
    cases v <;> first
      | exact h.elim
      | skip
    rename_i i
    simp only at h
    split at h
    · rename_i small
      intro x H' β' ex rl' pr
      refine ⟨i, by rw [int_inv pr], Nat.le_of_ble_eq_true small, fun d hd => ?_⟩
      have ex2 := Ext.new rl' hd (.xd (lineFs i))
      exact h (.ref C) (some d) σ _ β' (ex.trans ex2) (rl'.new hd _) ((sr.ext ex).ext ex2) ⟨⟨C, hC, rfl⟩, .inr ⟨i, d, rfl, rfl, upd_same⟩⟩
    · exact h.elim
theorem sm_toldI {i : Nat} {c word : Str} {body : List Stmt} {mb : MSt} {j : Nat} {x1} {np p1 p2 p3 p4 p5 pos pos' : Pos} (T : CatchL X.K X.mg c) (hs : X.stack = X.env :: X.outer) (hf : X.env.frame = some X.env.locals) (hN : X.N.Nodup) (hi : X.N[i]? = some ("e" : Str)) (hln : X.env.kindOf "e" = some .local) (g : Gl X c)
    (hb : ∀ (W : WX) (pn : List (Addr × Obj)) (xe : Value → Shared → Prop), L2N.Takes (X.tr pn xe) W → PassesOwn (model X.prog X.w) X.A X.env xe → PSsM (X.tr pn xe) (oRL X.mg) (WE W) body mb) (hdb : (c == ("__debug__" : Str)) = false := by decide) :
    PSM X (oRL X.mg) E (.Try body [.ExceptHandler (some (.Name c np)) (some "e") [.Return (some (.Tuple [.Constant (.str word) j p1, .Attribute (.Name "e" p2) "line" p3] x1 p4)) p5] pos'] [] [] pos) (sToldI i c word mb) := by
  obtain ⟨C, hC, exm, xf, nol⟩ := T.ex
  have S := L2N.ps_try_as (X := X) (pos := pos) (np := np) (pos' := pos') (Wout := fun _ _ _ _ => False) (tb := fun W => tSM X.K (oRL X.mg) (WE W) mb)
    (ts := fun a cls d D σ H => (tCtp (tCons (tC (.str word)) (tCons (tXf a cls d C "line" (tVar i)) tNil))) σ H D.rt) hs hf hN hi hln ⟨g, hdb, .inl hC⟩
    (fun u s' x => by obtain ⟨_, _, _, _, _, _, _, _, _, _, _, _, _, _, _, _, no⟩ := x; exact no.elim) hb
    (fun a oe cls d pn zn hv => pss_one (ps_ret (pos := p5) (pe_ctp (x1 := x1) (pos := p4) (pa_cons (pe_str (j := j) (pos := p1)) (pa_cons (pe_xf (pos := p3) xf nol zn.zc hv (pe_var (pos := p2) hi (.inl hln)) rfl) pa_nil)))))
  refine PS.imp S fun D σ H ⟨av, β, s, μ, rl, sr, h⟩ => ⟨av, β, s, μ, rl, sr, ?_⟩
  unfold sToldI at h
  cases e : mb s μ with
  | er c' p s1 μ1 =>
    rw [e] at h
    intro cls d σ' H' β' ex rl' sr' ⟨⟨C', hC', hcls⟩, pay⟩
    rcases pay with ⟨rfl, rfl⟩ | ⟨n, dd, rfl, rfl, at_⟩
    · exact h.elim
    · simp only at h
      split at h
      case isFalse => exact h.elim
      rename_i q
      obtain ⟨rfl, li⟩ := q
      cases hC.symm.trans hC'
      subst hcls
      refine ⟨true, exm, fun _ a na => ?_, fun no => nomatch no⟩
      have li' : i < σ'.length := by rw [← sr'.1]; exact li
      refine ⟨.ref a, List.getElem?_set_self li', rfl, rfl, dd, lineFs n, .int n, rfl, at_, rfl, ?_⟩
      refine ⟨by show 2 ≤ sizeLine; rw [sizeLine_eq]; decide, fun b o hb' hc hd => ?_⟩
      have ex2 := Ext.new rl' hb' (.frz o (.tup [.str word, .int n]))
      refine h _ _ β' (ex.trans ex2) (rl'.new hb' _) ?_
      unfold PRel
      refine ⟨b, [.str word, .int n], rfl, .inl ⟨⟨o, upd_same, hc, hd⟩, rl'.fresh hb'⟩, ?_⟩
      exact .cons .str_ (.cons .int_ .nil)
  | bad => rw [e] at h; exact h
  | nx s1 μ1 => rw [e] at h; exact h
  | rt v μ1 => rw [e] at h; exact h
  | bk s1 μ1 => rw [e] at h; exact h
  | ct s1 μ1 => rw [e] at h; exact h
theorem sm_tryNon {c : Str} {body : List Stmt} {mb : MSt} {np p1 p2 pos pos' : Pos} {j : Nat} (T : CatchC X.K X.mg c) (hs : X.stack = X.env :: X.outer) (hf : X.env.frame = some X.env.locals) (g : Gl X c)
    (hb : ∀ (W : WX) (pn : List (Addr × Obj)) (xe : Value → Shared → Prop), L2N.Takes (X.tr pn xe) W → PassesOwn (model X.prog X.w) X.A X.env xe → PSsM (X.tr pn xe) (oRL X.mg) (WE W) body mb) (hdb : (c == ("__debug__" : Str)) = false := by decide) :
    PSM X (oRL X.mg) E (.Try body [.ExceptHandler (some (.Name c np)) none [.Return (some (.Constant .none j p1)) p2] pos'] [] [] pos) (sTryNon c mb) := by
  obtain ⟨C, hC, exm⟩ := T.ex
  have S := L2N.ps_try_many (X := X) (pos := pos) (Wout := fun _ _ _ _ => False) (tb := fun W => tSM X.K (oRL X.mg) (WE W) mb) hs hf (fun u s' x => by obtain ⟨_, _, _, _, _, _, _, _, _, _, _, _, _, _, _, _, no⟩ := x; exact no.elim) hb
    (L2N.HdsOk.cons (np := np) (pos' := pos') (ts := fun a cls d D σ H => D.rt .non H) ⟨g, hdb, .inl hC⟩ (fun a oe cls d pn zn hv => pss_one (ps_ret (pos := p2) (pe_non (j := j) (pos := p1)))) .nil)
  refine PS.imp S fun D σ H ⟨av, β, s, μ, rl, sr, h⟩ => ⟨av, β, s, μ, rl, sr, ?_⟩
  unfold sTryNon at h
  cases e : mb s μ with
  | er c' p s1 μ1 =>
    rw [e] at h
    simp only at h
    intro cls d σ' H' β' ex rl' sr' ⟨⟨C', hC', hcls⟩, pay⟩
    split at h
    case isFalse => exact h.elim
    rename_i q
    subst q
    cases hC.symm.trans hC'
    subst hcls
    refine ⟨true, exm, fun _ a na => ?_, fun no => nomatch no⟩
    exact h _ H' β' ex rl' .non_
  | bad => rw [e] at h; exact h
  | nx s1 μ1 => rw [e] at h; exact h
  | rt v μ1 => rw [e] at h; exact h
  | bk s1 μ1 => rw [e] at h; exact h
  | ct s1 μ1 => rw [e] at h; exact h
end
end Mini

/-! M43: sorted(set(t)) of a tuple of texts. -/
namespace Mini
open PySem PySem.Spec PyProof.Rows L2
open PySem.Froz (SD sObj TxOk addTx tailTx)
/-- the table rises and can be walked -/
def Tidy (w : World) (t : SetTable) : Prop := Ris t.place.toList ∧ (w.params.followText "set-order" = true ∨ t.led = true)
/-- a set of texts -/
structure TxSet (P : Program) (w : World) (h : Heap) (S : Addr) (l : List Str) : Prop where
  ex : ∃ D : SD, h.get? S = some (sObj "set" D) ∧ TxOk P w D l ∧ Tidy w D.2.2
  nd : l.Nodup
theorem tidy_off {w : World} {t : SetTable} (h : Tidy w t) (b : Bool) : Tidy w (if t.plain = b then { t with plain := false } else t) := by
  by_cases e : t.plain = b
  · rw [if_pos e]; exact h
  · rw [if_neg e]; exact h
theorem tidy_add {w : World} {D : SD} (h : Tidy w D.2.2) (k : Int) (v : Value) : Tidy w (addTx k v D).2.2 := by
  obtain ⟨es, ep, t⟩ := D
  have step : Tidy w (layNew t es k v).2.1 := ⟨layNew_ris t es k v h.1, by rw [layNew_led]; exact h.2⟩
  have step2 := tidy_off step true
  unfold addTx tailTx
  by_cases c : (!(layNew t es k v).2.2.1 && (if (layNew t es k v).2.1.plain = true then { (layNew t es k v).2.1 with plain := false } else (layNew t es k v).2.1).tooFull) = true
  · rw [if_pos c]
    exact ⟨relayAll_ris _ _ _, by rw [relayAll_led]; exact step2.2⟩
  · rw [if_neg c]
    exact step2
section
variable {P : Program} {w : World} {A : Around} {E : Value → Shared → Prop}
theorem TxSet.keep {h h' : Heap} {S : Addr} {l : List Str} (T : TxSet P w h S l) (k : ∀ o, h.get? S = some o → h'.get? S = some o) : TxSet P w h' S l := by
  obtain ⟨D, e, r⟩ := T.ex
  exact ⟨⟨D, k _ e, r⟩, T.nd⟩
/-- a text goes into the set -/
theorem TxSet.add {s : Shared} {S : Addr} {l : List Str} {k : Str} {u : Tok} {Q : Bool → Shared → Prop} (T : TxSet P w s.heap S l) (room : l.length + 1 < scanBound)
    (h : ∀ b h', (∀ c o, c ≠ S → s.heap.get? c = some o → h'.get? c = some o) → TxSet P w h' S (if k ∈ l then l else k :: l) → Q b { s with heap := h' }) : wpAny (model P w) A (setAddHashed S (.str k u) (hashStr w k)) Q E s := by
  obtain ⟨D, at_, ok, tidy⟩ := T.ex
  by_cases m : k ∈ l
  · obtain ⟨es, ep, t⟩ := D
    have small : es.size < scanBound := by have := ok.sz; simp only at this; omega
    have is_ := PySem.Froz.is_str (P := P) (w := w) k u
    unfold setAddHashed setAddHashedIn
    apply wpAny_holding
    apply wpAny_bind
    apply wpAny_setState_of at_ rfl ok.fit
    dsimp only
    rw [byScan_of rfl small ok.el]
    simp only [↓reduceIte]
    unfold setAddByScan
    apply wpAny_bind
    apply wpAny_bind
    apply wpAny_rule
    apply wpAny_bind
    apply wpAny_setScan_of (knd := strKind P w) (k := k) is_ at_ rfl ok.fit ok.el
    cases f : List.findIdx? (fun e => (strKind P w).is k e.2) es.toList with
    | none =>
      obtain ⟨e, he, q⟩ := (ok.mem k).mp m
      have no := List.findIdx?_eq_none_iff.mp f e he
      rw [q] at no
      cases no
    | some j =>
      dsimp only
      apply wpAny_pure
      apply wpAny_pure
      refine h _ s.heap (fun _ _ _ q => q) ?_
      rw [if_pos m]
      exact T
  · apply PySem.Froz.add_x at_ ok m room
    refine h _ _ (fun c o ne q => (Heap.get?_update_other _ _ (Ne.symm ne)).trans q) ?_
    rw [if_neg m]
    exact ⟨⟨_, PySem.Froz.get_upd _ at_ rfl, PySem.Froz.add_ok u ok, tidy_add tidy _ _⟩, List.nodup_cons.mpr ⟨m, T.nd⟩⟩
/-- texts met so far -/
def metS (xs : List Str) : Nat → List Str
  | 0 => []
  | i + 1 => match xs[i]? with
    | some k => if k ∈ metS xs i then metS xs i else k :: metS xs i
    | none => metS xs i
theorem metS_len (xs : List Str) : ∀ i, (metS xs i).length ≤ i
  | 0 => Nat.le_refl _
  | i + 1 => by
    unfold metS
    have := metS_len xs i
    split
    · split
      · omega
      · rw [List.length_cons]; omega
    · omega
theorem metS_mem (xs : List Str) (y : Str) : ∀ i, y ∈ metS xs i ↔ y ∈ xs.take i
  | 0 => by simp [metS]
  | i + 1 => by
    rw [List.take_add_one, List.mem_append, ← metS_mem xs y i]
    show (y ∈ match xs[i]? with | some k => if k ∈ metS xs i then metS xs i else k :: metS xs i | none => metS xs i) ↔ _
    cases e : xs[i]? with
    | none => simp
    | some k =>
      simp only [Option.toList, List.mem_singleton]
      split
      · rename_i m
        exact ⟨.inl, fun z => z.elim id fun e => e ▸ m⟩
      · rw [List.mem_cons]
        exact Or.comm
/-- set.update over texts that are walked -/
theorem txt_update {I S : Addr} {fp wr : List Addr} {G : Array GenState → Array GenState → Prop} {xs : List Str} {Pv : Nat → Value → Prop} {St : Nat → Shared → Prop} {R : Result → Shared → Prop}
    (W : WalksS P w A.in1 I fp wr G xs.length Pv St) (out : S ∉ fp) (room : xs.length + 1 < scanBound) (val : ∀ i v, Pv i v → ∃ k t, xs[i]? = some k ∧ v = .str k t) :
    ∀ (j i : Nat) (s : Shared), j + i = xs.length → St i s → TxSet P w s.heap S (metS xs i) →
      (∀ s', Moved (S :: wr) G s s' → TxSet P w s'.heap S (metS xs xs.length) → R (.ok (.ret .none)) s') → codeAny (model P w) A (.builtin "set.update.loop" ⟨[.ref S, .ref I], []⟩) R s := by
  intro j
  have outw : S ∉ wr := fun h => out (W.sub _ h)
  have inc : ∀ b ∈ wr, b ∈ S :: wr := fun b hb => List.mem_cons_of_mem _ hb
  induction j with
  | zero =>
    intro i s e st T fin
    rw [Nat.zero_add] at e
    subst e
    apply codeAny_builtin PyProof.Rows.F.entry_set_update_loop
    rw [Around.under_plainId PyProof.Rows.F.plain_set_update_loop _]
    show wpAny _ A.in1 (pyNext (.ref I) >>= _) _ _ s
    apply wpAny_bind
    apply W.done s _ _ st
    intro s' mv
    show wpAny _ A.in1 (ret Value.none) _ _ s'
    exact wpAny_pure (fin s' (mv.mono inc) (T.keep fun o q => mv.heap S o outw q))
  | succ j ih =>
    intro i s e st T fin
    have lt : i < xs.length := by omega
    apply codeAny_builtin PyProof.Rows.F.entry_set_update_loop
    rw [Around.under_plainId PyProof.Rows.F.plain_set_update_loop _]
    show wpAny _ A.in1 (pyNext (.ref I) >>= _) _ _ s
    apply wpAny_bind
    apply W.item i s _ _ lt st
    intro v s1 pv st1 mv
    obtain ⟨k, t, at_, rfl⟩ := val i v pv
    have T1 := T.keep fun o q => mv.heap S o outw q
    show wpAny _ A.in1 (holding [Value.str k t] (setAdd S (.str k t)) >>= _) _ _ s1
    apply wpAny_bind
    apply wpAny_holding
    unfold setAdd
    apply wpAny_holding
    apply wpAny_bind
    apply (strKind P w).pyHash (PySem.Froz.is_str k t)
    have few := metS_len xs i
    refine TxSet.add (s := { s1 with toks := s1.toks + 1 }) T1 (by omega) fun b h' keep T2 => ?_
    have T3 : TxSet P w h' S (metS xs (i + 1)) := by
      unfold metS
      rw [at_]
      exact T2
    refine wpAny_pure ⟨plainId_quiet PyProof.Rows.F.plain_set_update_loop _, ih (i + 1) _ (by omega) (W.frame _ s1 _ _ st1 (Nat.le_succ _) fun c hc o q => keep c o (fun z => out (z ▸ hc)) q) T3 fun s2 mv2 T4 => ?_⟩
    exact fin s2 (Moved.trans W.gtrans ((mv.mono inc).then_heap (Nat.le_succ _) fun c o hc q => keep c o (fun z => hc (z ▸ List.mem_cons_self)) q) mv2) T4
abbrev bareSet (w : World) : Obj := { cls := .type "set", dict := none, data := .set #[] 0 (.fresh 0 0 (!w.params.followText "set-order")) }
theorem TxSet.none {h : Heap} {S : Addr} (at_ : h.get? S = some (bareSet w)) : TxSet P w h S [] := by
  refine ⟨⟨(#[], 0, .fresh 0 0 (!w.params.followText "set-order")), at_, TxOk.nil rfl, List.Pairwise.nil, ?_⟩, List.nodup_nil⟩
  show _ ∨ (!w.params.followText "set-order") = true
  cases w.params.followText "set-order"
  · exact .inr rfl
  · exact .inl rfl
theorem strs_get : ∀ {us : List Value} {xs : List Str}, StrsAre us xs → us.length = xs.length ∧ ∀ (i : Nat) (v : Value), us[i]? = some v → ∃ k t, xs[i]? = some k ∧ v = .str k t
  | _, _, .nil => ⟨rfl, fun i v h => by simp at h⟩
  | _, _, .cons x t r => by
    obtain ⟨e, g⟩ := strs_get r
    refine ⟨by simp [e], fun i v h => ?_⟩
    cases i with
    | zero => cases h; exact ⟨x, t, rfl, rfl⟩
    | succ i => exact g i v (by simpa using h)
set_option maxRecDepth 100000 in
set_option maxHeartbeats 3200000 in
/-- set(t) -/
theorem set_of_tup {s : Shared} {l : Addr} {items : Array Value} {xs : List Str} {Q : Value → Shared → Prop} (hh : A.handled = none) (tup : s.heap.IsTuple l items) (txt : StrsAre items.toList xs) (room : xs.length + 1 < scanBound)
    (q : ∀ (h' : Heap) (tk : Nat), TxSet P w h' s.heap.objs.size (metS xs xs.length) → (∀ b o, s.heap.get? b = some o → h'.get? b = some o) → Q (.ref s.heap.objs.size) { s with heap := h', toks := tk }) :
    wpAny (model P w) A (call (.type "set") [.ref l]) Q E s := by
  obtain ⟨len, val⟩ := strs_get txt
  rw [Array.length_toList] at len
  obtain ⟨_, _, mro⟩ := F.called_set.mro
  have made := F.called_set.made
  have sub := F.called_set.sub
  have nt := F.called_set.notType
  have cc := F.called_set.canCreate
  have ck := F.typeCall_set_1 (.ref l)
  apply wpAny_call
  apply codeAny_of_tree
  show wpAny _ _ (callAny (.type "set") _) _ _ _
  refine wpAny_pure ⟨Code.quiet_builtin _ (by decide +kernel), codeAny_builtin F.entry_type_call ?_⟩
  rw [Around.under_plain (weight_type_call_type "set" [.ref l] []) rfl]
  repeat (any_goals (first | assumption | wp_step))
  apply codeAny_mono (code_set_led1 (.ref l) (E := E) (Q₁ := fun o z => o = .ref s.heap.objs.size ∧ z = { s with heap := s.heap.push (bareSet w) }) ⟨rfl, rfl⟩)
  rintro (e | (_ | _ | _ | o)) z got
  · exact got
  · exact got.elim
  · exact got.elim
  · exact got.elim
  · obtain ⟨rfl, rfl⟩ := got
    have here : (s.heap.push (bareSet w)).get? s.heap.objs.size = some (bareSet w) := Heap.get?_push_size _ rfl
    have isS : Shared.TypeIs { s with heap := s.heap.push (bareSet w) } (.ref s.heap.objs.size) "set" := ⟨_, here, rfl⟩
    have il := F.called_set.init.lookup
    have ib := F.called_set.init.bind (.ref s.heap.objs.size)
    repeat (any_goals (first | assumption | wp_step))
    apply codeAny_mono (codeAny_call_builtin (R := wants (fun r z => r = .none ∧ ∃ h' tk, z = { s with heap := h', toks := tk } ∧ TxSet P w h' s.heap.objs.size (metS xs xs.length) ∧ ∀ b o, s.heap.get? b = some o → h'.get? b = some o) E)
      F.called_set.init.plain F.entry_set_init (check_set_init_1 isS ?body)) ?done
    case body =>
      obtain ⟨ol, ol_at, hcl, nl, hdl⟩ := tup
      obtain ⟨ocls, odict, odata, oslots⟩ := ol
      simp only at hcl hdl
      subst hcl
      subst hdl
      have lS : l < s.heap.objs.size := Heap.lt_size ol_at
      have ol2 : (s.heap.push (bareSet w)).get? l = some { cls := .type "tuple", dict := odict, data := .seq items nl, slots := oslots } := Heap.get?_push_of_some _ ol_at
      have tup2 : (s.heap.push (bareSet w)).IsTuple l items := ⟨_, ol2, rfl, nl, rfl⟩
      have n1 := F.sub_tuple_set
      have n2 := F.sub_tuple_frozenset
      have n3 : (Value.type "tuple" == Value.type "dict") = false := by decide
      unfold Builtin.«set.__init__» noKeywords Builtin.Frozenset.updateFrom
      generalize it : pyIter = PI
      wp_walk
      subst it
      apply wpAny_pyIter_tuple tup2
      apply wpAny_bind
      apply wpAny_runValue
      have calm : A.in1.in1.in1.handled = none := by simp [hh]
      have far : l ≠ (s.heap.push (bareSet w)).objs.size := by
        rw [Heap.size_push]
        exact Nat.ne_of_lt (Nat.lt_succ_of_lt lS)
      have out : s.heap.objs.size ∉ [(s.heap.push (bareSet w)).objs.size, l] := by
        rw [Heap.size_push]
        intro m
        rcases List.mem_cons.mp m with e | m
        · exact absurd e (Nat.ne_of_lt (Nat.lt_succ_self _))
        · exact absurd (List.mem_singleton.mp m) (Nat.ne_of_gt lS)
      have walk := (Walks.tuple (prog := P) (w := w) calm _ l far items).toS
      rw [len] at walk
      refine txt_update walk out room (fun i v hv => val i v (by rw [Array.getElem?_toList]; exact hv)) xs.length 0 _ (by omega) ⟨⟨_, Heap.get?_push_size _ rfl, rfl, rfl⟩, tup2.push _⟩ (TxSet.none (Heap.get?_push_of_some _ here)) ?_
      rintro ⟨h', g2, d', tk', os'⟩ mv T
      have eg : g2 = s.gens := mv.gens
      have ed : d' = s.drawn := mv.drawn
      have eo : os' = s.os := mv.os
      subst eg ed eo
      show wpAny _ _ _ _ _ _
      apply wpAny_pure
      show wpAny _ _ (ret Value.none) _ _ _
      refine wpAny_pure ⟨rfl, h', tk', rfl, T, fun b o e => ?_⟩
      have lt := Heap.lt_size e
      refine mv.heap b o (fun m => ?_) (Heap.get?_push_of_some _ (Heap.get?_push_of_some _ e))
      rcases List.mem_cons.mp m with e | m
      · exact absurd e (Nat.ne_of_lt lt)
      · have := List.mem_singleton.mp m
        rw [Heap.size_push] at this
        exact absurd this (Nat.ne_of_lt (Nat.lt_succ_of_lt lt))
    case done =>
      rintro (e | (_ | _ | _ | r)) z got
      · exact got
      · exact got.elim
      · exact got.elim
      · exact got.elim
      · obtain ⟨rfl, h', tk, rfl, T, keep⟩ := got
        repeat (any_goals (first | assumption | wp_step))
        exact q _ _ T keep
end
end Mini

/-! M44: sets of texts as tracked objects; sorted of them. -/
namespace Mini
open PySem PySem.Spec PyProof.Rows L2
open PySem.Froz (SD sObj TxOk)
def TxSO (P : Program) (w : World) (a : Addr) (l : List Str) : HO := .ext fun h => TxSet P w h a l
theorem txso_ok {P : Program} {w : World} {H : Hp} {h : Heap} {a : Addr} {l : List Str} (T : TxSet P w h a l) : ObjOk P w H h a (TxSO P w a l) :=
  ⟨T, (by obtain ⟨D, e, _⟩ := T.ex; exact ⟨_, e⟩), fun h1 h2 z k => TxSet.keep z fun o => k o⟩
theorem perm_sub : ∀ {l t : List Str}, l.Nodup → (∀ k ∈ l, k ∈ t) → t.length = l.length → t.Perm l
  | [], t, _, _, e => by
    have : t = [] := List.eq_nil_of_length_eq_zero e
    rw [this]
  | x :: l, t, nd, sub, e => by
    obtain ⟨nx, nd'⟩ := List.nodup_cons.mp nd
    obtain ⟨a, b, rfl⟩ := List.append_of_mem (sub x List.mem_cons_self)
    have ih := perm_sub (l := l) (t := a ++ b) nd' (fun k hk => by
      have := sub k (List.mem_cons_of_mem _ hk)
      rw [List.mem_append, List.mem_cons] at this
      rw [List.mem_append]
      rcases this with h | h | h
      · exact .inl h
      · exact absurd (h ▸ hk) nx
      · exact .inr h) (by rw [List.length_append, List.length_cons] at e; rw [List.length_append]; simp only [List.length_cons] at e; omega)
    exact List.perm_middle.trans (ih.cons x)
section
variable {X : Cx}
theorem TxOk.texts {P : Program} {w : World} {D : SD} {l : List Str} (ok : TxOk P w D l) (nd : l.Nodup) : (∀ v ∈ D.1.toList.map (·.2), ∃ k t, v = Value.str k t) ∧ ((D.1.toList.map (·.2)).map strOf).Perm l := by
  have all : ∀ e ∈ D.1.toList, ∃ k t, e.2 = Value.str k t := fun e he => by
    obtain ⟨⟨k, is_, _⟩, _⟩ := ok.el e he
    obtain ⟨t, q⟩ := Value.isStrOf_shape (x := k) (v := e.2) is_
    exact ⟨k, t, q⟩
  refine ⟨fun v hv => ?_, perm_sub nd (fun k hk => ?_) ?_⟩
  · obtain ⟨e, he, rfl⟩ := List.mem_map.mp hv
    exact all e he
  · obtain ⟨e, he, is_⟩ := (ok.mem k).mp hk
    obtain ⟨t, q⟩ := Value.isStrOf_shape (x := k) (v := e.2) is_
    refine List.mem_map.mpr ⟨e.2, List.mem_map.mpr ⟨e, he, rfl⟩, ?_⟩
    rw [q]
    rfl
  · rw [List.length_map, List.length_map, Array.length_toList]
    exact ok.sz
/-- set(t), tracked -/
theorem cr_setT (calm : X.calm = true) : CallR X (.type "set") (fun vs H Q => ∃ (a : Addr) (xs : List Str), vs = [.ref a] ∧ SqT X.K H a (xs.map V.str) ∧ xs.length + 1 < scanBound ∧ ∀ p, H p = none → Q (.ref p) (upd H p (TxSO X.prog X.w p (metS xs xs.length)))) := by
  intro pins s σ H vs us Q I r h
  obtain ⟨a, xs, rfl, sq, room, q⟩ := h
  obtain ⟨its, rv, tup, _⟩ := I.tuple sq
  rw [Vals.ref1 r]
  apply set_of_tup (items := its.toArray) (I.ok.hd calm) tup (by rw [List.toList_toArray]; exact strs_of_vals rv) room
  intro h' tk T keep
  exact ⟨.ref s.heap.objs.size, _, I.laid (t' := tk) (a := s.heap.objs.size) (o := TxSO X.prog X.w s.heap.objs.size (metS xs xs.length)) keep (Nat.le_refl _) (txso_ok T), rfl, q _ (I.hok.fresh (Nat.le_refl _))⟩
/-- sorted(s), s a set of texts -/
theorem cr_sortedTx (calm : X.calm = true) : CallR X (.builtin "sorted") (fun vs H Q => ∃ (a : Addr) (l : List Str), vs = [.ref a] ∧ H a = some (TxSO X.prog X.w a l) ∧ l.length < 64 ∧
    ∀ ys p, ys.Perm l → sortedS ys = true → H p = none → Q (.ref p) (upd H p (.lst (ys.map V.str)))) := by
  intro pins s σ H vs us Q I r h
  obtain ⟨a, l, rfl, ha, few, q⟩ := h
  have T : TxSet X.prog X.w s.heap a l := (show ObjOk X.prog X.w H s.heap a (.ext fun h => TxSet X.prog X.w h a l) from I.hok a _ ha).1
  obtain ⟨D, at_, ok, ris, led⟩ := T.ex
  obtain ⟨es, ep, t⟩ := D
  rw [Vals.ref1 r]
  have size : es.size = l.length := ok.sz
  have small : es.size < scanBound := by rw [size]; exact Nat.lt_of_lt_of_le few (by decide)
  apply Calls.call_function_entry kind_sorted plain_sorted entry_sorted (args_sorted1 _)
  unfold Builtin.«sorted»
  apply wpAny_bind (m := checkCount "sorted" 1 1 _)
  apply wpAny_pure
  apply wpAny_bind
  apply collect_set (A := X.A.in1) (I.ok.hd calm) (show SetAt s.heap a es ep t from ⟨_, at_, rfl, rfl⟩) ok.fit small ris led
  rintro ⟨h1, g1, d1, t1, os1⟩ out up grow eg eo pm
  obtain ⟨all, prm⟩ := TxOk.texts ok T.nd
  have txt : StrsAre out (out.map strOf) := strsAre_map out fun v hv => all v (pm.mem_iff.mp hv)
  have prm2 : (out.map strOf).Perm l := (pm.map strOf).trans prm
  have len : out.length = l.length := by rw [← prm2.length_eq, List.length_map]
  have I1 : Inv X pins σ H ⟨h1, g1, d1, t1, os1⟩ := by
    have eo : os1 = s.os := eo
    subst eo
    exact I.call (h' := h1) (g' := g1) (d' := d1) (t' := t1) (ch := []) (Un.kept up) (I.hok.kept up) (by rw [show g1 = s.gens from eg]; exact I.bare) (fun _ z => nomatch z)
  apply wpAny_bind
  refine wpAny_newList ?_ (by rw [len, sizeLine_eq]; omega)
  have new : (h1.push (seqObj "list" out.toArray 0)).get? h1.objs.size = some (seqObj "list" out.toArray 0) := Heap.get?_push_size _ rfl
  apply wpAny_bind
  apply wpAny_holding
  refine wpAny_call_entry slot_list_sort ⟨_, new, rfl⟩ entry_list_sort (list_sort_treeK strKind_oneLt new txt.keysOf (fun _ _ _ e => keyKind_strs (by rw [← e]; exact txt)) (by rw [len]; exact few) fun st hp hs => ⟨_, rfl, ?_⟩) (args_list_sort _)
  obtain ⟨ys, f1, f2, f3⟩ := sorted_out_str txt hp hs
  obtain ⟨e', at2⟩ := sortedHeap_at (vs := out) (out := (arrOf st).map (·.2)) new
  have fits : (ys.map V.str).length ≤ sizeLine := by
    rw [List.length_map, f2.length_eq, List.length_map, len, sizeLine_eq]
    omega
  refine wpAny_pure ⟨_, rfl, .ref h1.objs.size, upd H h1.objs.size (.lst (ys.map V.str)), I1.laid (t' := t1) (fun b u e => ?_) (Nat.le_refl _) ⟨fits, ((arrOf st).map (·.2)).toList, e', vals_of_strs f1, by rw [Array.toArray_toList]; exact at2⟩, rfl, q ys _ (f2.trans prm2) f3 (I1.hok.fresh (Nat.le_refl _))⟩
  have lt : b < h1.objs.size := Heap.lt_size e
  rw [sortedHeap_old (Nat.ne_of_lt lt) (by rw [size_push']; exact Nat.lt_succ_of_lt lt)]
  exact Heap.get?_push_of_some _ e
end
end Mini

/-! M45: join, split, str(n), text * n, max of a list or a tuple, xs[::-1], sorted(set(t)) in the calculus. -/
namespace Mini
open PySem PySem.Spec PyProof.Rows L2
/-! ### sorted, without repetitions -/
abbrev TxLt (a b : Str) : Prop := a.cps.toList < b.cps.toList
theorem txlt_irrefl (a : Str) : ¬ TxLt a a := List.lt_irrefl _
theorem txlt_trans {a b c : Str} (h : TxLt a b) (q : TxLt b c) : TxLt a c := List.lt_trans h q
theorem txlt_tri (a b : Str) (ne : a ≠ b) (h : ¬ TxLt a b) : TxLt b a := by
  have le : b.cps.toList ≤ a.cps.toList := List.not_lt.mp h
  refine Std.lt_of_le_of_ne le fun e => ne ?_
  have : a.cps = b.cps := Array.toList_inj.mp e.symm
  cases a
  cases b
  simp only at this
  rw [this]
def insTx (k : Str) : List Str → List Str
  | [] => [k]
  | x :: r => if k = x then x :: r else if TxLt k x then k :: x :: r else x :: insTx k r
def setSort (xs : List Str) : List Str := xs.foldr insTx []
theorem insTx_mem (k y : Str) : ∀ xs : List Str, y ∈ insTx k xs ↔ y = k ∨ y ∈ xs
  | [] => by simp [insTx]
  | x :: r => by
    unfold insTx
    split
    · rename_i e
      subst e
      simp
    · split
      · simp
      · rw [List.mem_cons, insTx_mem k y r, List.mem_cons]
        constructor <;> rintro (h | h | h) <;> simp [h]
theorem insTx_asc (k : Str) : ∀ xs : List Str, xs.Pairwise TxLt → (insTx k xs).Pairwise TxLt
  | [], _ => by simp [insTx]
  | x :: r, h => by
    obtain ⟨h1, h2⟩ := List.pairwise_cons.mp h
    unfold insTx
    split
    · exact h
    · rename_i ne
      split
      · rename_i lt
        refine List.pairwise_cons.mpr ⟨fun y hy => ?_, h⟩
        rcases List.mem_cons.mp hy with e | hy
        · rw [e]; exact lt
        · exact txlt_trans lt (h1 y hy)
      · rename_i nlt
        refine List.pairwise_cons.mpr ⟨fun y hy => ?_, insTx_asc k r h2⟩
        rcases (insTx_mem k y r).mp hy with e | hy
        · rw [e]; exact txlt_tri k x ne nlt
        · exact h1 y hy
theorem setSort_mem (y : Str) : ∀ xs : List Str, y ∈ setSort xs ↔ y ∈ xs
  | [] => by simp [setSort]
  | x :: r => by
    show y ∈ insTx x (setSort r) ↔ _
    rw [insTx_mem, setSort_mem y r, List.mem_cons]
theorem setSort_asc : ∀ xs : List Str, (setSort xs).Pairwise TxLt
  | [] => List.Pairwise.nil
  | x :: r => insTx_asc x _ (setSort_asc r)
/-- two rising lists with the same members -/
theorem asc_uniq : ∀ {a b : List Str}, a.Pairwise TxLt → b.Pairwise TxLt → (∀ y, y ∈ a ↔ y ∈ b) → a = b
  | [], [], _, _, _ => rfl
  | [], y :: b, _, _, h => absurd ((h y).mpr List.mem_cons_self) (by simp)
  | x :: a, [], _, _, h => absurd ((h x).mp List.mem_cons_self) (by simp)
  | x :: a, y :: b, ha, hb, h => by
    obtain ⟨a1, a2⟩ := List.pairwise_cons.mp ha
    obtain ⟨b1, b2⟩ := List.pairwise_cons.mp hb
    have e : x = y := by
      rcases List.mem_cons.mp ((h x).mp List.mem_cons_self) with e | hx
      · exact e
      · rcases List.mem_cons.mp ((h y).mpr List.mem_cons_self) with e | hy
        · exact e.symm
        · exact absurd (txlt_trans (a1 y hy) (b1 x hx)) (txlt_irrefl x)
    subst e
    rw [asc_uniq a2 b2 fun z => ?_]
    constructor
    · intro hz
      rcases List.mem_cons.mp ((h z).mp (List.mem_cons_of_mem _ hz)) with e | q
      · exact absurd (e ▸ a1 z hz) (txlt_irrefl _)
      · exact q
    · intro hz
      rcases List.mem_cons.mp ((h z).mpr (List.mem_cons_of_mem _ hz)) with e | q
      · exact absurd (e ▸ b1 z hz) (txlt_irrefl _)
      · exact q
theorem ltCps_lt : ∀ a b : List Nat, ltCps a b = decide (a < b)
  | [], [] => by simp [ltCps]
  | [], b :: bs => by simp [ltCps]
  | a :: as, [] => by simp [ltCps]
  | a :: as, b :: bs => by
    unfold ltCps
    rw [ltCps_lt as bs]
    by_cases h : a < b
    · simp [h, List.cons_lt_cons_iff]
    · by_cases e : a = b
      · subst e; simp [List.cons_lt_cons_iff]
      · simp [h, e, List.cons_lt_cons_iff]
theorem rising_asc : ∀ (r : List Str) (p : Str), risingS p r = true → (p :: r).Nodup → (p :: r).Pairwise TxLt
  | [], p, _, _ => by simp
  | x :: r, p, h, nd => by
    have h' : (!ltCps x.cps.toList p.cps.toList && risingS x r) = true := h
    rw [Bool.and_eq_true, Bool.not_eq_true', ltCps_lt, decide_eq_false_iff_not] at h'
    obtain ⟨n1, n2⟩ := List.nodup_cons.mp nd
    have ih := rising_asc r x h'.2 n2
    have lt : TxLt p x := txlt_tri x p (fun e => n1 (e ▸ List.mem_cons_self)) h'.1
    refine List.pairwise_cons.mpr ⟨fun y hy => ?_, ih⟩
    rcases List.mem_cons.mp hy with e | hy
    · rw [e]; exact lt
    · exact txlt_trans lt ((List.pairwise_cons.mp ih).1 y hy)
theorem sorted_asc {ys : List Str} (h : sortedS ys = true) (nd : ys.Nodup) : ys.Pairwise TxLt := by
  cases ys with
  | nil => exact List.Pairwise.nil
  | cons x r => exact rising_asc r x h nd
theorem metS_nodup (xs : List Str) : ∀ i, (metS xs i).Nodup
  | 0 => List.nodup_nil
  | i + 1 => by
    show List.Nodup (match xs[i]? with | some k => if k ∈ metS xs i then metS xs i else k :: metS xs i | none => metS xs i)
    cases xs[i]? with
    | none => exact metS_nodup xs i
    | some k =>
      dsimp only
      split
      · exact metS_nodup xs i
      · rename_i h
        exact List.nodup_cons.mpr ⟨h, metS_nodup xs i⟩
/-- what sorted(set(t)) tells -/
theorem sorted_is {xs ys : List Str} (p : ys.Perm (metS xs xs.length)) (h : sortedS ys = true) : ys = setSort xs := by
  refine asc_uniq (sorted_asc h (p.nodup_iff.mpr (metS_nodup xs _))) (setSort_asc xs) fun y => ?_
  rw [p.mem_iff, metS_mem, setSort_mem, List.take_of_length_le (Nat.le_refl _)]
def fSortSet (v : PV) (μ : MH) : R PV := match seqT v with
  | some xs => match strsOf xs with
    | some ys => if ys.length < 60 then .ok (.frl ((setSort ys).map .str)) μ else .bad
    | none => .bad
  | none => .bad
theorem strs_prel {G : Gx} {H : Hp} {β : List Addr} : ∀ ys : List Str, PRels G H β (ys.map .str) (ys.map V.str)
  | [] => PRels.nil
  | y :: ys => .cons .str_ (strs_prel ys)
section
variable {X : Cx} {XR : XRel} {E : L2.St → XK} {K : PySem.W.Frag}
theorem me_sortSet {e : Expr} {m : ME} {p1 p2 p3 p4 : Pos} (calm : X.calm = true) (g1 : Gl X "sorted") (m1 : X.mg "sorted" = none) (g2 : Gl X "set") (m2 : X.mg "set" = none) (he : PM X XR E e m)
    (o1 : starEach [e] X.env = (false, eval e X.env) :: starEach [] X.env := by rfl) (o2 : starEach [.Call (.Name "set" p2) [e] [] p3] X.env = (false, eval (.Call (.Name "set" p2) [e] [] p3) X.env) :: starEach [] X.env := by rfl) :
    PM X XR E (.Call (.Name "sorted" p1) [.Call (.Name "set" p2) [e] [] p3] [] p4) (mUn fSortSet m) :=
  PE.imp (pe_callB (cr_sortedTx calm) g1 m1 (by decide +kernel) (pa_cons (pe_callTy (cr_setT calm) g2 m2 (by decide +kernel) (pa_cons he pa_nil o1) (by decide) (by decide) o1 (by rfl)) pa_nil o2) (by decide) (by decide) o2 (by rfl)) fun σ H Q ⟨av, β, s, μ, rl, sr, h⟩ => by
    refine tm_e (m := m) rl sr h fun v μ1 x H1 β1 _ ex rl1 sr1 p q => ?_
    unfold fSortSet at q
    split at q
    case h_2 => exact q.elim
    rename_i xs e1
    split at q
    case h_2 => exact q.elim
    rename_i ys e2
    split at q
    case isFalse => exact q.elim
    rename_i few
    obtain ⟨a, vs, rfl, sq, ps⟩ := seqT_ok p e1
    refine ⟨a, ys, rfl, by rw [← strs_rel ps e2]; exact sq, Nat.lt_of_lt_of_le (Nat.succ_lt_succ few) (by decide), fun c hc => ?_⟩
    refine ⟨c, _, rfl, upd_same, Nat.lt_of_le_of_lt (metS_len ys _) (by omega), fun zs d pm srt hd => ?_⟩
    have ez := sorted_is pm srt
    subst ez
    have ex1 := Ext.new rl1 hc (TxSO X.prog X.w c (metS ys ys.length))
    have rl2 := rl1.new hc (TxSO X.prog X.w c (metS ys ys.length))
    have ex2 := Ext.new rl2 hd (.lst ((setSort ys).map V.str))
    refine q _ _ β1 (ex1.trans ex2) (rl2.new hd _) ?_
    unfold PRel
    exact ⟨d, _, rfl, ⟨upd_same, rl2.fresh hd⟩, strs_prel _⟩
/-! ### methods of texts -/
def isStr (v : PV) (_ : MH) : Bool := match v with
  | .str _ => true
  | _ => false
theorem isStr_ty : ∀ (av : List Addr) (H : Hp) (β : List Addr) (μ : MH) (v : PV) (x : V), Rl ⟨K, av⟩ H β μ → PRel ⟨K, av⟩ H β v x → isStr v μ = true → tyV K "str" x H := by
  intro av H β μ v x rl p h
  cases v <;> first
    | exact Bool.noConfusion h
    | skip
  rw [str_inv p]
  rfl
def txtsOf (v : PV) (μ : MH) : Option (List Str) := (seqR v μ).bind strsOf
theorem txtsOf_ok {G : Gx} {H : Hp} {β : List Addr} {μ : MH} {v : PV} {ys : List Str} {x : V} (rl : Rl G H β μ) (p : PRel G H β v x) (h : txtsOf v μ = some ys) : ∃ a, x = .ref a ∧ (SqL G.fr H a (ys.map V.str) ∨ SqT G.fr H a (ys.map V.str)) := by
  obtain ⟨xs, e1, e2⟩ := Option.bind_eq_some_iff.mp h
  obtain ⟨a, vs, rfl, s, q⟩ := seqR_ok rl p e1
  rw [strs_rel q e2] at s
  exact ⟨a, rfl, s⟩
def fJoin : PV → List PV → MH → R PV
  | .str a, [v], μ => match txtsOf v μ with
    | some ys => if (ys.map (·.length)).sum + ys.length * a.length ≤ 16777216 then .ok (.str (Txt.join a ys)) μ else .bad
    | none => .bad
  | _, _, _ => .bad
theorem om_join : MethM K XR fJoin (fun x xs H Q => ∃ a p, ∃ ys : List Str, x = .str a ∧ xs = [.ref p] ∧ (SqL K H p (ys.map V.str) ∨ SqT K H p (ys.map V.str)) ∧ (ys.map (·.length)).sum + ys.length * a.length ≤ 16777216 ∧ Q (.str (Txt.join a ys)) H) := by
  intro av E H β μ v x vs xs Q rl p ps h
  unfold fJoin at h
  split at h
  case h_2 => exact h.elim
  rename_i a w
  obtain ⟨y, rfl, pw⟩ := one_inv ps
  split at h
  case h_2 => exact h.elim
  rename_i ys e
  split at h
  case isFalse => exact h.elim
  rename_i fits
  obtain ⟨b, rfl, sq⟩ := txtsOf_ok rl pw e
  exact ⟨a, b, ys, str_inv p, rfl, sq, fits, ok_here h rl .str_⟩
def fSplit (place : Bool) : PV → List PV → MH → R PV
  | .str a, [.str b], μ => if (b.length == 0) = false ∧ a.length + 2 ≤ sizeLine then (if place then .ok (.ref μ.length) (μ ++ [.lst ((Txt.split a b).map .str)]) else .ok (.frl ((Txt.split a b).map .str)) μ) else .bad
  | _, _, _ => .bad
theorem om_split {place : Bool} : MethM K XR (fSplit place) (fun x xs H Q => ∃ a b, x = .str a ∧ xs = [.str b] ∧ (b.length == 0) = false ∧ a.length + 2 ≤ sizeLine ∧ rNewStrs (Txt.split a b) H Q) := by
  intro av E H β μ v x vs xs Q rl p ps h
  unfold fSplit at h
  split at h
  case h_2 => exact h.elim
  rename_i a b
  obtain ⟨y, rfl, pw⟩ := one_inv ps
  split at h
  case isFalse => exact h.elim
  rename_i c
  refine ⟨a, b, str_inv p, by rw [str_inv pw], c.1, c.2, fun q hq => ?_⟩
  split at h
  · exact new_lst rl (strs_prel _) h q hq
  · exact new_frl rl (strs_prel _) h q hq
/-! ### str(n), text * n -/
def fStr : List PV → MH → R PV
  | [.int i], μ => if i.natAbs.log2 < 1920 then .ok (.str (toString i)) μ else .bad
  | _, _ => .bad
theorem cm_str : CallM K XR fStr (fun xs H Q => ∃ i, xs = [.int i] ∧ i.natAbs.log2 < 1920 ∧ Q (.str (toString i)) H) := by
  intro av E H β μ v x Q rl pv h
  unfold fStr at h
  split at h
  case h_2 => exact h.elim
  rename_i i
  obtain ⟨y, rfl, p⟩ := one_inv pv
  split at h
  case isFalse => exact h.elim
  rename_i c
  exact ⟨i, by rw [int_inv p], c, ok_here h rl .str_⟩
def repTx (a : Str) (k : Nat) : Str := ⟨(List.replicate k a.cps).foldl (· ++ ·) #[]⟩
theorem app_len (xs : Array Nat) : ∀ (n : Nat) (acc : Array Nat), ((List.replicate n xs).foldl (· ++ ·) acc).size = acc.size + n * xs.size
  | 0, acc => by simp
  | n + 1, acc => by
    rw [List.replicate_succ, List.foldl_cons, app_len xs n, Array.size_append, Nat.succ_mul]
    omega
theorem repTx_len (a : Str) (k : Nat) : (repTx a k).length = k * a.length := by
  show ((List.replicate k a.cps).foldl (· ++ ·) #[]).size = _
  rw [app_len]
  simp [Str.length]
def fRepT (v w : PV) (μ : MH) : R PV := match v, w with
  | .str a, .int k => if 2 ≤ k ∧ k ≤ 1000 ∧ 1 ≤ a.length ∧ a.length ≤ 1000 then .ok (.str (repTx a k.toNat)) μ else .bad
  | _, _ => fRep v w μ
def rRepTx : R2 := fun x y H Q => ∃ a k, x = .str a ∧ y = .int k ∧ 2 ≤ k ∧ k ≤ 1000 ∧ 1 ≤ a.length ∧ a.length ≤ 1000 ∧ Q (.str (repTx a k.toNat)) H
theorem op_repTx : OpR X (binaryOp .Mult) rRepTx := by
  intro pins s σ H x y v u Q I rx ry ⟨a, k, ex, ey, k1, k2, a1, a2, q⟩
  subst ex ey
  obtain ⟨t, rfl⟩ := rx
  obtain ⟨t', rfl⟩ := ry
  have n1 : ¬ k < 1 := by omega
  have n2 : (k == 1 || a.length == 0) = false := by
    rw [Bool.or_eq_false_iff]
    exact ⟨beq_eq_false_iff_ne.mpr (by omega), beq_eq_false_iff_ne.mpr (by omega)⟩
  have small : a.length * k.toNat ≤ 1000000 := by
    have : k.toNat ≤ 1000 := by omega
    exact Nat.mul_le_mul a2 this
  apply PySem.P.mul_str
  · rw [decide_eq_false (by omega), decide_eq_false (by omega)]; rfl
  · intro _ _ h
    have le : (a.length : Int) ≤ (2 ^ 63 - 1) / k := by
      rw [Int.le_ediv_iff_mul_le (by omega)]
      have : (a.length : Int) * k ≤ 1000 * 1000 := Int.mul_le_mul (by omega) k2 (by omega) (by omega)
      omega
    omega
  · intro _ _
    unfold Builtin.Str.tooLong
    exact decide_eq_false (by rw [sizeLine_eq]; omega)
  · rw [if_neg n1, if_neg (by rw [n2]; decide)]
    refine ⟨?_, .str (repTx a k.toNat), H, I.tok _, ⟨_, rfl⟩, q⟩
    show (repTx a k.toNat).length ≤ sizeLine
    rw [repTx_len, sizeLine_eq]
    rw [Nat.mul_comm] at small
    omega
theorem om_repT : OpM K XR fRepT (fun x y H Q => rRepTx x y H Q ∨ rRepA K x y H Q) := by
  intro av E H β μ v w x y Q rl pv pw h
  unfold fRepT at h
  split at h
  · rename_i a k
    split at h
    case isFalse => exact h.elim
    rename_i c
    exact .inl ⟨a, k, str_inv pv, int_inv pw, c.1, c.2.1, c.2.2.1, c.2.2.2, ok_here h rl .str_⟩
  · exact .inr (om_rep _ _ _ _ _ _ _ _ _ _ rl pv pw h)
theorem op_repTA : OpR X (binaryOp .Mult) (fun x y H Q => rRepTx x y H Q ∨ rRepA X.K x y H Q) := op_repTx.or op_repA
/-! ### max of a list, of a tuple -/
def maxL : List Int → Int
  | [] => 0
  | x :: r => r.foldl (fun a b => if b > a then b else a) x
theorem maxL_fold : ∀ (r : List Int) (x : Int), (r.foldl (fun a b => if b > a then b else a) x ∈ x :: r) ∧ ∀ y ∈ x :: r, y ≤ r.foldl (fun a b => if b > a then b else a) x
  | [], x => by simp
  | z :: r, x => by
    obtain ⟨h1, h2⟩ := maxL_fold r (if z > x then z else x)
    rw [List.foldl_cons]
    have step : ∀ y ∈ x :: z :: r, y ≤ r.foldl (fun a b => if b > a then b else a) (if z > x then z else x) := by
      intro y hy
      have top := h2 _ List.mem_cons_self
      have both : x ≤ (if z > x then z else x) ∧ z ≤ (if z > x then z else x) := by split <;> omega
      rcases List.mem_cons.mp hy with e | hy
      · rw [e]; exact Int.le_trans both.1 top
      · rcases List.mem_cons.mp hy with e | hy
        · rw [e]; exact Int.le_trans both.2 top
        · exact h2 y (List.mem_cons_of_mem _ hy)
    refine ⟨?_, step⟩
    rcases List.mem_cons.mp h1 with e | h1
    · rw [e]
      split
      · exact List.mem_cons_of_mem _ List.mem_cons_self
      · exact List.mem_cons_self
    · exact List.mem_cons_of_mem _ (List.mem_cons_of_mem _ h1)
theorem maxL_is {ns : List Int} {m : Int} (hm : m ∈ ns) (hle : ∀ a, a ∈ ns → a ≤ m) : m = maxL ns := by
  cases ns with
  | nil => cases hm
  | cons x r =>
    obtain ⟨h1, h2⟩ := maxL_fold r x
    have a := hle _ h1
    have b := h2 _ hm
    exact Int.le_antisymm b a
def fMaxA : List PV → MH → R PV
  | [v], μ => match (seqR v μ).bind intsOf with
    | some ns => if 0 < ns.length then .ok (.int (maxL ns)) μ else .bad
    | none => .bad
  | _, _ => .bad
/-- max(t), t a tuple of ints -/
theorem max_tup {prog : Program} {w : World} {A : Around} {E : Value → Shared → Prop} {s : Shared} {l : Addr} {its : List Value} {ns : List Int} {Q : Value → Shared → Prop} (calm : A.handled = none) (tup : s.heap.IsTuple l its.toArray) (nums0 : IntsAre its ns) (ne : 0 < ns.length)
    (q : ∀ (h' : Heap) (tk : Nat) (m : Int) (t : Tok), (∀ b o, s.heap.get? b = some o → h'.get? b = some o) → m ∈ ns → (∀ a, a ∈ ns → a ≤ m) → Q (.int m t) { s with heap := h', toks := tk }) : wpAny (model prog w) A (call (.builtin "max") [.ref l]) Q E s := by
  obtain ⟨xs, e⟩ := nums0.allInts.items
  have nums : numsOf (intItems xs).toList = ns := by rw [← e]; exact nums0.numsOf
  rw [nums_intItems] at nums
  subst nums
  rw [e] at tup
  have pos : 0 < xs.size := by simpa using ne
  have lt : l < s.heap.objs.size := by obtain ⟨_, at_, _⟩ := tup; exact Heap.lt_size at_
  apply call_max_walk
  apply wpAny_pyIter_tuple tup
  have W := Walks.tuple (prog := prog) (w := w) (A := A.in1) calm s.heap.objs.size l (Nat.ne_of_lt lt) (intItems xs)
  refine ⟨_, _, _, _, _, _, _, rfl, W, ⟨⟨_, Heap.get?_push_size _ rfl, rfl, rfl⟩, tup.push _⟩, fun b hb => ?_, by simpa [intItems] using pos, CmpOf.ints_gt (numAt xs) (fun _ _ => intItems_at), fun v h' tk hv keep => ?_⟩
  · show b < (s.heap.push _).objs.size
    rw [Heap.size_push]
    rcases List.mem_cons.mp hb with rfl | hb
    · exact Nat.lt_succ_self _
    · rw [List.mem_singleton.mp hb]; exact Nat.lt_succ_of_lt lt
  · obtain ⟨t, rfl⟩ := intItems_at hv
    have size : (intItems xs).size = xs.size := by simp [intItems]
    obtain ⟨h1, h2⟩ := argBest_gt (numAt xs) ((intItems xs).size - 1)
    refine q h' tk _ t (fun b o ho => keep b o (fun m => ?_) (Heap.get?_push_of_some _ ho)) ?_ fun a ha => ?_
    · rw [List.mem_singleton.mp m] at ho
      exact absurd (Heap.lt_size ho) (Nat.lt_irrefl _)
    · rw [numAt_eq]; exact PySem.getD_mem (by rw [List.length_map, Array.length_toList]; omega)
    · obtain ⟨j, hj, rfl⟩ := mem_getD ha
      rw [List.length_map, Array.length_toList] at hj
      rw [← numAt_eq]; exact h2 j (by omega)
theorem cr_maxT (calm : X.calm = true) : CallR X (.builtin "max") (fun vs H Q => ∃ (a : Addr) (ns : List Int), vs = [.ref a] ∧ SqT X.K H a (ns.map V.int) ∧ 0 < ns.length ∧ ∀ m, m ∈ ns → (∀ a, a ∈ ns → a ≤ m) → Q (.int m) H) := by
  intro pins s σ H vs us Q I r h
  obtain ⟨a, ns, rfl, sq, ne, q⟩ := h
  obtain ⟨its, rv, tup, _⟩ := I.tuple sq
  rw [Vals.ref1 r]
  exact max_tup (I.ok.hd calm) tup rv.ints ne fun h' tk m t keep h1 h2 => ⟨.int _, H, I.kept keep, ⟨_, rfl⟩, q m h1 h2⟩
theorem cr_maxA (calm : X.calm = true) : CallR X (.builtin "max") (fun vs H Q => (∃ (a : Addr) (ns : List Int), vs = [.ref a] ∧ SqT X.K H a (ns.map V.int) ∧ 0 < ns.length ∧ ∀ m, m ∈ ns → (∀ a, a ∈ ns → a ≤ m) → Q (.int m) H) ∨ rMax X.K vs H Q) := (cr_maxT calm).or (cr_max calm)
theorem cm_maxA : CallM K XR fMaxA (fun vs H Q => (∃ (a : Addr) (ns : List Int), vs = [.ref a] ∧ SqT K H a (ns.map V.int) ∧ 0 < ns.length ∧ ∀ m, m ∈ ns → (∀ a, a ∈ ns → a ≤ m) → Q (.int m) H) ∨ rMax K vs H Q) := by
  intro av E H β μ v x Q rl pv h
  unfold fMaxA at h
  split at h
  case h_2 => exact h.elim
  rename_i u
  obtain ⟨y, rfl, p⟩ := one_inv pv
  split at h
  case h_2 => exact h.elim
  rename_i ns e
  split at h
  case isFalse => exact h.elim
  rename_i pos
  obtain ⟨xs, e1, e2⟩ := Option.bind_eq_some_iff.mp e
  obtain ⟨a, vs, rfl, sq, q⟩ := seqR_ok rl p e1
  rw [ints_rel q e2] at sq
  have told : ∀ m, m ∈ ns → (∀ a, a ∈ ns → a ≤ m) → Q (.int m) H := fun m h1 h2 => by
    rw [maxL_is h1 h2]
    exact ok_here h rl .int_
  rcases sq with sq | sq
  · exact .inr ⟨a, ns, rfl, sq, pos, told⟩
  · exact .inl ⟨a, ns, rfl, sq, pos, told⟩
/-! ### xs[::-1] of a list -/
def fBackL (v : PV) (μ : MH) : R PV := match lstR v μ with
  | some xs => .ok (.frl xs.reverse) μ
  | none => .bad
theorem PRels.back {G : Gx} {H : Hp} {β : List Addr} : ∀ {xs : List PV} {vs : List V}, PRels G H β xs vs → PRels G H β xs.reverse vs.reverse
  | [], vs, p => by rw [PRels.nil_iff] at p; subst p; exact PRels.nil
  | x :: xs, vs, p => by
    obtain ⟨y, ys, rfl, p1, p2⟩ := p.inv
    rw [List.reverse_cons, List.reverse_cons]
    exact (PRels.back p2).app (.cons p1 .nil)
theorem me_backL {e : Expr} {m : ME} {k : Nat} {p1 p2 p3 pos : Pos} (he : PM X XR E e m) : PM X XR E (.Subscript e (.Slice none none (some (.UnaryOp .USub (.Constant (.int 1) k p1) p2)) p3) pos) (mUn fBackL m) :=
  PE.imp (pe_revL he) fun σ H Q ⟨av, β, s, μ, rl, sr, h⟩ => by
    unfold tRevL
    refine tm_e (m := m) rl sr h fun v μ1 x H1 β1 _ ex1 rl1 sr1 p q => ?_
    unfold fBackL at q
    split at q
    case h_2 => exact q.elim
    rename_i xs e
    obtain ⟨a, vs, rfl, sq, ps⟩ := lstR_ok rl1 p e
    exact ⟨a, vs, rfl, sq, new_frl rl1 ps.back q⟩
end
end Mini

/-! M46: enumerate(xs, k) of a list. -/
namespace Mini
open PySem PySem.Spec PyProof.Rows L2
def mEnumK (k : Nat) (a : ME) : MI := fun s μ => (a s μ).bind fun v μ1 => if isT v then .bad else match planOf v μ1 with
  | some p => .ok ⟨enumVals k p.vals, p.chk⟩ μ1
  | none => .bad
/-- the list at a, each item in a new pair, the numbers from k on -/
def IteK (K : PySem.W.Frag) (a : Addr) (k : Nat) : It where
  go i H := ∃ (xs : List V) (x : V), SqL K H a xs ∧ xs[i]? = some x
  yld i H v H' := ∃ T x, v = .ref T ∧ H T = none ∧ H' = upd H T (.tup [.int ((k + i : Nat) : Int), x]) ∧ ∀ xs, SqL K H a xs → xs[i]? = some x
  stop i H := ∃ xs : List V, SqL K H a xs ∧ xs.length ≤ i
structure AtK (e it a : Addr) (k i : Nat) (h : Heap) : Prop where
  en : ∃ old, IsEnum h e it ((k : Int) + (i : Int)) old
  it_ : h.IsListIter it a i
  ne1 : e ≠ it
  ne2 : a ≠ e
  ne3 : a ≠ it
theorem draws_noneL {P : Program} {w : World} {A : Around} (hd : A.handled = none) {it a : Addr} {i : Nat} {its : Array Value} (out : its.size ≤ i) :
    Draws P w A it [it, a] 0 (fun _ _ => True) (fun _ h => h.IsListIter it a i ∧ h.IsList a its) where
  live _ _ st := st.1.elim fun o h => ⟨o, h.1⟩
  frame _ _ _ st k := ⟨st.1.at (k it (by simp)), st.2.at (k a (by simp))⟩
  item _ _ _ _ no := absurd no (Nat.not_lt_zero _)
  done _ _ _ st := wpAny_nextOf_list_end hd st.1 st.2 (by simp [out])
theorem turn_enumK {P : Program} {w : World} {K : PySem.W.Frag} {elts : List Expr} {kk : Nat} {tpos : Pos} (a e it : Addr) (k : Nat) : Turn P w K (.Tuple elts kk tpos) (IteK K a k) [e, it] e (AtK e it a k) where
  mem := List.mem_cons_self
  obj i h st b hb := by
    obtain ⟨⟨old, he⟩, ⟨o, ho, _, hd⟩, _, _, _⟩ := st
    simp only [List.mem_cons, List.not_mem_nil, or_false] at hb
    cases hb with
    | inl q => subst q; exact ⟨_, he, by simp⟩
    | inr q => subst q; exact ⟨o, ho, by simp [hd]⟩
  keep i h h' st k := { st with en := st.en.imp fun _ he => k e (by simp) _ he, it_ := st.it_.at fun o q => k it (by simp) o q }
  self A i s Q E st h := st.en.elim fun _ he => wpAny_pyIter_enum he h
  item X hP hw hK hc i pins s σ H E I hf st hg := by
    cases hP; cases hw; cases hK
    obtain ⟨xs, x, sq, hx⟩ := hg
    obtain ⟨its, rv, p, _⟩ := I.list sq
    obtain ⟨u, hu, ru⟩ := rv.get hx
    have iu : its.toArray[i]? = some u := by simpa using hu
    have W := WalksT.enumFrom (k : Int) (Draws.list (prog := X.prog) (w := X.w) (A := X.A.in1) (I.ok.hd hc) it a st.ne3 its.toArray) e st.ne1 (by simp [st.ne1, st.ne2.symm]) (by simp)
    apply W.item i s _ _ (Array.getElem?_eq_some_iff.mp iu).1 ⟨st.en, st.it_, p.isList⟩
    rintro T vals h1 tk ⟨t, y, hy, rfl⟩ above isT mid same1
    cases iu.symm.trans hy
    refine ⟨_, rfl, W.go elts kk tpos i T _ _ _ mid fun h2 st2 same2 => ?_⟩
    have same : ∀ b o, b ∉ [e, it] → s.heap.get? b = some o → h2.get? b = some o := fun b o hb q => same2 b o hb (same1 b o hb q)
    have apart : ∀ b ∈ [e, it], b ≠ T := fun b hb q => W.apart i T h1 mid (q ▸ hb)
    have isT2 : h2.IsTuple T #[.int ((k : Int) + (i : Int)) t, u] := isT.at fun o q => same2 T o (fun hb => apart T hb rfl) q
    have num : ((k + i : Nat) : Int) = (k : Int) + (i : Int) := by omega
    refine ⟨.ref T, upd H T (.tup [.int ((k + i : Nat) : Int), x]), I.turnedNew (ch := [e, it]) same hf above ?_, rfl, ⟨T, x, rfl, I.hok.fresh above, rfl, fun ys hy => ?_⟩, ?_, fun b hb => ?_⟩
    · exact ⟨by show 2 ≤ sizeLine; decide, [.int ((k : Int) + (i : Int)) t, u], .cons ⟨t, by rw [num]⟩ (.cons ru .nil), isT2⟩
    · rw [I.list_inj hy sq]; exact hx
    · exact { st with en := st2.1, it_ := st2.2.1 }
    · rw [upd_ne (apart b hb)]; exact (hf b hb).1
  done X hP hw hK hc i pins s σ H E I hf st hg := by
    cases hP; cases hw; cases hK
    obtain ⟨xs, sq, hx⟩ := hg
    obtain ⟨its, rv, p, _⟩ := I.list sq
    obtain ⟨old, he⟩ := st.en
    have ended := draws_noneL (P := X.prog) (w := X.w) (A := X.A.in1) (it := it) (a := a) (i := i) (its := its.toArray) (I.ok.hd hc) (by rw [rv.length] at hx; simpa using hx)
    apply wpAny_pyNext_enum_endD ended he ⟨st.it_, p.isList⟩
    intro h' eb
    have fp := hf it (by simp)
    exact ⟨rfl, I.turned (t' := s.toks) (fun b o hb q => eb b o hb q) fp.1 fp.2.1 fp.2.2.2.1 fp.2.2.2.2.1 fp.2.2.2.2.2⟩
section
variable {X : Cx} {XR : XRel} {E : L2.St → XK}
theorem mi_enumK {a : Expr} {ma : ME} {k : Nat} {j : Nat} {p p2 pos tpos : Pos} {elts : List Expr} {kk : Nat} (small : k ≤ 1000) (hg : Gl X "enumerate") (hm : X.mg "enumerate" = none) (ha : PM X XR E a ma)
    (hs : starEach [a, .Constant (.int (k : Int)) j p2] X.env = (false, eval a X.env) :: starEach [.Constant (.int (k : Int)) j p2] X.env := by rfl) (hs2 : starEach [.Constant (.int (k : Int)) j p2] X.env = (false, eval (.Constant (.int (k : Int)) j p2) X.env) :: starEach [] X.env := by rfl) :
    PIM X XR E (.Tuple elts kk tpos) (.Call (.Name "enumerate" p) [a, .Constant (.int (k : Int)) j p2] [] pos) (mEnumK k ma) := by
  refine ⟨fun pins z σ H R I ⟨av, β, s, μ, rl, sr, h⟩ => ?_⟩
  have h' := ti_e (Q := fun x H1 => ∃ a xs, x = .ref a ∧ SqL X.K H1 a xs ∧ R (IteK X.K a k) H1) rl sr h fun v μ1 x H1 β1 ex rl1 sr1 p q => by
    by_cases t : isT v = true
    · rw [if_pos t] at q; exact q.elim
    rw [if_neg t] at q
    cases e1 : planOf v μ1 with
    | none => rw [e1] at q; exact q.elim
    | some pl =>
      rw [e1] at q
      obtain ⟨a, rfl, ⟨vs0, st⟩, keep⟩ := planOf_lst rl1 p e1 (by simpa using t)
      refine ⟨a, vs0, rfl, st, q _ H1 β1 .refl rl1 fun av' hv H2 β2 μ2 ex2 rl2 ck i => ?_⟩
      obtain ⟨vs, st2, pr2⟩ := keep av' hv H2 β2 μ2 ex2 rl2 ck
      show match (enumVals k pl.vals)[i]? with | some v => _ | none => _
      rw [enum_get]
      cases e2 : pl.vals[i]? with
      | none => exact ⟨vs, st2, by rw [← pr2.length]; exact List.getElem?_eq_none_iff.mp e2⟩
      | some w =>
        obtain ⟨y, e3, p3⟩ := pr2.get e2
        refine ⟨⟨vs, y, st2, e3⟩, fun x' H3 ⟨T, u, ex', hT, eH, f⟩ => ?_⟩
        have f' := f vs st2
        rw [e3] at f'
        cases f'; subst ex'; subst eH
        exact pair_new rl2 hT (.cons .int_ (.cons p3 .nil))
  have args : PA X [a, .Constant (.int (k : Int)) j p2] (tCons (tM X.K XR E ma) (tCons (tC (.int (k : Int))) tNil)) := pa_cons ha (pa_cons (pe_int (X := X) (i := (k : Int)) (j := j) (pos := p2)) pa_nil hs2) hs
  refine Call_ (ld_blt I hg hm boot_enumerate (PyProof.Rows.callWith_type1 (thn (args.run pos pins z σ H (fun vs H1 => ∃ x, vs = [x, .int (k : Int)] ∧ ∃ a xs, x = .ref a ∧ SqL X.K H1 a xs ∧ R (IteK X.K a k) H1) I ?_) fun us z1 ⟨vs, H1, I1, r1, q1⟩ => ?_) hs rfl))
  · obtain ⟨av, β, s, μ, rl, sr, o⟩ := h'
    refine ⟨av, β, s, μ, rl, sr, ?_⟩
    cases e : ma s μ with
    | bad => rw [e] at o; exact o
    | err c p μ' => rw [e] at o; exact o
    | ok v μ' => rw [e] at o; exact fun x H' β' a b c => ⟨x, rfl, o x H' β' a b c⟩
  · obtain ⟨x, rfl, a, xs, rfl, hq, q⟩ := q1
    cases r1 with
    | @cons _ u0 _ ur ra rb =>
      cases rb with
      | @cons _ u1 _ ur2 rc rd =>
        cases rd
        obtain ⟨t, rfl⟩ := rc
        have fp : ∀ b, b ∈ [z1.heap.objs.size + 1, z1.heap.objs.size] → FpOk X pins H1 b := fun b hb => by
          have hb' : b = z1.heap.objs.size + 1 ∨ b = z1.heap.objs.size := by simpa using hb
          have hle : z1.heap.objs.size ≤ b := by rcases hb' with z | z <;> omega
          exact I1.fpOk hle (I1.hok.fresh hle)
        obtain rfl : u0 = Value.ref a := ra
        obtain ⟨its, rv, p', hz⟩ := I1.list hq
        have lt : a < z1.heap.objs.size := by obtain ⟨_, at_, _⟩ := p'.isList; exact Heap.lt_size at_
        refine enum_begins (begins_list a its.toArray) p'.isList (by omega) (by omega) fun h' he hit hsz keep => wpAny_pyIter_enum he ⟨z1.heap.objs.size + 1, [z1.heap.objs.size + 1, z1.heap.objs.size], _, _, H1, rfl, I1.kept (t' := z1.toks) keep, turn_enumK a (z1.heap.objs.size + 1) z1.heap.objs.size k, ⟨⟨.none, ?_⟩, ⟨_, hit, rfl, rfl⟩, Nat.succ_ne_self _, Nat.ne_of_lt (Nat.lt_succ_of_lt lt), Nat.ne_of_lt lt⟩, fp, q⟩
        have : (k : Int) + ((0 : Nat) : Int) = (k : Int) := by omega
        rw [this]
        exact he
end
end Mini

/-! M47: texts cut at a sign and put together. -/
namespace Mini
open PySem PySem.Spec PyProof.Rows L2
theorem txt_join (s : Str) (ys : List Str) : Txt.join s ys = Str.join s ys := StrLaws.glued_eq_join s ys
theorem str_ext {a b : Str} (h : a.cps.toList = b.cps.toList) : a = b := by
  have : a.cps = b.cps := Array.toList_inj.mp h
  cases a
  cases b
  simp only at this
  rw [this]
@[simp] theorem cps_app (a b : Str) : (a ++ b).cps.toList = a.cps.toList ++ b.cps.toList := by
  show (a.cps ++ b.cps).toList = _
  simp
def jn (s : List Nat) : List (List Nat) → List Nat
  | [] => []
  | [x] => x
  | x :: y :: r => x ++ s ++ jn s (y :: r)
theorem join_cps (s : Str) : ∀ ys : List Str, (Str.join s ys).cps.toList = jn s.cps.toList (ys.map fun y => y.cps.toList)
  | [] => rfl
  | [x] => rfl
  | x :: y :: r => by
    show (x ++ s ++ Str.join s (y :: r)).cps.toList = _
    rw [cps_app, cps_app, join_cps s (y :: r)]
    rfl
theorem free_head {c : Nat} : ∀ {a b x y : List Nat}, c ∉ a → c ∉ b → a ++ c :: x = b ++ c :: y → a = b ∧ x = y
  | [], [], x, y, _, _, h => by simpa using h
  | [], b :: bs, x, y, _, h2, h => by
    simp at h
    exact absurd (h.1 ▸ List.mem_cons_self) h2
  | a :: as, [], x, y, h1, _, h => by
    simp at h
    exact absurd (h.1 ▸ List.mem_cons_self) h1
  | a :: as, b :: bs, x, y, h1, h2, h => by
    simp at h
    obtain ⟨e1, e2⟩ := free_head (fun q => h1 (List.mem_cons_of_mem _ q)) (fun q => h2 (List.mem_cons_of_mem _ q)) h.2
    exact ⟨by rw [h.1, e1], e2⟩
theorem jn_inj {c : Nat} : ∀ {xs ys : List (List Nat)}, xs ≠ [] → ys ≠ [] → (∀ x ∈ xs, c ∉ x) → (∀ y ∈ ys, c ∉ y) → jn [c] xs = jn [c] ys → xs = ys
  | [], _, h, _, _, _, _ => absurd rfl h
  | _, [], _, h, _, _, _ => absurd rfl h
  | [x], [y], _, _, _, _, h => by rw [show x = y from h]
  | [x], y :: z :: r, _, _, h1, _, h => by
    have : x = y ++ [c] ++ jn [c] (z :: r) := h
    exact absurd (by rw [this]; simp) (h1 x List.mem_cons_self)
  | x :: z :: r, [y], _, _, _, h2, h => by
    have : x ++ [c] ++ jn [c] (z :: r) = y := h
    exact absurd (by rw [← this]; simp) (h2 y List.mem_cons_self)
  | x :: x2 :: r, y :: y2 :: q, _, _, h1, h2, h => by
    have h' : x ++ c :: jn [c] (x2 :: r) = y ++ c :: jn [c] (y2 :: q) := by
      have : x ++ [c] ++ jn [c] (x2 :: r) = y ++ [c] ++ jn [c] (y2 :: q) := h
      simpa using this
    obtain ⟨e1, e2⟩ := free_head (h1 x List.mem_cons_self) (h2 y List.mem_cons_self) h'
    rw [e1, jn_inj (xs := x2 :: r) (ys := y2 :: q) (by simp) (by simp) (fun z hz => h1 z (List.mem_cons_of_mem _ hz)) (fun z hz => h2 z (List.mem_cons_of_mem _ hz)) e2]
abbrev sg (c : Nat) : Str := ⟨#[c]⟩
theorem split_ne (t y : Str) : Txt.split t y ≠ [] := fun h => by
  have := split_pos t y
  rw [h] at this
  exact absurd this (by decide)
/-- what is put together is cut again -/
theorem split_join {c : Nat} {ys : List Str} (h0 : ys ≠ []) (h : ∀ y ∈ ys, c ∉ y.cps.toList) : Txt.split (Str.join (sg c) ys) (sg c) = ys := by
  have e := StrLaws.join_split (Str.join (sg c) ys) (sg c)
  have e2 := congrArg (fun z => z.cps.toList) e
  simp only [join_cps] at e2
  have inj : ∀ {as bs : List Str}, as.map (fun y => y.cps.toList) = bs.map (fun y => y.cps.toList) → as = bs := fun q => List.map_inj_right (fun a b z => str_ext z) |>.mp q
  apply inj
  refine jn_inj (c := c) (by simpa using split_ne _ _) (by simpa using h0) (fun x hx => ?_) (fun y hy => ?_) e2
  · obtain ⟨p, hp, rfl⟩ := List.mem_map.mp hx
    exact StrLaws.split_free _ _ p hp
  · obtain ⟨p, hp, rfl⟩ := List.mem_map.mp hy
    exact h p hp
theorem jn_mem {s : List Nat} {k : Nat} : ∀ {xs : List (List Nat)}, k ∈ jn s xs → k ∈ s ∨ ∃ x ∈ xs, k ∈ x
  | [], h => by cases h
  | [x], h => .inr ⟨x, List.mem_cons_self, h⟩
  | x :: y :: r, h => by
    have h' : k ∈ x ++ s ++ jn s (y :: r) := h
    rw [List.mem_append, List.mem_append] at h'
    rcases h' with (q | q) | q
    · exact .inr ⟨x, List.mem_cons_self, q⟩
    · exact .inl q
    · rcases jn_mem q with z | ⟨w, hw, z⟩
      · exact .inl z
      · exact .inr ⟨w, List.mem_cons_of_mem _ hw, z⟩
theorem mem_jn {s : List Nat} {k : Nat} : ∀ {xs : List (List Nat)} {x : List Nat}, x ∈ xs → k ∈ x → k ∈ jn s xs
  | [x], y, h, q => by rw [List.mem_singleton.mp h] at q; exact q
  | x :: x2 :: r, y, h, q => by
    show k ∈ x ++ s ++ jn s (x2 :: r)
    rw [List.mem_append, List.mem_append]
    rcases List.mem_cons.mp h with e | h
    · exact .inl (.inl (e ▸ q))
    · exact .inr (mem_jn h q)
/-- all signs below 128 -/
def Ascii (t : Str) : Prop := ∀ k ∈ t.cps.toList, k < 128
theorem Ascii.split {t y p : Str} (h : Ascii t) (hp : p ∈ Txt.split t y) : Ascii p := fun k hk => h k (by
  rw [← StrLaws.join_split t y, join_cps]
  exact mem_jn (List.mem_map.mpr ⟨p, hp, rfl⟩) hk)
theorem Ascii.join {s : Str} {ys : List Str} (hs : Ascii s) (h : ∀ y ∈ ys, Ascii y) : Ascii (Str.join s ys) := fun k hk => by
  rw [join_cps] at hk
  rcases jn_mem hk with q | ⟨x, hx, q⟩
  · exact hs k q
  · obtain ⟨y, hy, rfl⟩ := List.mem_map.mp hx
    exact h y hy k q
theorem Ascii.ok {t : Str} (h : Ascii t) : PyData.strOk t = true := by
  unfold PyData.strOk
  rw [Array.all_eq_true]
  intro i hi
  have := h t.cps[i] (by simp)
  exact decide_eq_true (by omega)
theorem Ascii.okD {t : Str} (h : Ascii t) : okD (.str t) = true := by
  unfold Mini.okD
  rw [List.all_eq_true]
  intro k hk
  have := h k hk
  exact decide_eq_true (by omega)
theorem str_len (t : Str) : t.length = t.cps.toList.length := by simp [Str.length]
/-- the weight of texts -/
def wgt (ys : List Str) : Nat := (ys.map (·.length)).sum + ys.length
theorem wgt_nil : wgt [] = 0 := rfl
theorem wgt_cons (y : Str) (ys : List Str) : wgt (y :: ys) = y.length + 1 + wgt ys := by
  unfold wgt
  rw [List.map_cons, List.sum_cons, List.length_cons]
  omega
theorem wgt_app : ∀ xs ys : List Str, wgt (xs ++ ys) = wgt xs + wgt ys
  | [], ys => by simp [wgt]
  | x :: xs, ys => by rw [List.cons_append, wgt_cons, wgt_cons, wgt_app xs ys]; omega
theorem wgt_rev : ∀ xs : List Str, wgt xs.reverse = wgt xs
  | [] => rfl
  | x :: xs => by rw [List.reverse_cons, wgt_app, wgt_rev xs, wgt_cons, wgt_cons, wgt_nil]; omega
theorem wgt_take (ys : List Str) (n : Nat) : wgt (ys.take n) + wgt (ys.drop n) = wgt ys := by
  rw [← wgt_app, List.take_append_drop]
theorem wgt_mem {y : Str} : ∀ {ys : List Str}, y ∈ ys → y.length + 1 ≤ wgt ys
  | x :: xs, h => by
    rw [wgt_cons]
    rcases List.mem_cons.mp h with e | h
    · rw [e]; omega
    · have := wgt_mem h; omega
theorem wgt_set : ∀ (ys : List Str) (n : Nat) (z : Str), wgt (ys.set n z) ≤ wgt ys + z.length
  | [], n, z => by simp [wgt]
  | x :: xs, 0, z => by rw [List.set_cons_zero, wgt_cons, wgt_cons]; omega
  | x :: xs, n + 1, z => by rw [List.set_cons_succ, wgt_cons, wgt_cons]; have := wgt_set xs n z; omega
theorem jn_len {s : List Nat} : ∀ xs : List (List Nat), (jn s xs).length ≤ (xs.map List.length).sum + xs.length * s.length
  | [] => by simp [jn]
  | [x] => by simp [jn]
  | x :: y :: r => by
    have := jn_len (s := s) (y :: r)
    show (x ++ s ++ jn s (y :: r)).length ≤ _
    rw [List.length_append, List.length_append, List.map_cons, List.sum_cons, List.length_cons, Nat.succ_mul]
    omega
theorem join_len (s : Str) (ys : List Str) : (Str.join s ys).length ≤ (ys.map (·.length)).sum + ys.length * s.length := by
  rw [str_len, join_cps, str_len s]
  have := jn_len (s := s.cps.toList) (ys.map fun y => y.cps.toList)
  rw [List.map_map, List.length_map] at this
  have e : (ys.map (List.length ∘ fun y => y.cps.toList)) = ys.map (·.length) := List.map_congr_left fun y _ => (str_len y).symm
  rw [e] at this
  exact this
theorem join_wgt {c : Nat} (ys : List Str) : (Str.join (sg c) ys).length ≤ wgt ys := by
  have := join_len (sg c) ys
  have e : (sg c).length = 1 := rfl
  rw [e, Nat.mul_one] at this
  exact this
theorem split_wgt (t : Str) (c : Nat) : wgt (Txt.split t (sg c)) ≤ t.length + 1 := split_weight t (sg c) (Nat.le_refl 1)
theorem fJoin_run {c : Nat} {v : PV} {μ : MH} {ys : List Str} (h : txtsOf v μ = some ys) (w : wgt ys ≤ 16777216) : fJoin (.str (sg c)) [v] μ = .ok (.str (Str.join (sg c) ys)) μ := by
  unfold fJoin
  simp only [h]
  rw [if_pos (by show _ + ys.length * 1 ≤ _; rw [Nat.mul_one]; exact w), txt_join]
theorem fJoin0_run {v : PV} {μ : MH} {ys : List Str} (h : txtsOf v μ = some ys) (w : wgt ys ≤ 16777216) : fJoin (.str "") [v] μ = .ok (.str (Str.join "" ys)) μ := by
  unfold fJoin
  simp only [h]
  have e : (("" : Str)).length = 0 := by decide
  rw [if_pos (by rw [e, Nat.mul_zero]; unfold wgt at w; omega), txt_join]
theorem fSplit_run {c : Nat} {t : Str} {μ : MH} (h : t.length ≤ 16000000) : fSplit false (.str t) [.str (sg c)] μ = .ok (.frl ((Txt.split t (sg c)).map .str)) μ := by
  unfold fSplit
  have hz : t.length + 2 ≤ 16777216 := by omega
  simp only
  rw [if_pos ⟨rfl, hz⟩]
  rfl
theorem fSplitP_run {c : Nat} {t : Str} {μ : MH} (h : t.length ≤ 16000000) : fSplit true (.str t) [.str (sg c)] μ = .ok (.ref μ.length) (μ ++ [.lst ((Txt.split t (sg c)).map .str)]) := by
  unfold fSplit
  have hz : t.length + 2 ≤ 16777216 := by omega
  simp only
  rw [if_pos ⟨rfl, hz⟩]
  rfl
theorem txts_frl (ys : List Str) (μ : MH) : txtsOf (.frl (ys.map .str)) μ = some ys := by
  unfold txtsOf
  simp only [seqR, seqT, lstR, lstM, Option.bind, strsOf_map]
theorem txts_ctp (ys : List Str) (μ : MH) : txtsOf (.ctp (ys.map .str)) μ = some ys := by
  unfold txtsOf
  simp only [seqR, seqT, lstR, lstM, Option.bind, strsOf_map]
theorem txts_ref {ys : List Str} {n : Nat} {μ : MH} (h : μ[n]? = some (.lst (ys.map .str))) : txtsOf (.ref n) μ = some ys := by
  unfold txtsOf
  simp only [seqR, seqT, lstR, lstM, h, Option.bind, strsOf_map]
theorem fLen_strA {z : Str} {μ : MH} (h : z.length ≤ 16000000) : fLen [.str z] μ = .ok (.int (z.length : Nat)) μ := by
  unfold fLen lenOf
  simp only [seqT, lstR, lstM]
  rw [if_pos (by rw [sizeLine_n]; omega)]
end Mini

/-! M48: the facts of a class that keeps its line, gathered from the written part. -/
namespace Mini
open PySem PySem.Spec PyProof.Rows L2 HotX L2H
def FactL (P : Program) (K : PySem.W.Frag) (C : Addr) : Prop := ∀ mg : Str → Option Value, mg "super" = none → LineX P K mg C
theorem FactL.of {P : Program} {K : PySem.W.Frag} {C N f cda cc : Addr} {nm q : Str} {bs bm : List Value} {sn : List Str} {sub : List Value} {ab : Bool} {col : Option Bool} {dd : Option Addr} {k0 k1 k2 k3 k5 : Option Value}
    {name qual : Str} {params : Arguments} {scope : Scope} {dV kV doc pm ct oc o2 o3 : Value} {an od d2 d3 : Option Addr} {osl sl2 sl3 : Array (Option Value)} {vs : Array Value} {file : Str} {tf : Tok} {ar : Arg}
    {p1 p2 p3 p4 p5 p6 p7 p8 p9 p10 p11 p12 p13 p14 : Pos} {j1 j2 : Nat} {pre post : Str}
    (lk : K.lookup C = some (excClassObj nm q C N bs bm true sn sub ab col dd k0 k1 k2 k3 k5 "ValueError.__new__"))
    (rv : PySem.HandSPX.refsVE bm = true)
    (sa : PySem.W.findIn K (.ref C) "__setattr__" = some (some (.builtin "object.__setattr__")))
    (ex : PySem.W.subIn K (.ref C) (.type "BaseException") = some true)
    (ty : PySem.W.typeIn K (.ref C) = some (.type "type"))
    (kc : PySem.W.keepIn K (.ref C) = true)
    (no : PySem.W.findIn K (.ref C) "line" = some none)
    (sup : PySem.W.ks_superIn K C C "__init__" = some (some (.builtin "ValueError.__init__")))
    (sb : PySem.W.subIn K (.ref C) (.type "ValueError") = some true)
    (mro : PySem.W.mroIn K C (.ref C) = some true)
    (thr : PySem.W.nsIn K cStatics "thirdparty.any" = some none)
    (top : (P.main.scope.names.lookup ("super" : Str)).isSome = false)
    (fi : PySem.W.findIn K (.ref C) "__init__" = some (some (.ref f)))
    (ft : PySem.W.typeIn K (.ref f) = some (.type "function"))
    (lf : K.lookup f = some ⟨oc, od, .func (PySem.W.ksFn name qual params (lineBody pre post p1 p2 p3 p4 p5 p6 p7 p8 p9 p10 p11 p12 p13 p14 j1 j2) scope dV kV doc pm an (.ref cda) ct cc), osl⟩)
    (ci : PySem.W.codeIn K (.ref cda) qual = true)
    (lc : K.lookup cda = some ⟨o2, d2, .fields vs, sl2⟩)
    (vf : vs[2]? = some (.str file tf)) (pf : ((P.main.file : Str) == file) = true)
    (lcc : K.lookup cc = some ⟨o3, d3, .cell (some (.ref C)), sl3⟩)
    (ha : (params.posonlyargs ++ params.args).head? = some ar) (hs : ar.arg = "self")
    (hn : scope.names = lineNames) (hco : scope.isCoroutine = false) (hgen : scope.isGenerator = false) (hk : scope.kind = .function) (hl : (p3.endLine == p9.line) = true)
    (short : pre.length + post.length ≤ 1000)
    (bd : ∀ us : List Value, us.length = 2 → bindArgs (PySem.W.ksFn name qual params (lineBody pre post p1 p2 p3 p4 p5 p6 p7 p8 p9 p10 p11 p12 p13 p14 j1 j2) scope dV kV doc pm an (.ref cda) ct cc) ⟨us, []⟩ = pure (lineArgs.zip us)) : FactL P K C := fun mg ms =>
  { cls := { own := { cls := ⟨nm, q, N, bs, bm, sn, sub, ab, col, dd, k0, k1, k2, k3, k5, lk, rv⟩, sa := sa, exC := ex, tyC := ty, kC := kc }, no := no, sup := sup, sub := sb, mro := mro, thr := thr, ms := ms, top := top },
    ex := ⟨f, _, pre, post, fi, ft, { ex := ⟨name, qual, params, scope, dV, kV, doc, pm, ct, oc, o2, o3, an, od, d2, d3, cda, cc, osl, sl2, sl3, vs, file, tf, ar, p1, p2, p3, p4, p5, p6, p7, p8, p9, p10, p11, p12, p13, p14, j1, j2, rfl, lf, ci, lc, vf, pf, lcc, ha, hs, hn, hco, hgen, hk, hl⟩ }, short, .all bd⟩ }
theorem FactL.raise {P : Program} {K : PySem.W.Frag} {C : Addr} {c : Str} {mg : Str → Option Value} (F : FactL P K C) (m : mg c = some (.ref C)) (ms : mg "super" = none) : RaiseL P K mg c := ⟨C, m, F mg ms⟩
end Mini

namespace K03
open PySem PySem.Spec PyProof.Rows L2 Mini
def top (i : Nat) : Stmt := PySem.Challenge.pw_tellapart_k03_texts_of_machines.main.body.getD i (.Pass ⟨0, 0, 0, 0⟩)
theorem boot_abs_ : bootBuiltins "abs" = some (.builtin "abs") := by decide +kernel
theorem boot_all_ : bootBuiltins "all" = some (.builtin "all") := by decide +kernel
theorem boot_int_ : bootBuiltins "int" = some (.type "int") := by decide +kernel
theorem boot_len_ : bootBuiltins "len" = some (.builtin "len") := by decide +kernel
theorem boot_list_ : bootBuiltins "list" = some (.type "list") := by decide +kernel
theorem boot_max_ : bootBuiltins "max" = some (.builtin "max") := by decide +kernel
theorem boot_min_ : bootBuiltins "min" = some (.builtin "min") := by decide +kernel
theorem boot_repr_ : bootBuiltins "repr" = some (.builtin "repr") := by decide +kernel
theorem boot_sorted_ : bootBuiltins "sorted" = some (.builtin "sorted") := by decide +kernel
theorem boot_str_ : bootBuiltins "str" = some (.type "str") := by decide +kernel
theorem boot_tuple_ : bootBuiltins "tuple" = some (.type "tuple") := by decide +kernel
structure Txt (mg : Str → Option Value) : Prop where
  abs_ : mg "abs" = none
  all_ : mg "all" = none
  enumerate_ : mg "enumerate" = none
  int_ : mg "int" = none
  len_ : mg "len" = none
  list_ : mg "list" = none
  max_ : mg "max" = none
  min_ : mg "min" = none
  range_ : mg "range" = none
  repr_ : mg "repr" = none
  set_ : mg "set" = none
  sorted_ : mg "sorted" = none
  str_ : mg "str" = none
  tuple_ : mg "tuple" = none
  zip_ : mg "zip" = none
def k_MAX_LETTERS : PV := .int 4
def k_MAX_WORD : PV := .int 6
def k_SIGNS : PV := .str "abcdefghijklmnopqrstuvwxyz"
def k_MAX_STATES : PV := .int 30
variable {P : Program} {w : World} {K : PySem.W.Frag} {mg : Str → Option Value} {base : Heap}
theorem sc_is_word : FnScope ["text", "sign"] ["text"] (defScope (top 8)) := ⟨rfl, rfl, rfl, by decide +kernel, rfl, by decide +kernel, by decide +kernel⟩
def b_is_word : MSt :=
  (sRet (mAnd (mChain fLe fLe (mC (.int 1)) (mCallP fLen (msCons (mVar 0) msNil)) (mC k_MAX_WORD)) (mCallP fAll (msCons (mLc [1] (mChars (mVar 0)) (.nm 1) mbYes (mOp fIn (mVar 1) (mC k_SIGNS))) msNil))))
abbrev raw_is_word : MF := mDef 1 2 (b_is_word)
theorem w_is_word {f : Addr} {fd : FuncData} (hm : mg "is_word" = some (.ref f)) (F : Fun K "is_word" "is_word" (top 8) f fd) (B : Binds K fd ["text"] []) (T : Txt mg) (c_MAX_WORD : GlobV mg "MAX_WORD" k_MAX_WORD) (c_SIGNS : GlobV mg "SIGNS" k_SIGNS) : DefOk P w K mg base "is_word" 2 (spM K (oRL mg) (raw_is_word)) :=
  def_ok hm F sc_is_word B fun cdv A outer s H E hr =>
     (ss_one (sm_ret (me_and (me_chain op_le op_le om_le om_le me_int (me_callB call_len cm_len (by rfl) T.len_ boot_len_ (mas_cons (me_var (i := 0) rfl (.inl rfl)) mas_nil)) (me_globV (by rfl) c_MAX_WORD)) (me_one (me_callB (cr_all rfl) cm_all (by rfl) T.all_ boot_all_ (mas_cons (me_lc (own := [("sign", 1)]) rfl sc_is_word.nd (mi_chars (me_var (i := 0) rfl (.inl rfl))) (blkOk_by (by rfl)) (by decide) (fun _ _ _ _ _ => (mg_nm (i := 1) sc_is_word.nd rfl (.inl rfl) (.inr rfl))) (fun _ _ _ _ _ => mts_nil) (fun _ _ _ _ _ => (me_in hr (me_var (i := 1) rfl (.inl rfl)) (me_globV (by rfl) c_SIGNS)))) mas_nil))))))
theorem sc_check_letters : FnScope ["letters", "letter", "one", "other"] ["letters"] (defScope (top 9)) := ⟨rfl, rfl, rfl, by decide +kernel, rfl, by decide +kernel, by decide +kernel⟩
def b_check_letters (c_is_word : MF) : MSt :=
  (sSeq (sIf (mbOr (mbNot (mbE (mChain fLe fLe (mC (.int 1)) (mCallP fLen (msCons (mVar 0) msNil)) (mC k_MAX_LETTERS)))) (mbNot (mbE (mCallP fAll (msCons (mLc [1] (mOver (mVar 0)) (.nm 1) mbYes (mCallP c_is_word (msCons (mVar 1) msNil))) msNil)))))
  (sRaise "NotAllowed")
  sNil)
  (sIf (mbNot (mbE (mCallP fAll (msCons (mLc [2, 3] (mZip (mVar 0) (mSlC (mVar 0) (some (mC (.int 1))) none)) (.tp [(.nm 2), (.nm 3)]) mbYes (mOp fLt (mVar 2) (mVar 3))) msNil))))
  (sRaise "NotAllowed")
  sNil))
abbrev raw_check_letters (c_is_word : MF) : MF := mDef 1 4 (b_check_letters c_is_word)
theorem w_check_letters {c_is_word : MF} {f : Addr} {fd : FuncData} (hm : mg "check_letters" = some (.ref f)) (F : Fun K "check_letters" "check_letters" (top 9) f fd) (B : Binds K fd ["letters"] []) (T : Txt mg) (D_is_word : DefOk P w K mg base "is_word" 2 (spM K (oRL mg) c_is_word)) (c_MAX_LETTERS : GlobV mg "MAX_LETTERS" k_MAX_LETTERS) (R_NotAllowed : RaiseX K mg "NotAllowed") : DefOk P w K mg base "check_letters" 3 (spM K (oRL mg) (raw_check_letters c_is_word)) :=
  def_ok hm F sc_check_letters B fun cdv A outer s H E hr =>
     (ss_cons (sm_if (mb_w (mw_or (mb_not (mb_chain op_le op_le om_le om_le me_int (me_callB call_len cm_len (by rfl) T.len_ boot_len_ (mas_cons (me_var (i := 0) rfl (.inl rfl)) mas_nil)) (me_globV (by rfl) c_MAX_LETTERS))) (mw_or1 (mb_not (mb_val (me_callB (cr_all rfl) cm_all (by rfl) T.all_ boot_all_ (mas_cons (me_lc (own := [("letter", 1)]) rfl sc_check_letters.nd (mi_over (me_var (i := 0) rfl (.inl rfl))) (blkOk_by (by rfl)) (by decide) (fun _ _ _ _ _ => (mg_nm (i := 1) sc_check_letters.nd rfl (.inl rfl) (.inr rfl))) (fun _ _ _ _ _ => mts_nil) (fun _ _ _ _ _ => (me_call D_is_word hr (by decide) (by rfl) at_blk (mas_cons (me_var (i := 1) rfl (.inl rfl)) mas_nil)))) mas_nil)))))))
      (ss_one (sm_raiseE R_NotAllowed rfl (L2N.takes_of rfl rfl rfl rfl) (by rfl)))
      ss_nil)
      (ss_one (sm_if (mb_not (mb_val (me_callB (cr_all rfl) cm_all (by rfl) T.all_ boot_all_ (mas_cons (me_lc (own := [("one", 2), ("other", 3)]) rfl sc_check_letters.nd (mi_zip (by rfl) T.zip_ (me_var (i := 0) rfl (.inl rfl)) (me_sliceC10 (me_var (i := 0) rfl (.inl rfl)) me_int)) (blkOk_by (by rfl)) (by decide) (fun _ _ _ _ _ => (mg_tp rfl (mgs_cons (mg_nm (i := 2) sc_check_letters.nd rfl (.inl rfl) (.inr rfl)) (mgs_cons (mg_nm (i := 3) sc_check_letters.nd rfl (.inl rfl) (.inr rfl)) mgs_nil)))) (fun _ _ _ _ _ => mts_nil) (fun _ _ _ _ _ => (me_cmp op_ltA om_lt (me_var (i := 2) rfl (.inl rfl)) (me_var (i := 3) rfl (.inl rfl)) (nomark _)))) mas_nil))))
      (ss_one (sm_raiseE R_NotAllowed rfl (L2N.takes_of rfl rfl rfl rfl) (by rfl)))
      ss_nil)))
theorem sc_machine_text : FnScope ["machine", "letters", "moves", "ends", "lines", "row", "end", "state", "line"] ["machine"] (defScope (top 12)) := ⟨rfl, rfl, rfl, by decide +kernel, rfl, by decide +kernel, by decide +kernel⟩
abbrev L1_machine_text : MSt :=
  (sExpr (mMeth isL fAppend (mVar 4) (msCons (mMeth isStr fJoin (mC (.str " ")) (msCons (mCallP fFrl (msCons (mIf (mbE (mOp fEq (mVar 6) (mC (.int 1)))) (mC (.str "+")) (mC (.str "."))) (msStar (mLc [7] (mOver (mVar 5)) (.nm 7) mbYes (mCallP fStr (msCons (mVar 7) msNil))) msNil))) msNil)) msNil)))
def b_machine_text : MSt :=
  (sSeq (sAsg (.tp [(.nm 1), (.nm 2), (.nm 3)]) (mVar 0))
  (sSeq (sAsg (.nm 4) (mCallP fLst (msCons (mMeth isStr fJoin (mC (.str " ")) (msCons (mVar 1) msNil)) msNil)))
  (sSeq (sFor (.tp [(.nm 5), (.nm 6)]) (mZip (mVar 2) (mVar 3)) (L1_machine_text))
  (sRet (mMeth isStr fJoin (mC (.str "")) (msCons (mLc [8] (mOver (mVar 4)) (.nm 8) mbYes (mOp fAddC (mVar 8) (mC (.str "\n")))) msNil))))))
abbrev raw_machine_text : MF := mDef 1 9 (b_machine_text)
theorem w_machine_text {f : Addr} {fd : FuncData} (hm : mg "machine_text" = some (.ref f)) (F : Fun K "machine_text" "machine_text" (top 12) f fd) (B : Binds K fd ["machine"] []) (T : Txt mg) : DefOk P w K mg base "machine_text" 2 (spM K (oRL mg) (raw_machine_text)) :=
  def_ok hm F sc_machine_text B fun cdv A outer s H E hr =>
     (ss_cons (sm_asg (me_var (i := 0) rfl (.inl rfl)) (mg_tp rfl (mgs_cons (mg_nm (i := 1) sc_machine_text.nd rfl (.inl rfl) (.inr rfl)) (mgs_cons (mg_nm (i := 2) sc_machine_text.nd rfl (.inl rfl) (.inr rfl)) (mgs_cons (mg_nm (i := 3) sc_machine_text.nd rfl (.inl rfl) (.inr rfl)) mgs_nil)))))
      (ss_cons (sm_set (i := 4) sc_machine_text.nd rfl (.inl rfl) (me_lst (mas_cons (me_bm om_join isStr_ty (pe_bm PySem.F.plainAttrs_str PySem.F.slot_str_join PySem.F.type_str_join mt_join me_str (mas_cons (me_var (i := 1) rfl (.inl rfl)) mas_nil))) mas_nil)))
      (ss_cons (sm_for own_def rfl (mi_zip (by rfl) T.zip_ (me_var (i := 2) rfl (.inl rfl)) (me_var (i := 3) rfl (.inl rfl))) (mg_tp rfl (mgs_cons (mg_nm (i := 5) sc_machine_text.nd rfl (.inl rfl) (.inr rfl)) (mgs_cons (mg_nm (i := 6) sc_machine_text.nd rfl (.inl rfl) (.inr rfl)) mgs_nil)))
      (ss_one (sm_expr (me_bm om_append isL_ty (pe_bm PySem.F.plainAttrs_list PySem.F.slot_list_append PySem.F.type_list_append mt_append (me_var (i := 4) rfl (.inl rfl)) (mas_cons (me_bm om_join isStr_ty (pe_bm PySem.F.plainAttrs_str PySem.F.slot_str_join PySem.F.type_str_join mt_join me_str (mas_cons (me_frl (mas_cons (me_if (mb_cmp (op_eqA hr) om_eq (me_var (i := 6) rfl (.inl rfl)) me_int (nomark _)) me_str me_str) (mas_star (me_lc (own := [("state", 7)]) rfl sc_machine_text.nd (mi_over (me_var (i := 5) rfl (.inl rfl))) (blkOk_by (by rfl)) (by decide) (fun _ _ _ _ _ => (mg_nm (i := 7) sc_machine_text.nd rfl (.inl rfl) (.inr rfl))) (fun _ _ _ _ _ => mts_nil) (fun _ _ _ _ _ => (me_callTy call_str_int cm_str (by rfl) T.str_ boot_str_ (mas_cons (me_var (i := 7) rfl (.inl rfl)) mas_nil)))) mas_nil))) mas_nil))) mas_nil))))))
      (ss_one (sm_ret (me_bm om_join isStr_ty (pe_bm PySem.F.plainAttrs_str PySem.F.slot_str_join PySem.F.type_str_join mt_join me_str (mas_cons (me_lc (own := [("line", 8)]) rfl sc_machine_text.nd (mi_over (me_var (i := 4) rfl (.inl rfl))) (blkOk_by (by rfl)) (by decide) (fun _ _ _ _ _ => (mg_nm (i := 8) sc_machine_text.nd rfl (.inl rfl) (.inr rfl))) (fun _ _ _ _ _ => mts_nil) (fun _ _ _ _ _ => (me_op op_addC om_addC (me_var (i := 8) rfl (.inl rfl)) me_str))) mas_nil))))))))
theorem sc_read_number : FnScope ["word", "plain", "sign"] ["word"] (defScope (top 13)) := ⟨rfl, rfl, rfl, by decide +kernel, rfl, by decide +kernel, by decide +kernel⟩
def b_read_number : MSt :=
  (sSeq (sAsg (.nm 1) (mAnd (mOp fIn (mCallP fLen (msCons (mVar 0) msNil)) (mCallP fCtp (msCons (mC (.int 1)) (msCons (mC (.int 2)) msNil)))) (mAnd (mCallP fAll (msCons (mLc [2] (mChars (mVar 0)) (.nm 2) mbYes (mOp fIn (mVar 2) (mC (.str "0123456789")))) msNil)) (mOr (mOp fEq (mVar 0) (mC (.str "0"))) (mOp fNe (mOp fIx (mVar 0) (mC (.int 0))) (mC (.str "0")))))))
  (sRet (mIf (mbAnd (mbE (mVar 1)) (mbE (mOp fLt (mCallP fInt (msCons (mVar 0) msNil)) (mC k_MAX_STATES)))) (mCallP fInt (msCons (mVar 0) msNil)) (mC .non))))
abbrev raw_read_number : MF := mDef 1 3 (b_read_number)
theorem w_read_number {f : Addr} {fd : FuncData} (hm : mg "read_number" = some (.ref f)) (F : Fun K "read_number" "read_number" (top 13) f fd) (B : Binds K fd ["word"] []) (T : Txt mg) (c_MAX_STATES : GlobV mg "MAX_STATES" k_MAX_STATES) : DefOk P w K mg base "read_number" 2 (spM K (oRL mg) (raw_read_number)) :=
  def_ok hm F sc_read_number B fun cdv A outer s H E hr =>
     (ss_cons (sm_set (i := 1) sc_read_number.nd rfl (.inl rfl) (me_and (me_in hr (me_callB call_len cm_len (by rfl) T.len_ boot_len_ (mas_cons (me_var (i := 0) rfl (.inl rfl)) mas_nil)) (me_ctp (mas_cons me_int (mas_cons me_int mas_nil)))) (me_and (me_callB (cr_all rfl) cm_all (by rfl) T.all_ boot_all_ (mas_cons (me_lc (own := [("sign", 2)]) rfl sc_read_number.nd (mi_chars (me_var (i := 0) rfl (.inl rfl))) (blkOk_by (by rfl)) (by decide) (fun _ _ _ _ _ => (mg_nm (i := 2) sc_read_number.nd rfl (.inl rfl) (.inr rfl))) (fun _ _ _ _ _ => mts_nil) (fun _ _ _ _ _ => (me_in hr (me_var (i := 2) rfl (.inl rfl)) me_str))) mas_nil)) (me_one (me_or (me_cmp (op_eqA hr) om_eq (me_var (i := 0) rfl (.inl rfl)) me_str (nomark _)) (me_one (me_cmp (op_neA hr) om_ne (me_ix hr (me_var (i := 0) rfl (.inl rfl)) me_int) me_str (nomark _))))))))
      (ss_one (sm_ret (me_if (mb_w (mw_and (mb_val (me_var (i := 1) rfl (.inl rfl))) (mw_and1 (mb_cmp op_ltA om_lt (me_callTy cr_int cm_int (by rfl) T.int_ boot_int_ (mas_cons (me_var (i := 0) rfl (.inl rfl)) mas_nil)) (me_globV (by rfl) c_MAX_STATES) (nomark _))))) (me_callTy cr_int cm_int (by rfl) T.int_ boot_int_ (mas_cons (me_var (i := 0) rfl (.inl rfl)) mas_nil)) me_non))))
theorem sc_read_state : FnScope ["line", "many", "words", "row", "word"] ["line", "many"] (defScope (top 14)) := ⟨rfl, rfl, rfl, by decide +kernel, rfl, by decide +kernel, by decide +kernel⟩
def b_read_state (c_read_number : MF) : MSt :=
  (sSeq (sAsg (.nm 2) (mMeth isStr (fSplit false) (mVar 0) (msCons (mC (.str " ")) msNil)))
  (sSeq (sAsg (.nm 3) (mLc [4] (mOver (mSlC (mVar 2) (some (mC (.int 1))) none)) (.nm 4) mbYes (mCallP c_read_number (msCons (mVar 4) msNil))))
  (sSeq (sIf (mbOr (mbE (mOp fNotIn (mOp fIx (mVar 2) (mC (.int 0))) (mCallP fCtp (msCons (mC (.str "+")) (msCons (mC (.str ".")) msNil))))) (mbOr (mbE (mOp fNe (mCallP fLen (msCons (mVar 3) msNil)) (mVar 1))) (mbE (mOp fIn (mC .non) (mVar 3)))))
  (sRet (mC .non))
  sNil)
  (sRet (mCallP fCtp (msCons (mCallP fInt (msCons (mOp fEq (mOp fIx (mVar 2) (mC (.int 0))) (mC (.str "+"))) msNil)) (msCons (mCallP fTupC (msCons (mVar 3) msNil)) msNil)))))))
abbrev raw_read_state (c_read_number : MF) : MF := mDef 2 5 (b_read_state c_read_number)
theorem w_read_state {c_read_number : MF} {f : Addr} {fd : FuncData} (hm : mg "read_state" = some (.ref f)) (F : Fun K "read_state" "read_state" (top 14) f fd) (B : Binds K fd ["line", "many"] []) (T : Txt mg) (D_read_number : DefOk P w K mg base "read_number" 2 (spM K (oRL mg) c_read_number)) : DefOk P w K mg base "read_state" 3 (spM K (oRL mg) (raw_read_state c_read_number)) :=
  def_ok hm F sc_read_state B fun cdv A outer s H E hr =>
     (ss_cons (sm_set (i := 2) sc_read_state.nd rfl (.inl rfl) (me_bm (om_split (place := false)) isStr_ty (pe_bm PySem.F.plainAttrs_str PySem.F.slot_str_split PySem.F.type_str_split mt_split (me_var (i := 0) rfl (.inl rfl)) (mas_cons me_str mas_nil))))
      (ss_cons (sm_setLc (i := 3) (own := [("word", 4)]) rfl sc_read_state.nd rfl rfl (by rfl) (mi_over (me_sliceC10 (me_var (i := 2) rfl (.inl rfl)) me_int)) (blkOk_by (by rfl)) (by decide) (fun _ _ _ _ _ => (mg_nm (i := 4) sc_read_state.nd rfl (.inl rfl) (.inr rfl))) (fun _ _ _ _ _ => mts_nil) (fun _ _ _ _ _ => (me_call D_read_number hr (by decide) (by rfl) at_blk (mas_cons (me_var (i := 4) rfl (.inl rfl)) mas_nil))))
      (ss_cons (sm_if (mb_w (mw_or (mb_notIn hr (me_ix hr (me_var (i := 2) rfl (.inl rfl)) me_int) (me_ctp (mas_cons me_str (mas_cons me_str mas_nil)))) (mw_or (mb_cmp (op_neA hr) om_ne (me_callB call_len cm_len (by rfl) T.len_ boot_len_ (mas_cons (me_var (i := 3) rfl (.inl rfl)) mas_nil)) (me_var (i := 1) rfl (.inl rfl)) (nomark _)) (mw_or1 (mb_in hr me_non (me_var (i := 3) rfl (.inl rfl)))))))
      (ss_one (sm_ret me_non))
      ss_nil)
      (ss_one (sm_ret (me_ctp (mas_cons (me_callTy cr_int cm_int (by rfl) T.int_ boot_int_ (mas_cons (me_cmp (op_eqA hr) om_eq (me_ix hr (me_var (i := 2) rfl (.inl rfl)) me_int) me_str (nomark _)) mas_nil)) (mas_cons (me_callTy cr_tupC cm_tupC (by rfl) T.tuple_ boot_tuple_ (mas_cons (me_var (i := 3) rfl (.inl rfl)) mas_nil)) mas_nil))))))))
theorem sc_read_letters : FnScope ["line", "letters"] ["line"] (defScope (top 15)) := ⟨rfl, rfl, rfl, by decide +kernel, rfl, by decide +kernel, by decide +kernel⟩
def b_read_letters (c_check_letters : MF) : MSt :=
  (sSeq (sAsg (.nm 1) (mCallP fTupC (msCons (mMeth isStr (fSplit false) (mVar 0) (msCons (mC (.str " ")) msNil)) msNil)))
  (sSeq (sTryNon "NotAllowed"
  (sExpr (mCallP c_check_letters (msCons (mVar 1) msNil))))
  (sRet (mVar 1))))
abbrev raw_read_letters (c_check_letters : MF) : MF := mDef 1 2 (b_read_letters c_check_letters)
theorem w_read_letters {c_check_letters : MF} {f : Addr} {fd : FuncData} (hm : mg "read_letters" = some (.ref f)) (F : Fun K "read_letters" "read_letters" (top 15) f fd) (B : Binds K fd ["line"] []) (T : Txt mg) (D_check_letters : DefOk P w K mg base "check_letters" 3 (spM K (oRL mg) c_check_letters)) (CC_NotAllowed : CatchC K mg "NotAllowed") : DefOk P w K mg base "read_letters" 4 (spM K (oRL mg) (raw_read_letters c_check_letters)) :=
  def_ok hm F sc_read_letters B fun cdv A outer s H E hr =>
     (ss_cons (sm_set (i := 1) sc_read_letters.nd rfl (.inl rfl) (me_callTy cr_tupC cm_tupC (by rfl) T.tuple_ boot_tuple_ (mas_cons (me_bm (om_split (place := false)) isStr_ty (pe_bm PySem.F.plainAttrs_str PySem.F.slot_str_split PySem.F.type_str_split mt_split (me_var (i := 0) rfl (.inl rfl)) (mas_cons me_str mas_nil))) mas_nil)))
      (ss_cons (sm_tryNon CC_NotAllowed rfl rfl (by rfl) fun W pn xe tk pw =>
      (ss_one (sm_expr (me_call D_check_letters hr (by decide) (by rfl) (fun σ => L2N.passAt tk σ) (mas_cons (me_var (i := 1) rfl (.inl rfl)) mas_nil)))))
      (ss_one (sm_ret (me_var (i := 1) rfl (.inl rfl))))))
theorem sc_read_machine : FnScope ["text", "lines", "letters", "states", "number", "line", "_", "row", "end"] ["text"] (defScope (top 16)) := ⟨rfl, rfl, rfl, by decide +kernel, rfl, by decide +kernel, by decide +kernel⟩
abbrev L1_read_machine (c_read_letters : MF) (c_read_state : MF) : MSt :=
  (sSeq (sIf (mbE (mOp fEq (mVar 4) (mC (.int 1))))
  (sAsg (.nm 2) (mCallP c_read_letters (msCons (mVar 5) msNil)))
  (sExpr (mMeth isL fAppend (mVar 3) (msCons (mCallP c_read_state (msCons (mVar 5) (msCons (mCallP fLen (msCons (mVar 2) msNil)) msNil))) msNil))))
  (sIf (mbOr (mbE (mOp fIsN (mVar 2) (mC .non))) (mbOr (mbE (mOp fGt (mCallP fLen (msCons (mVar 3) msNil)) (mC k_MAX_STATES))) (mbE (mOp fIn (mC .non) (mVar 3)))))
  (sRaiseI "BadForm" (mVar 4))
  sNil))
def b_read_machine (c_read_letters : MF) (c_read_state : MF) : MSt :=
  (sSeq (sAsg (.nm 1) (mMeth isStr (fSplit false) (mVar 0) (msCons (mC (.str "\n")) msNil)))
  (sSeq (sAsg (.nm 2) (mC .non))
  (sSeq (sAsg (.nm 3) (mCallP fLst msNil))
  (sSeq (sFor (.tp [(.nm 4), (.nm 5)]) (mEnumK 1 (mSlC (mVar 1) none (some (mUn fNeg (mC (.int 1)))))) (L1_read_machine c_read_letters c_read_state))
  (sSeq (sIf (mbOr (mbE (mOp fNe (mOp fIx (mVar 1) (mUn fNeg (mC (.int 1)))) (mC (.str "")))) (mbOr (mbE (mOp fEq (mCallP fLen (msCons (mVar 3) msNil)) (mC (.int 0)))) (mbE (mOp fGe (mCallP fMaxA (msCons (mLc [6, 7] (mOver (mVar 3)) (.tp [(.nm 6), (.nm 7)]) mbYes (mCallP fMaxA (msCons (mVar 7) msNil))) msNil)) (mCallP fLen (msCons (mVar 3) msNil))))))
  (sRaiseI "BadForm" (mCallP fLen (msCons (mVar 1) msNil)))
  sNil)
  (sRet (mCallP fCtp (msCons (mVar 2) (msCons (mCallP fTupC (msCons (mLc [6, 7] (mOver (mVar 3)) (.tp [(.nm 6), (.nm 7)]) mbYes (mVar 7)) msNil)) (msCons (mCallP fTupC (msCons (mLc [8, 6] (mOver (mVar 3)) (.tp [(.nm 8), (.nm 6)]) mbYes (mVar 8)) msNil)) msNil))))))))))
abbrev raw_read_machine (c_read_letters : MF) (c_read_state : MF) : MF := mDef 1 9 (b_read_machine c_read_letters c_read_state)
theorem w_read_machine {c_read_letters : MF} {c_read_state : MF} {f : Addr} {fd : FuncData} (hm : mg "read_machine" = some (.ref f)) (F : Fun K "read_machine" "read_machine" (top 16) f fd) (B : Binds K fd ["text"] []) (T : Txt mg) (D_read_letters : DefOk P w K mg base "read_letters" 4 (spM K (oRL mg) c_read_letters)) (D_read_state : DefOk P w K mg base "read_state" 3 (spM K (oRL mg) c_read_state)) (c_MAX_STATES : GlobV mg "MAX_STATES" k_MAX_STATES) (R_BadForm : RaiseL P K mg "BadForm") : DefOk P w K mg base "read_machine" 7 (spM K (oRL mg) (raw_read_machine c_read_letters c_read_state)) :=
  def_ok hm F sc_read_machine B fun cdv A outer s H E hr =>
     (ss_cons (sm_set (i := 1) sc_read_machine.nd rfl (.inl rfl) (me_bm (om_split (place := false)) isStr_ty (pe_bm PySem.F.plainAttrs_str PySem.F.slot_str_split PySem.F.type_str_split mt_split (me_var (i := 0) rfl (.inl rfl)) (mas_cons me_str mas_nil))))
      (ss_cons (sm_set (i := 2) sc_read_machine.nd rfl (.inl rfl) me_non)
      (ss_cons (sm_set (i := 3) sc_read_machine.nd rfl (.inl rfl) (me_lst mas_nil))
      (ss_cons (sm_for own_def rfl (mi_enumK (k := 1) (by decide) (by rfl) T.enumerate_ (me_sliceC01 (me_var (i := 1) rfl (.inl rfl)) (me_un un_neg um_neg me_int))) (mg_tp rfl (mgs_cons (mg_nm (i := 4) sc_read_machine.nd rfl (.inl rfl) (.inr rfl)) (mgs_cons (mg_nm (i := 5) sc_read_machine.nd rfl (.inl rfl) (.inr rfl)) mgs_nil)))
      (ss_cons (sm_if (mb_cmp (op_eqA hr) om_eq (me_var (i := 4) rfl (.inl rfl)) me_int (nomark _))
      (ss_one (sm_set (i := 2) sc_read_machine.nd rfl (.inl rfl) (me_call D_read_letters hr (by decide) (by rfl) at_def (mas_cons (me_var (i := 5) rfl (.inl rfl)) mas_nil))))
      (ss_one (sm_expr (me_bm om_append isL_ty (pe_bm PySem.F.plainAttrs_list PySem.F.slot_list_append PySem.F.type_list_append mt_append (me_var (i := 3) rfl (.inl rfl)) (mas_cons (me_call D_read_state hr (by decide) (by rfl) at_def (mas_cons (me_var (i := 5) rfl (.inl rfl)) (mas_cons (me_callB call_len cm_len (by rfl) T.len_ boot_len_ (mas_cons (me_var (i := 2) rfl (.inl rfl)) mas_nil)) mas_nil))) mas_nil))))))
      (ss_one (sm_if (mb_w (mw_or (mb_cmp op_isN om_isN (me_var (i := 2) rfl (.inl rfl)) me_non (nomark _)) (mw_or (mb_cmp op_gt om_gt (me_callB call_len cm_len (by rfl) T.len_ boot_len_ (mas_cons (me_var (i := 3) rfl (.inl rfl)) mas_nil)) (me_globV (by rfl) c_MAX_STATES) (nomark _)) (mw_or1 (mb_in hr me_non (me_var (i := 3) rfl (.inl rfl)))))))
      (ss_one (sm_raiseI R_BadForm rfl (L2N.takes_of rfl rfl rfl rfl) hr (by decide) (by rfl) (me_var (i := 4) rfl (.inl rfl))))
      ss_nil))))
      (ss_cons (sm_if (mb_w (mw_or (mb_cmp (op_neA hr) om_ne (me_ix hr (me_var (i := 1) rfl (.inl rfl)) (me_un un_neg um_neg me_int)) me_str (nomark _)) (mw_or (mb_cmp (op_eqA hr) om_eq (me_callB call_len cm_len (by rfl) T.len_ boot_len_ (mas_cons (me_var (i := 3) rfl (.inl rfl)) mas_nil)) me_int (nomark _)) (mw_or1 (mb_cmp op_ge om_ge (me_callB (cr_maxA rfl) cm_maxA (by rfl) T.max_ boot_max_ (mas_cons (me_lc (own := [("_", 6), ("row", 7)]) rfl sc_read_machine.nd (mi_over (me_var (i := 3) rfl (.inl rfl))) (blkOk_by (by rfl)) (by decide) (fun _ _ _ _ _ => (mg_tp rfl (mgs_cons (mg_nm (i := 6) sc_read_machine.nd rfl (.inl rfl) (.inr rfl)) (mgs_cons (mg_nm (i := 7) sc_read_machine.nd rfl (.inl rfl) (.inr rfl)) mgs_nil)))) (fun _ _ _ _ _ => mts_nil) (fun _ _ _ _ _ => (me_callB (cr_maxA rfl) cm_maxA (by rfl) T.max_ boot_max_ (mas_cons (me_var (i := 7) rfl (.inl rfl)) mas_nil)))) mas_nil)) (me_callB call_len cm_len (by rfl) T.len_ boot_len_ (mas_cons (me_var (i := 3) rfl (.inl rfl)) mas_nil)) (nomark _))))))
      (ss_one (sm_raiseI R_BadForm rfl (L2N.takes_of rfl rfl rfl rfl) hr (by decide) (by rfl) (me_callB call_len cm_len (by rfl) T.len_ boot_len_ (mas_cons (me_var (i := 1) rfl (.inl rfl)) mas_nil))))
      ss_nil)
      (ss_one (sm_ret (me_ctp (mas_cons (me_var (i := 2) rfl (.inl rfl)) (mas_cons (me_callTy cr_tupC cm_tupC (by rfl) T.tuple_ boot_tuple_ (mas_cons (me_lc (own := [("_", 6), ("row", 7)]) rfl sc_read_machine.nd (mi_over (me_var (i := 3) rfl (.inl rfl))) (blkOk_by (by rfl)) (by decide) (fun _ _ _ _ _ => (mg_tp rfl (mgs_cons (mg_nm (i := 6) sc_read_machine.nd rfl (.inl rfl) (.inr rfl)) (mgs_cons (mg_nm (i := 7) sc_read_machine.nd rfl (.inl rfl) (.inr rfl)) mgs_nil)))) (fun _ _ _ _ _ => mts_nil) (fun _ _ _ _ _ => (me_var (i := 7) rfl (.inl rfl)))) mas_nil)) (mas_cons (me_callTy cr_tupC cm_tupC (by rfl) T.tuple_ boot_tuple_ (mas_cons (me_lc (own := [("end", 8), ("_", 6)]) rfl sc_read_machine.nd (mi_over (me_var (i := 3) rfl (.inl rfl))) (blkOk_by (by rfl)) (by decide) (fun _ _ _ _ _ => (mg_tp rfl (mgs_cons (mg_nm (i := 8) sc_read_machine.nd rfl (.inl rfl) (.inr rfl)) (mgs_cons (mg_nm (i := 6) sc_read_machine.nd rfl (.inl rfl) (.inr rfl)) mgs_nil)))) (fun _ _ _ _ _ => mts_nil) (fun _ _ _ _ _ => (me_var (i := 8) rfl (.inl rfl)))) mas_nil)) mas_nil)))))))))))
theorem sc__law_same : FnScope ["told", "due"] ["told", "due"] (defScope (top 18)) := ⟨rfl, rfl, rfl, by decide +kernel, rfl, by decide +kernel, by decide +kernel⟩
def b__law_same : MSt :=
  (sRet (mOp fEq (mCallP fRepr (msCons (mCallP fFrl (msCons (mVar 0) msNil)) msNil)) (mCallP fRepr (msCons (mCallP fFrl (msCons (mVar 1) msNil)) msNil))))
abbrev raw__law_same : MF := mDef 2 2 (b__law_same)
theorem w__law_same {f : Addr} {fd : FuncData} (hm : mg "_law_same" = some (.ref f)) (F : Fun K "_law_same" "_law_same" (top 18) f fd) (B : Binds K fd ["told", "due"] []) (T : Txt mg) : DefOk P w K mg base "_law_same" 2 (spM K (oRL mg) (raw__law_same)) :=
  def_ok hm F sc__law_same B fun cdv A outer s H E hr =>
     (ss_one (sm_ret (me_cmp (op_eqA hr) om_eq (me_callB (cr_repr hr) cm_repr (by rfl) T.repr_ boot_repr_ (mas_cons (me_frl (mas_cons (me_var (i := 0) rfl (.inl rfl)) mas_nil)) mas_nil)) (me_callB (cr_repr hr) cm_repr (by rfl) T.repr_ boot_repr_ (mas_cons (me_frl (mas_cons (me_var (i := 1) rfl (.inl rfl)) mas_nil)) mas_nil)) (nomark _))))
theorem sc__law_stream : FnScope ["script", "numbers", "cell", "rest", "k", "stirred"] ["script"] (defScope (top 19)) := ⟨rfl, rfl, rfl, by decide +kernel, rfl, by decide +kernel, by decide +kernel⟩
abbrev L1__law_stream : MSt :=
  (sSeq (sExpr (mMeth isL fAppend (mVar 1) (msCons (mOp fMod (mCallP fInt (msCons (mVar 3) msNil)) (mC (.int 1009))) msNil)))
  (sSeq (sAsg (.nm 3) (mOp fFdiv (mVar 3) (mC (.int 1009))))
  (sIf (mbE (mOp fEq (mVar 3) (mC (.int 0))))
  sBreak
  sNil)))
abbrev L2__law_stream : MSt :=
  (sSeq (sAsg (.nm 5) (mOp fMod (mCallP fInt (msCons (mOp fAddC (mOp fAddC (mOp fRep (mVar 5) (mC (.int 48271))) (mOp fRep (mC (.int 7)) (mVar 4))) (mC (.int 11))) msNil)) (mC (.int 2147483647))))
  (sExpr (mMeth isL fAppend (mVar 1) (msCons (mOp fMod (mOp fMod (mCallP fInt (msCons (mOp fAddC (mOp fRep (mVar 5) (mC (.int 69621))) (mVar 4)) msNil)) (mC (.int 2147483629))) (mC (.int 1009))) msNil))))
abbrev L3__law_stream : MSt :=
  (sSeq (sAsg (.nm 3) (mCallP fAbs (msCons (mCallP fInt (msCons (mVar 2) msNil)) msNil)))
  (sIf (mbE (mOp fGe (mVar 3) (mOp fPow (mC (.int 10)) (mC (.int 18)))))
  (sFor (.nm 4) (mRange1 (mC (.int 60))) (L1__law_stream))
  (sSeq (sAsg (.nm 5) (mOp fMod (mCallP fInt (msCons (mVar 3) msNil)) (mC (.int 2147483647))))
  (sFor (.nm 4) (mRange1 (mC (.int 10))) (L2__law_stream)))))
def b__law_stream : MSt :=
  (sSeq (sAsg (.nm 1) (mCallP fLst msNil))
  (sSeq (sFor (.nm 2) (mOver (mSlC (mVar 0) none (some (mC (.int 63))))) (L3__law_stream))
  (sSeq (sIf (mbE (mOp fEq (mCallP fLen (msCons (mVar 1) msNil)) (mC (.int 0))))
  (sExpr (mMeth isL fAppend (mVar 1) (msCons (mC (.int 0)) msNil)))
  sNil)
  (sRet (mVar 1)))))
abbrev raw__law_stream : MF := mDef 1 6 (b__law_stream)
theorem w__law_stream {f : Addr} {fd : FuncData} (hm : mg "_law_stream" = some (.ref f)) (F : Fun K "_law_stream" "_law_stream" (top 19) f fd) (B : Binds K fd ["script"] []) (T : Txt mg) : DefOk P w K mg base "_law_stream" 2 (spM K (oRL mg) (raw__law_stream)) :=
  def_ok hm F sc__law_stream B fun cdv A outer s H E hr =>
     (ss_cons (sm_set (i := 1) sc__law_stream.nd rfl (.inl rfl) (me_lst mas_nil))
      (ss_cons (sm_for own_def rfl (mi_over (me_sliceC01 (me_var (i := 0) rfl (.inl rfl)) me_int)) (mg_nm (i := 2) sc__law_stream.nd rfl (.inl rfl) (.inr rfl))
      (ss_cons (sm_set (i := 3) sc__law_stream.nd rfl (.inl rfl) (me_callB call_abs cm_abs (by rfl) T.abs_ boot_abs_ (mas_cons (me_callTy cr_int cm_int (by rfl) T.int_ boot_int_ (mas_cons (me_var (i := 2) rfl (.inl rfl)) mas_nil)) mas_nil)))
      (ss_one (sm_if (mb_cmp op_ge om_ge (me_var (i := 3) rfl (.inl rfl)) (me_op op_pow om_pow me_int me_int) (nomark _))
      (ss_one (sm_for own_def rfl (mi_range1 (by rfl) T.range_ me_int) (mg_nm (i := 4) sc__law_stream.nd rfl (.inl rfl) (.inr rfl))
      (ss_cons (sm_expr (me_bm om_append isL_ty (pe_bm PySem.F.plainAttrs_list PySem.F.slot_list_append PySem.F.type_list_append mt_append (me_var (i := 1) rfl (.inl rfl)) (mas_cons (me_op op_modN om_mod (me_callTy cr_int cm_int (by rfl) T.int_ boot_int_ (mas_cons (me_var (i := 3) rfl (.inl rfl)) mas_nil)) me_int) mas_nil))))
      (ss_cons (sm_set (i := 3) sc__law_stream.nd rfl (.inl rfl) (me_op op_fdivW om_fdiv (me_var (i := 3) rfl (.inl rfl)) me_int))
      (ss_one (sm_if (mb_cmp (op_eqA hr) om_eq (me_var (i := 3) rfl (.inl rfl)) me_int (nomark _))
      (ss_one sm_break)
      ss_nil))))))
      (ss_cons (sm_set (i := 5) sc__law_stream.nd rfl (.inl rfl) (me_op op_modN om_mod (me_callTy cr_int cm_int (by rfl) T.int_ boot_int_ (mas_cons (me_var (i := 3) rfl (.inl rfl)) mas_nil)) me_int))
      (ss_one (sm_for own_def rfl (mi_range1 (by rfl) T.range_ me_int) (mg_nm (i := 4) sc__law_stream.nd rfl (.inl rfl) (.inr rfl))
      (ss_cons (sm_set (i := 5) sc__law_stream.nd rfl (.inl rfl) (me_op op_modN om_mod (me_callTy cr_int cm_int (by rfl) T.int_ boot_int_ (mas_cons (me_op op_addC om_addC (me_op op_addC om_addC (me_op op_repA om_rep (me_var (i := 5) rfl (.inl rfl)) me_int) (me_op op_repA om_rep me_int (me_var (i := 4) rfl (.inl rfl)))) me_int) mas_nil)) me_int))
      (ss_one (sm_expr (me_bm om_append isL_ty (pe_bm PySem.F.plainAttrs_list PySem.F.slot_list_append PySem.F.type_list_append mt_append (me_var (i := 1) rfl (.inl rfl)) (mas_cons (me_op op_modN om_mod (me_op op_modN om_mod (me_callTy cr_int cm_int (by rfl) T.int_ boot_int_ (mas_cons (me_op op_addC om_addC (me_op op_repA om_rep (me_var (i := 5) rfl (.inl rfl)) me_int) (me_var (i := 4) rfl (.inl rfl))) mas_nil)) me_int) me_int) mas_nil)))))))))))))
      (ss_cons (sm_if (mb_cmp (op_eqA hr) om_eq (me_callB call_len cm_len (by rfl) T.len_ boot_len_ (mas_cons (me_var (i := 1) rfl (.inl rfl)) mas_nil)) me_int (nomark _))
      (ss_one (sm_expr (me_bm om_append isL_ty (pe_bm PySem.F.plainAttrs_list PySem.F.slot_list_append PySem.F.type_list_append mt_append (me_var (i := 1) rfl (.inl rfl)) (mas_cons me_int mas_nil)))))
      ss_nil)
      (ss_one (sm_ret (me_var (i := 1) rfl (.inl rfl)))))))
theorem sc__law_next : FnScope ["state", "many", "turn"] ["state", "many"] (defScope (top 20)) := ⟨rfl, rfl, rfl, by decide +kernel, rfl, by decide +kernel, by decide +kernel⟩
def b__law_next : MSt :=
  (sSeq (sSub (mVar 0) (mC (.int 1)) (mOp fAddC (mOp fIx (mVar 0) (mC (.int 1))) (mC (.int 1))) fStore)
  (sSeq (sAsg (.nm 2) (mOp fFdiv (mOp fIx (mVar 0) (mC (.int 1))) (mCallP fLen (msCons (mOp fIx (mVar 0) (mC (.int 0))) msNil))))
  (sRet (mOp fMod (mCallP fInt (msCons (mOp fAddC (mOp fAddC (mOp fIx (mOp fIx (mVar 0) (mC (.int 0))) (mOp fMod (mOp fIx (mVar 0) (mC (.int 1))) (mCallP fLen (msCons (mOp fIx (mVar 0) (mC (.int 0))) msNil)))) (mOp fRep (mVar 2) (mC (.int 389)))) (mOp fRep (mOp fRep (mOp fIx (mVar 0) (mC (.int 1))) (mVar 2)) (mC (.int 17)))) msNil)) (mVar 1)))))
abbrev raw__law_next : MF := mDef 2 3 (b__law_next)
theorem w__law_next {f : Addr} {fd : FuncData} (hm : mg "_law_next" = some (.ref f)) (F : Fun K "_law_next" "_law_next" (top 20) f fd) (B : Binds K fd ["state", "many"] []) (T : Txt mg) : DefOk P w K mg base "_law_next" 2 (spM K (oRL mg) (raw__law_next)) :=
  def_ok hm F sc__law_next B fun cdv A outer s H E hr =>
     (ss_cons (sm_sub (me_op op_addC om_addC (me_ix hr (me_var (i := 0) rfl (.inl rfl)) me_int) me_int) (pg_sub (me_var (i := 0) rfl (.inl rfl)) me_int (set_all hr)) sx_store)
      (ss_cons (sm_set (i := 2) sc__law_next.nd rfl (.inl rfl) (me_op op_fdivW om_fdiv (me_ix hr (me_var (i := 0) rfl (.inl rfl)) me_int) (me_callB call_len cm_len (by rfl) T.len_ boot_len_ (mas_cons (me_ix hr (me_var (i := 0) rfl (.inl rfl)) me_int) mas_nil))))
      (ss_one (sm_ret (me_op op_modN om_mod (me_callTy cr_int cm_int (by rfl) T.int_ boot_int_ (mas_cons (me_op op_addC om_addC (me_op op_addC om_addC (me_ix hr (me_ix hr (me_var (i := 0) rfl (.inl rfl)) me_int) (me_op op_modN om_mod (me_ix hr (me_var (i := 0) rfl (.inl rfl)) me_int) (me_callB call_len cm_len (by rfl) T.len_ boot_len_ (mas_cons (me_ix hr (me_var (i := 0) rfl (.inl rfl)) me_int) mas_nil)))) (me_op op_repA om_rep (me_var (i := 2) rfl (.inl rfl)) me_int)) (me_op op_repA om_rep (me_op op_repA om_rep (me_ix hr (me_var (i := 0) rfl (.inl rfl)) me_int) (me_var (i := 2) rfl (.inl rfl))) me_int)) mas_nil)) (me_var (i := 1) rfl (.inl rfl)))))))
theorem sc__law_letters : FnScope ["state"] ["state"] (defScope (top 21)) := ⟨rfl, rfl, rfl, by decide +kernel, rfl, by decide +kernel, by decide +kernel⟩
def b__law_letters (c__law_next : MF) : MSt :=
  (sRet (mOp fIx (mCallP fFrl (msCons (mCallP fCtp (msCons (mC (.str "a")) (msCons (mC (.str "b")) msNil))) (msCons (mCallP fCtp (msCons (mC (.str "a")) msNil)) (msCons (mCallP fCtp (msCons (mC (.str "in")) (msCons (mC (.str "out")) msNil))) (msCons (mCallP fCtp (msCons (mC (.str "a")) (msCons (mC (.str "b")) (msCons (mC (.str "c")) msNil)))) (msCons (mCallP fCtp (msCons (mC (.str "a")) (msCons (mC (.str "b")) msNil))) (msCons (mCallP fCtp (msCons (mC (.str "go")) (msCons (mC (.str "halt")) (msCons (mC (.str "no")) (msCons (mC (.str "yes")) msNil))))) msNil))))))) (mCallP c__law_next (msCons (mVar 0) (msCons (mC (.int 6)) msNil)))))
abbrev raw__law_letters (c__law_next : MF) : MF := mDef 1 1 (b__law_letters c__law_next)
theorem w__law_letters {c__law_next : MF} {f : Addr} {fd : FuncData} (hm : mg "_law_letters" = some (.ref f)) (F : Fun K "_law_letters" "_law_letters" (top 21) f fd) (B : Binds K fd ["state"] []) (T : Txt mg) (D__law_next : DefOk P w K mg base "_law_next" 2 (spM K (oRL mg) c__law_next)) : DefOk P w K mg base "_law_letters" 3 (spM K (oRL mg) (raw__law_letters c__law_next)) :=
  def_ok hm F sc__law_letters B fun cdv A outer s H E hr =>
     (ss_one (sm_ret (me_ix hr (me_frl (mas_cons (me_ctp (mas_cons me_str (mas_cons me_str mas_nil))) (mas_cons (me_ctp (mas_cons me_str mas_nil)) (mas_cons (me_ctp (mas_cons me_str (mas_cons me_str mas_nil))) (mas_cons (me_ctp (mas_cons me_str (mas_cons me_str (mas_cons me_str mas_nil)))) (mas_cons (me_ctp (mas_cons me_str (mas_cons me_str mas_nil))) (mas_cons (me_ctp (mas_cons me_str (mas_cons me_str (mas_cons me_str (mas_cons me_str mas_nil))))) mas_nil))))))) (me_call D__law_next hr (by decide) (by rfl) at_def (mas_cons (me_var (i := 0) rfl (.inl rfl)) (mas_cons me_int mas_nil))))))
theorem sc__law_machine : FnScope ["state", "letters", "most", "many", "way", "rows", "k", "row", "j", "near", "ends"] ["state", "letters", "most"] (defScope (top 22)) := ⟨rfl, rfl, rfl, by decide +kernel, rfl, by decide +kernel, by decide +kernel⟩
abbrev L1__law_machine (c__law_next : MF) : MSt :=
  (sSeq (sAsg (.nm 9) (mCallP fFrl (msCons (mCallP fMin2 (msCons (mOp fAddC (mVar 6) (mC (.int 1))) (msCons (mOp fSub (mVar 3) (mC (.int 1))) msNil))) (msCons (mVar 6) (msCons (mOp fSub (mVar 3) (mC (.int 1))) (msCons (mCallP c__law_next (msCons (mVar 0) (msCons (mVar 3) msNil))) msNil))))))
  (sExpr (mMeth isL fAppend (mVar 7) (msCons (mOp fIx (mCallP fFrl (msCons (mCallP c__law_next (msCons (mVar 0) (msCons (mVar 3) msNil))) (msCons (mOp fIx (mVar 9) (mCallP c__law_next (msCons (mVar 0) (msCons (mC (.int 4)) msNil)))) msNil))) (mCallP fInt (msCons (mOp fGt (mVar 4) (mC (.int 1))) msNil))) msNil))))
abbrev L2__law_machine (c__law_next : MF) : MSt :=
  (sSeq (sAsg (.nm 7) (mCallP fLst msNil))
  (sSeq (sFor (.nm 8) (mRange1 (mCallP fLen (msCons (mVar 1) msNil))) (L1__law_machine c__law_next))
  (sExpr (mMeth isL fAppend (mVar 5) (msCons (mCallP fTupC (msCons (mVar 7) msNil)) msNil)))))
def b__law_machine (c__law_next : MF) : MSt :=
  (sSeq (sAsg (.nm 3) (mOp fAddC (mC (.int 1)) (mCallP c__law_next (msCons (mVar 0) (msCons (mVar 2) msNil)))))
  (sSeq (sAsg (.nm 4) (mCallP c__law_next (msCons (mVar 0) (msCons (mC (.int 4)) msNil))))
  (sSeq (sAsg (.nm 5) (mCallP fLst msNil))
  (sSeq (sFor (.nm 6) (mRange1 (mVar 3)) (L2__law_machine c__law_next))
  (sSeq (sAsg (.nm 10) (mLcL [6] (mRange1 (mVar 3)) (.nm 6) mbYes (mCallP fInt (msCons (mOp fEq (mCallP c__law_next (msCons (mVar 0) (msCons (mC (.int 3)) msNil))) (mC (.int 0))) msNil))))
  (sSeq (sIf (mbE (mOp fEq (mVar 4) (mC (.int 3))))
  (sSub (mVar 10) (mOp fSub (mVar 3) (mC (.int 1))) (mC (.int 0)) fStore)
  sNil)
  (sRet (mCallP fCtp (msCons (mVar 1) (msCons (mCallP fTupC (msCons (mVar 5) msNil)) (msCons (mCallP fTupC (msCons (mVar 10) msNil)) msNil)))))))))))
abbrev raw__law_machine (c__law_next : MF) : MF := mDef 3 11 (b__law_machine c__law_next)
theorem w__law_machine {c__law_next : MF} {f : Addr} {fd : FuncData} (hm : mg "_law_machine" = some (.ref f)) (F : Fun K "_law_machine" "_law_machine" (top 22) f fd) (B : Binds K fd ["state", "letters", "most"] []) (T : Txt mg) (D__law_next : DefOk P w K mg base "_law_next" 2 (spM K (oRL mg) c__law_next)) : DefOk P w K mg base "_law_machine" 3 (spM K (oRL mg) (raw__law_machine c__law_next)) :=
  def_ok hm F sc__law_machine B fun cdv A outer s H E hr =>
     (ss_cons (sm_set (i := 3) sc__law_machine.nd rfl (.inl rfl) (me_op op_addC om_addC me_int (me_call D__law_next hr (by decide) (by rfl) at_def (mas_cons (me_var (i := 0) rfl (.inr (.inl rfl))) (mas_cons (me_var (i := 2) rfl (.inl rfl)) mas_nil)))))
      (ss_cons (sm_set (i := 4) sc__law_machine.nd rfl (.inl rfl) (me_call D__law_next hr (by decide) (by rfl) at_def (mas_cons (me_var (i := 0) rfl (.inr (.inl rfl))) (mas_cons me_int mas_nil))))
      (ss_cons (sm_set (i := 5) sc__law_machine.nd rfl (.inl rfl) (me_lst mas_nil))
      (ss_cons (sm_for own_def rfl (mi_range1 (by rfl) T.range_ (me_var (i := 3) rfl (.inl rfl))) (mg_nm (i := 6) sc__law_machine.nd rfl (.inl rfl) (.inr rfl))
      (ss_cons (sm_set (i := 7) sc__law_machine.nd rfl (.inl rfl) (me_lst mas_nil))
      (ss_cons (sm_for own_def rfl (mi_range1 (by rfl) T.range_ (me_callB call_len cm_len (by rfl) T.len_ boot_len_ (mas_cons (me_var (i := 1) rfl (.inl rfl)) mas_nil))) (mg_nm (i := 8) sc__law_machine.nd rfl (.inl rfl) (.inr rfl))
      (ss_cons (sm_set (i := 9) sc__law_machine.nd rfl (.inl rfl) (me_frl (mas_cons (me_callB (call_min2 rfl) cm_min2 (by rfl) T.min_ boot_min_ (mas_cons (me_op op_addC om_addC (me_var (i := 6) rfl (.inl rfl)) me_int) (mas_cons (me_op op_sub om_sub (me_var (i := 3) rfl (.inl rfl)) me_int) mas_nil))) (mas_cons (me_var (i := 6) rfl (.inl rfl)) (mas_cons (me_op op_sub om_sub (me_var (i := 3) rfl (.inl rfl)) me_int) (mas_cons (me_call D__law_next hr (by decide) (by rfl) at_def (mas_cons (me_var (i := 0) rfl (.inr (.inl rfl))) (mas_cons (me_var (i := 3) rfl (.inl rfl)) mas_nil))) mas_nil))))))
      (ss_one (sm_expr (me_bm om_append isL_ty (pe_bm PySem.F.plainAttrs_list PySem.F.slot_list_append PySem.F.type_list_append mt_append (me_var (i := 7) rfl (.inl rfl)) (mas_cons (me_ix hr (me_frl (mas_cons (me_call D__law_next hr (by decide) (by rfl) at_def (mas_cons (me_var (i := 0) rfl (.inr (.inl rfl))) (mas_cons (me_var (i := 3) rfl (.inl rfl)) mas_nil))) (mas_cons (me_ix hr (me_var (i := 9) rfl (.inl rfl)) (me_call D__law_next hr (by decide) (by rfl) at_def (mas_cons (me_var (i := 0) rfl (.inr (.inl rfl))) (mas_cons me_int mas_nil)))) mas_nil))) (me_callTy cr_int cm_int (by rfl) T.int_ boot_int_ (mas_cons (me_cmp op_gt om_gt (me_var (i := 4) rfl (.inl rfl)) me_int (nomark _)) mas_nil))) mas_nil)))))))
      (ss_one (sm_expr (me_bm om_append isL_ty (pe_bm PySem.F.plainAttrs_list PySem.F.slot_list_append PySem.F.type_list_append mt_append (me_var (i := 5) rfl (.inl rfl)) (mas_cons (me_callTy cr_tupC cm_tupC (by rfl) T.tuple_ boot_tuple_ (mas_cons (me_var (i := 7) rfl (.inl rfl)) mas_nil)) mas_nil))))))))
      (ss_cons (sm_setLcL (i := 10) (own := [("k", 6)]) rfl sc__law_machine.nd rfl rfl (by rfl) (mi_range1 (by rfl) T.range_ (me_var (i := 3) rfl (.inl rfl))) (blkOk_by (by rfl)) (by decide) (fun _ _ _ _ _ => (mg_nm (i := 6) sc__law_machine.nd rfl (.inl rfl) (.inr rfl))) (fun _ _ _ _ _ => mts_nil) (fun _ _ _ _ _ => (me_callTy cr_int cm_int (by rfl) T.int_ boot_int_ (mas_cons (me_cmp (op_eqA hr) om_eq (me_call D__law_next hr (by decide) (by rfl) at_blk (mas_cons (me_var (i := 0) rfl (.inr (.inl rfl))) (mas_cons me_int mas_nil))) me_int (nomark _)) mas_nil))))
      (ss_cons (sm_if (mb_cmp (op_eqA hr) om_eq (me_var (i := 4) rfl (.inl rfl)) me_int (nomark _))
      (ss_one (sm_sub me_int (pg_sub (me_var (i := 10) rfl (.inl rfl)) (me_op op_sub om_sub (me_var (i := 3) rfl (.inl rfl)) me_int) (set_all hr)) sx_store))
      ss_nil)
      (ss_one (sm_ret (me_ctp (mas_cons (me_var (i := 1) rfl (.inl rfl)) (mas_cons (me_callTy cr_tupC cm_tupC (by rfl) T.tuple_ boot_tuple_ (mas_cons (me_var (i := 5) rfl (.inl rfl)) mas_nil)) (mas_cons (me_callTy cr_tupC cm_tupC (by rfl) T.tuple_ boot_tuple_ (mas_cons (me_var (i := 10) rfl (.inl rfl)) mas_nil)) mas_nil))))))))))))
theorem sc__law_text : FnScope ["machine", "lines", "k", "after", "line"] ["machine"] (defScope (top 23)) := ⟨rfl, rfl, rfl, by decide +kernel, rfl, by decide +kernel, by decide +kernel⟩
abbrev L1__law_text : MSt :=
  (sExpr (mMeth isL fAppend (mVar 1) (msCons (mMeth isStr fJoin (mC (.str " ")) (msCons (mOp fAddC (mCallP fFrl (msCons (mOp fIx (mC (.str ".+")) (mOp fIx (mOp fIx (mVar 0) (mC (.int 2))) (mVar 2))) msNil)) (mLc [3] (mOver (mOp fIx (mOp fIx (mVar 0) (mC (.int 1))) (mVar 2))) (.nm 3) mbYes (mCallP fStr (msCons (mVar 3) msNil)))) msNil)) msNil)))
def b__law_text : MSt :=
  (sSeq (sAsg (.nm 1) (mCallP fLst (msCons (mMeth isStr fJoin (mC (.str " ")) (msCons (mOp fIx (mVar 0) (mC (.int 0))) msNil)) msNil)))
  (sSeq (sFor (.nm 2) (mRange1 (mCallP fLen (msCons (mOp fIx (mVar 0) (mC (.int 1))) msNil))) (L1__law_text))
  (sRet (mMeth isStr fJoin (mC (.str "")) (msCons (mLc [4] (mOver (mVar 1)) (.nm 4) mbYes (mOp fAddC (mVar 4) (mC (.str "\n")))) msNil)))))
abbrev raw__law_text : MF := mDef 1 5 (b__law_text)
theorem w__law_text {f : Addr} {fd : FuncData} (hm : mg "_law_text" = some (.ref f)) (F : Fun K "_law_text" "_law_text" (top 23) f fd) (B : Binds K fd ["machine"] []) (T : Txt mg) : DefOk P w K mg base "_law_text" 2 (spM K (oRL mg) (raw__law_text)) :=
  def_ok hm F sc__law_text B fun cdv A outer s H E hr =>
     (ss_cons (sm_set (i := 1) sc__law_text.nd rfl (.inl rfl) (me_lst (mas_cons (me_bm om_join isStr_ty (pe_bm PySem.F.plainAttrs_str PySem.F.slot_str_join PySem.F.type_str_join mt_join me_str (mas_cons (me_ix hr (me_var (i := 0) rfl (.inl rfl)) me_int) mas_nil))) mas_nil)))
      (ss_cons (sm_for own_def rfl (mi_range1 (by rfl) T.range_ (me_callB call_len cm_len (by rfl) T.len_ boot_len_ (mas_cons (me_ix hr (me_var (i := 0) rfl (.inl rfl)) me_int) mas_nil))) (mg_nm (i := 2) sc__law_text.nd rfl (.inl rfl) (.inr rfl))
      (ss_one (sm_expr (me_bm om_append isL_ty (pe_bm PySem.F.plainAttrs_list PySem.F.slot_list_append PySem.F.type_list_append mt_append (me_var (i := 1) rfl (.inl rfl)) (mas_cons (me_bm om_join isStr_ty (pe_bm PySem.F.plainAttrs_str PySem.F.slot_str_join PySem.F.type_str_join mt_join me_str (mas_cons (me_op op_addC om_addC (me_frl (mas_cons (me_ix hr me_str (me_ix hr (me_ix hr (me_var (i := 0) rfl (.inl rfl)) me_int) (me_var (i := 2) rfl (.inl rfl)))) mas_nil)) (me_lc (own := [("after", 3)]) rfl sc__law_text.nd (mi_over (me_ix hr (me_ix hr (me_var (i := 0) rfl (.inl rfl)) me_int) (me_var (i := 2) rfl (.inl rfl)))) (blkOk_by (by rfl)) (by decide) (fun _ _ _ _ _ => (mg_nm (i := 3) sc__law_text.nd rfl (.inl rfl) (.inr rfl))) (fun _ _ _ _ _ => mts_nil) (fun _ _ _ _ _ => (me_callTy call_str_int cm_str (by rfl) T.str_ boot_str_ (mas_cons (me_var (i := 3) rfl (.inl rfl)) mas_nil))))) mas_nil))) mas_nil))))))
      (ss_one (sm_ret (me_bm om_join isStr_ty (pe_bm PySem.F.plainAttrs_str PySem.F.slot_str_join PySem.F.type_str_join mt_join me_str (mas_cons (me_lc (own := [("line", 4)]) rfl sc__law_text.nd (mi_over (me_var (i := 1) rfl (.inl rfl))) (blkOk_by (by rfl)) (by decide) (fun _ _ _ _ _ => (mg_nm (i := 4) sc__law_text.nd rfl (.inl rfl) (.inr rfl))) (fun _ _ _ _ _ => mts_nil) (fun _ _ _ _ _ => (me_op op_addC om_addC (me_var (i := 4) rfl (.inl rfl)) me_str))) mas_nil)))))))
theorem sc__law_told : FnScope ["text", "e"] ["text"] (defScope (top 24)) := ⟨rfl, rfl, rfl, by decide +kernel, rfl, by decide +kernel, by decide +kernel⟩
def b__law_told (c_read_machine : MF) : MSt :=
  (sToldI 1 "BadForm" "form"
  (sRet (mCallP fCtp (msCons (mC (.str "read")) (msCons (mCallP c_read_machine (msCons (mVar 0) msNil)) msNil)))))
abbrev raw__law_told (c_read_machine : MF) : MF := mDef 1 2 (b__law_told c_read_machine)
theorem w__law_told {c_read_machine : MF} {f : Addr} {fd : FuncData} (hm : mg "_law_told" = some (.ref f)) (F : Fun K "_law_told" "_law_told" (top 24) f fd) (B : Binds K fd ["text"] []) (T : Txt mg) (D_read_machine : DefOk P w K mg base "read_machine" 7 (spM K (oRL mg) c_read_machine)) (CL_BadForm : CatchL K mg "BadForm") : DefOk P w K mg base "_law_told" 8 (spM K (oRL mg) (raw__law_told c_read_machine)) :=
  def_ok hm F sc__law_told B fun cdv A outer s H E hr =>
     (ss_one (sm_toldI (i := 1) CL_BadForm rfl rfl sc__law_told.nd rfl rfl (by rfl) fun W pn xe tk pw =>
      (ss_one (sm_ret (me_ctp (mas_cons me_str (mas_cons (me_call D_read_machine hr (by decide) (by rfl) (fun σ => L2N.passAt tk σ) (mas_cons (me_var (i := 0) rfl (.inl rfl)) mas_nil)) mas_nil)))))))
theorem sc__law_are_letters : FnScope ["letters", "letter", "sign"] ["letters"] (defScope (top 25)) := ⟨rfl, rfl, rfl, by decide +kernel, rfl, by decide +kernel, by decide +kernel⟩
abbrev L1__law_are_letters : MSt :=
  (sIf (mbOr (mbNot (mbE (mChain fLe fLe (mC (.int 1)) (mCallP fLen (msCons (mVar 1) msNil)) (mC (.int 6))))) (mbE (mOp fGt (mCallP fLen (msCons (mLc [2] (mChars (mVar 1)) (.nm 2) (mbE (mOp fNotIn (mVar 2) (mC (.str "abcdefghijklmnopqrstuvwxyz")))) (mVar 2)) msNil)) (mC (.int 0)))))
  (sRet (mC (.bl false)))
  sNil)
def b__law_are_letters : MSt :=
  (sSeq (sIf (mbOr (mbNot (mbE (mChain fLe fLe (mC (.int 1)) (mCallP fLen (msCons (mVar 0) msNil)) (mC (.int 4))))) (mbE (mOp fNe (mCallP fList (msCons (mVar 0) msNil)) (mUn fSortSet (mVar 0)))))
  (sRet (mC (.bl false)))
  sNil)
  (sSeq (sFor (.nm 1) (mOver (mVar 0)) (L1__law_are_letters))
  (sRet (mC (.bl true)))))
abbrev raw__law_are_letters : MF := mDef 1 3 (b__law_are_letters)
theorem w__law_are_letters {f : Addr} {fd : FuncData} (hm : mg "_law_are_letters" = some (.ref f)) (F : Fun K "_law_are_letters" "_law_are_letters" (top 25) f fd) (B : Binds K fd ["letters"] []) (T : Txt mg) : DefOk P w K mg base "_law_are_letters" 2 (spM K (oRL mg) (raw__law_are_letters)) :=
  def_ok hm F sc__law_are_letters B fun cdv A outer s H E hr =>
     (ss_cons (sm_if (mb_w (mw_or (mb_not (mb_chain op_le op_le om_le om_le me_int (me_callB call_len cm_len (by rfl) T.len_ boot_len_ (mas_cons (me_var (i := 0) rfl (.inl rfl)) mas_nil)) me_int)) (mw_or1 (mb_cmp (op_neA hr) om_ne (me_callTy call_list_of cm_list (by rfl) T.list_ boot_list_ (mas_cons (me_var (i := 0) rfl (.inl rfl)) mas_nil)) (me_sortSet rfl (by rfl) T.sorted_ (by rfl) T.set_ (me_var (i := 0) rfl (.inl rfl))) (nomark _)))))
      (ss_one (sm_ret me_bl))
      ss_nil)
      (ss_cons (sm_for own_def rfl (mi_over (me_var (i := 0) rfl (.inl rfl))) (mg_nm (i := 1) sc__law_are_letters.nd rfl (.inl rfl) (.inr rfl))
      (ss_one (sm_if (mb_w (mw_or (mb_not (mb_chain op_le op_le om_le om_le me_int (me_callB call_len cm_len (by rfl) T.len_ boot_len_ (mas_cons (me_var (i := 1) rfl (.inl rfl)) mas_nil)) me_int)) (mw_or1 (mb_cmp op_gt om_gt (me_callB call_len cm_len (by rfl) T.len_ boot_len_ (mas_cons (me_lc (own := [("sign", 2)]) rfl sc__law_are_letters.nd (mi_chars (me_var (i := 1) rfl (.inl rfl))) (blkOk_by (by rfl)) (by decide) (fun _ _ _ _ _ => (mg_nm (i := 2) sc__law_are_letters.nd rfl (.inl rfl) (.inr rfl))) (fun _ _ _ _ _ => (mts_one (mb_notIn hr (me_var (i := 2) rfl (.inl rfl)) me_str))) (fun _ _ _ _ _ => (me_var (i := 2) rfl (.inl rfl)))) mas_nil)) me_int (nomark _)))))
      (ss_one (sm_ret me_bl))
      ss_nil)))
      (ss_one (sm_ret me_bl))))
theorem sc__law_number : FnScope ["word", "sign"] ["word"] (defScope (top 26)) := ⟨rfl, rfl, rfl, by decide +kernel, rfl, by decide +kernel, by decide +kernel⟩
def b__law_number : MSt :=
  (sSeq (sIf (mbOr (mbE (mOp fNotIn (mCallP fLen (msCons (mVar 0) msNil)) (mCallP fFrl (msCons (mC (.int 1)) (msCons (mC (.int 2)) msNil))))) (mbOr (mbE (mOp fGt (mCallP fLen (msCons (mLc [1] (mChars (mVar 0)) (.nm 1) (mbE (mOp fNotIn (mVar 1) (mC (.str "0123456789")))) (mVar 1)) msNil)) (mC (.int 0)))) (mbAnd (mbE (mOp fEq (mCallP fLen (msCons (mVar 0) msNil)) (mC (.int 2)))) (mbE (mOp fEq (mOp fIx (mVar 0) (mC (.int 0))) (mC (.str "0")))))))
  (sRet (mC (.int 99)))
  sNil)
  (sRet (mCallP fInt (msCons (mVar 0) msNil))))
abbrev raw__law_number : MF := mDef 1 2 (b__law_number)
theorem w__law_number {f : Addr} {fd : FuncData} (hm : mg "_law_number" = some (.ref f)) (F : Fun K "_law_number" "_law_number" (top 26) f fd) (B : Binds K fd ["word"] []) (T : Txt mg) : DefOk P w K mg base "_law_number" 2 (spM K (oRL mg) (raw__law_number)) :=
  def_ok hm F sc__law_number B fun cdv A outer s H E hr =>
     (ss_cons (sm_if (mb_w (mw_or (mb_notIn hr (me_callB call_len cm_len (by rfl) T.len_ boot_len_ (mas_cons (me_var (i := 0) rfl (.inl rfl)) mas_nil)) (me_frl (mas_cons me_int (mas_cons me_int mas_nil)))) (mw_or (mb_cmp op_gt om_gt (me_callB call_len cm_len (by rfl) T.len_ boot_len_ (mas_cons (me_lc (own := [("sign", 1)]) rfl sc__law_number.nd (mi_chars (me_var (i := 0) rfl (.inl rfl))) (blkOk_by (by rfl)) (by decide) (fun _ _ _ _ _ => (mg_nm (i := 1) sc__law_number.nd rfl (.inl rfl) (.inr rfl))) (fun _ _ _ _ _ => (mts_one (mb_notIn hr (me_var (i := 1) rfl (.inl rfl)) me_str))) (fun _ _ _ _ _ => (me_var (i := 1) rfl (.inl rfl)))) mas_nil)) me_int (nomark _)) (mw_or1 (mb_w (mw_and (mb_cmp (op_eqA hr) om_eq (me_callB call_len cm_len (by rfl) T.len_ boot_len_ (mas_cons (me_var (i := 0) rfl (.inl rfl)) mas_nil)) me_int (nomark _)) (mw_and1 (mb_cmp (op_eqA hr) om_eq (me_ix hr (me_var (i := 0) rfl (.inl rfl)) me_int) me_str (nomark _)))))))))
      (ss_one (sm_ret me_int))
      ss_nil)
      (ss_one (sm_ret (me_callTy cr_int cm_int (by rfl) T.int_ boot_int_ (mas_cons (me_var (i := 0) rfl (.inl rfl)) mas_nil)))))
theorem sc__law_due : FnScope ["text", "lines", "rows", "k", "words", "row", "word", "end"] ["text"] (defScope (top 27)) := ⟨rfl, rfl, rfl, by decide +kernel, rfl, by decide +kernel, by decide +kernel⟩
abbrev L1__law_due (c__law_are_letters : MF) (c__law_number : MF) : MSt :=
  (sSeq (sAsg (.nm 4) (mMeth isStr (fSplit false) (mOp fIx (mVar 1) (mVar 3)) (msCons (mC (.str " ")) msNil)))
  (sIf (mbE (mOp fEq (mVar 3) (mC (.int 0))))
  (sIf (mbNot (mbE (mCallP c__law_are_letters (msCons (mCallP fTupC (msCons (mVar 4) msNil)) msNil))))
  (sRet (mCallP fCtp (msCons (mC (.str "form")) (msCons (mC (.int 1)) msNil))))
  sNil)
  (sSeq (sAsg (.nm 5) (mLc [6] (mOver (mSlC (mVar 4) (some (mC (.int 1))) none)) (.nm 6) mbYes (mCallP c__law_number (msCons (mVar 6) msNil))))
  (sSeq (sIf (mbOr (mbE (mOp fNotIn (mOp fIx (mVar 4) (mC (.int 0))) (mCallP fFrl (msCons (mC (.str ".")) (msCons (mC (.str "+")) msNil))))) (mbOr (mbE (mOp fNe (mCallP fLen (msCons (mVar 5) msNil)) (mCallP fLen (msCons (mMeth isStr (fSplit false) (mOp fIx (mVar 1) (mC (.int 0))) (msCons (mC (.str " ")) msNil)) msNil)))) (mbOr (mbE (mOp fGt (mCallP fMaxA (msCons (mVar 5) msNil)) (mC (.int 29)))) (mbE (mOp fGt (mVar 3) (mC (.int 30)))))))
  (sRet (mCallP fCtp (msCons (mC (.str "form")) (msCons (mOp fAddC (mVar 3) (mC (.int 1))) msNil))))
  sNil)
  (sExpr (mMeth isL fAppend (mVar 2) (msCons (mCallP fCtp (msCons (mCallP fInt (msCons (mOp fEq (mOp fIx (mVar 4) (mC (.int 0))) (mC (.str "+"))) msNil)) (msCons (mCallP fTupC (msCons (mVar 5) msNil)) msNil))) msNil)))))))
def b__law_due (c__law_are_letters : MF) (c__law_number : MF) : MSt :=
  (sSeq (sAsg (.nm 1) (mMeth isStr (fSplit false) (mVar 0) (msCons (mC (.str "\n")) msNil)))
  (sSeq (sAsg (.nm 2) (mCallP fLst msNil))
  (sSeq (sFor (.nm 3) (mRange1 (mOp fSub (mCallP fLen (msCons (mVar 1) msNil)) (mC (.int 1)))) (L1__law_due c__law_are_letters c__law_number))
  (sSeq (sIf (mbOr (mbE (mOp fNe (mOp fIx (mVar 1) (mUn fNeg (mC (.int 1)))) (mC (.str "")))) (mbOr (mbE (mOp fEq (mCallP fLen (msCons (mVar 2) msNil)) (mC (.int 0)))) (mbE (mOp fGe (mCallP fMaxA (msCons (mLc [7, 5] (mOver (mVar 2)) (.tp [(.nm 7), (.nm 5)]) mbYes (mCallP fMaxA (msCons (mVar 5) msNil))) msNil)) (mCallP fLen (msCons (mVar 2) msNil))))))
  (sRet (mCallP fCtp (msCons (mC (.str "form")) (msCons (mCallP fLen (msCons (mVar 1) msNil)) msNil))))
  sNil)
  (sRet (mCallP fCtp (msCons (mC (.str "read")) (msCons (mCallP fCtp (msCons (mCallP fTupC (msCons (mMeth isStr (fSplit false) (mOp fIx (mVar 1) (mC (.int 0))) (msCons (mC (.str " ")) msNil)) msNil)) (msCons (mCallP fTupC (msCons (mLc [7, 5] (mOver (mVar 2)) (.tp [(.nm 7), (.nm 5)]) mbYes (mVar 5)) msNil)) (msCons (mCallP fTupC (msCons (mLc [7, 5] (mOver (mVar 2)) (.tp [(.nm 7), (.nm 5)]) mbYes (mVar 7)) msNil)) msNil)))) msNil))))))))
abbrev raw__law_due (c__law_are_letters : MF) (c__law_number : MF) : MF := mDef 1 8 (b__law_due c__law_are_letters c__law_number)
theorem w__law_due {c__law_are_letters : MF} {c__law_number : MF} {f : Addr} {fd : FuncData} (hm : mg "_law_due" = some (.ref f)) (F : Fun K "_law_due" "_law_due" (top 27) f fd) (B : Binds K fd ["text"] []) (T : Txt mg) (D__law_are_letters : DefOk P w K mg base "_law_are_letters" 2 (spM K (oRL mg) c__law_are_letters)) (D__law_number : DefOk P w K mg base "_law_number" 2 (spM K (oRL mg) c__law_number)) : DefOk P w K mg base "_law_due" 3 (spM K (oRL mg) (raw__law_due c__law_are_letters c__law_number)) :=
  def_ok hm F sc__law_due B fun cdv A outer s H E hr =>
     (ss_cons (sm_set (i := 1) sc__law_due.nd rfl (.inl rfl) (me_bm (om_split (place := false)) isStr_ty (pe_bm PySem.F.plainAttrs_str PySem.F.slot_str_split PySem.F.type_str_split mt_split (me_var (i := 0) rfl (.inl rfl)) (mas_cons me_str mas_nil))))
      (ss_cons (sm_set (i := 2) sc__law_due.nd rfl (.inl rfl) (me_lst mas_nil))
      (ss_cons (sm_for own_def rfl (mi_range1 (by rfl) T.range_ (me_op op_sub om_sub (me_callB call_len cm_len (by rfl) T.len_ boot_len_ (mas_cons (me_var (i := 1) rfl (.inl rfl)) mas_nil)) me_int)) (mg_nm (i := 3) sc__law_due.nd rfl (.inl rfl) (.inr rfl))
      (ss_cons (sm_set (i := 4) sc__law_due.nd rfl (.inl rfl) (me_bm (om_split (place := false)) isStr_ty (pe_bm PySem.F.plainAttrs_str PySem.F.slot_str_split PySem.F.type_str_split mt_split (me_ix hr (me_var (i := 1) rfl (.inl rfl)) (me_var (i := 3) rfl (.inl rfl))) (mas_cons me_str mas_nil))))
      (ss_one (sm_if (mb_cmp (op_eqA hr) om_eq (me_var (i := 3) rfl (.inl rfl)) me_int (nomark _))
      (ss_one (sm_if (mb_not (mb_val (me_call D__law_are_letters hr (by decide) (by rfl) at_def (mas_cons (me_callTy cr_tupC cm_tupC (by rfl) T.tuple_ boot_tuple_ (mas_cons (me_var (i := 4) rfl (.inl rfl)) mas_nil)) mas_nil))))
      (ss_one (sm_ret (me_ctp (mas_cons me_str (mas_cons me_int mas_nil)))))
      ss_nil))
      (ss_cons (sm_setLc (i := 5) (own := [("word", 6)]) rfl sc__law_due.nd rfl rfl (by rfl) (mi_over (me_sliceC10 (me_var (i := 4) rfl (.inl rfl)) me_int)) (blkOk_by (by rfl)) (by decide) (fun _ _ _ _ _ => (mg_nm (i := 6) sc__law_due.nd rfl (.inl rfl) (.inr rfl))) (fun _ _ _ _ _ => mts_nil) (fun _ _ _ _ _ => (me_call D__law_number hr (by decide) (by rfl) at_blk (mas_cons (me_var (i := 6) rfl (.inl rfl)) mas_nil))))
      (ss_cons (sm_if (mb_w (mw_or (mb_notIn hr (me_ix hr (me_var (i := 4) rfl (.inl rfl)) me_int) (me_frl (mas_cons me_str (mas_cons me_str mas_nil)))) (mw_or (mb_cmp (op_neA hr) om_ne (me_callB call_len cm_len (by rfl) T.len_ boot_len_ (mas_cons (me_var (i := 5) rfl (.inl rfl)) mas_nil)) (me_callB call_len cm_len (by rfl) T.len_ boot_len_ (mas_cons (me_bm (om_split (place := false)) isStr_ty (pe_bm PySem.F.plainAttrs_str PySem.F.slot_str_split PySem.F.type_str_split mt_split (me_ix hr (me_var (i := 1) rfl (.inl rfl)) me_int) (mas_cons me_str mas_nil))) mas_nil)) (nomark _)) (mw_or (mb_cmp op_gt om_gt (me_callB (cr_maxA rfl) cm_maxA (by rfl) T.max_ boot_max_ (mas_cons (me_var (i := 5) rfl (.inl rfl)) mas_nil)) me_int (nomark _)) (mw_or1 (mb_cmp op_gt om_gt (me_var (i := 3) rfl (.inl rfl)) me_int (nomark _)))))))
      (ss_one (sm_ret (me_ctp (mas_cons me_str (mas_cons (me_op op_addC om_addC (me_var (i := 3) rfl (.inl rfl)) me_int) mas_nil)))))
      ss_nil)
      (ss_one (sm_expr (me_bm om_append isL_ty (pe_bm PySem.F.plainAttrs_list PySem.F.slot_list_append PySem.F.type_list_append mt_append (me_var (i := 2) rfl (.inl rfl)) (mas_cons (me_ctp (mas_cons (me_callTy cr_int cm_int (by rfl) T.int_ boot_int_ (mas_cons (me_cmp (op_eqA hr) om_eq (me_ix hr (me_var (i := 4) rfl (.inl rfl)) me_int) me_str (nomark _)) mas_nil)) (mas_cons (me_callTy cr_tupC cm_tupC (by rfl) T.tuple_ boot_tuple_ (mas_cons (me_var (i := 5) rfl (.inl rfl)) mas_nil)) mas_nil))) mas_nil)))))))))))
      (ss_cons (sm_if (mb_w (mw_or (mb_cmp (op_neA hr) om_ne (me_ix hr (me_var (i := 1) rfl (.inl rfl)) (me_un un_neg um_neg me_int)) me_str (nomark _)) (mw_or (mb_cmp (op_eqA hr) om_eq (me_callB call_len cm_len (by rfl) T.len_ boot_len_ (mas_cons (me_var (i := 2) rfl (.inl rfl)) mas_nil)) me_int (nomark _)) (mw_or1 (mb_cmp op_ge om_ge (me_callB (cr_maxA rfl) cm_maxA (by rfl) T.max_ boot_max_ (mas_cons (me_lc (own := [("end", 7), ("row", 5)]) rfl sc__law_due.nd (mi_over (me_var (i := 2) rfl (.inl rfl))) (blkOk_by (by rfl)) (by decide) (fun _ _ _ _ _ => (mg_tp rfl (mgs_cons (mg_nm (i := 7) sc__law_due.nd rfl (.inl rfl) (.inr rfl)) (mgs_cons (mg_nm (i := 5) sc__law_due.nd rfl (.inl rfl) (.inr rfl)) mgs_nil)))) (fun _ _ _ _ _ => mts_nil) (fun _ _ _ _ _ => (me_callB (cr_maxA rfl) cm_maxA (by rfl) T.max_ boot_max_ (mas_cons (me_var (i := 5) rfl (.inl rfl)) mas_nil)))) mas_nil)) (me_callB call_len cm_len (by rfl) T.len_ boot_len_ (mas_cons (me_var (i := 2) rfl (.inl rfl)) mas_nil)) (nomark _))))))
      (ss_one (sm_ret (me_ctp (mas_cons me_str (mas_cons (me_callB call_len cm_len (by rfl) T.len_ boot_len_ (mas_cons (me_var (i := 1) rfl (.inl rfl)) mas_nil)) mas_nil)))))
      ss_nil)
      (ss_one (sm_ret (me_ctp (mas_cons me_str (mas_cons (me_ctp (mas_cons (me_callTy cr_tupC cm_tupC (by rfl) T.tuple_ boot_tuple_ (mas_cons (me_bm (om_split (place := false)) isStr_ty (pe_bm PySem.F.plainAttrs_str PySem.F.slot_str_split PySem.F.type_str_split mt_split (me_ix hr (me_var (i := 1) rfl (.inl rfl)) me_int) (mas_cons me_str mas_nil))) mas_nil)) (mas_cons (me_callTy cr_tupC cm_tupC (by rfl) T.tuple_ boot_tuple_ (mas_cons (me_lc (own := [("end", 7), ("row", 5)]) rfl sc__law_due.nd (mi_over (me_var (i := 2) rfl (.inl rfl))) (blkOk_by (by rfl)) (by decide) (fun _ _ _ _ _ => (mg_tp rfl (mgs_cons (mg_nm (i := 7) sc__law_due.nd rfl (.inl rfl) (.inr rfl)) (mgs_cons (mg_nm (i := 5) sc__law_due.nd rfl (.inl rfl) (.inr rfl)) mgs_nil)))) (fun _ _ _ _ _ => mts_nil) (fun _ _ _ _ _ => (me_var (i := 5) rfl (.inl rfl)))) mas_nil)) (mas_cons (me_callTy cr_tupC cm_tupC (by rfl) T.tuple_ boot_tuple_ (mas_cons (me_lc (own := [("end", 7), ("row", 5)]) rfl sc__law_due.nd (mi_over (me_var (i := 2) rfl (.inl rfl))) (blkOk_by (by rfl)) (by decide) (fun _ _ _ _ _ => (mg_tp rfl (mgs_cons (mg_nm (i := 7) sc__law_due.nd rfl (.inl rfl) (.inr rfl)) (mgs_cons (mg_nm (i := 5) sc__law_due.nd rfl (.inl rfl) (.inr rfl)) mgs_nil)))) (fun _ _ _ _ _ => mts_nil) (fun _ _ _ _ _ => (me_var (i := 7) rfl (.inl rfl)))) mas_nil)) mas_nil)))) mas_nil)))))))))
theorem sc__law_bent : FnScope ["state", "text", "lines", "at", "words", "k", "pick"] ["state", "text"] (defScope (top 28)) := ⟨rfl, rfl, rfl, by decide +kernel, rfl, by decide +kernel, by decide +kernel⟩
def b__law_bent (c__law_next : MF) : MSt :=
  (sSeq (sAsg (.nm 2) (mMeth isStr (fSplit true) (mVar 1) (msCons (mC (.str "\n")) msNil)))
  (sSeq (sAsg (.nm 3) (mCallP c__law_next (msCons (mVar 0) (msCons (mCallP fLen (msCons (mVar 2) msNil)) msNil))))
  (sSeq (sAsg (.nm 4) (mMeth isStr (fSplit true) (mOp fIx (mVar 2) (mVar 3)) (msCons (mC (.str " ")) msNil)))
  (sSeq (sAsg (.nm 5) (mCallP c__law_next (msCons (mVar 0) (msCons (mCallP fLen (msCons (mVar 4) msNil)) msNil))))
  (sSeq (sAsg (.nm 6) (mCallP c__law_next (msCons (mVar 0) (msCons (mC (.int 8)) msNil))))
  (sSeq (sIf (mbE (mOp fEq (mVar 6) (mC (.int 0))))
  (sRet (mMeth isStr fJoin (mC (.str "\n")) (msCons (mOp fAddC (mSlC (mVar 2) none (some (mVar 3))) (mSlC (mVar 2) (some (mOp fAddC (mVar 3) (mC (.int 1)))) none)) msNil)))
  sNil)
  (sSeq (sIf (mbE (mOp fEq (mVar 6) (mC (.int 1))))
  (sRet (mMeth isStr fJoin (mC (.str "\n")) (msCons (mOp fAddC (mOp fAddC (mSlC (mVar 2) none (some (mVar 3))) (mCallP fFrl (msCons (mOp fIx (mVar 2) (mVar 3)) msNil))) (mSlC (mVar 2) (some (mVar 3)) none)) msNil)))
  sNil)
  (sSeq (sIf (mbE (mOp fEq (mVar 6) (mC (.int 2))))
  (sRet (mMeth isStr fJoin (mC (.str "\n")) (msCons (mUn fBackL (mVar 2)) msNil)))
  sNil)
  (sSeq (sIf (mbE (mOp fEq (mVar 6) (mC (.int 3))))
  (sRet (mSlC (mVar 1) none (some (mUn fNeg (mC (.int 1))))))
  sNil)
  (sSeq (sIf (mbE (mOp fEq (mVar 6) (mC (.int 4))))
  (sAsg (.nm 4) (mOp fAddC (mOp fAddC (mSlC (mVar 4) none (some (mVar 5))) (mCallP fFrl (msCons (mC (.str "")) msNil))) (mSlC (mVar 4) (some (mVar 5)) none)))
  sNil)
  (sSeq (sIf (mbE (mOp fGt (mVar 6) (mC (.int 4))))
  (sSub (mVar 4) (mVar 5) (mOp fIx (mCallP fFrl (msCons (mC (.str "00")) (msCons (mC (.str "30")) (msCons (mC (.str "29")) (msCons (mC (.str "x")) (msCons (mC (.str "+")) (msCons (mC (.str ".")) (msCons (mC (.str "-1")) (msCons (mC (.str "A")) (msCons (mC (.str "3")) (msCons (mC (.str "abcdefg")) msNil))))))))))) (mCallP c__law_next (msCons (mVar 0) (msCons (mC (.int 10)) msNil)))) fStore)
  sNil)
  (sSeq (sSub (mVar 2) (mVar 3) (mMeth isStr fJoin (mC (.str " ")) (msCons (mVar 4) msNil)) fStore)
  (sRet (mMeth isStr fJoin (mC (.str "\n")) (msCons (mVar 2) msNil)))))))))))))))
abbrev raw__law_bent (c__law_next : MF) : MF := mDef 2 7 (b__law_bent c__law_next)
theorem w__law_bent {c__law_next : MF} {f : Addr} {fd : FuncData} (hm : mg "_law_bent" = some (.ref f)) (F : Fun K "_law_bent" "_law_bent" (top 28) f fd) (B : Binds K fd ["state", "text"] []) (T : Txt mg) (D__law_next : DefOk P w K mg base "_law_next" 2 (spM K (oRL mg) c__law_next)) : DefOk P w K mg base "_law_bent" 3 (spM K (oRL mg) (raw__law_bent c__law_next)) :=
  def_ok hm F sc__law_bent B fun cdv A outer s H E hr =>
     (ss_cons (sm_set (i := 2) sc__law_bent.nd rfl (.inl rfl) (me_bm (om_split (place := true)) isStr_ty (pe_bm PySem.F.plainAttrs_str PySem.F.slot_str_split PySem.F.type_str_split mt_split (me_var (i := 1) rfl (.inl rfl)) (mas_cons me_str mas_nil))))
      (ss_cons (sm_set (i := 3) sc__law_bent.nd rfl (.inl rfl) (me_call D__law_next hr (by decide) (by rfl) at_def (mas_cons (me_var (i := 0) rfl (.inl rfl)) (mas_cons (me_callB call_len cm_len (by rfl) T.len_ boot_len_ (mas_cons (me_var (i := 2) rfl (.inl rfl)) mas_nil)) mas_nil))))
      (ss_cons (sm_set (i := 4) sc__law_bent.nd rfl (.inl rfl) (me_bm (om_split (place := true)) isStr_ty (pe_bm PySem.F.plainAttrs_str PySem.F.slot_str_split PySem.F.type_str_split mt_split (me_ix hr (me_var (i := 2) rfl (.inl rfl)) (me_var (i := 3) rfl (.inl rfl))) (mas_cons me_str mas_nil))))
      (ss_cons (sm_set (i := 5) sc__law_bent.nd rfl (.inl rfl) (me_call D__law_next hr (by decide) (by rfl) at_def (mas_cons (me_var (i := 0) rfl (.inl rfl)) (mas_cons (me_callB call_len cm_len (by rfl) T.len_ boot_len_ (mas_cons (me_var (i := 4) rfl (.inl rfl)) mas_nil)) mas_nil))))
      (ss_cons (sm_set (i := 6) sc__law_bent.nd rfl (.inl rfl) (me_call D__law_next hr (by decide) (by rfl) at_def (mas_cons (me_var (i := 0) rfl (.inl rfl)) (mas_cons me_int mas_nil))))
      (ss_cons (sm_if (mb_cmp (op_eqA hr) om_eq (me_var (i := 6) rfl (.inl rfl)) me_int (nomark _))
      (ss_one (sm_ret (me_bm om_join isStr_ty (pe_bm PySem.F.plainAttrs_str PySem.F.slot_str_join PySem.F.type_str_join mt_join me_str (mas_cons (me_op op_addC om_addC (me_sliceC01 (me_var (i := 2) rfl (.inl rfl)) (me_var (i := 3) rfl (.inl rfl))) (me_sliceC10 (me_var (i := 2) rfl (.inl rfl)) (me_op op_addC om_addC (me_var (i := 3) rfl (.inl rfl)) me_int))) mas_nil)))))
      ss_nil)
      (ss_cons (sm_if (mb_cmp (op_eqA hr) om_eq (me_var (i := 6) rfl (.inl rfl)) me_int (nomark _))
      (ss_one (sm_ret (me_bm om_join isStr_ty (pe_bm PySem.F.plainAttrs_str PySem.F.slot_str_join PySem.F.type_str_join mt_join me_str (mas_cons (me_op op_addC om_addC (me_op op_addC om_addC (me_sliceC01 (me_var (i := 2) rfl (.inl rfl)) (me_var (i := 3) rfl (.inl rfl))) (me_frl (mas_cons (me_ix hr (me_var (i := 2) rfl (.inl rfl)) (me_var (i := 3) rfl (.inl rfl))) mas_nil))) (me_sliceC10 (me_var (i := 2) rfl (.inl rfl)) (me_var (i := 3) rfl (.inl rfl)))) mas_nil)))))
      ss_nil)
      (ss_cons (sm_if (mb_cmp (op_eqA hr) om_eq (me_var (i := 6) rfl (.inl rfl)) me_int (nomark _))
      (ss_one (sm_ret (me_bm om_join isStr_ty (pe_bm PySem.F.plainAttrs_str PySem.F.slot_str_join PySem.F.type_str_join mt_join me_str (mas_cons (me_backL (me_var (i := 2) rfl (.inl rfl))) mas_nil)))))
      ss_nil)
      (ss_cons (sm_if (mb_cmp (op_eqA hr) om_eq (me_var (i := 6) rfl (.inl rfl)) me_int (nomark _))
      (ss_one (sm_ret (me_sliceC01 (me_var (i := 1) rfl (.inl rfl)) (me_un un_neg um_neg me_int))))
      ss_nil)
      (ss_cons (sm_if (mb_cmp (op_eqA hr) om_eq (me_var (i := 6) rfl (.inl rfl)) me_int (nomark _))
      (ss_one (sm_set (i := 4) sc__law_bent.nd rfl (.inl rfl) (me_op op_addC om_addC (me_op op_addC om_addC (me_sliceC01 (me_var (i := 4) rfl (.inl rfl)) (me_var (i := 5) rfl (.inl rfl))) (me_frl (mas_cons me_str mas_nil))) (me_sliceC10 (me_var (i := 4) rfl (.inl rfl)) (me_var (i := 5) rfl (.inl rfl))))))
      ss_nil)
      (ss_cons (sm_if (mb_cmp op_gt om_gt (me_var (i := 6) rfl (.inl rfl)) me_int (nomark _))
      (ss_one (sm_sub (me_ix hr (me_frl (mas_cons me_str (mas_cons me_str (mas_cons me_str (mas_cons me_str (mas_cons me_str (mas_cons me_str (mas_cons me_str (mas_cons me_str (mas_cons me_str (mas_cons me_str mas_nil))))))))))) (me_call D__law_next hr (by decide) (by rfl) at_def (mas_cons (me_var (i := 0) rfl (.inl rfl)) (mas_cons me_int mas_nil)))) (pg_sub (me_var (i := 4) rfl (.inl rfl)) (me_var (i := 5) rfl (.inl rfl)) (set_all hr)) sx_store))
      ss_nil)
      (ss_cons (sm_sub (me_bm om_join isStr_ty (pe_bm PySem.F.plainAttrs_str PySem.F.slot_str_join PySem.F.type_str_join mt_join me_str (mas_cons (me_var (i := 4) rfl (.inl rfl)) mas_nil))) (pg_sub (me_var (i := 2) rfl (.inl rfl)) (me_var (i := 3) rfl (.inl rfl)) (set_all hr)) sx_store)
      (ss_one (sm_ret (me_bm om_join isStr_ty (pe_bm PySem.F.plainAttrs_str PySem.F.slot_str_join PySem.F.type_str_join mt_join me_str (mas_cons (me_var (i := 2) rfl (.inl rfl)) mas_nil)))))))))))))))))
theorem sc_law : FnScope ["script", "state", "turn", "machine", "text", "k", "bent", "odd", "one"] ["script"] (defScope (top 29)) := ⟨rfl, rfl, rfl, by decide +kernel, rfl, by decide +kernel, by decide +kernel⟩
abbrev L1_law (c__law_stream : MF) (c__law_machine : MF) (c__law_letters : MF) (c__law_text : MF) (c__law_same : MF) (c__law_told : MF) (c_machine_text : MF) (c__law_bent : MF) (c__law_due : MF) : MSt :=
  (sSeq (sAsg (.nm 6) (mCallP c__law_bent (msCons (mVar 1) (msCons (mVar 4) msNil))))
  (sIf (mbNot (mbE (mCallP c__law_same (msCons (mCallP c__law_told (msCons (mVar 6) msNil)) (msCons (mCallP c__law_due (msCons (mVar 6) msNil)) msNil)))))
  (sRet (mC (.bl false)))
  sNil))
abbrev L2_law (c__law_stream : MF) (c__law_machine : MF) (c__law_letters : MF) (c__law_text : MF) (c__law_same : MF) (c__law_told : MF) (c_machine_text : MF) (c__law_bent : MF) (c__law_due : MF) : MSt :=
  (sSeq (sAsg (.nm 3) (mCallP c__law_machine (msCons (mVar 1) (msCons (mCallP c__law_letters (msCons (mVar 1) msNil)) (msCons (mOp fIx (mCallP fFrl (msCons (mC (.int 12)) (msCons (mC (.int 12)) (msCons (mC (.int 30)) msNil)))) (mVar 2)) msNil)))))
  (sSeq (sAsg (.nm 4) (mCallP c__law_text (msCons (mVar 3) msNil)))
  (sSeq (sIf (mbNot (mbE (mCallP c__law_same (msCons (mCallP fFrl (msCons (mCallP c_machine_text (msCons (mVar 3) msNil)) (msCons (mCallP c__law_told (msCons (mVar 4) msNil)) msNil))) (msCons (mCallP fFrl (msCons (mVar 4) (msCons (mCallP fCtp (msCons (mC (.str "read")) (msCons (mVar 3) msNil))) msNil))) msNil)))))
  (sRet (mC (.bl false)))
  sNil)
  (sFor (.nm 5) (mRange1 (mC (.int 6))) (L1_law c__law_stream c__law_machine c__law_letters c__law_text c__law_same c__law_told c_machine_text c__law_bent c__law_due)))))
def b_law (c__law_stream : MF) (c__law_machine : MF) (c__law_letters : MF) (c__law_text : MF) (c__law_same : MF) (c__law_told : MF) (c_machine_text : MF) (c__law_bent : MF) (c__law_due : MF) : MSt :=
  (sSeq (sAsg (.nm 1) (mCallP fLst (msCons (mCallP c__law_stream (msCons (mVar 0) msNil)) (msCons (mC (.int 0)) msNil))))
  (sSeq (sFor (.nm 2) (mRange1 (mC (.int 3))) (L2_law c__law_stream c__law_machine c__law_letters c__law_text c__law_same c__law_told c_machine_text c__law_bent c__law_due))
  (sSeq (sAsg (.nm 7) (mCallP fFrl (msCons (mC (.str "")) (msCons (mC (.str "\n")) (msCons (mC (.str "a\n")) (msCons (mC (.str "a b\n+ 0 0")) (msCons (mOp fAddC (mC (.str "a\n")) (mOp fRepT (mC (.str "+ 0\n")) (mC (.int 30)))) (msCons (mOp fAddC (mC (.str "a\n")) (mOp fRepT (mC (.str "+ 0\n")) (mC (.int 31)))) (msCons (mC (.str "a\n+ 1\n")) (msCons (mC (.str "a\n+ 1\n. 1\n")) (msCons (mC (.str "b a\n+ 0 0\n")) (msCons (mC (.str "a\n+  0\n")) (msCons (mC (.str "a \n+ 0\n")) msNil)))))))))))))
  (sRet (mCallP fAll (msCons (mLc [8] (mOver (mVar 7)) (.nm 8) mbYes (mCallP c__law_same (msCons (mCallP c__law_told (msCons (mVar 8) msNil)) (msCons (mCallP c__law_due (msCons (mVar 8) msNil)) msNil)))) msNil))))))
abbrev raw_law (c__law_stream : MF) (c__law_machine : MF) (c__law_letters : MF) (c__law_text : MF) (c__law_same : MF) (c__law_told : MF) (c_machine_text : MF) (c__law_bent : MF) (c__law_due : MF) : MF := mDef 1 9 (b_law c__law_stream c__law_machine c__law_letters c__law_text c__law_same c__law_told c_machine_text c__law_bent c__law_due)
theorem wf_law {c__law_stream : MF} {c__law_machine : MF} {c__law_letters : MF} {c__law_text : MF} {c__law_same : MF} {c__law_told : MF} {c_machine_text : MF} {c__law_bent : MF} {c__law_due : MF} {f : Addr} {fd : FuncData} (F : Fun K "law" "law" (top 29) f fd) (T : Txt mg) (D__law_stream : DefOk P w K mg base "_law_stream" 2 (spM K (oRL mg) c__law_stream)) (D__law_machine : DefOk P w K mg base "_law_machine" 3 (spM K (oRL mg) c__law_machine)) (D__law_letters : DefOk P w K mg base "_law_letters" 3 (spM K (oRL mg) c__law_letters)) (D__law_text : DefOk P w K mg base "_law_text" 2 (spM K (oRL mg) c__law_text)) (D__law_same : DefOk P w K mg base "_law_same" 2 (spM K (oRL mg) c__law_same)) (D__law_told : DefOk P w K mg base "_law_told" 8 (spM K (oRL mg) c__law_told)) (D_machine_text : DefOk P w K mg base "machine_text" 2 (spM K (oRL mg) c_machine_text)) (D__law_bent : DefOk P w K mg base "_law_bent" 3 (spM K (oRL mg) c__law_bent)) (D__law_due : DefOk P w K mg base "_law_due" 3 (spM K (oRL mg) c__law_due)) : FnG P w K mg base 9 f fd ["script"] (spM K (oRL mg) (raw_law c__law_stream c__law_machine c__law_letters c__law_text c__law_same c__law_told c_machine_text c__law_bent c__law_due)) :=
  def_fnG F sc_law fun cdv A outer s H E hr =>
     (ss_cons (sm_set (i := 1) sc_law.nd rfl (.inl rfl) (me_lst (mas_cons (me_call D__law_stream hr (by decide) (by rfl) at_def (mas_cons (me_var (i := 0) rfl (.inl rfl)) mas_nil)) (mas_cons me_int mas_nil))))
      (ss_cons (sm_for own_def rfl (mi_range1 (by rfl) T.range_ me_int) (mg_nm (i := 2) sc_law.nd rfl (.inl rfl) (.inr rfl))
      (ss_cons (sm_set (i := 3) sc_law.nd rfl (.inl rfl) (me_call D__law_machine hr (by decide) (by rfl) at_def (mas_cons (me_var (i := 1) rfl (.inl rfl)) (mas_cons (me_call D__law_letters hr (by decide) (by rfl) at_def (mas_cons (me_var (i := 1) rfl (.inl rfl)) mas_nil)) (mas_cons (me_ix hr (me_frl (mas_cons me_int (mas_cons me_int (mas_cons me_int mas_nil)))) (me_var (i := 2) rfl (.inl rfl))) mas_nil)))))
      (ss_cons (sm_set (i := 4) sc_law.nd rfl (.inl rfl) (me_call D__law_text hr (by decide) (by rfl) at_def (mas_cons (me_var (i := 3) rfl (.inl rfl)) mas_nil)))
      (ss_cons (sm_if (mb_not (mb_val (me_call D__law_same hr (by decide) (by rfl) at_def (mas_cons (me_frl (mas_cons (me_call D_machine_text hr (by decide) (by rfl) at_def (mas_cons (me_var (i := 3) rfl (.inl rfl)) mas_nil)) (mas_cons (me_call D__law_told hr (by decide) (by rfl) at_def (mas_cons (me_var (i := 4) rfl (.inl rfl)) mas_nil)) mas_nil))) (mas_cons (me_frl (mas_cons (me_var (i := 4) rfl (.inl rfl)) (mas_cons (me_ctp (mas_cons me_str (mas_cons (me_var (i := 3) rfl (.inl rfl)) mas_nil))) mas_nil))) mas_nil)))))
      (ss_one (sm_ret me_bl))
      ss_nil)
      (ss_one (sm_for own_def rfl (mi_range1 (by rfl) T.range_ me_int) (mg_nm (i := 5) sc_law.nd rfl (.inl rfl) (.inr rfl))
      (ss_cons (sm_set (i := 6) sc_law.nd rfl (.inl rfl) (me_call D__law_bent hr (by decide) (by rfl) at_def (mas_cons (me_var (i := 1) rfl (.inl rfl)) (mas_cons (me_var (i := 4) rfl (.inl rfl)) mas_nil))))
      (ss_one (sm_if (mb_not (mb_val (me_call D__law_same hr (by decide) (by rfl) at_def (mas_cons (me_call D__law_told hr (by decide) (by rfl) at_def (mas_cons (me_var (i := 6) rfl (.inl rfl)) mas_nil)) (mas_cons (me_call D__law_due hr (by decide) (by rfl) at_def (mas_cons (me_var (i := 6) rfl (.inl rfl)) mas_nil)) mas_nil)))))
      (ss_one (sm_ret me_bl))
      ss_nil)))))))))
      (ss_cons (sm_set (i := 7) sc_law.nd rfl (.inl rfl) (me_frl (mas_cons me_str (mas_cons me_str (mas_cons me_str (mas_cons me_str (mas_cons (me_op op_addC om_addC me_str (me_op op_repTA om_repT me_str me_int)) (mas_cons (me_op op_addC om_addC me_str (me_op op_repTA om_repT me_str me_int)) (mas_cons me_str (mas_cons me_str (mas_cons me_str (mas_cons me_str (mas_cons me_str mas_nil)))))))))))))
      (ss_one (sm_ret (me_callB (cr_all rfl) cm_all (by rfl) T.all_ boot_all_ (mas_cons (me_lc (own := [("one", 8)]) rfl sc_law.nd (mi_over (me_var (i := 7) rfl (.inl rfl))) (blkOk_by (by rfl)) (by decide) (fun _ _ _ _ _ => (mg_nm (i := 8) sc_law.nd rfl (.inl rfl) (.inr rfl))) (fun _ _ _ _ _ => mts_nil) (fun _ _ _ _ _ => (me_call D__law_same hr (by decide) (by rfl) at_blk (mas_cons (me_call D__law_told hr (by decide) (by rfl) at_blk (mas_cons (me_var (i := 8) rfl (.inl rfl)) mas_nil)) (mas_cons (me_call D__law_due hr (by decide) (by rfl) at_blk (mas_cons (me_var (i := 8) rfl (.inl rfl)) mas_nil)) mas_nil))))) mas_nil)))))))
end K03

namespace K03
open PySem PySem.Spec PyProof.Rows L2 Mini
theorem blsOf_map : ∀ bs : List Bool, blsOf (bs.map .bl) = some bs
  | [] => rfl
  | b :: bs => by rw [List.map_cons]; unfold blsOf; rw [blsOf_map bs]; rfl
@[simp] theorem fAll_bls {α : Type} {xs : List α} {p : α → Bool} {μ : MH} : fAll [.frl (xs.map fun v => PV.bl (p v))] μ = .ok (.bl (xs.all p)) μ := by
  have : xs.map (fun v => PV.bl (p v)) = (xs.map p).map .bl := by rw [List.map_map]; rfl
  unfold fAll lstR lstM
  rw [this]
  simp only [Option.bind, blsOf_map]
  rw [List.all_map]
  rfl
@[simp] theorem fAny_bls {α : Type} {xs : List α} {p : α → Bool} {μ : MH} : fAny [.frl (xs.map fun v => PV.bl (p v))] μ = .ok (.bl (xs.any p)) μ := by
  have : xs.map (fun v => PV.bl (p v)) = (xs.map p).map .bl := by rw [List.map_map]; rfl
  unfold fAny lstR lstM
  rw [this]
  simp only [Option.bind, blsOf_map]
  rw [List.any_map]
  rfl
/-- a comprehension without conditions, each turn told by g -/
theorem comp_map {chk : MH → Bool} {t : MT} {me : ME} {s : MS} {μ : MH} {α : Type} (f : α → PV) (g : α → PV) (hchk : chk μ = true) (vs : List α) (h : ∀ v ∈ vs, ∃ s1, bindT t (f v) s = some s1 ∧ me s1 μ = .ok (g v) μ) (hl : vs.length ≤ 16777216) : compGo chk t mbYes (oneElt me) s (vs.map f) μ [] = .ok (vs.map g) μ := by
  have : ∀ (vs : List α) (acc : List PV), (∀ v ∈ vs, ∃ s1, bindT t (f v) s = some s1 ∧ me s1 μ = .ok (g v) μ) → acc.length + vs.length ≤ 16777216 → compGo chk t mbYes (oneElt me) s (vs.map f) μ acc = .ok (acc ++ vs.map g) μ := by
    intro vs
    induction vs with
    | nil => intro acc _ _; unfold compGo; simp [hchk]
    | cons v vs ih =>
      intro acc h hl
      obtain ⟨s1, e1, e2⟩ := h v (by simp)
      simp only [List.length_cons] at hl
      rw [List.map_cons]
      unfold compGo
      have e3 : oneElt me s1 μ acc = .ok (acc ++ [g v]) μ := by
        unfold oneElt
        rw [e2]
        exact if_pos (by rw [sizeLine_n]; omega)
      rw [if_pos hchk, e1]
      simp only [mbYes, R.bind_ok, if_true, e3]
      rw [ih (acc ++ [g v]) (fun u hu => h u (by simp [hu])) (by simp; omega)]
      simp
  simpa using this vs [] h (by simpa using hl)
theorem lc_map {vs : List Nat} {i : MI} {t : MT} {me : ME} {s : MS} {μ μ1 : MH} {chk : MH → Bool} {α : Type} {xs : List α} (f : α → PV) (g : α → PV) (hi : i s μ = .ok ⟨xs.map f, chk⟩ μ1) (hchk : chk μ1 = true) (h : ∀ v ∈ xs, ∃ s1, bindT t (f v) (wipeM s vs) = some s1 ∧ me s1 μ1 = .ok (g v) μ1) (hl : xs.length ≤ 16777216) : mLc vs i t mbYes me s μ = .ok (.frl (xs.map g)) μ1 := by
  unfold mLc
  rw [hi]
  simp only [R.bind_ok]
  rw [comp_map f g hchk xs h hl]
  rfl
theorem lc_bls {vs : List Nat} {i : MI} {t : MT} {me : ME} {s : MS} {μ μ1 : MH} {chk : MH → Bool} {α : Type} {xs : List α} (f : α → PV) (p : α → Bool) (hi : i s μ = .ok ⟨xs.map f, chk⟩ μ1) (hchk : chk μ1 = true) (h : ∀ v ∈ xs, ∃ s1, bindT t (f v) (wipeM s vs) = some s1 ∧ me s1 μ1 = .ok (.bl (p v)) μ1) (hl : xs.length ≤ 16777216) : ∃ L, mLc vs i t mbYes me s μ = .ok (.frl L) μ1 ∧ (∀ μ, fAll [.frl L] μ = .ok (.bl (xs.all p)) μ) ∧ (∀ μ, fAny [.frl L] μ = .ok (.bl (xs.any p)) μ) :=
  ⟨_, lc_map f (fun v => .bl (p v)) hi hchk h hl, fun _ => fAll_bls, fun _ => fAny_bls⟩
theorem over_ctp {m : ME} {s : MS} {μ μ1 : MH} {xs : List PV} (h : m s μ = .ok (.ctp xs) μ1) : mOver m s μ = .ok ⟨xs, always⟩ μ1 := by
  unfold mOver
  rw [h]
  rfl
theorem zipVals_map : ∀ xs ys : List Str, zipVals (xs.map .str) (ys.map .str) = (xs.zip ys).map fun p => .tup [.str p.1, .str p.2]
  | [], ys => by simp [zipVals]
  | x :: xs, [] => by simp [zipVals]
  | x :: xs, y :: ys => by simp [zipVals, zipVals_map xs ys]

/-! ### words, letters -/
abbrev SIG : Str := "abcdefghijklmnopqrstuvwxyz"
abbrev DIG : Str := "0123456789"
def allOf (s z : Str) : Bool := z.cps.toList.all fun k => decide (k ∈ s.cps.toList)
def isWord (z : Str) : Bool := decide (1 ≤ z.length ∧ z.length ≤ 6) && allOf SIG z
theorem fIn_sign {k : Nat} {s : Str} {μ : MH} : fIn (.str (sg k)) (.str s) μ = .ok (.bl (decide (k ∈ s.cps.toList))) μ := by
  unfold fIn inOf
  simp only [seqR, seqT, lstR, lstM]
theorem fNotIn_sign {k : Nat} {s : Str} {μ : MH} : fNotIn (.str (sg k)) (.str s) μ = .ok (.bl (!decide (k ∈ s.cps.toList))) μ := by
  unfold fNotIn inOf
  simp only [seqR, seqT, lstR, lstM]
/-- all([sign in s for sign in z]) -/
theorem lc_all {vs : List Nat} {i : MI} {k : Nat} {mc : ME} {st s2 : MS} {μ : MH} {z s : Str} (hi : i st μ = .ok ⟨z.cps.toList.map fun c => .str (sg c), always⟩ μ) (h2 : wipeM st vs = s2) (hk : k < s2.length) (hc : ∀ w, mc (s2.set k w) μ = .ok (.str s) μ) (hl : z.length ≤ 16000000) :
    ∃ L, mLc vs i (.nm k) mbYes (mOp fIn (mVar k) mc) st μ = .ok (.frl L) μ ∧ (∀ μ, fAll [.frl L] μ = .ok (.bl (allOf s z)) μ) := by
  obtain ⟨L, e1, e2, _⟩ := lc_bls (vs := vs) (i := i) (t := .nm k) (me := mOp fIn (mVar k) mc) (s := st) (μ := μ) (xs := z.cps.toList) (fun c => .str (sg c)) (fun c => decide (c ∈ s.cps.toList)) hi rfl (fun c hc' => ⟨_, rfl, by
    have h3 : (s2.set k (some (.str (sg c))))[k]? = some (some (.str (sg c))) := by rw [List.getElem?_set_self hk]
    rw [h2]
    simp only [mOp, mVar, h3, hc, R.bind_ok]
    exact fIn_sign⟩) (by rw [← str_len]; omega)
  exact ⟨L, e1, e2⟩
def LawWord (c : MF) : Prop := ∀ (z : Str) (μ : MH), z.length ≤ 16000000 → c [.str z] μ = .ok (.bl (isWord z)) μ
theorem law_is_word : LawWord (cleanF raw_is_word) := by
  intro z μ hl
  have e1 : fLen [.str z] μ = .ok (.int (z.length : Nat)) μ := fLen_strA hl
  obtain ⟨L, e2, e3⟩ := lc_all (vs := [1]) (i := mChars (mVar 0)) (k := 1) (mc := mC k_SIGNS) (st := [some (.str z), none]) (s2 := [some (.str z), none]) (μ := μ) (z := z) (s := SIG) rfl rfl (by show 1 < 2; decide) (fun _ => rfl) hl
  have e : raw_is_word [.str z] μ = .ok (.bl (isWord z)) μ := by
    unfold raw_is_word mDef b_is_word isWord
    by_cases h1 : 1 ≤ z.length
    · by_cases h6 : z.length ≤ 6
      · have i1 : (1 : Int) ≤ (z.length : Nat) := by omega
        have i6 : ((z.length : Nat) : Int) ≤ 6 := by omega
        simp [mChain, e1, e2, e3, k_MAX_WORD, i1, i6, h1, h6]
      · have i1 : (1 : Int) ≤ (z.length : Nat) := by omega
        have i6 : ¬ ((z.length : Nat) : Int) ≤ 6 := by omega
        simp [mChain, e1, k_MAX_WORD, i1, i6, h1, h6]
    · have i1 : ¬ (1 : Int) ≤ (z.length : Nat) := by omega
      simp [mChain, e1, k_MAX_WORD, i1, h1]
  unfold cleanF
  rw [e]
  exact cl_self (by simp [PV.lo])
def asc (ls : List Str) : Bool := (ls.zip (ls.drop 1)).all fun p => decide (p.1.cps.toList < p.2.cps.toList)
/-- the letters of a line -/
def okL (ls : List Str) : Bool := decide (1 ≤ ls.length ∧ ls.length ≤ 4) && (ls.all isWord && asc ls)
def LawCk (c : MF) : Prop := ∀ (ls : List Str) (μ : MH), ls.length ≤ 16000000 → (∀ z ∈ ls, z.length ≤ 16000000) → c [sT ls] μ = if okL ls then .ok .non μ else .err "NotAllowed" [] μ
theorem law_check_letters {w : MF} (hw : LawWord w) : LawCk (cleanF (raw_check_letters w)) := by
  intro ls μ hl hz
  obtain ⟨L, e2, e3, _⟩ := lc_bls (vs := [1]) (i := mOver (mVar 0)) (t := .nm 1) (me := mCallP w (msCons (mVar 1) msNil)) (s := [some (sT ls), none, none, none]) (μ := μ) (xs := ls) PV.str isWord (chk := always) rfl rfl (fun k hk => ⟨_, rfl, by simp [wipeM, hw k μ (hz k hk)]⟩) (by omega)
  obtain ⟨M, e4, e5, _⟩ := lc_bls (vs := [2, 3]) (i := mZip (mVar 0) (mSlC (mVar 0) (some (mC (.int 1))) none)) (t := .tp [(.nm 2), (.nm 3)]) (me := mOp fLt (mVar 2) (mVar 3)) (s := [some (sT ls), none, none, none]) (μ := μ) (μ1 := μ) (xs := ls.zip (ls.drop 1)) (fun p => .tup [.str p.1, .str p.2]) (fun p => decide (p.1.cps.toList < p.2.cps.toList)) (chk := fun μ => always μ && always μ) (by
    have : cutL (ls.map PV.str) (some 1) none = (ls.drop 1).map .str := by rw [cutL_map]; congr 1; exact cutL_drop ls 1
    rw [← zipVals_map]
    simp [mZip, mSlC, planOf, this, isT]) rfl (fun p hp => ⟨_, rfl, rfl⟩) (by simp; omega)
  rw [show (ls.zip (ls.drop 1)).all (fun p => decide (p.1.cps.toList < p.2.cps.toList)) = asc ls from rfl] at e5
  have e : raw_check_letters w [sT ls] μ = if okL ls then .ok .non μ else .err "NotAllowed" [] μ := by
    unfold raw_check_letters mDef b_check_letters okL
    by_cases h1 : 1 ≤ ls.length
    · by_cases h4 : ls.length ≤ 4
      · have i1 : (1 : Int) ≤ (ls.length : Nat) := by omega
        have i4 : ((ls.length : Nat) : Int) ≤ 4 := by omega
        generalize ls.all isWord = W at e3 ⊢
        generalize asc ls = V at e5 ⊢
        cases W <;> cases V <;> simp [mChain, e2, e3, e4, e5, k_MAX_LETTERS, i1, i4, h1, h4, sRaise]
      · have i1 : (1 : Int) ≤ (ls.length : Nat) := by omega
        have i4 : ¬ ((ls.length : Nat) : Int) ≤ 4 := by omega
        simp [mChain, k_MAX_LETTERS, i1, i4, h1, h4, sRaise]
    · have i1 : ¬ (1 : Int) ≤ (ls.length : Nat) := by omega
      simp [mChain, k_MAX_LETTERS, i1, h1, sRaise]
  unfold cleanF
  rw [e]
  split
  · exact cl_self (by simp [PV.lo])
  · exact cl_err0
/-! ### the law's letters -/
theorem asc_pair : ∀ ls : List Str, asc ls = true → ls.Pairwise TxLt
  | [], _ => List.Pairwise.nil
  | [x], _ => by simp
  | x :: y :: r, h => by
    have h' : (decide (TxLt x y) && asc (y :: r)) = true := h
    rw [Bool.and_eq_true, decide_eq_true_eq] at h'
    have ih := asc_pair (y :: r) h'.2
    refine List.pairwise_cons.mpr ⟨fun z hz => ?_, ih⟩
    rcases List.mem_cons.mp hz with e | hz
    · rw [e]; exact h'.1
    · exact txlt_trans h'.1 ((List.pairwise_cons.mp ih).1 z hz)
theorem pair_asc : ∀ ls : List Str, ls.Pairwise TxLt → asc ls = true
  | [], _ => rfl
  | [x], _ => rfl
  | x :: y :: r, h => by
    obtain ⟨h1, h2⟩ := List.pairwise_cons.mp h
    show (decide (TxLt x y) && asc (y :: r)) = true
    rw [Bool.and_eq_true, decide_eq_true_eq]
    exact ⟨h1 y List.mem_cons_self, pair_asc (y :: r) h2⟩
theorem asc_sort (ls : List Str) : asc ls = decide (ls = setSort ls) := by
  by_cases h : ls = setSort ls
  · rw [decide_eq_true h]
    exact pair_asc ls (h ▸ setSort_asc ls)
  · rw [decide_eq_false h]
    cases e : asc ls with
    | false => rfl
    | true => exact absurd (asc_uniq (asc_pair ls e) (setSort_asc ls) fun y => (setSort_mem y ls).symm) h
theorem setSort_ok {ls : List Str} {P : Str → Prop} (h : ∀ z ∈ ls, P z) : ∀ z ∈ setSort ls, P z := fun z hz => h z ((setSort_mem z ls).mp hz)
theorem shaped_fS {xs : List Str} (h : ∀ x ∈ xs, PyData.strOk x = true) : SeqAt.shaped (.list (xs.map .str)) = true := by
  unfold SeqAt.shaped
  rw [Bool.and_eq_true, decide_eq_true_eq]
  have := depth_strs xs
  refine ⟨?_, ?_⟩
  · simp [PyData.canLay0, canLay_strs xs h]
  · simp [PyData.depth]; omega
theorem eqvAll_strs {xs ys : List Str} : PyData.eqv (.list (xs.map .str)) (.list (ys.map .str)) = decide (xs = ys) := by
  have p : ∀ zs : List Str, plainD (.list (zs.map .str)) = true := fun zs => by
    unfold plainD
    exact plainDs_strs zs
  have h := eqv_plain (.list (xs.map .str)) (.list (ys.map .str)) (p xs) (p ys)
  have q : (PyData.list (xs.map .str) = .list (ys.map .str)) ↔ xs = ys := by
    constructor
    · intro e
      have : xs.map PyData.str = ys.map .str := by injection e
      exact List.map_inj_right (fun a b h => strD_inj h) |>.mp this
    · rintro rfl; rfl
  rw [q] at h
  cases e : PyData.eqv (.list (xs.map .str)) (.list (ys.map .str)) with
  | true => rw [decide_eq_true (h.mp e)]
  | false =>
    symm
    rw [decide_eq_false_iff_not]
    intro z
    rw [h.mpr z] at e
    cases e
theorem fNe_fS {xs ys : List Str} {μ : MH} (h : ∀ x ∈ xs, PyData.strOk x = true) (h' : ∀ x ∈ ys, PyData.strOk x = true) : fNe (.frl (xs.map .str)) (.frl (ys.map .str)) μ = .ok (.bl (!decide (xs = ys))) μ := by
  unfold fNe
  simp only
  unfold eqD
  have t : ∀ zs : List Str, toD μ (.frl (zs.map .str)) = some (.list (zs.map .str)) := fun zs => by
    simp only [toD, toDs_strs, Option.map]
  rw [t, t]
  simp only
  rw [shaped_fS h, shaped_fS h', eqvAll_strs]
  rfl
end K03

namespace K03
open PySem PySem.Spec PyProof.Rows L2 Mini
/-- [sign for sign in z if sign not in s] -/
theorem lc_bad {vs : List Nat} {i : MI} {k : Nat} {mc : ME} {st s2 : MS} {μ : MH} {z s : Str} (hi : i st μ = .ok ⟨z.cps.toList.map fun c => .str (sg c), always⟩ μ) (h2 : wipeM st vs = s2) (hk : k < s2.length) (hc : ∀ w, mc (s2.set k w) μ = .ok (.str s) μ) (hl : z.length ≤ 16000000) :
    ∃ L, mLc vs i (.nm k) (mbE (mOp fNotIn (mVar k) mc)) (mVar k) st μ = .ok (.frl L) μ ∧ decide (0 < (L.length : Int)) = !allOf s z := by
  have run := comp_pure (chk := always) (t := .nm k) (c := mbE (mOp fNotIn (mVar k) mc)) (me := mVar k) (s := s2) (μ := μ) (fun v => match v with | .str y => if decide (∀ c ∈ y.cps.toList, c ∈ s.cps.toList) then none else some v | _ => none) rfl (z.cps.toList.map fun c => PV.str (sg c)) [] (fun v hv => by
    obtain ⟨c, hc', rfl⟩ := List.mem_map.mp hv
    refine ⟨_, rfl, ?_⟩
    have h3 : (s2.set k (some (.str (sg c))))[k]? = some (some (.str (sg c))) := by rw [List.getElem?_set_self hk]
    have cond : (mbE (mOp fNotIn (mVar k) mc)) (s2.set k (some (.str (sg c)))) μ = .ok (!decide (c ∈ s.cps.toList)) μ := by
      simp only [mbE, mOp, mVar, h3, hc, R.bind_ok, fNotIn_sign, bOf_bl]
    by_cases m : c ∈ s.cps.toList
    · refine .inl ⟨by rw [cond, decide_eq_true m]; rfl, ?_⟩
      have : ∀ d ∈ (sg c).cps.toList, d ∈ s.cps.toList := by simpa using m
      show (if decide (∀ d ∈ (sg c).cps.toList, d ∈ s.cps.toList) = true then none else _) = none
      rw [decide_eq_true this]
      rfl
    · refine .inr ⟨by rw [cond, decide_eq_false m]; rfl, .str (sg c), by simp only [mVar, h3], ?_⟩
      have : ¬ ∀ d ∈ (sg c).cps.toList, d ∈ s.cps.toList := fun q => m (q c (by simp))
      show (if decide (∀ d ∈ (sg c).cps.toList, d ∈ s.cps.toList) = true then none else _) = _
      rw [decide_eq_false this]
      rfl) (by rw [List.length_map, ← str_len, sizeLine_n]; simp; omega)
  refine ⟨_, by unfold mLc; rw [hi]; simp only [R.bind_ok]; rw [h2, run]; rfl, ?_⟩
  rw [List.nil_append]
  unfold allOf
  generalize z.cps.toList = zs
  induction zs with
  | nil => rfl
  | cons c r ih =>
    rw [List.map_cons, List.filterMap_cons, List.all_cons]
    by_cases m : c ∈ s.cps.toList
    · have : ∀ d ∈ (sg c).cps.toList, d ∈ s.cps.toList := by simpa using m
      simp only [decide_eq_true this, if_true, decide_eq_true m, Bool.true_and]
      exact ih
    · have : ¬ ∀ d ∈ (sg c).cps.toList, d ∈ s.cps.toList := fun q => m (q c (by simp))
      simp only [decide_eq_false this, Bool.false_eq_true, if_false, decide_eq_false m, Bool.false_and, Bool.not_false, decide_eq_true_eq]
      rw [List.length_cons]
      omega
def LawAre (c : MF) : Prop := ∀ (ls : List Str) (μ : MH), ls.length ≤ 16000000 → (∀ z ∈ ls, z.length ≤ 16000000 ∧ Ascii z) → c [sT ls] μ = .ok (.bl (okL ls)) μ
theorem are_turn {z : Str} {a c : Option PV} {μ : MH} (hz : z.length ≤ 16000000) : L1__law_are_letters [a, some (.str z), c] μ = if isWord z then .nx [a, some (.str z), c] μ else .rt (.bl false) μ := by
  have e1 : fLen [.str z] μ = .ok (.int (z.length : Nat)) μ := fLen_strA hz
  obtain ⟨L, e2, e3⟩ := lc_bad (vs := [2]) (i := mChars (mVar 1)) (k := 2) (mc := mC (.str "abcdefghijklmnopqrstuvwxyz")) (st := [a, some (.str z), c]) (s2 := [a, some (.str z), none]) (μ := μ) (z := z) (s := SIG) rfl rfl (by show 2 < 3; decide) (fun _ => rfl) hz
  unfold L1__law_are_letters isWord
  by_cases h1 : 1 ≤ z.length
  · by_cases h6 : z.length ≤ 6
    · have i1 : (1 : Int) ≤ (z.length : Nat) := by omega
      have i6 : ((z.length : Nat) : Int) ≤ 6 := by omega
      generalize allOf SIG z = W at e3 ⊢
      cases W <;> simp at e3 <;> simp [mChain, e1, e2, e3, i1, i6, h1, h6]
    · have i1 : (1 : Int) ≤ (z.length : Nat) := by omega
      have i6 : ¬ ((z.length : Nat) : Int) ≤ 6 := by omega
      simp [mChain, e1, i1, i6, h1, h6]
  · have i1 : ¬ (1 : Int) ≤ (z.length : Nat) := by omega
    simp [mChain, e1, i1, h1]
theorem are_loop {a : PV} {μ : MH} : ∀ (zs : List Str) (b c : Option PV), (∀ z ∈ zs, z.length ≤ 16000000) → ∃ b', forGo always (.nm 1) L1__law_are_letters (zs.map .str) [some a, b, c] μ = if zs.all isWord then .nx [some a, b', c] μ else .rt (.bl false) μ
  | [], b, c, _ => ⟨b, by unfold forGo; simp⟩
  | z :: zs, b, c, h => by
    rw [List.map_cons]
    have turn := are_turn (z := z) (a := some a) (c := c) (μ := μ) (h z List.mem_cons_self)
    obtain ⟨b', ih⟩ := are_loop zs (some (.str z)) c fun y hy => h y (List.mem_cons_of_mem _ hy)
    refine ⟨b', ?_⟩
    unfold forGo
    simp only [always_true, if_true, bindT_nm]
    have e : ([some a, b, c] : MS).set 1 (some (.str z)) = [some a, some (.str z), c] := rfl
    rw [e, turn, List.all_cons]
    cases isWord z with
    | true => simp only [if_true, Bool.true_and]; exact ih
    | false => simp
theorem law_are : LawAre (cleanF raw__law_are_letters) := by
  intro ls μ hl hz
  have ne : fNe (.frl (ls.map .str)) (.frl ((setSort ls).map .str)) μ = .ok (.bl (!decide (ls = setSort ls))) μ := fNe_fS (fun z h => (hz z h).2.ok) (setSort_ok (P := fun z => PyData.strOk z = true) fun z h => (hz z h).2.ok)
  rw [← asc_sort] at ne
  obtain ⟨b', loop⟩ := are_loop (a := sT ls) (μ := μ) ls none none fun z h => (hz z h).1
  have e : raw__law_are_letters [sT ls] μ = .ok (.bl (okL ls)) μ := by
    unfold raw__law_are_letters mDef b__law_are_letters okL
    by_cases h1 : 1 ≤ ls.length
    · by_cases h4 : ls.length ≤ 4
      · have i1 : (1 : Int) ≤ (ls.length : Nat) := by omega
        have i4 : ((ls.length : Nat) : Int) ≤ 4 := by omega
        have srt : fSortSet (sT ls) μ = .ok (.frl ((setSort ls).map .str)) μ := by
          unfold fSortSet
          simp only [seqT, strsOf_map]
          rw [if_pos (by omega)]
        have lst : fList [sT ls] μ = .ok (.frl (ls.map .str)) μ := rfl
        generalize asc ls = V at ne ⊢
        generalize ls.all isWord = W at loop ⊢
        cases V <;> cases W <;> simp [mChain, i1, i4, h1, h4, srt, lst, ne, sFor, mOver, planOf, loop]
      · have i1 : (1 : Int) ≤ (ls.length : Nat) := by omega
        have i4 : ¬ ((ls.length : Nat) : Int) ≤ 4 := by omega
        simp [mChain, i1, i4, h1, h4]
    · have i1 : ¬ (1 : Int) ≤ (ls.length : Nat) := by omega
      simp [mChain, i1, h1]
  unfold cleanF
  rw [e]
  exact cl_self (by simp [PV.lo])
end K03

namespace K03
open PySem PySem.Spec PyProof.Rows L2 Mini
/-! ### the numbers of states -/
def isDig (a : Nat) : Bool := decide (48 ≤ a ∧ a ≤ 57)
def nvL : List Nat → Int
  | [a] => if isDig a then (a : Int) - 48 else 99
  | [a, b] => if isDig a && isDig b && !decide (a = 48) then ((a : Int) - 48) * 10 + ((b : Int) - 48) else 99
  | _ => 99
def nv (z : Str) : Int := nvL z.cps.toList
theorem dig_mem (a : Nat) : (a ∈ DIG.cps.toList) ↔ isDig a = true := by
  have e : DIG.cps.toList = [48, 49, 50, 51, 52, 53, 54, 55, 56, 57] := by decide
  rw [e]
  unfold isDig
  rw [decide_eq_true_eq]
  simp
  omega
theorem int1 : ∀ a ∈ DIG.cps.toList, PySem.intText? ⟨#[a]⟩ = some ((a : Int) - 48) := by decide +kernel
theorem int2 : ∀ a ∈ DIG.cps.toList, ∀ b ∈ DIG.cps.toList, PySem.intText? ⟨#[a, b]⟩ = some (((a : Int) - 48) * 10 + ((b : Int) - 48)) := by decide +kernel
theorem of_list {z : Str} {l : List Nat} (h : z.cps.toList = l) : z = ⟨l.toArray⟩ := str_ext (by rw [h])
theorem fInt1 {a : Nat} {μ : MH} (h : isDig a = true) : fInt [.str ⟨#[a]⟩] μ = .ok (.int ((a : Int) - 48)) μ := by
  unfold fInt
  simp only [int1 a ((dig_mem a).mpr h)]
  rw [if_pos (by show 1 ≤ 640; decide)]
theorem fInt2 {a b : Nat} {μ : MH} (h : isDig a = true) (h' : isDig b = true) : fInt [.str ⟨#[a, b]⟩] μ = .ok (.int (((a : Int) - 48) * 10 + ((b : Int) - 48))) μ := by
  unfold fInt
  simp only [int2 a ((dig_mem a).mpr h) b ((dig_mem b).mpr h')]
  rw [if_pos (by show 2 ≤ 640; decide)]
theorem in12 {n : Nat} {μ : MH} : fIn (.int (n : Nat)) (.ctp [.int 1, .int 2]) μ = .ok (.bl (decide (n = 1 ∨ n = 2))) μ := by
  unfold fIn inOf
  simp only [seqR, seqT, flatP, flatPs]
  congr 2
  by_cases h1 : n = 1
  · subst h1; decide
  · by_cases h2 : n = 2
    · subst h2; decide
    · have no : ¬ (n = 1 ∨ n = 2) := by omega
      rw [decide_eq_false no]
      have e1 : ¬ (1 : Int) = (n : Nat) := by omega
      have e2 : ¬ (2 : Int) = (n : Nat) := by omega
      unfold inV
      simp [eqV, e1, e2]
theorem notIn12 {n : Nat} {μ : MH} : fNotIn (.int (n : Nat)) (.frl [.int 1, .int 2]) μ = .ok (.bl (!decide (n = 1 ∨ n = 2))) μ := by
  unfold fNotIn inOf
  simp only [seqR, seqT, lstR, lstM, flatP, flatPs]
  congr 3
  by_cases h1 : n = 1
  · subst h1; decide
  · by_cases h2 : n = 2
    · subst h2; decide
    · have no : ¬ (n = 1 ∨ n = 2) := by omega
      rw [decide_eq_false no]
      have e1 : ¬ (1 : Int) = (n : Nat) := by omega
      have e2 : ¬ (2 : Int) = (n : Nat) := by omega
      unfold inV
      simp [eqV, e1, e2]
theorem ni0 {μ : MH} : fNotIn (.int 0) (.frl [.int 1, .int 2]) μ = .ok (.bl true) μ := notIn12 (n := 0)
theorem ni1 {μ : MH} : fNotIn (.int 1) (.frl [.int 1, .int 2]) μ = .ok (.bl false) μ := notIn12 (n := 1)
theorem ni2 {μ : MH} : fNotIn (.int 2) (.frl [.int 1, .int 2]) μ = .ok (.bl false) μ := notIn12 (n := 2)
theorem i0 {μ : MH} : fIn (.int 0) (.ctp [.int 1, .int 2]) μ = .ok (.bl false) μ := in12 (n := 0)
theorem i1 {μ : MH} : fIn (.int 1) (.ctp [.int 1, .int 2]) μ = .ok (.bl true) μ := in12 (n := 1)
theorem i2 {μ : MH} : fIn (.int 2) (.ctp [.int 1, .int 2]) μ = .ok (.bl true) μ := in12 (n := 2)
def LawNum (c : MF) : Prop := ∀ (z : Str) (μ : MH), z.length ≤ 16000000 → c [.str z] μ = .ok (.int (nv z)) μ
def LawRd (c : MF) : Prop := ∀ (z : Str) (μ : MH), z.length ≤ 16000000 → c [.str z] μ = .ok (if nv z < 30 then .int (nv z) else .non) μ
theorem sg_eq {a : Nat} : ((sg a : Str) = ("0" : Str)) ↔ a = 48 := by
  constructor
  · intro h
    have := congrArg (fun z : Str => z.cps.toList) h
    have e : (("0" : Str)).cps.toList = [48] := by decide
    rw [e] at this
    simpa using this
  · rintro rfl; decide
theorem law_number : LawNum (cleanF raw__law_number) := by
  intro z μ hl
  have e1 : fLen [.str z] μ = .ok (.int (z.length : Nat)) μ := fLen_strA hl
  obtain ⟨L, e2, e3⟩ := lc_bad (vs := [1]) (i := mChars (mVar 0)) (k := 1) (mc := mC (.str "0123456789")) (st := [some (.str z), none]) (s2 := [some (.str z), none]) (μ := μ) (z := z) (s := DIG) rfl rfl (by show 1 < 2; decide) (fun _ => rfl) hl
  have e : raw__law_number [.str z] μ = .ok (.int (nv z)) μ := by
    unfold raw__law_number mDef b__law_number
    have zl := str_len z
    unfold nv
    unfold allOf at e3
    cases h : z.cps.toList with
    | nil =>
      rw [h] at zl
      have n0 : z.length = 0 := zl
      rw [n0] at e1
      simp [e1, ni0, nvL]
    | cons a r =>
      cases r with
      | nil =>
        rw [h] at zl e3
        have n1 : z.length = 1 := zl
        have ez := of_list h
        rw [n1] at e1
        simp only [List.all_cons, List.all_nil, Bool.and_true] at e3
        have dm := dig_mem a
        unfold nvL
        cases d : isDig a with
        | true =>
          have : a ∈ DIG.cps.toList := dm.mpr d
          rw [decide_eq_true this] at e3
          subst ez
          have fi := fInt1 (μ := μ) d
          simp at e3
          simp [e1, ni1, e2, e3, fi, d]
        | false =>
          have : ¬ a ∈ DIG.cps.toList := fun q => by rw [dm.mp q] at d; cases d
          rw [decide_eq_false this] at e3
          simp at e3
          simp [e1, ni1, e2, e3, d]
      | cons b r =>
        cases r with
        | nil =>
          rw [h] at zl e3
          have n2 : z.length = 2 := zl
          have ez := of_list h
          rw [n2] at e1
          simp only [List.all_cons, List.all_nil, Bool.and_true] at e3
          have dm := dig_mem a
          have dm2 := dig_mem b
          have ix : fIx (.str z) (.int 0) μ = .ok (.str (sg a)) μ := by
            unfold fIx
            simp only [seqT, lstR, lstM]
            rw [if_pos (by rw [sizeLine_n, n2]; decide), h]
            rfl
          unfold nvL
          cases d : isDig a with
          | true =>
            have m1 : a ∈ DIG.cps.toList := dm.mpr d
            cases d2 : isDig b with
            | true =>
              have m2 : b ∈ DIG.cps.toList := dm2.mpr d2
              rw [decide_eq_true m1, decide_eq_true m2] at e3
              simp at e3
              by_cases a0 : a = 48
              · subst a0
                have q : (sg 48 : Str) = ("0" : Str) := by decide
                simp [e1, ni2, e2, e3, ix, q]
              · have q : ¬ (sg a : Str) = ("0" : Str) := fun q => a0 (sg_eq.mp q)
                have fi := fInt2 (μ := μ) d d2
                subst ez
                simp [e1, ni2, e2, e3, ix, q, a0, fi, d, d2]
            | false =>
              have m2 : ¬ b ∈ DIG.cps.toList := fun q => by rw [dm2.mp q] at d2; cases d2
              rw [decide_eq_true m1, decide_eq_false m2] at e3
              simp at e3
              simp [e1, ni2, e2, e3, d, d2]
          | false =>
            have m1 : ¬ a ∈ DIG.cps.toList := fun q => by rw [dm.mp q] at d; cases d
            rw [decide_eq_false m1] at e3
            simp at e3
            simp [e1, ni2, e2, e3, d]
        | cons c r =>
          rw [h] at zl
          have n3 : ¬ (z.length = 1 ∨ z.length = 2) := by rw [zl]; simp
          have nin := notIn12 (n := z.length) (μ := μ)
          rw [decide_eq_false n3] at nin
          simp [e1, nin, nvL]
  unfold cleanF
  rw [e]
  exact cl_self (by simp [PV.lo])
theorem z_eq {z : Str} {l : List Nat} (h : z.cps.toList = l) (hl : l ≠ [48]) : ¬ z = ("0" : Str) := fun e => hl (by
  rw [← h, e]
  decide)
theorem law_rd : LawRd (cleanF raw_read_number) := by
  intro z μ hl
  have e1 : fLen [.str z] μ = .ok (.int (z.length : Nat)) μ := fLen_strA hl
  obtain ⟨L, e2, e3⟩ := lc_all (vs := [2]) (i := mChars (mVar 0)) (k := 2) (mc := mC (.str "0123456789")) (st := [some (.str z), none, none]) (s2 := [some (.str z), none, none]) (μ := μ) (z := z) (s := DIG) rfl rfl (by show 2 < 3; decide) (fun _ => rfl) hl
  have e : raw_read_number [.str z] μ = .ok (if nv z < 30 then .int (nv z) else .non) μ := by
    unfold raw_read_number mDef b_read_number
    have zl := str_len z
    unfold nv
    unfold allOf at e3
    cases h : z.cps.toList with
    | nil =>
      rw [h] at zl
      have n0 : z.length = 0 := zl
      rw [n0] at e1
      simp [e1, i0, nvL]
    | cons a r =>
      cases r with
      | nil =>
        rw [h] at zl e3
        have n1 : z.length = 1 := zl
        have ez := of_list h
        rw [n1] at e1
        simp only [List.all_cons, List.all_nil, Bool.and_true] at e3
        have dm := dig_mem a
        have ix : fIx (.str z) (.int 0) μ = .ok (.str (sg a)) μ := by
          unfold fIx
          simp only [seqT, lstR, lstM]
          rw [if_pos (by rw [sizeLine_n, n1]; decide), h]
          rfl
        unfold nvL
        cases d : isDig a with
        | true =>
          have m : a ∈ DIG.cps.toList := dm.mpr d
          rw [decide_eq_true m] at e3
          have lt : (a : Int) - 48 < 30 := by
            unfold isDig at d
            rw [decide_eq_true_eq] at d
            omega
          have fi := fInt1 (μ := μ) d
          by_cases a0 : a = 48
          · subst a0
            have ez2 : z = ("0" : Str) := ez.trans (by decide)
            have fi0 : fInt [.str ("0" : Str)] μ = .ok (.int 0) μ := fi
            subst ez2
            simp [e1, i1, e2, e3, fi0, k_MAX_STATES, d]
          · have nz := z_eq h (by simpa using a0)
            have q : ¬ (sg a : Str) = ("0" : Str) := fun q => a0 (sg_eq.mp q)
            have fz : fInt [.str z] μ = .ok (.int ((a : Int) - 48)) μ := by rw [ez]; exact fi
            simp [e1, i1, e2, e3, fz, k_MAX_STATES, nz, ix, q, lt, d, fNe]
        | false =>
          have m : ¬ a ∈ DIG.cps.toList := fun q => by rw [dm.mp q] at d; cases d
          rw [decide_eq_false m] at e3
          simp [e1, i1, e2, e3, d]
      | cons b r =>
        cases r with
        | nil =>
          rw [h] at zl e3
          have n2 : z.length = 2 := zl
          have ez := of_list h
          rw [n2] at e1
          simp only [List.all_cons, List.all_nil, Bool.and_true] at e3
          have dm := dig_mem a
          have dm2 := dig_mem b
          have ix : fIx (.str z) (.int 0) μ = .ok (.str (sg a)) μ := by
            unfold fIx
            simp only [seqT, lstR, lstM]
            rw [if_pos (by rw [sizeLine_n, n2]; decide), h]
            rfl
          have nz := z_eq h (by simp)
          unfold nvL
          cases d : isDig a with
          | true =>
            have m1 : a ∈ DIG.cps.toList := dm.mpr d
            cases d2 : isDig b with
            | true =>
              have m2 : b ∈ DIG.cps.toList := dm2.mpr d2
              rw [decide_eq_true m1, decide_eq_true m2] at e3
              by_cases a0 : a = 48
              · subst a0
                have q : (sg 48 : Str) = ("0" : Str) := by decide
                simp [e1, i2, e2, e3, ix, q, nz, fNe, d]
              · have q : ¬ (sg a : Str) = ("0" : Str) := fun q => a0 (sg_eq.mp q)
                have fz : fInt [.str z] μ = .ok (.int (((a : Int) - 48) * 10 + ((b : Int) - 48))) μ := by rw [ez]; exact fInt2 d d2
                by_cases lt : ((a : Int) - 48) * 10 + ((b : Int) - 48) < 30
                · simp [e1, i2, e2, e3, ix, q, nz, fNe, a0, fz, k_MAX_STATES, lt, d, d2]
                · simp [e1, i2, e2, e3, ix, q, nz, fNe, a0, fz, k_MAX_STATES, lt, d, d2]
            | false =>
              have m2 : ¬ b ∈ DIG.cps.toList := fun q => by rw [dm2.mp q] at d2; cases d2
              rw [decide_eq_true m1, decide_eq_false m2] at e3
              simp [e1, i2, e2, e3, d, d2]
          | false =>
            have m1 : ¬ a ∈ DIG.cps.toList := fun q => by rw [dm.mp q] at d; cases d
            rw [decide_eq_false m1] at e3
            simp [e1, i2, e2, e3, d]
        | cons c r =>
          rw [h] at zl
          have n3 : ¬ (z.length = 1 ∨ z.length = 2) := by rw [zl]; simp
          have nin := in12 (n := z.length) (μ := μ)
          rw [decide_eq_false n3] at nin
          simp [e1, nin, nvL]
  unfold cleanF
  rw [e]
  split
  · exact cl_self (by simp [PV.lo])
  · exact cl_self (by simp [PV.lo])
theorem nv_range (z : Str) : 0 ≤ nv z ∧ nv z ≤ 99 := by
  unfold nv
  generalize z.cps.toList = l
  match l with
  | [] => simp [nvL]
  | [a] =>
    simp only [nvL]
    split
    · rename_i h
      unfold isDig at h
      rw [decide_eq_true_eq] at h
      omega
    · omega
  | [a, b] =>
    simp only [nvL]
    split
    · rename_i h
      unfold isDig at h
      simp only [Bool.and_eq_true, decide_eq_true_eq] at h
      omega
    · omega
  | a :: b :: c :: r => simp [nvL]
end K03

namespace K03
open PySem PySem.Spec PyProof.Rows L2 Mini
/-! ### lines -/
/-- a text that is not too long -/
def Tx (z : Str) : Prop := z.length ≤ 500000 ∧ Ascii z
def wd (l : Str) : List Str := Txt.split l (sg 32)
def ln (t : Str) : List Str := Txt.split t (sg 10)
theorem sp_eq : ((" " : Str)) = sg 32 := by decide
theorem nl_eq : (("\n" : Str)) = sg 10 := by decide
theorem Tx.part {z p y : Str} (h : Tx z) (hp : p ∈ Txt.split z y) : Tx p := ⟨Nat.le_trans (part_short hp) h.1, h.2.split hp⟩
theorem split_sp {l : Str} {μ : MH} (h : Tx l) : fSplit false (.str l) [.str " "] μ = .ok (.frl ((wd l).map .str)) μ := by
  rw [sp_eq]
  exact fSplit_run (by have := h.1; omega)
theorem split_nl {t : Str} {μ : MH} (h : Tx t) : fSplit false (.str t) [.str "\n"] μ = .ok (.frl ((ln t).map .str)) μ := by
  rw [nl_eq]
  exact fSplit_run (by have := h.1; omega)
theorem splitP_sp {l : Str} {μ : MH} (h : Tx l) : fSplit true (.str l) [.str " "] μ = .ok (.ref μ.length) (μ ++ [.lst ((wd l).map .str)]) := by
  rw [sp_eq]
  exact fSplitP_run (by have := h.1; omega)
theorem splitP_nl {t : Str} {μ : MH} (h : Tx t) : fSplit true (.str t) [.str "\n"] μ = .ok (.ref μ.length) (μ ++ [.lst ((ln t).map .str)]) := by
  rw [nl_eq]
  exact fSplitP_run (by have := h.1; omega)
theorem wd_len {l : Str} (h : Tx l) : (wd l).length ≤ 500002 := by
  have := split_le l (sg 32)
  have := h.1
  show (Txt.split l (sg 32)).length ≤ _
  omega
theorem ln_len {t : Str} (h : Tx t) : (ln t).length ≤ 500002 := by
  have := split_le t (sg 10)
  have := h.1
  show (Txt.split t (sg 10)).length ≤ _
  omega
theorem wd_ne (l : Str) : wd l ≠ [] := split_ne _ _
theorem ln_ne (t : Str) : ln t ≠ [] := split_ne _ _
theorem isStr_str {z : Str} {μ : MH} : isStr (.str z) μ = true := rfl
/-! ### letters of a line -/
def LawRL (c : MF) : Prop := ∀ (l : Str) (μ : MH), Tx l → c [.str l] μ = .ok (if okL (wd l) then sT (wd l) else .non) μ
theorem law_read_letters {ck : MF} (h : LawCk ck) : LawRL (cleanF (raw_read_letters ck)) := by
  intro l μ hl
  have e1 := split_sp (μ := μ) hl
  have e2 := h (wd l) μ (by have := wd_len hl; omega) (fun z hz => by have := (hl.part hz).1; omega)
  have e : raw_read_letters ck [.str l] μ = .ok (if okL (wd l) then sT (wd l) else .non) μ := by
    unfold raw_read_letters mDef b_read_letters
    cases k : okL (wd l) with
    | true =>
      rw [k] at e2
      simp [mMeth, isStr_str, e1, sTryNon, e2]
    | false =>
      rw [k] at e2
      simp [mMeth, isStr_str, e1, sTryNon, e2]
  unfold cleanF
  rw [e]
  split
  · exact cl_self (by simp [PV.lo, los_strs])
  · exact cl_self (by simp [PV.lo])
/-! ### a state's line -/
abbrev St := Int × List Int
def rowOf (l : Str) : List Int := ((wd l).drop 1).map nv
def rs (l : Str) (many : Nat) : Option St := if ((wd l).headD "" = "+" ∨ (wd l).headD "" = ".") ∧ (rowOf l).length = many ∧ (rowOf l).all (fun n => decide (n < 30)) = true then some (if (wd l).headD "" = "+" then 1 else 0, rowOf l) else none
def stV (s : St) : PV := .ctp [.int s.1, .ctp (s.2.map .int)]
def stO : Option St → PV
  | none => .non
  | some s => stV s
theorem head_ix {l : Str} {μ : MH} : fIx (.frl ((wd l).map .str)) (.int 0) μ = .ok (.str ((wd l).headD "")) μ := by
  rw [fIx_frl]
  cases h : wd l with
  | nil => exact absurd h (wd_ne l)
  | cons x r =>
    have : atI (List.map PV.str (x :: r)) ((0 : Nat) : Int) = some (.str x) := Mini.atI_nat rfl
    have this' : atI (List.map PV.str (x :: r)) 0 = some (.str x) := this
    rw [this']
    rfl
theorem pm_in {z : Str} {μ : MH} : fNotIn (.str z) (.ctp [.str "+", .str "."]) μ = .ok (.bl (!decide (z = "+" ∨ z = "."))) μ := by
  have h := fNotIn_sT (z := z) (xs := ["+", "."]) (μ := μ)
  have e : decide (z ∈ (["+", "."] : List Str)) = decide (z = "+" ∨ z = ".") := by simp
  rw [e] at h
  exact h
theorem pm_in2 {z : Str} {μ : MH} : fNotIn (.str z) (.frl [.str ".", .str "+"]) μ = .ok (.bl (!decide (z = "+" ∨ z = "."))) μ := by
  have h := fNotIn_fS (z := z) (xs := [".", "+"]) (μ := μ)
  have e : decide (z ∈ ([".", "+"] : List Str)) = decide (z = "+" ∨ z = ".") := by
    by_cases h1 : z = "+" <;> by_cases h2 : z = "." <;> simp [h1, h2]
  rw [e] at h
  exact h
def cellV (n : Int) : PV := if n < 30 then .int n else .non
def cellW (n : Int) : V := if n < 30 then .int n else .non
theorem flat_cells : ∀ ns : List Int, flatPs (ns.map cellV) = some (ns.map cellW)
  | [] => rfl
  | n :: r => by
    rw [List.map_cons, List.map_cons]
    unfold flatPs
    rw [flat_cells r]
    unfold cellV cellW
    by_cases h : n < 30
    · simp [h, flatP]
    · simp [h, flatP]
theorem in_cells : ∀ ns : List Int, inV .non (ns.map cellW) = !ns.all fun n => decide (n < 30)
  | [] => rfl
  | n :: r => by
    have ih := in_cells r
    unfold inV at ih ⊢
    rw [List.map_cons, List.any_cons, List.all_cons, ih]
    unfold cellW
    by_cases h : n < 30
    · simp [h, eqV]
    · simp [h, eqV]
theorem none_in {ns : List Int} {μ : MH} : fIn .non (.frl (ns.map cellV)) μ = .ok (.bl (!ns.all fun n => decide (n < 30))) μ := by
  unfold fIn inOf
  simp only [seqR, seqT, lstR, lstM]
  rw [flat_cells]
  simp only [flatP]
  rw [in_cells]
def LawRS (c : MF) : Prop := ∀ (l : Str) (many : Nat) (μ : MH), Tx l → c [.str l, .int (many : Nat)] μ = .ok (stO (rs l many)) μ
theorem cells_int : ∀ ns : List Int, (ns.all fun n => decide (n < 30)) = true → ns.map cellV = ns.map .int
  | [], _ => rfl
  | n :: r, h => by
    rw [List.all_cons, Bool.and_eq_true, decide_eq_true_eq] at h
    rw [List.map_cons, List.map_cons, cells_int r h.2]
    unfold cellV
    rw [if_pos h.1]
theorem law_read_state {rd : MF} (h : LawRd rd) : LawRS (cleanF (raw_read_state rd)) := by
  intro l many μ hl
  have e1 := split_sp (μ := μ) hl
  have hw := wd_len hl
  have cut : cutL ((wd l).map PV.str) (some 1) none = ((wd l).drop 1).map .str := by rw [cutL_map]; congr 1; exact cutL_drop (wd l) 1
  have e2 := lc_map (vs := [4]) (i := mOver (mSlC (mVar 2) (some (mC (.int 1))) none)) (t := .nm 4) (me := mCallP rd (msCons (mVar 4) msNil)) (s := [some (.str l), some (.int (many : Nat)), some (.frl ((wd l).map .str)), none, none]) (μ := μ) (μ1 := μ) (chk := always) (xs := (wd l).drop 1) PV.str (fun z => cellV (nv z)) (by
    simp [mOver, mSlC, planOf, cut]) rfl (fun z hz => ⟨_, rfl, by
      have := (hl.part (List.mem_of_mem_drop hz)).1
      simp [wipeM, h z μ (by omega), cellV]⟩) (by rw [List.length_drop]; omega)
  have e3 : ((wd l).drop 1).map (fun z => cellV (nv z)) = (rowOf l).map cellV := by unfold rowOf; rw [List.map_map]; rfl
  rw [e3] at e2
  have e : raw_read_state rd [.str l, .int (many : Nat)] μ = .ok (stO (rs l many)) μ := by
    unfold raw_read_state mDef b_read_state rs
    generalize rowOf l = row at e2 ⊢
    have hx := head_ix (l := l) (μ := μ)
    generalize (wd l).headD "" = hd at hx ⊢
    have pm := pm_in (z := hd) (μ := μ)
    have ni := none_in (ns := row) (μ := μ)
    have cells := cells_int row
    by_cases c1 : hd = "+" ∨ hd = "."
    · rw [decide_eq_true c1] at pm
      by_cases c2 : row.length = many
      · cases c3 : row.all fun n => decide (n < 30) with
        | true =>
          rw [c3] at ni
          have cl := cells c3
          rw [cl] at ni e2
          by_cases p : hd = "+"
          · subst p
            simp [mMeth, isStr_str, e1, e2, hx, pm, c2, ni, stO, stV]
          · have c4 : hd = "." := c1.resolve_left p
            subst c4
            simp [mMeth, isStr_str, e1, e2, hx, pm, c2, ni, stO, stV]
        | false =>
          rw [c3] at ni
          simp [mMeth, isStr_str, e1, e2, hx, pm, c2, ni, stO]
      · have c2' : ¬ ((row.length : Nat) : Int) = (many : Nat) := by omega
        simp [mMeth, isStr_str, e1, e2, hx, pm, c1, c2, c2', stO]
    · rw [decide_eq_false c1] at pm
      simp [mMeth, isStr_str, e1, e2, hx, pm, c1, stO]
  unfold cleanF
  rw [e]
  cases rs l many with
  | none => exact cl_self (by simp [stO, PV.lo])
  | some s => exact cl_self (by simp [stO, stV, PV.lo, PV.los, los_ints])
end K03

namespace K03
open PySem PySem.Spec PyProof.Rows L2 Mini
/-! ### what a text says -/
def body (many : Nat) : Nat → List Str → List St → Nat ⊕ List St
  | _, [], acc => .inr acc
  | n, l :: r, acc => match rs l many with
    | none => .inl n
    | some s => if acc.length + 1 > 30 then .inl n else body many (n + 1) r (acc ++ [s])
def fin (last : Str) (sts : List St) : Bool := decide (last = "") && (decide (sts.length ≠ 0) && decide (maxL (sts.map fun s => maxL s.2) < (sts.length : Nat)))
def tail (ls : List Str) (l0 : Str) (sts : List St) : Nat ⊕ (List Str × List St) := if fin (ls.getLastD "") sts then .inr (wd l0, sts) else .inl ls.length
def parse (t : Str) : Nat ⊕ (List Str × List St) := match (ln t).dropLast with
  | [] => .inl (ln t).length
  | l0 :: r => if okL (wd l0) then (match body (wd l0).length 2 r [] with
    | .inl n => .inl n
    | .inr sts => tail (ln t) l0 sts) else .inl 1
def machV (m : List Str × List St) : PV := .ctp [sT m.1, .ctp (m.2.map fun s => .ctp (s.2.map .int)), .ctp (m.2.map fun s => .int s.1)]
/-! ### the states read so far -/
def dO : Option St → PyData
  | none => .none
  | some s => .tuple [.int s.1, .tuple (s.2.map .int)]
theorem pDs_ints : ∀ ns : List Int, pDs (ns.map .int) = some (ns.map .int)
  | [] => rfl
  | n :: r => by rw [List.map_cons, List.map_cons]; unfold pDs; rw [pDs_ints r]; rfl
theorem pDs_sts : ∀ os : List (Option St), pDs (os.map stO) = some (os.map dO)
  | [] => rfl
  | o :: r => by
    rw [List.map_cons, List.map_cons]
    unfold pDs
    rw [pDs_sts r]
    cases o with
    | none => rfl
    | some s => simp [stO, stV, dO, pD, pDs, pDs_ints]
theorem canLay_ints : ∀ ns : List Int, PyData.canLayAll0 (ns.map .int) = true
  | [] => by simp [PyData.canLayAll0]
  | n :: r => by rw [List.map_cons]; unfold PyData.canLayAll0; rw [canLay_ints r]; simp [PyData.canLay0]
theorem depth_ints : ∀ ns : List Int, PyData.depthAll (ns.map .int) ≤ 1
  | [] => by simp [PyData.depthAll]
  | n :: r => by rw [List.map_cons]; have := depth_ints r; simp [PyData.depthAll, PyData.depth]; omega
theorem lay_sts : ∀ os : List (Option St), PyData.canLayAll0 (os.map dO) = true ∧ PyData.depthAll (os.map dO) ≤ 4
  | [] => by simp [PyData.canLayAll0, PyData.depthAll]
  | o :: r => by
    obtain ⟨h1, h2⟩ := lay_sts r
    rw [List.map_cons]
    unfold PyData.canLayAll0 PyData.depthAll
    rw [h1]
    cases o with
    | none => simp [dO, PyData.canLay0, PyData.depth]; omega
    | some s =>
      have := depth_ints s.2
      simp [dO, PyData.canLay0, PyData.canLayAll0, canLay_ints, PyData.depth, PyData.depthAll]
      omega
theorem shaped_sts (os : List (Option St)) : SeqAt.shaped (.list (os.map dO)) = true := by
  obtain ⟨h1, h2⟩ := lay_sts os
  unfold SeqAt.shaped
  rw [Bool.and_eq_true, decide_eq_true_eq]
  refine ⟨?_, ?_⟩
  · simp [PyData.canLay0, h1]
  · simp [PyData.depth]; omega
theorem any_sts : ∀ os : List (Option St), (os.map dO).any (fun z => PyData.eqv z .none) = os.any (·.isNone)
  | [] => rfl
  | o :: r => by
    rw [List.map_cons, List.any_cons, List.any_cons, any_sts r]
    cases o with
    | none => rfl
    | some s => rfl
theorem flat_sts : ∀ os : List (Option St), os.any (·.isSome) = true → flatPs (os.map stO) = none
  | [], h => by simp at h
  | o :: r, h => by
    rw [List.map_cons]
    unfold flatPs
    cases o with
    | none =>
      have : r.any (·.isSome) = true := by simpa using h
      rw [flat_sts r this]
      rfl
    | some s => simp [stO, stV, flatP]
theorem nones_in {os : List (Option St)} {n : Nat} {μ : MH} (h : μ[n]? = some (.lst (os.map stO))) : fIn .non (.ref n) μ = .ok (.bl (os.any (·.isNone))) μ := by
  unfold fIn inOf
  simp only [seqR, seqT, lstR, lstM, h, flatP]
  cases q : os.any (·.isSome) with
  | true =>
    rw [flat_sts os q]
    simp only [toD, h, pDs_sts, Option.map]
    rw [shaped_sts, any_sts]
    rfl
  | false =>
    have all : os = List.replicate os.length none := by
      rw [List.eq_replicate_iff]
      refine ⟨rfl, fun o ho => ?_⟩
      rw [List.any_eq_false] at q
      have := q o ho
      cases o with
      | none => rfl
      | some s => simp at this
    have fl : ∀ k : Nat, flatPs ((List.replicate k (none : Option St)).map stO) = some (List.replicate k V.non) := by
      intro k
      induction k with
      | zero => rfl
      | succ k ih =>
        rw [List.replicate_succ, List.map_cons]
        unfold flatPs
        rw [ih]
        rfl
    rw [all, fl]
    simp only
    congr 2
    generalize os.length = k
    unfold inV
    cases k with
    | zero => rfl
    | succ k => rw [List.replicate_succ, List.replicate_succ]; rfl
/-! ### the walk over the lines -/
theorem some_sts (acc : List St) : acc.map stV = (acc.map some).map stO := by rw [List.map_map]; rfl
theorem any_none (acc : List St) (o : Option St) : ((acc.map some) ++ [o]).any (·.isNone) = o.isNone := by
  rw [List.any_append]
  have : (acc.map some).any (·.isNone) = false := by
    rw [List.any_eq_false]
    intro x hx
    obtain ⟨s, _, rfl⟩ := List.mem_map.mp hx
    simp
  rw [this]
  simp
/-- one line behind the first -/
theorem rm_turn {rl sr : MF} (hs : LawRS sr) {T Ls : PV} {ws : List Str} {n : Nat} {l : Str} {acc : List St} {a6 a7 a8 : Option PV} {μ : MH} (hn : 2 ≤ n) (hn2 : n ≤ 900000) (hl : Tx l) (ha : acc.length ≤ 30) :
    L1_read_machine rl sr [some T, some Ls, some (sT ws), some (.ref μ.length), some (.int (n : Nat)), some (.str l), a6, a7, a8] (μ ++ [.lst (acc.map stV)]) = match rs l ws.length with
      | none => .er "BadForm" [.int (n : Nat)] [some T, some Ls, some (sT ws), some (.ref μ.length), some (.int (n : Nat)), some (.str l), a6, a7, a8] (μ ++ [.lst (acc.map stV ++ [.non])])
      | some s => if acc.length + 1 > 30 then .er "BadForm" [.int (n : Nat)] [some T, some Ls, some (sT ws), some (.ref μ.length), some (.int (n : Nat)), some (.str l), a6, a7, a8] (μ ++ [.lst ((acc ++ [s]).map stV)])
        else .nx [some T, some Ls, some (sT ws), some (.ref μ.length), some (.int (n : Nat)), some (.str l), a6, a7, a8] (μ ++ [.lst ((acc ++ [s]).map stV)]) := by
  have n1 : ¬ ((n : Nat) : Int) = 1 := by omega
  have small : n ≤ 999999 := by omega
  have e1 := hs l ws.length (μ ++ [.lst (acc.map stV)]) hl
  have ap := append_new (μ := μ) (xs := acc.map stV) (v := stO (rs l ws.length)) (by rw [List.length_map]; omega)
  have isl := isL_new μ (acc.map stV)
  have get2 : ∀ xs : List PV, (μ ++ [MO.lst xs])[μ.length]? = some (.lst xs) := fun xs => by simp
  have lenN : ∀ xs : List PV, fLen [.ref μ.length] (μ ++ [.lst xs]) = .ok (.int (xs.length : Nat)) (μ ++ [.lst xs]) := fun xs => fLen_new
  have big : (30 : Int) < ((acc.length + 1 : Nat) : Int) ↔ acc.length + 1 > 30 := by omega
  unfold L1_read_machine
  cases o : rs l ws.length with
  | none =>
    rw [o] at e1 ap
    simp only [stO] at e1 ap
    have nin := nones_in (os := acc.map some ++ [none]) (n := μ.length) (μ := μ ++ [.lst (acc.map stV ++ [.non])]) (by rw [get2, List.map_append, ← some_sts]; rfl)
    rw [any_none] at nin
    have nine : fIn .non (.ref μ.length) (μ ++ [.lst (acc.map stV ++ [.non])]) = .ok (.bl true) (μ ++ [.lst (acc.map stV ++ [.non])]) := nin
    by_cases c : acc.length + 1 > 30
    · have c' : (30 : Int) < (acc.length : Nat) + 1 := by omega
      simp [mMeth, n1, e1, stO, ap, isl, lenN, k_MAX_STATES, fIsN, Mini.isNon, nine, sRaiseI, small]
    · have c' : ¬ (30 : Int) < (acc.length : Nat) + 1 := by omega
      simp [mMeth, n1, e1, stO, ap, isl, lenN, k_MAX_STATES, fIsN, Mini.isNon, nine, sRaiseI, small]
  | some s =>
    rw [o] at e1 ap
    simp only [stO] at e1 ap
    have nin := nones_in (os := acc.map some ++ [some s]) (n := μ.length) (μ := μ ++ [.lst (acc.map stV ++ [stV s])]) (by rw [get2, List.map_append, ← some_sts]; rfl)
    rw [any_none] at nin
    have nine : fIn .non (.ref μ.length) (μ ++ [.lst (acc.map stV ++ [stV s])]) = .ok (.bl false) (μ ++ [.lst (acc.map stV ++ [stV s])]) := nin
    by_cases c : acc.length + 1 > 30
    · have c' : (30 : Int) < (acc.length : Nat) + 1 := by omega
      simp [mMeth, n1, e1, stO, ap, isl, lenN, k_MAX_STATES, fIsN, Mini.isNon, nine, sRaiseI, small, c, c']
    · have c' : ¬ (30 : Int) < (acc.length : Nat) + 1 := by omega
      simp [mMeth, n1, e1, stO, ap, isl, lenN, k_MAX_STATES, fIsN, Mini.isNon, nine, sRaiseI, small, c, c']
/-- how the loop ends -/
def RmEnd (T Ls : PV) (ws : List Str) (μ : MH) (r : RS) : Nat ⊕ List St → Prop
  | .inl k => ∃ s' x, r = .er "BadForm" [.int (k : Nat)] s' (μ ++ [.lst x])
  | .inr sts => ∃ a4 a5 a6 a7 a8, r = .nx [some T, some Ls, some (sT ws), some (.ref μ.length), a4, a5, a6, a7, a8] (μ ++ [.lst (sts.map stV)])
theorem rm_loop {rl sr : MF} (hs : LawRS sr) {T Ls : PV} {ws : List Str} {μ : MH} : ∀ (ls : List Str) (n : Nat) (acc : List St) (a4 a5 a6 a7 a8 : Option PV), 2 ≤ n → n + ls.length ≤ 900000 → (∀ l ∈ ls, Tx l) → acc.length ≤ 30 →
    RmEnd T Ls ws μ (forGo always (.tp [.nm 4, .nm 5]) (L1_read_machine rl sr) (enumVals n (ls.map .str)) [some T, some Ls, some (sT ws), some (.ref μ.length), a4, a5, a6, a7, a8] (μ ++ [.lst (acc.map stV)])) (body ws.length n ls acc)
  | [], n, acc, a4, a5, a6, a7, a8, _, _, _, _ => by
    unfold forGo body
    exact ⟨a4, a5, a6, a7, a8, rfl⟩
  | l :: ls, n, acc, a4, a5, a6, a7, a8, hn, hn2, hl, ha => by
    rw [List.map_cons]
    unfold forGo body enumVals
    simp only [always_true, if_true, bindT_tup, bindTs_nm, bindTs_nil]
    simp only [List.length_cons] at hn2
    have turn := rm_turn (rl := rl) hs (T := T) (Ls := Ls) (ws := ws) (n := n) (l := l) (acc := acc) (a6 := a6) (a7 := a7) (a8 := a8) (μ := μ) hn (by omega) (hl l List.mem_cons_self) ha
    have e : (([some T, some Ls, some (sT ws), some (.ref μ.length), a4, a5, a6, a7, a8] : MS).set 4 (some (.int (n : Nat)))).set 5 (some (.str l)) = [some T, some Ls, some (sT ws), some (.ref μ.length), some (.int (n : Nat)), some (.str l), a6, a7, a8] := rfl
    rw [e, turn]
    cases o : rs l ws.length with
    | none => exact ⟨_, _, rfl⟩
    | some s =>
      simp only
      by_cases c : acc.length + 1 > 30
      · rw [if_pos c, if_pos c]
        exact ⟨_, _, rfl⟩
      · rw [if_neg c, if_neg c]
        exact rm_loop hs ls (n + 1) (acc ++ [s]) _ _ a6 a7 a8 (by omega) (by omega) (fun y hy => hl y (List.mem_cons_of_mem _ hy)) (by rw [List.length_append, List.length_singleton]; omega)
theorem ixN_last {α : Type} {xs : List α} (h : xs ≠ []) : atI xs (-1) = xs.getLast? := by
  unfold atI ixN
  have pos : 0 < xs.length := List.length_pos_iff.mpr h
  have n1 : ¬ (0 : Int) ≤ -1 := by omega
  have n2 : (0 : Int) ≤ (xs.length : Int) + -1 := by omega
  rw [if_neg n1, if_pos (by omega)]
  show xs[(-1 + (xs.length : Int)).toNat]? = _
  rw [List.getLast?_eq_getElem?]
  congr 1
  omega
theorem body_all {many : Nat} : ∀ (ls : List Str) (n : Nat) (acc sts : List St), body many n ls acc = .inr sts → (∀ s ∈ acc, s.2.length = many) → acc.length ≤ 30 → (∀ s ∈ sts, s.2.length = many) ∧ sts.length ≤ 30
  | [], n, acc, sts, h, ha, hl => by
    unfold body at h
    cases h
    exact ⟨ha, hl⟩
  | l :: r, n, acc, sts, h, ha, hl => by
    unfold body at h
    cases o : rs l many with
    | none => rw [o] at h; cases h
    | some s =>
      rw [o] at h
      simp only at h
      split at h
      · cases h
      · refine body_all r (n + 1) (acc ++ [s]) sts h (fun x hx => ?_) (by rw [List.length_append, List.length_singleton]; omega)
        rcases List.mem_append.mp hx with hx | hx
        · exact ha x hx
        · rw [List.mem_singleton.mp hx]
          unfold rs at o
          split at o
          · rename_i c
            cases o
            exact c.2.1
          · cases o
theorem fMax_ctp {ns : List Int} {μ : MH} (h : 0 < ns.length) : fMaxA [.ctp (ns.map .int)] μ = .ok (.int (maxL ns)) μ := by
  unfold fMaxA
  simp only [seqR, seqT, Option.bind, intsOf_map]
  rw [if_pos h]
theorem fMax_frl {ns : List Int} {μ : MH} (h : 0 < ns.length) : fMaxA [.frl (ns.map .int)] μ = .ok (.int (maxL ns)) μ := by
  unfold fMaxA
  simp only [seqR, seqT, lstR, lstM, Option.bind, intsOf_map]
  rw [if_pos h]
end K03

namespace K03
open PySem PySem.Spec PyProof.Rows L2 Mini
theorem sSeq_nx {a b : MSt} {s s1 : MS} {μ μ1 : MH} (h : a s μ = .nx s1 μ1) : sSeq a b s μ = b s1 μ1 := by unfold sSeq; rw [h]
theorem sSeq_er {a b : MSt} {s s1 : MS} {μ μ1 : MH} {c : Str} {p : List PV} (h : a s μ = .er c p s1 μ1) : sSeq a b s μ = .er c p s1 μ1 := by unfold sSeq; rw [h]
theorem sSeq_rt {a b : MSt} {s : MS} {μ μ1 : MH} {v : PV} (h : a s μ = .rt v μ1) : sSeq a b s μ = .rt v μ1 := by unfold sSeq; rw [h]
theorem last_ix {ls : List Str} {μ : MH} (h : ls ≠ []) : fIx (.frl (ls.map .str)) (.int (-1)) μ = .ok (.str (ls.getLastD "")) μ := by
  rw [fIx_frl, ixN_last (by simpa using h), List.getLast?_map]
  cases e : ls.getLast? with
  | none => exact absurd (List.getLast?_eq_none_iff.mp e) h
  | some x =>
    have : ls.getLastD "" = x := by
      rw [List.getLastD_eq_getLast?, e]
      rfl
    rw [this]
    rfl
theorem cl_errI {μ junk : MH} {c : Str} {k : Int} : cl μ (.err c [.int k] (μ ++ junk)) = .err c [.int k] μ := by
  have h := cl_errA (μ := μ) (junk := junk) (c := c)
  unfold cl at h ⊢
  cases q : keepOk μ (μ ++ junk) with
  | false => simp only [q] at h; cases h
  | true =>
    have e1 : PV.los μ.length [PV.int k] = true := by simp [PV.los, PV.lo]
    simp only [q, e1]
    rw [List.take_left]
theorem los_tups (n : Nat) : ∀ sts : List St, PV.los n (sts.map fun s => .ctp (s.2.map .int)) = true
  | [] => by unfold PV.los; rfl
  | s :: r => by
    rw [List.map_cons]
    unfold PV.los
    rw [los_tups n r]
    simp [PV.lo, los_ints]
theorem los_fst (n : Nat) : ∀ sts : List St, PV.los n (sts.map fun s => .int s.1) = true
  | [] => by unfold PV.los; rfl
  | s :: r => by
    rw [List.map_cons]
    unfold PV.los
    rw [los_fst n r]
    simp [PV.lo]
theorem lo_machV (m : List Str × List St) (n : Nat) : (machV m).lo n = true := by
  unfold machV
  simp [PV.lo, PV.los, los_strs, los_tups, los_fst]
/-- the end of read_machine -/
abbrev TailR : MSt := (sSeq (sIf (mbOr (mbE (mOp fNe (mOp fIx (mVar 1) (mUn fNeg (mC (.int 1)))) (mC (.str "")))) (mbOr (mbE (mOp fEq (mCallP fLen (msCons (mVar 3) msNil)) (mC (.int 0)))) (mbE (mOp fGe (mCallP fMaxA (msCons (mLc [6, 7] (mOver (mVar 3)) (.tp [(.nm 6), (.nm 7)]) mbYes (mCallP fMaxA (msCons (mVar 7) msNil))) msNil)) (mCallP fLen (msCons (mVar 3) msNil))))))
  (sRaiseI "BadForm" (mCallP fLen (msCons (mVar 1) msNil)))
  sNil)
  (sRet (mCallP fCtp (msCons (mVar 2) (msCons (mCallP fTupC (msCons (mLc [6, 7] (mOver (mVar 3)) (.tp [(.nm 6), (.nm 7)]) mbYes (mVar 7)) msNil)) (msCons (mCallP fTupC (msCons (mLc [8, 6] (mOver (mVar 3)) (.tp [(.nm 8), (.nm 6)]) mbYes (mVar 8)) msNil)) msNil))))))
theorem over_new {s : MS} {μ : MH} {xs : List PV} (h : s[3]? = some (some (.ref μ.length))) : mOver (mVar 3) s (μ ++ [.lst xs]) = .ok ⟨xs, stays μ.length xs⟩ (μ ++ [.lst xs]) := by
  have e : mVar 3 s (μ ++ [.lst xs]) = .ok (.ref μ.length) (μ ++ [.lst xs]) := by simp only [mVar, h]
  unfold mOver
  rw [e]
  simp [planOf]
theorem tail_run {T L : PV} {ls : List Str} {sts : List St} {a4 a5 a6 a7 a8 : Option PV} {μ : MH} (h0 : ls ≠ []) (hl : ls.length ≤ 900000) (hr : ∀ s ∈ sts, 0 < s.2.length) (hs : sts.length ≤ 30) :
    TailR [some T, some (.frl (ls.map .str)), some L, some (.ref μ.length), a4, a5, a6, a7, a8] (μ ++ [.lst (sts.map stV)]) = if fin (ls.getLastD "") sts
      then .rt (.ctp [L, .ctp (sts.map fun s => .ctp (s.2.map .int)), .ctp (sts.map fun s => .int s.1)]) (μ ++ [.lst (sts.map stV)])
      else .er "BadForm" [.int (ls.length : Nat)] [some T, some (.frl (ls.map .str)), some L, some (.ref μ.length), a4, a5, a6, a7, a8] (μ ++ [.lst (sts.map stV)]) := by
  have hx := last_ix (μ := μ ++ [.lst (sts.map stV)]) h0
  have ln1 : fLen [.ref μ.length] (μ ++ [.lst (sts.map stV)]) = .ok (.int ((sts.map stV).length : Nat)) (μ ++ [.lst (sts.map stV)]) := fLen_new
  rw [List.length_map] at ln1
  have st : stays μ.length (sts.map stV) (μ ++ [.lst (sts.map stV)]) = true := stays_self (by simp)
  have c1 := lc_map (vs := [6, 7]) (i := mOver (mVar 3)) (t := .tp [.nm 6, .nm 7]) (me := mCallP fMaxA (msCons (mVar 7) msNil)) (s := [some T, some (.frl (ls.map .str)), some L, some (.ref μ.length), a4, a5, a6, a7, a8]) (μ := μ ++ [.lst (sts.map stV)]) (μ1 := μ ++ [.lst (sts.map stV)]) (chk := stays μ.length (sts.map stV)) (xs := sts) stV (fun s => .int (maxL s.2)) (over_new rfl) st (fun s hsm => ⟨_, rfl, by
    show (fMaxA [.ctp (s.2.map .int)] _) = _
    exact fMax_ctp (hr s hsm)⟩) (by omega)
  have c2 := lc_map (vs := [6, 7]) (i := mOver (mVar 3)) (t := .tp [.nm 6, .nm 7]) (me := mVar 7) (s := [some T, some (.frl (ls.map .str)), some L, some (.ref μ.length), a4, a5, a6, a7, a8]) (μ := μ ++ [.lst (sts.map stV)]) (μ1 := μ ++ [.lst (sts.map stV)]) (chk := stays μ.length (sts.map stV)) (xs := sts) stV (fun s => .ctp (s.2.map .int)) (over_new rfl) st (fun s hsm => ⟨_, rfl, rfl⟩) (by omega)
  have c3 := lc_map (vs := [8, 6]) (i := mOver (mVar 3)) (t := .tp [.nm 8, .nm 6]) (me := mVar 8) (s := [some T, some (.frl (ls.map .str)), some L, some (.ref μ.length), a4, a5, a6, a7, a8]) (μ := μ ++ [.lst (sts.map stV)]) (μ1 := μ ++ [.lst (sts.map stV)]) (chk := stays μ.length (sts.map stV)) (xs := sts) stV (fun s => .int s.1) (over_new rfl) st (fun s hsm => ⟨_, rfl, rfl⟩) (by omega)
  have e1 : sts.map (fun s => PV.int (maxL s.2)) = (sts.map fun s => maxL s.2).map .int := by rw [List.map_map]; rfl
  rw [e1] at c1
  have small : ls.length ≤ 999999 := by omega
  unfold TailR fin
  generalize ls.getLastD "" = last at hx ⊢
  by_cases l0 : last = ""
  · by_cases z : sts.length = 0
    · have z' : ((sts.length : Nat) : Int) = 0 := by omega
      simp [hx, l0, ln1, z, z', sRaiseI, small, fNe]
    · have z' : ¬ ((sts.length : Nat) : Int) = 0 := by omega
      have fm := fMax_frl (ns := sts.map fun s => maxL s.2) (μ := μ ++ [.lst (sts.map stV)]) (by rw [List.length_map]; omega)
      by_cases m : maxL (sts.map fun s => maxL s.2) < (sts.length : Nat)
      · have m' : ¬ ((sts.length : Nat) : Int) ≤ maxL (sts.map fun s => maxL s.2) := by omega
        have z2 : ¬ sts = [] := fun q => z (by rw [q]; rfl)
        simp [-List.map_map, hx, l0, ln1, z2, z, c1, fm, m, m', fNe, c2, c3]
      · have m' : ((sts.length : Nat) : Int) ≤ maxL (sts.map fun s => maxL s.2) := by omega
        have z2 : ¬ sts = [] := fun q => z (by rw [q]; rfl)
        simp [-List.map_map, hx, l0, ln1, z2, z, c1, fm, m, m', fNe, sRaiseI, small]
  · simp [hx, l0, fNe, sRaiseI, small]
def LawRM (c : MF) : Prop := ∀ (t : Str) (μ : MH), Tx t → c [.str t] μ = match parse t with
  | .inl k => .err "BadForm" [.int (k : Nat)] μ
  | .inr m => .ok (machV m) μ
theorem cutL_init {α : Type} (xs : List α) : cutL xs none (some (-1)) = xs.dropLast := by
  unfold cutL HT.sIx
  cases xs with
  | nil => rfl
  | cons x r =>
    rw [List.dropLast_eq_take]
    simp
    omega
theorem rm_first {rl sr : MF} (hr : LawRL rl) {T Ls : PV} {l : Str} {a6 a7 a8 : Option PV} {μ : MH} (hl : Tx l) :
    L1_read_machine rl sr [some T, some Ls, some .non, some (.ref μ.length), some (.int (1 : Nat)), some (.str l), a6, a7, a8] (μ ++ [.lst []]) = if okL (wd l)
      then .nx [some T, some Ls, some (sT (wd l)), some (.ref μ.length), some (.int (1 : Nat)), some (.str l), a6, a7, a8] (μ ++ [.lst []])
      else .er "BadForm" [.int (1 : Nat)] [some T, some Ls, some .non, some (.ref μ.length), some (.int (1 : Nat)), some (.str l), a6, a7, a8] (μ ++ [.lst []]) := by
  have e1 := hr l (μ ++ [.lst []]) hl
  have lenN : fLen [.ref μ.length] (μ ++ [.lst []]) = .ok (.int 0) (μ ++ [.lst []]) := fLen_new
  have nin := nones_in (os := []) (n := μ.length) (μ := μ ++ [.lst []]) (by simp)
  have nine : fIn .non (.ref μ.length) (μ ++ [.lst []]) = .ok (.bl false) (μ ++ [.lst []]) := nin
  unfold L1_read_machine
  cases o : okL (wd l) with
  | true =>
    rw [o] at e1
    simp [mMeth, e1, lenN, k_MAX_STATES, fIsN, Mini.isNon, nine]
  | false =>
    rw [o] at e1
    simp [mMeth, e1, lenN, k_MAX_STATES, fIsN, Mini.isNon, nine, sRaiseI]
theorem okL_len {ws : List Str} (h : okL ws = true) : 1 ≤ ws.length ∧ ws.length ≤ 4 := by
  unfold okL at h
  rw [Bool.and_eq_true, decide_eq_true_eq] at h
  exact h.1
theorem law_read_machine {rl sr : MF} (hr : LawRL rl) (hs : LawRS sr) : LawRM (cleanF (raw_read_machine rl sr)) := by
  intro t μ ht
  have e1 := split_nl (μ := μ) ht
  have hln := ln_len ht
  have cut : cutL ((ln t).map PV.str) none (some (-1)) = (ln t).dropLast.map .str := by rw [cutL_map, cutL_init]
  have enm : ∀ (s : MS) (ν : MH), s[1]? = some (some (.frl ((ln t).map .str))) → mEnumK 1 (mSlC (mVar 1) none (some (mUn fNeg (mC (.int 1))))) s ν = .ok ⟨enumVals 1 ((ln t).dropLast.map .str), always⟩ ν := fun s ν h => by
    have e : mVar 1 s ν = .ok (.frl ((ln t).map .str)) ν := by simp only [mVar, h]
    unfold mEnumK mSlC
    rw [e]
    simp [evPt, cut, isT, planOf]
  have inner : ∀ l ∈ (ln t).dropLast, Tx l := fun l hl => ht.part (List.dropLast_subset _ hl)
  have ilen : (ln t).dropLast.length + 1 = (ln t).length := by
    have : 0 < (ln t).length := List.length_pos_iff.mpr (ln_ne t)
    rw [List.length_dropLast]
    omega
  have e : ∃ x, raw_read_machine rl sr [.str t] μ = match parse t with
      | .inl k => .err "BadForm" [.int (k : Nat)] (μ ++ [.lst x])
      | .inr m => .ok (machV m) (μ ++ [.lst x]) := by
    unfold raw_read_machine mDef
    show ∃ x, (match b_read_machine rl sr [some (.str t), none, none, none, none, none, none, none, none] μ with | .nx _ μ1 => R.ok PV.non μ1 | .rt v μ1 => R.ok v μ1 | .er c p _ μ1 => R.err c p μ1 | _ => R.bad) = _
    unfold b_read_machine
    rw [sSeq_nx (s1 := [some (.str t), some (.frl ((ln t).map .str)), none, none, none, none, none, none, none]) (μ1 := μ) (by simp [mMeth, isStr_str, e1])]
    rw [sSeq_nx (s1 := [some (.str t), some (.frl ((ln t).map .str)), some .non, none, none, none, none, none, none]) (μ1 := μ) (by simp)]
    rw [sSeq_nx (s1 := [some (.str t), some (.frl ((ln t).map .str)), some .non, some (.ref μ.length), none, none, none, none, none]) (μ1 := μ ++ [.lst []]) (by simp)]
    unfold parse
    have forE : ∀ (s : MS) (ν : MH), s[1]? = some (some (.frl ((ln t).map .str))) → sFor (.tp [(.nm 4), (.nm 5)]) (mEnumK 1 (mSlC (mVar 1) none (some (mUn fNeg (mC (.int 1)))))) (L1_read_machine rl sr) s ν = forGo always (.tp [.nm 4, .nm 5]) (L1_read_machine rl sr) (enumVals 1 ((ln t).dropLast.map .str)) s ν := fun s ν h => by
      unfold sFor
      rw [enm s ν h]
      rfl
    cases hi : (ln t).dropLast with
    | nil =>
      have loop := forE [some (.str t), some (.frl ((ln t).map .str)), some .non, some (.ref μ.length), none, none, none, none, none] (μ ++ [.lst []]) rfl
      rw [hi] at loop
      rw [sSeq_nx (loop.trans (by unfold forGo enumVals; rfl))]
      have tl := tail_run (T := .str t) (L := .non) (ls := ln t) (sts := []) (a4 := none) (a5 := none) (a6 := none) (a7 := none) (a8 := none) (μ := μ) (ln_ne t) (by omega) (fun s h => nomatch h) (by decide)
      have ff : fin ((ln t).getLastD "") [] = false := by unfold fin; simp
      rw [ff] at tl
      refine ⟨[], ?_⟩
      show (match TailR _ _ with | .nx _ μ1 => _ | .rt v μ1 => _ | .er c p _ μ1 => _ | _ => _) = _
      rw [show (μ ++ [MO.lst []] : MH) = μ ++ [.lst (([] : List St).map stV)] from rfl, tl]
      rfl
    | cons l0 r =>
      have loop := forE [some (.str t), some (.frl ((ln t).map .str)), some .non, some (.ref μ.length), none, none, none, none, none] (μ ++ [.lst []]) rfl
      rw [hi] at loop inner ilen
      have f1 := rm_first (rl := rl) (sr := sr) hr (T := .str t) (Ls := .frl ((ln t).map .str)) (l := l0) (a6 := none) (a7 := none) (a8 := none) (μ := μ) (inner l0 List.mem_cons_self)
      cases o : okL (wd l0) with
      | false =>
        rw [o] at f1
        rw [sSeq_er (loop.trans (by
          rw [List.map_cons]
          unfold forGo enumVals
          simp only [always_true, if_true, bindT_tup, bindTs_nm, bindTs_nil]
          have e : (([some (.str t), some (.frl ((ln t).map .str)), some .non, some (.ref μ.length), none, none, none, none, none] : MS).set 4 (some (.int (1 : Nat)))).set 5 (some (.str l0)) = [some (.str t), some (.frl ((ln t).map .str)), some .non, some (.ref μ.length), some (.int (1 : Nat)), some (.str l0), none, none, none] := rfl
          rw [e, f1]
          rfl))]
        refine ⟨[], ?_⟩
        simp only [o, Bool.false_eq_true, if_false]
        try rfl
      | true =>
        rw [o] at f1
        have lp := rm_loop (rl := rl) hs (T := .str t) (Ls := .frl ((ln t).map .str)) (ws := wd l0) (μ := μ) r 2 [] (some (.int (1 : Nat))) (some (.str l0)) none none none (by omega) (by simp only [List.length_cons] at ilen; omega) (fun l hl => inner l (List.mem_cons_of_mem _ hl)) (by decide)
        have first : forGo always (.tp [.nm 4, .nm 5]) (L1_read_machine rl sr) (enumVals 1 ((l0 :: r).map .str)) [some (.str t), some (.frl ((ln t).map .str)), some .non, some (.ref μ.length), none, none, none, none, none] (μ ++ [.lst []]) = forGo always (.tp [.nm 4, .nm 5]) (L1_read_machine rl sr) (enumVals 2 (r.map .str)) [some (.str t), some (.frl ((ln t).map .str)), some (sT (wd l0)), some (.ref μ.length), some (.int (1 : Nat)), some (.str l0), none, none, none] (μ ++ [.lst (([] : List St).map stV)]) := by
          rw [List.map_cons]
          conv => lhs; unfold forGo enumVals
          simp only [always_true, if_true, bindT_tup, bindTs_nm, bindTs_nil]
          have e : (([some (.str t), some (.frl ((ln t).map .str)), some .non, some (.ref μ.length), none, none, none, none, none] : MS).set 4 (some (.int (1 : Nat)))).set 5 (some (.str l0)) = [some (.str t), some (.frl ((ln t).map .str)), some .non, some (.ref μ.length), some (.int (1 : Nat)), some (.str l0), none, none, none] := rfl
          rw [e, f1]
          rfl
        rw [← first] at lp
        simp only [if_true]
        cases hb : body (wd l0).length 2 r [] with
        | inl k =>
          rw [hb] at lp
          obtain ⟨s', x, er⟩ := lp
          rw [sSeq_er (loop.trans er)]
          refine ⟨x, ?_⟩
          simp only [o, if_true, hb]
          try rfl
        | inr sts =>
          rw [hb] at lp
          obtain ⟨b4, b5, b6, b7, b8, nx⟩ := lp
          rw [sSeq_nx (loop.trans nx)]
          obtain ⟨rows, cnt⟩ := body_all r 2 [] sts hb (fun s h => nomatch h) (by decide)
          have tl := tail_run (T := .str t) (L := sT (wd l0)) (ls := ln t) (sts := sts) (a4 := b4) (a5 := b5) (a6 := b6) (a7 := b7) (a8 := b8) (μ := μ) (ln_ne t) (by omega) (fun s h => by rw [rows s h]; exact (okL_len o).1) cnt
          refine ⟨sts.map stV, ?_⟩
          simp only [o, if_true, hb]
          show (match TailR _ _ with | .nx _ μ1 => _ | .rt v μ1 => _ | .er c p _ μ1 => _ | _ => _) = _
          rw [tl]
          unfold tail
          cases fin ((ln t).getLastD "") sts with
          | true => rfl
          | false => rfl
  obtain ⟨x, e⟩ := e
  unfold cleanF
  rw [e]
  cases parse t with
  | inl k => exact cl_errI
  | inr m => 
    exact cl_app (fz_lo (lo_machV m _))
end K03

namespace K03
open PySem PySem.Spec PyProof.Rows L2 Mini
/-! ### the law's own reading -/
def dueV : Nat ⊕ (List Str × List St) → PV
  | .inl k => .ctp [.str "form", .int (k : Nat)]
  | .inr m => .ctp [.str "read", machV m]
def LawDue (c : MF) : Prop := ∀ (t : Str) (μ : MH), Tx t → c [.str t] μ = .ok (dueV (parse t)) μ
theorem lo_due (r : Nat ⊕ (List Str × List St)) (n : Nat) : (dueV r).lo n = true := by
  cases r with
  | inl k => simp [dueV, PV.lo, PV.los]
  | inr m => simp [dueV, PV.lo, PV.los, lo_machV]
theorem law_told {rm : MF} (h : LawRM rm) : LawDue (cleanF (raw__law_told rm)) := by
  intro t μ ht
  have e1 := h t μ ht
  have e : raw__law_told rm [.str t] μ = .ok (dueV (parse t)) μ := by
    unfold raw__law_told mDef b__law_told
    cases p : parse t with
    | inl k =>
      rw [p] at e1
      simp [sToldI, e1, dueV]
    | inr m =>
      rw [p] at e1
      simp [sToldI, e1, dueV]
  unfold cleanF
  rw [e]
  exact cl_self (lo_due _ _)
theorem maxL_le {ns : List Int} (h : 0 < ns.length) : (maxL ns ≤ 29) ↔ (ns.all fun n => decide (n < 30)) = true := by
  rw [List.all_eq_true]
  cases ns with
  | nil => exact absurd h (by decide)
  | cons x r =>
    obtain ⟨h1, h2⟩ := maxL_fold r x
    constructor
    · intro q n hn
      have := h2 n hn
      rw [decide_eq_true_eq]
      have q' : r.foldl (fun a b => if b > a then b else a) x ≤ 29 := q
      omega
    · intro q
      have := q _ h1
      rw [decide_eq_true_eq] at this
      show r.foldl (fun a b => if b > a then b else a) x ≤ 29
      omega
theorem range_cons (lo : Int) (n : Nat) : rangeVals lo (n + 1) = .int lo :: rangeVals (lo + 1) n := by
  unfold rangeVals
  rw [List.range_succ_eq_map, List.map_cons, List.map_map]
  congr 1
  · simp
  · apply List.map_congr_left
    intro i _
    show PV.int _ = PV.int _
    congr 1
    simp
    omega
theorem line_ix {ls : List Str} {k : Nat} {l : Str} {μ : MH} (h : ls[k]? = some l) : fIx (.frl (ls.map .str)) (.int (k : Nat)) μ = .ok (.str l) μ := by
  have : atI (ls.map PV.str) ((k : Nat) : Int) = some (.str l) := Mini.atI_nat (by rw [List.getElem?_map, h]; rfl)
  rw [fIx_frl, this]
theorem due_turn {al nu : MF} (hn : LawNum nu) {T : PV} {ls : List Str} {l0 l : Str} {k : Nat} {acc : List St} {a4 a5 a6 a7 : Option PV} {μ : MH} (h0 : ls[0]? = some l0) (hl : ls[k]? = some l) (t0 : Tx l0) (tl : Tx l) (hk : 1 ≤ k) (hk2 : k ≤ 900000) (ha : acc.length + 1 = k) (ha2 : acc.length ≤ 30) :
    L1__law_due al nu [some T, some (.frl (ls.map .str)), some (.ref μ.length), some (.int (k : Nat)), a4, a5, a6, a7] (μ ++ [.lst (acc.map stV)]) = match rs l (wd l0).length with
      | none => .rt (dueV (.inl (k + 1))) (μ ++ [.lst (acc.map stV)])
      | some s => if acc.length + 1 > 30 then .rt (dueV (.inl (k + 1))) (μ ++ [.lst (acc.map stV)])
        else .nx [some T, some (.frl (ls.map .str)), some (.ref μ.length), some (.int (k : Nat)), some (.frl ((wd l).map .str)), some (.frl ((rowOf l).map .int)), a6, a7] (μ ++ [.lst ((acc ++ [s]).map stV)]) := by
  have k0 : ¬ k = 0 := by omega
  have ix := line_ix (μ := μ ++ [.lst (acc.map stV)]) hl
  have ix0 : fIx (.frl (ls.map .str)) (.int 0) (μ ++ [.lst (acc.map stV)]) = .ok (.str l0) (μ ++ [.lst (acc.map stV)]) := line_ix (k := 0) h0
  have sp := split_sp (μ := μ ++ [.lst (acc.map stV)]) tl
  have sp0 := split_sp (μ := μ ++ [.lst (acc.map stV)]) t0
  have cut : cutL ((wd l).map PV.str) (some 1) none = ((wd l).drop 1).map .str := by rw [cutL_map]; congr 1; exact cutL_drop (wd l) 1
  have hw := wd_len tl
  have c1 := lc_map (vs := [6]) (i := mOver (mSlC (mVar 4) (some (mC (.int 1))) none)) (t := .nm 6) (me := mCallP nu (msCons (mVar 6) msNil)) (s := [some T, some (.frl (ls.map .str)), some (.ref μ.length), some (.int (k : Nat)), some (.frl ((wd l).map .str)), a5, a6, a7]) (μ := μ ++ [.lst (acc.map stV)]) (μ1 := μ ++ [.lst (acc.map stV)]) (chk := always) (xs := (wd l).drop 1) PV.str (fun z => .int (nv z)) (by
    simp [mOver, mSlC, planOf, cut]) rfl (fun z hz => ⟨_, rfl, by
      have := (tl.part (List.mem_of_mem_drop hz)).1
      simp [wipeM, hn z _ (by omega : z.length ≤ 16000000)]⟩) (by rw [List.length_drop]; omega)
  have e3 : ((wd l).drop 1).map (fun z => PV.int (nv z)) = (rowOf l).map .int := by unfold rowOf; rw [List.map_map]; rfl
  rw [e3] at c1
  have hx := head_ix (l := l) (μ := μ ++ [.lst (acc.map stV)])
  have ap : ∀ s : St, fAppend (.ref μ.length) [stV s] (μ ++ [.lst (acc.map stV)]) = .ok .non (μ ++ [.lst (acc.map stV ++ [stV s])]) := fun s => append_new (by rw [List.length_map]; omega)
  have isl := isL_new μ (acc.map stV)
  have m1 : 1 ≤ (wd l0).length := List.length_pos_iff.mpr (wd_ne l0)
  unfold L1__law_due rs
  generalize rowOf l = row at c1 ⊢
  generalize (wd l).headD "" = hd at hx ⊢
  have pm := pm_in2 (z := hd) (μ := μ ++ [.lst (acc.map stV)])
  by_cases q1 : hd = "+" ∨ hd = "."
  · rw [decide_eq_true q1] at pm
    by_cases q2 : row.length = (wd l0).length
    · have fm := fMax_frl (ns := row) (μ := μ ++ [.lst (acc.map stV)]) (by omega)
      have ml := maxL_le (ns := row) (by omega)
      cases q3 : row.all fun n => decide (n < 30) with
      | true =>
        rw [q3] at ml
        have le : ¬ (29 : Int) < maxL row := by have := ml.mpr rfl; omega
        by_cases q4 : acc.length + 1 > 30
        · have k30 : (30 : Int) < (k : Nat) := by omega
          simp [-fIx_frl, mMeth, isStr_str, k0, ix, ix0, sp, sp0, c1, hx, pm, q1, q2, fm, le, k30, q4, dueV]
        · have k30 : ¬ (30 : Int) < (k : Nat) := by omega
          by_cases p : hd = "+"
          · subst p
            have aps := ap (1, row)
            simp only [stV] at aps
            simp [-fIx_frl, mMeth, isStr_str, k0, ix, ix0, sp, sp0, c1, hx, pm, q2, fm, le, k30, q4, isl, aps, stV]
          · have p2 : hd = "." := q1.resolve_left p
            subst p2
            have aps := ap (0, row)
            simp only [stV] at aps
            simp [-fIx_frl, mMeth, isStr_str, k0, ix, ix0, sp, sp0, c1, hx, pm, q2, fm, le, k30, q4, isl, aps, stV, p]
      | false =>
        rw [q3] at ml
        have gt : (29 : Int) < maxL row := by
          rcases Int.lt_or_le 29 (maxL row) with h | h
          · exact h
          · exact absurd (ml.mp h) (by decide)
        simp [-fIx_frl, mMeth, isStr_str, k0, ix, ix0, sp, sp0, c1, hx, pm, q1, q2, fm, gt, dueV]
    · have q2' : ¬ ((row.length : Nat) : Int) = ((wd l0).length : Nat) := by omega
      simp [-fIx_frl, mMeth, isStr_str, k0, ix, ix0, sp, sp0, c1, hx, pm, q1, q2, q2', dueV]
  · rw [decide_eq_false q1] at pm
    simp [-fIx_frl, mMeth, isStr_str, k0, ix, sp, c1, hx, pm, q1, dueV]
/-- the first line -/
theorem due_first {al nu : MF} (hal : LawAre al) {T : PV} {ls : List Str} {l0 : Str} {a4 a5 a6 a7 : Option PV} {μ : MH} (h0 : ls[0]? = some l0) (t0 : Tx l0) :
    L1__law_due al nu [some T, some (.frl (ls.map .str)), some (.ref μ.length), some (.int 0), a4, a5, a6, a7] (μ ++ [.lst []]) = if okL (wd l0)
      then .nx [some T, some (.frl (ls.map .str)), some (.ref μ.length), some (.int 0), some (.frl ((wd l0).map .str)), a5, a6, a7] (μ ++ [.lst []])
      else .rt (dueV (.inl 1)) (μ ++ [.lst []]) := by
  have ix0 : fIx (.frl (ls.map .str)) (.int 0) (μ ++ [.lst []]) = .ok (.str l0) (μ ++ [.lst []]) := line_ix (k := 0) h0
  have sp0 := split_sp (μ := μ ++ [.lst []]) t0
  have e1 := hal (wd l0) (μ ++ [.lst []]) (by have := wd_len t0; omega) (fun z hz => ⟨by have := (t0.part hz).1; omega, (t0.part hz).2⟩)
  unfold L1__law_due
  cases o : okL (wd l0) with
  | true =>
    rw [o] at e1
    simp [-fIx_frl, mMeth, isStr_str, ix0, sp0, e1]
  | false =>
    rw [o] at e1
    simp [-fIx_frl, mMeth, isStr_str, ix0, sp0, e1, dueV]
def DueEnd (T Ls : PV) (μ : MH) (r : RS) : Nat ⊕ List St → Prop
  | .inl k => ∃ x, r = .rt (dueV (.inl k)) (μ ++ [.lst x])
  | .inr sts => ∃ a3 a4 a5 a6 a7, r = .nx [some T, some Ls, some (.ref μ.length), a3, a4, a5, a6, a7] (μ ++ [.lst (sts.map stV)])
theorem due_loop {al nu : MF} (hn : LawNum nu) {T : PV} {ls : List Str} {l0 : Str} {μ : MH} (h0 : ls[0]? = some l0) (t0 : Tx l0) (ha : ∀ l ∈ ls, Tx l) : ∀ (r : List Str) (k : Nat) (acc : List St) (a3 a4 a5 a6 a7 : Option PV), 1 ≤ k → k + r.length ≤ 900000 → (∀ (j : Nat) (l : Str), r[j]? = some l → ls[k + j]? = some l) → acc.length + 1 = k → acc.length ≤ 30 →
    DueEnd T (.frl (ls.map .str)) μ (forGo always (.nm 3) (L1__law_due al nu) (rangeVals (k : Nat) r.length) [some T, some (.frl (ls.map .str)), some (.ref μ.length), a3, a4, a5, a6, a7] (μ ++ [.lst (acc.map stV)])) (body (wd l0).length (k + 1) r acc)
  | [], k, acc, a3, a4, a5, a6, a7, _, _, _, _, _ => by
    unfold body
    exact ⟨a3, a4, a5, a6, a7, rfl⟩
  | l :: r, k, acc, a3, a4, a5, a6, a7, hk, hk2, hg, hacc, h30 => by
    rw [List.length_cons, range_cons]
    simp only [List.length_cons] at hk2
    have hl : ls[k]? = some l := by
      have := hg 0 l rfl
      rwa [Nat.add_zero] at this
    have turn := due_turn (al := al) hn (T := T) (ls := ls) (l0 := l0) (l := l) (k := k) (acc := acc) (a4 := a4) (a5 := a5) (a6 := a6) (a7 := a7) (μ := μ) h0 hl t0 (ha l (List.mem_of_getElem? hl)) hk (by omega) hacc h30
    unfold forGo body
    simp only [always_true, if_true, bindT_nm]
    have e : ([some T, some (.frl (ls.map .str)), some (.ref μ.length), a3, a4, a5, a6, a7] : MS).set 3 (some (.int (k : Nat))) = [some T, some (.frl (ls.map .str)), some (.ref μ.length), some (.int (k : Nat)), a4, a5, a6, a7] := rfl
    rw [e, turn]
    cases o : rs l (wd l0).length with
    | none => exact ⟨_, rfl⟩
    | some s =>
      simp only
      by_cases c : acc.length + 1 > 30
      · rw [if_pos c, if_pos c]
        exact ⟨_, rfl⟩
      · rw [if_neg c, if_neg c]
        have ih := due_loop (al := al) hn (T := T) (μ := μ) h0 t0 ha r (k + 1) (acc ++ [s]) (some (.int (k : Nat))) (some (.frl ((wd l).map .str))) (some (.frl ((rowOf l).map .int))) a6 a7 (by omega) (by omega) (fun j y hy => by
          have := hg (j + 1) y (by simpa using hy)
          rwa [show k + 1 + j = k + (j + 1) by omega]) (by rw [List.length_append, List.length_singleton]; omega) (by rw [List.length_append, List.length_singleton]; omega)
        have cast : ((k + 1 : Nat) : Int) = (k : Nat) + 1 := by omega
        rw [cast] at ih
        exact ih
/-- the end of the law's reading -/
abbrev TailD : MSt := (sSeq (sIf (mbOr (mbE (mOp fNe (mOp fIx (mVar 1) (mUn fNeg (mC (.int 1)))) (mC (.str "")))) (mbOr (mbE (mOp fEq (mCallP fLen (msCons (mVar 2) msNil)) (mC (.int 0)))) (mbE (mOp fGe (mCallP fMaxA (msCons (mLc [7, 5] (mOver (mVar 2)) (.tp [(.nm 7), (.nm 5)]) mbYes (mCallP fMaxA (msCons (mVar 5) msNil))) msNil)) (mCallP fLen (msCons (mVar 2) msNil))))))
  (sRet (mCallP fCtp (msCons (mC (.str "form")) (msCons (mCallP fLen (msCons (mVar 1) msNil)) msNil))))
  sNil)
  (sRet (mCallP fCtp (msCons (mC (.str "read")) (msCons (mCallP fCtp (msCons (mCallP fTupC (msCons (mMeth isStr (fSplit false) (mOp fIx (mVar 1) (mC (.int 0))) (msCons (mC (.str " ")) msNil)) msNil)) (msCons (mCallP fTupC (msCons (mLc [7, 5] (mOver (mVar 2)) (.tp [(.nm 7), (.nm 5)]) mbYes (mVar 5)) msNil)) (msCons (mCallP fTupC (msCons (mLc [7, 5] (mOver (mVar 2)) (.tp [(.nm 7), (.nm 5)]) mbYes (mVar 7)) msNil)) msNil)))) msNil)))))
theorem over_new2 {s : MS} {μ : MH} {xs : List PV} (h : s[2]? = some (some (.ref μ.length))) : mOver (mVar 2) s (μ ++ [.lst xs]) = .ok ⟨xs, stays μ.length xs⟩ (μ ++ [.lst xs]) := by
  have e : mVar 2 s (μ ++ [.lst xs]) = .ok (.ref μ.length) (μ ++ [.lst xs]) := by simp only [mVar, h]
  unfold mOver
  rw [e]
  simp [planOf]
theorem tail_due {T : PV} {ls : List Str} {l0 : Str} {sts : List St} {a3 a4 a5 a6 a7 : Option PV} {μ : MH} (h0 : ls[0]? = some l0) (t0 : Tx l0) (hl : ls.length ≤ 900000) (hr : ∀ s ∈ sts, 0 < s.2.length) (hs : sts.length ≤ 30) :
    TailD [some T, some (.frl (ls.map .str)), some (.ref μ.length), a3, a4, a5, a6, a7] (μ ++ [.lst (sts.map stV)]) = .rt (dueV (tail ls l0 sts)) (μ ++ [.lst (sts.map stV)]) := by
  have hne : ls ≠ [] := fun e => by rw [e] at h0; cases h0
  have hx := last_ix (μ := μ ++ [.lst (sts.map stV)]) hne
  have ix0 : fIx (.frl (ls.map .str)) (.int 0) (μ ++ [.lst (sts.map stV)]) = .ok (.str l0) (μ ++ [.lst (sts.map stV)]) := line_ix (k := 0) h0
  have sp0 := split_sp (μ := μ ++ [.lst (sts.map stV)]) t0
  have ln1 : fLen [.ref μ.length] (μ ++ [.lst (sts.map stV)]) = .ok (.int ((sts.map stV).length : Nat)) (μ ++ [.lst (sts.map stV)]) := fLen_new
  rw [List.length_map] at ln1
  have st : stays μ.length (sts.map stV) (μ ++ [.lst (sts.map stV)]) = true := stays_self (by simp)
  have c1 := lc_map (vs := [7, 5]) (i := mOver (mVar 2)) (t := .tp [.nm 7, .nm 5]) (me := mCallP fMaxA (msCons (mVar 5) msNil)) (s := [some T, some (.frl (ls.map .str)), some (.ref μ.length), a3, a4, a5, a6, a7]) (μ := μ ++ [.lst (sts.map stV)]) (μ1 := μ ++ [.lst (sts.map stV)]) (chk := stays μ.length (sts.map stV)) (xs := sts) stV (fun s => .int (maxL s.2)) (over_new2 rfl) st (fun s hsm => ⟨_, rfl, by
    show (fMaxA [.ctp (s.2.map .int)] _) = _
    exact fMax_ctp (hr s hsm)⟩) (by omega)
  have c2 := lc_map (vs := [7, 5]) (i := mOver (mVar 2)) (t := .tp [.nm 7, .nm 5]) (me := mVar 5) (s := [some T, some (.frl (ls.map .str)), some (.ref μ.length), a3, a4, a5, a6, a7]) (μ := μ ++ [.lst (sts.map stV)]) (μ1 := μ ++ [.lst (sts.map stV)]) (chk := stays μ.length (sts.map stV)) (xs := sts) stV (fun s => .ctp (s.2.map .int)) (over_new2 rfl) st (fun s hsm => ⟨_, rfl, rfl⟩) (by omega)
  have c3 := lc_map (vs := [7, 5]) (i := mOver (mVar 2)) (t := .tp [.nm 7, .nm 5]) (me := mVar 7) (s := [some T, some (.frl (ls.map .str)), some (.ref μ.length), a3, a4, a5, a6, a7]) (μ := μ ++ [.lst (sts.map stV)]) (μ1 := μ ++ [.lst (sts.map stV)]) (chk := stays μ.length (sts.map stV)) (xs := sts) stV (fun s => .int s.1) (over_new2 rfl) st (fun s hsm => ⟨_, rfl, rfl⟩) (by omega)
  have e1 : sts.map (fun s => PV.int (maxL s.2)) = (sts.map fun s => maxL s.2).map .int := by rw [List.map_map]; rfl
  rw [e1] at c1
  unfold TailD tail fin
  generalize ls.getLastD "" = last at hx ⊢
  by_cases l0' : last = ""
  · by_cases z : sts.length = 0
    · have z' : ((sts.length : Nat) : Int) = 0 := by omega
      simp [-fIx_frl, hx, l0', ln1, z, z', fNe, dueV]
    · have fm := fMax_frl (ns := sts.map fun s => maxL s.2) (μ := μ ++ [.lst (sts.map stV)]) (by rw [List.length_map]; omega)
      have z2 : ¬ sts = [] := fun q => z (by rw [q]; rfl)
      by_cases m : maxL (sts.map fun s => maxL s.2) < (sts.length : Nat)
      · have m' : ¬ ((sts.length : Nat) : Int) ≤ maxL (sts.map fun s => maxL s.2) := by omega
        simp [-fIx_frl, -List.map_map, hx, l0', ln1, z2, z, c1, fm, m, m', fNe, c2, c3, mMeth, isStr_str, ix0, sp0, dueV, machV]
      · have m' : ((sts.length : Nat) : Int) ≤ maxL (sts.map fun s => maxL s.2) := by omega
        simp [-fIx_frl, -List.map_map, hx, l0', ln1, z2, z, c1, fm, m, m', fNe, dueV]
  · simp [-fIx_frl, hx, l0', fNe, dueV]
theorem law_due {al nu : MF} (hal : LawAre al) (hn : LawNum nu) : LawDue (cleanF (raw__law_due al nu)) := by
  intro t μ ht
  have e1 := split_nl (μ := μ) ht
  have hln := ln_len ht
  have all : ∀ l ∈ ln t, Tx l := fun l hl => ht.part hl
  obtain ⟨l0, r0, hlt⟩ : ∃ l0 r0, ln t = l0 :: r0 := by
    cases h : ln t with
    | nil => exact absurd h (ln_ne t)
    | cons a b => exact ⟨a, b, rfl⟩
  have h0 : (ln t)[0]? = some l0 := by rw [hlt]; rfl
  have t0 := all l0 (by rw [hlt]; exact List.mem_cons_self)
  have cnt : (ln t).length = r0.length + 1 := by rw [hlt]; rfl
  have sub : (((ln t).length : Nat) : Int) - 1 = ((r0.length : Nat) : Int) := by omega
  have e : ∃ x, raw__law_due al nu [.str t] μ = .ok (dueV (parse t)) (μ ++ [.lst x]) := by
    unfold raw__law_due mDef
    show ∃ x, (match b__law_due al nu [some (.str t), none, none, none, none, none, none, none] μ with | .nx _ μ1 => R.ok PV.non μ1 | .rt v μ1 => R.ok v μ1 | .er c p _ μ1 => R.err c p μ1 | _ => R.bad) = _
    unfold b__law_due
    rw [sSeq_nx (s1 := [some (.str t), some (.frl ((ln t).map .str)), none, none, none, none, none, none]) (μ1 := μ) (by simp [mMeth, isStr_str, e1])]
    rw [sSeq_nx (s1 := [some (.str t), some (.frl ((ln t).map .str)), some (.ref μ.length), none, none, none, none, none]) (μ1 := μ ++ [.lst []]) (by simp)]
    have forE : sFor (.nm 3) (mRange1 (mOp fSub (mCallP fLen (msCons (mVar 1) msNil)) (mC (.int 1)))) (L1__law_due al nu) [some (.str t), some (.frl ((ln t).map .str)), some (.ref μ.length), none, none, none, none, none] (μ ++ [.lst []]) = forGo always (.nm 3) (L1__law_due al nu) (rangeVals 0 r0.length) [some (.str t), some (.frl ((ln t).map .str)), some (.ref μ.length), none, none, none, none, none] (μ ++ [.lst []]) := by
      unfold sFor
      rw [range_ok (n := r0.length) (μ1 := μ ++ [.lst []]) (by simp [sub]) (by omega)]
      rfl
    have drop : (ln t).dropLast = (l0 :: r0).dropLast := by rw [hlt]
    unfold parse
    rw [drop]
    cases hr : r0 with
    | nil =>
      rw [hr] at forE
      have tl := tail_due (T := .str t) (ls := ln t) (l0 := l0) (sts := []) (a3 := none) (a4 := none) (a5 := none) (a6 := none) (a7 := none) (μ := μ) h0 t0 (by omega) (fun s h => nomatch h) (by decide)
      have ff : tail (ln t) l0 [] = .inl (ln t).length := by unfold tail fin; simp
      rw [ff] at tl
      rw [sSeq_nx (s1 := [some (.str t), some (.frl ((ln t).map .str)), some (.ref μ.length), none, none, none, none, none]) (μ1 := μ ++ [.lst []]) (forE.trans (by rfl))]
      refine ⟨[], ?_⟩
      show (match TailD _ _ with | .nx _ μ1 => _ | .rt v μ1 => _ | .er c p _ μ1 => _ | _ => _) = _
      rw [show (μ ++ [MO.lst []] : MH) = μ ++ [.lst (([] : List St).map stV)] from rfl, tl]
      rfl
    | cons l1 r1 =>
      have dl : (l0 :: l1 :: r1).dropLast = l0 :: (l1 :: r1).dropLast := rfl
      rw [dl]
      have dlen : (l1 :: r1).dropLast.length + 1 = r0.length := by rw [hr, List.length_dropLast]; simp
      have f1 := due_first (al := al) (nu := nu) hal (T := .str t) (ls := ln t) (l0 := l0) (a4 := none) (a5 := none) (a6 := none) (a7 := none) (μ := μ) h0 t0
      have first : ∀ n : Nat, forGo always (.nm 3) (L1__law_due al nu) (rangeVals 0 (n + 1)) [some (.str t), some (.frl ((ln t).map .str)), some (.ref μ.length), none, none, none, none, none] (μ ++ [.lst []]) = (match L1__law_due al nu [some (.str t), some (.frl ((ln t).map .str)), some (.ref μ.length), some (.int 0), none, none, none, none] (μ ++ [.lst []]) with
          | .nx s2 μ2 => forGo always (.nm 3) (L1__law_due al nu) (rangeVals (0 + 1) n) s2 μ2
          | .ct s2 μ2 => forGo always (.nm 3) (L1__law_due al nu) (rangeVals (0 + 1) n) s2 μ2
          | .bk s2 μ2 => .nx s2 μ2
          | r => r) := fun n => by
        rw [range_cons]
        conv => lhs; unfold forGo
        simp only [always_true, if_true, bindT_nm]
        rfl
      rw [← dlen, first] at forE
      cases o : okL (wd l0) with
      | false =>
        rw [o] at f1
        rw [f1] at forE
        rw [sSeq_rt (forE.trans (by rfl))]
        refine ⟨[], ?_⟩
        simp only [o, Bool.false_eq_true, if_false]
      | true =>
        rw [o] at f1
        rw [f1] at forE
        have lp := due_loop (al := al) hn (T := .str t) (μ := μ) h0 t0 all (l1 :: r1).dropLast 1 [] (some (.int 0)) (some (.frl ((wd l0).map .str))) none none none (by omega) (by omega) (fun j l hj => by
          rw [hlt, hr, Nat.add_comm 1 j, List.getElem?_cons_succ]
          have lt : j < (l1 :: r1).dropLast.length := (List.getElem?_eq_some_iff.mp hj).1
          rw [List.dropLast_eq_take, List.getElem?_take_of_lt (by rw [List.length_dropLast] at lt; exact lt)] at hj
          exact hj) rfl (by decide)
        simp only [if_true] at forE
        simp only [o, if_true]
        cases hb : body (wd l0).length 2 (l1 :: r1).dropLast [] with
        | inl k =>
          rw [show (1 : Nat) + 1 = 2 from rfl, hb] at lp
          obtain ⟨x, er⟩ := lp
          rw [sSeq_rt (forE.trans er)]
          exact ⟨x, rfl⟩
        | inr sts =>
          rw [show (1 : Nat) + 1 = 2 from rfl, hb] at lp
          obtain ⟨b3, b4, b5, b6, b7, nx⟩ := lp
          rw [sSeq_nx (forE.trans nx)]
          obtain ⟨rows, c30⟩ := body_all _ 2 [] sts hb (fun s h => nomatch h) (by decide)
          have tl := tail_due (T := .str t) (ls := ln t) (l0 := l0) (sts := sts) (a3 := b3) (a4 := b4) (a5 := b5) (a6 := b6) (a7 := b7) (μ := μ) h0 t0 (by omega) (fun s h => by rw [rows s h]; exact (okL_len o).1) c30
          refine ⟨sts.map stV, ?_⟩
          show (match TailD _ _ with | .nx _ μ1 => _ | .rt v μ1 => _ | .er c p _ μ1 => _ | _ => _) = _
          rw [tl]
  obtain ⟨x, e⟩ := e
  unfold cleanF
  rw [e]
  exact cl_app (fz_lo (lo_due _ _))
end K03

namespace K03
open PySem PySem.Spec PyProof.Rows L2 Mini
/-! the drawn machines, as in k01 -/
def goodSets : List (List Str) := [["a", "b"], ["a"], ["in", "out"], ["a", "b", "c"], ["go", "halt", "no", "yes"]]
theorem len_sets : ∀ ls ∈ goodSets, 1 ≤ ls.length ∧ ls.length ≤ 4 := by decide
theorem okL_sets : ∀ ls ∈ goodSets, okL ls = true := by decide
theorem law__law_same : LawSame (cleanF raw__law_same) := Mini.law__law_same
theorem law__law_stream : LawStream (cleanF raw__law_stream) := Mini.law__law_stream
theorem law__law_next : LawNext (cleanF raw__law_next) := Mini.law__law_next
def letterSets : List (List Str) := [["a", "b"], ["a"], ["in", "out"], ["a", "b", "c"], ["a", "b"], ["go", "halt", "no", "yes"]]
theorem sets_good : ∀ ls ∈ letterSets, ls ∈ goodSets := by decide
def isLs (v : PV) : Prop := ∃ ls ∈ goodSets, v = sT ls
def LawLetters (f : MF) : Prop := DrawF 1 isLs f [.ref 0]
theorem law__law_letters {nx : MF} (hn : LawNext nx) : LawLetters (cleanF (raw__law_letters nx)) := by
  intro ms c rest g hc hc2
  obtain ⟨v, c', ⟨d, rfl, d0, d1⟩, h1, h2, e⟩ := hn 6 (by decide) (by decide) ms c rest g hc hc2
  obtain ⟨ls, hls, ea⟩ : ∃ ls ∈ letterSets, atI (letterSets.map fun ls => PV.ctp (ls.map .str)) d = some (.ctp (ls.map .str)) := by
    obtain ⟨x, h3, h4⟩ := Mini.atI_int (xs := letterSets.map fun ls => PV.ctp (ls.map .str)) d0 (by simpa [letterSets] using d1)
    rw [List.getElem?_map, Option.map_eq_some_iff] at h3
    obtain ⟨ls, h5, rfl⟩ := h3
    exact ⟨ls, List.mem_of_getElem? h5, h4⟩
  refine ⟨.ctp (ls.map .str), c', ⟨ls, sets_good ls hls, rfl⟩, h1, h2, ?_⟩
  have e2 : raw__law_letters nx [.ref 0] (stM ms c :: rest) = .ok (.ctp (ls.map .str)) (stM ms c' :: rest) := by
    unfold raw__law_letters mDef b__law_letters
    simp [letterSets] at ea
    simp [e, ea]
  unfold cleanF
  rw [e2]
  exact cl_st0 (by unfold PV.lo; exact los_strs _ _)
@[simp] theorem a2_0 {α : Type} {a b : α} : atI [a, b] 0 = some a := rfl
@[simp] theorem a2_1 {α : Type} {a b : α} : atI [a, b] 1 = some b := rfl
@[simp] theorem a3_0 {α : Type} {a b c : α} : atI [a, b, c] 0 = some a := rfl
@[simp] theorem a3_1 {α : Type} {a b c : α} : atI [a, b, c] 1 = some b := rfl
@[simp] theorem a3_2 {α : Type} {a b c : α} : atI [a, b, c] 2 = some c := rfl
@[simp] theorem a4_0 {α : Type} {a b c d : α} : atI [a, b, c, d] 0 = some a := rfl
@[simp] theorem a4_1 {α : Type} {a b c d : α} : atI [a, b, c, d] 1 = some b := rfl
@[simp] theorem a4_2 {α : Type} {a b c d : α} : atI [a, b, c, d] 2 = some c := rfl
@[simp] theorem a4_3 {α : Type} {a b c d : α} : atI [a, b, c, d] 3 = some d := rfl
/-! ### drawn machines -/
abbrev nP (k : Nat) : PV := .int (k : Nat)
def rowP (r : List Nat) : PV := .ctp (r.map nP)
def machP (ls : List Str) (rows : List (List Nat)) (ends : List Nat) : PV := .ctp [.ctp (ls.map .str), .ctp (rows.map rowP), .ctp (ends.map nP)]
structure Mach (ls : List Str) (rows : List (List Nat)) (ends : List Nat) : Prop where
  hls : ls ∈ goodSets
  n1 : 1 ≤ rows.length
  n2 : rows.length ≤ 30
  row : ∀ r ∈ rows, r.length = ls.length ∧ ∀ k ∈ r, k < rows.length
  hends : ends.length = rows.length
  end1 : ∀ e ∈ ends, e ≤ 1
theorem get_st {ms : List Int} {c : Int} {rest J : MH} {o : MO} : (Mini.stM ms c :: (rest ++ o :: J))[rest.length + 1]? = some o := by simp
theorem isL_st {ms : List Int} {c : Int} {rest J : MH} {xs : List PV} : isL (.ref (rest.length + 1)) (Mini.stM ms c :: (rest ++ .lst xs :: J)) = true := by unfold isL lstR lstM; simp
theorem append_st {ms : List Int} {c : Int} {rest J : MH} {xs : List PV} {v : PV} (h : xs.length < 16777216) : fAppend (.ref (rest.length + 1)) [v] (Mini.stM ms c :: (rest ++ .lst xs :: J)) = .ok .non (Mini.stM ms c :: (rest ++ .lst (xs ++ [v]) :: J)) := by
  unfold fAppend
  simp only [get_st]
  rw [if_pos (show xs.length < sizeLine from h)]
  simp [List.set_append]
theorem tuple_st {ms : List Int} {c : Int} {rest J : MH} {xs : List PV} : fTupC [.ref (rest.length + 1)] (Mini.stM ms c :: (rest ++ .lst xs :: J)) = .ok (.ctp xs) (Mini.stM ms c :: (rest ++ .lst xs :: J)) := by
  unfold fTupC seqT lstR lstM
  simp
theorem row_loop {nx : MF} (hn : LawNext nx) {ms : List Int} (g : GoodN ms) {rest : MH} {many k : Nat} {way : Int} (hm : 1 ≤ many) (hm2 : many ≤ 30) (hk : k < many) {a1 a2 a5 a10 : Option PV} : ∀ (vs : List PV) (c : Int) (row : List Nat) (a8 a9 : Option PV), 0 ≤ c → c + 3 * (vs.length : Int) ≤ 1000000 → (∀ x ∈ row, x < many) → row.length + vs.length ≤ 1000 →
    ∃ (c' : Int) (row' : List Nat) (a8' a9' : Option PV), forGo always (.nm 8) (L1__law_machine nx) vs [some (.ref 0), a1, a2, some (nP many), some (.int way), a5, some (nP k), some (.ref (rest.length + 1)), a8, a9, a10] (Mini.stM ms c :: (rest ++ [.lst (row.map nP)])) =
      .nx [some (.ref 0), a1, a2, some (nP many), some (.int way), a5, some (nP k), some (.ref (rest.length + 1)), a8', a9', a10] (Mini.stM ms c' :: (rest ++ [.lst (row'.map nP)])) ∧ row'.length = row.length + vs.length ∧ (∀ x ∈ row', x < many) ∧ c ≤ c' ∧ c' ≤ c + 3 * (vs.length : Int)
  | [], c, row, a8, a9, _, _, hr, _ => ⟨c, row, a8, a9, by unfold forGo; rfl, by simp, hr, by omega, by simp⟩
  | v :: vs, c, row, a8, a9, hc, hc2, hr, hl => by
    simp only [List.length_cons] at hc2 hl ⊢
    obtain ⟨_, c1, ⟨d1, rfl, l1, u1⟩, p1, q1, e1⟩ := hn (many : Nat) (by omega) (by omega) ms c (rest ++ [.lst (row.map nP)]) g hc (by omega)
    obtain ⟨_, c2, ⟨d2, rfl, l2, u2⟩, p2, q2, e2⟩ := hn (many : Nat) (by omega) (by omega) ms c1 (rest ++ [.lst (row.map nP)]) g (by omega) (by omega)
    obtain ⟨_, c3, ⟨d3, rfl, l3, u3⟩, p3, q3, e3⟩ := hn 4 (by omega) (by omega) ms c2 (rest ++ [.lst (row.map nP)]) g (by omega) (by omega)
    obtain ⟨y, hy, ey⟩ : ∃ y : Nat, y < many ∧ atI [PV.int (if (many : Int) - 1 < (k : Int) + 1 then (many : Int) - 1 else (k : Int) + 1), nP k, .int ((many : Int) - 1), .int d1] d3 = some (nP y) := by
      rcases (show d3 = 0 ∨ d3 = 1 ∨ d3 = 2 ∨ d3 = 3 by omega) with rfl | rfl | rfl | rfl
      · refine ⟨(if (many : Int) - 1 < (k : Int) + 1 then (many : Int) - 1 else (k : Int) + 1).toNat, by split <;> omega, ?_⟩
        show some (PV.int _) = some (PV.int _)
        congr 2
        split <;> omega
      · exact ⟨k, hk, rfl⟩
      · refine ⟨many - 1, by omega, ?_⟩
        show some (PV.int _) = some (PV.int _)
        congr 2
        omega
      · refine ⟨d1.toNat, by omega, ?_⟩
        show some (PV.int _) = some (PV.int _)
        congr 2
        omega
    obtain ⟨z, hz, ez⟩ : ∃ z : Nat, z < many ∧ atI [PV.int d2, nP y] (if decide (1 < way) = true then 1 else 0) = some (nP z) := by
      by_cases hw : 1 < way
      · refine ⟨y, hy, by simp [hw]⟩
      · refine ⟨d2.toNat, by omega, ?_⟩
        simp [hw]
        omega
    have ea := append_st (ms := ms) (c := c3) (rest := rest) (J := []) (xs := row.map nP) (v := nP z) (by rw [List.length_map]; omega)
    obtain ⟨c', row', a8', a9', e, q5, q6, q7, q8⟩ := row_loop hn g (rest := rest) (way := way) hm hm2 hk (a1 := a1) (a2 := a2) (a5 := a5) (a10 := a10) vs c3 (row ++ [z]) (some v) (some (.frl [PV.int (if (many : Int) - 1 < (k : Int) + 1 then (many : Int) - 1 else (k : Int) + 1), nP k, .int ((many : Int) - 1), .int d1])) (by omega) (by omega) (fun x hx => by
      rcases List.mem_append.mp hx with h | h
      · exact hr x h
      · simp at h; rw [h]; exact hz) (by simp; omega)
    refine ⟨c', row', a8', a9', ?_, by simp at q5; omega, q6, by omega, by omega⟩
    unfold forGo
    rw [if_pos always_true]
    simp at ez
    simp [e1, e2, e3, ey, isL_st, ez, ea]
    simpa using e
theorem rows_loop {nx : MF} (hn : LawNext nx) {ms : List Int} (g : GoodN ms) {rest : MH} {ls : List Str} (hls : ls.length ≤ 4) {many : Nat} {way : Int} (hm : 1 ≤ many) (hm2 : many ≤ 30) {a2 a10 : Option PV} : ∀ (ks : List Nat) (c : Int) (rows : List (List Nat)) (J : MH) (a6 a7 a8 a9 : Option PV), 0 ≤ c → c + 12 * (ks.length : Int) ≤ 1000000 →
    (∀ k ∈ ks, k < many) → (∀ r ∈ rows, r.length = ls.length ∧ ∀ x ∈ r, x < many) → rows.length + ks.length ≤ 100 →
    ∃ (c' : Int) (rows' : List (List Nat)) (J' : MH) (a6' a7' a8' a9' : Option PV), forGo always (.nm 6) (L2__law_machine nx) (ks.map nP) [some (.ref 0), some (.ctp (ls.map .str)), a2, some (nP many), some (.int way), some (.ref (rest.length + 1)), a6, a7, a8, a9, a10] (Mini.stM ms c :: (rest ++ .lst (rows.map rowP) :: J)) =
      .nx [some (.ref 0), some (.ctp (ls.map .str)), a2, some (nP many), some (.int way), some (.ref (rest.length + 1)), a6', a7', a8', a9', a10] (Mini.stM ms c' :: (rest ++ .lst (rows'.map rowP) :: J')) ∧ rows'.length = rows.length + ks.length ∧ (∀ r ∈ rows', r.length = ls.length ∧ ∀ x ∈ r, x < many) ∧ c ≤ c' ∧ c' ≤ c + 12 * (ks.length : Int) :=
  by
  intro ks
  induction ks with
  | nil => exact fun c rows J a6 a7 a8 a9 _ _ _ hr _ => ⟨c, rows, J, a6, a7, a8, a9, by unfold forGo; rfl, by simp, hr, by omega, by simp⟩
  | cons k ks ih =>
    intro c rows J a6 a7 a8 a9 hc hc2 hk hr hl
    simp only [List.length_cons] at hc2 hl ⊢
    obtain ⟨c1, row, b8, b9, e1, q1, q2, q3, q4⟩ := row_loop hn g (rest := rest ++ .lst (rows.map rowP) :: J) (many := many) (k := k) (way := way) hm hm2 (hk k (by simp)) (a1 := some (.ctp (ls.map .str))) (a2 := a2) (a5 := some (.ref (rest.length + 1))) (a10 := a10) (rangeVals 0 ls.length) c [] a8 a9 hc (by simp [rangeVals]; omega) (by simp) (by simp [rangeVals]; omega)
    have hrl : row.length = ls.length := by simpa [rangeVals] using q1
    simp [rangeVals] at q4
    have hr2 : ∀ r ∈ rows ++ [row], r.length = ls.length ∧ ∀ x ∈ r, x < many := fun r h => by
      rcases List.mem_append.mp h with h | h
      · exact hr r h
      · simp at h; rw [h]; exact ⟨hrl, q2⟩
    obtain ⟨c', rows', J', b6, b7, b8', b9', e2, p1, p2, p3, p4⟩ := ih c1 (rows ++ [row]) (J ++ [.lst (row.map nP)]) (some (nP k)) (some (.ref (rest.length + J.length + 1 + 1))) b8 b9 (by omega) (by omega) (fun x hx => hk x (by simp [hx])) hr2 (by simp; omega)
    refine ⟨c', rows', J', b6, b7, b8', b9', ?_, by simp at p1; omega, p2, by omega, by omega⟩
    have ea := append_st (ms := ms) (c := c1) (rest := rest) (J := J ++ [.lst (row.map nP)]) (xs := rows.map rowP) (v := rowP row) (by rw [List.length_map]; omega)
    have et := tuple_st (ms := ms) (c := c1) (rest := rest ++ .lst (rows.map rowP) :: J) (J := []) (xs := row.map nP)
    have ei := isL_st (ms := ms) (c := c1) (rest := rest) (J := J ++ [.lst (row.map nP)]) (xs := rows.map rowP)
    have el : (rest ++ .lst (rows.map rowP) :: J).length + 1 = rest.length + J.length + 1 + 1 := by simp; omega
    rw [el] at e1 et
    simp only [List.append_assoc, List.cons_append] at e1 et
    simp only [List.map_nil] at e1
    rw [List.map_cons]
    unfold forGo
    rw [if_pos always_true]
    have e0 : rest.length + (J.length + 1) + 1 = rest.length + J.length + 1 + 1 := by omega
    have er : ∀ (s : MS) (μ : MH), s[1]? = some (some (.ctp (ls.map .str))) → mRange1 (mCallP fLen (msCons (mVar 1) msNil)) s μ = .ok ⟨rangeVals 0 ls.length, always⟩ μ := fun s μ hs => range_ok (by simp [hs, fLen_ctp]) (by omega)
    simp [sFor, er, e0]
    simp [e1, et, ea, ei]
    rw [show PV.ctp (row.map nP) = rowP row from rfl, ea]
    simpa using e2
theorem store_lst {ms : List Int} {c : Int} {rest J : MH} {xs : List PV} {v : PV} {k : Nat} (h : k < xs.length) : fStore (.ref (rest.length + 1)) (.int (k : Nat)) v (Mini.stM ms c :: (rest ++ .lst xs :: J)) = some (Mini.stM ms c :: (rest ++ .lst (xs.set k v) :: J)) := by
  have e : lstore (.ref (rest.length + 1)) (.int (k : Nat)) v (Mini.stM ms c :: (rest ++ .lst xs :: J)) = some (Mini.stM ms c :: (rest ++ .lst (xs.set k v) :: J)) := by
    unfold lstore
    simp only [get_st]
    have : ixN xs.length ((k : Nat) : Int) = some k := by
      unfold ixN
      rw [if_pos (by omega), if_pos (by omega)]
      simp
    rw [this]
    simp [List.set_append]
  unfold fStore
  rw [e]
theorem ends_comp {nx : MF} (hn : LawNext nx) {ms : List Int} (g : GoodN ms) {rest : MH} {s : MS} (hs : s[0]? = some (some (.ref 0))) : ∀ (ks : List Nat) (c : Int) (es : List Nat), 0 ≤ c → c + (ks.length : Int) ≤ 1000000 → (∀ e ∈ es, e ≤ 1) → es.length + ks.length ≤ 1000 →
    ∃ (c' : Int) (es' : List Nat), compGo always (.nm 6) mbYes (oneElt (mCallP fInt (msCons (mOp fEq (mCallP nx (msCons (mVar 0) (msCons (mC (.int 3)) msNil))) (mC (.int 0))) msNil))) s (ks.map nP) (Mini.stM ms c :: rest) (es.map nP) = .ok (es'.map nP) (Mini.stM ms c' :: rest) ∧ es'.length = es.length + ks.length ∧ (∀ e ∈ es', e ≤ 1) ∧ c ≤ c' ∧ c' ≤ c + (ks.length : Int) := by
  intro ks
  induction ks with
  | nil => exact fun c es _ _ he _ => ⟨c, es, by unfold compGo; rfl, by simp, he, by omega, by simp⟩
  | cons k ks ih =>
    intro c es hc hc2 he hl
    simp only [List.length_cons] at hc2 hl ⊢
    obtain ⟨_, c1, ⟨d, rfl, l1, u1⟩, p1, q1, e1⟩ := hn 3 (by omega) (by omega) ms c rest g hc (by omega)
    obtain ⟨c', es', e2, r1, r2, r3, r4⟩ := ih c1 (es ++ [if d = 0 then 1 else 0]) (by omega) (by omega) (fun x hx => by
      rcases List.mem_append.mp hx with h | h
      · exact he x h
      · simp at h; rw [h]; split <;> omega) (by simp; omega)
    refine ⟨c', es', ?_, by simp at r1; omega, r2, by omega, by omega⟩
    rw [List.map_cons]
    unfold compGo
    rw [if_pos always_true]
    have hs2 : (s.set 6 (some (nP k)))[0]? = some (some (.ref 0)) := by rw [List.getElem?_set_ne (by decide)]; exact hs
    have eo : oneElt (mCallP fInt (msCons (mOp fEq (mCallP nx (msCons (mVar 0) (msCons (mC (.int 3)) msNil))) (mC (.int 0))) msNil)) (s.set 6 (some (nP k))) (Mini.stM ms c :: rest) (es.map nP) = .ok ((es ++ [if d = 0 then 1 else 0]).map nP) (Mini.stM ms c1 :: rest) := by
      unfold oneElt
      simp [hs2, e1, show es.length < 16777216 by omega]
      split <;> rfl
    simp only [bindT, mbYes, R.bind_ok, if_true]
    rw [eo]
    simp only [R.bind_ok]
    exact e2
def LawMachine (f : MF) : Prop := ∀ (ls : List Str) (most : Int), ls ∈ goodSets → 1 ≤ most → most ≤ 30 → DrawF 500 (fun v => ∃ rows ends, v = machP ls rows ends ∧ Mach ls rows ends) f [.ref 0, .ctp (ls.map .str), .int most]
theorem los_rows (n : Nat) : ∀ rows : List (List Nat), PV.los n (rows.map rowP) = true
  | [] => by unfold PV.los; rfl
  | r :: rs => by
    rw [List.map_cons]
    unfold PV.los
    rw [los_rows n rs]
    have : (rowP r).lo n = true := by unfold rowP PV.lo; exact los_nats n r
    rw [this]
    rfl
theorem lo_mach (ls : List Str) (rows : List (List Nat)) (ends : List Nat) (n : Nat) : (machP ls rows ends).lo n = true := by
  unfold machP
  have h1 : (PV.ctp (ls.map .str)).lo n = true := by unfold PV.lo; exact los_strs n ls
  have h2 : (PV.ctp (rows.map rowP)).lo n = true := by unfold PV.lo; exact los_rows n rows
  have h3 : (PV.ctp (ends.map nP)).lo n = true := by unfold PV.lo; exact los_nats n ends
  unfold PV.lo PV.los PV.los PV.los PV.los
  rw [h1, h2, h3]
  rfl
theorem letters_len {ls : List Str} (h : ls ∈ goodSets) : 1 ≤ ls.length ∧ ls.length ≤ 4 := len_sets ls h
theorem law__law_machine {nx : MF} (hn : LawNext nx) : LawMachine (cleanF (raw__law_machine nx)) := by
  intro ls most hls h1 h2 ms c rest g hc hc2
  have hll := letters_len hls
  obtain ⟨_, c1, ⟨d1, rfl, l1, u1⟩, p1, q1, e1⟩ := hn most h1 (by omega) ms c rest g hc (by omega)
  obtain ⟨_, c2, ⟨way, rfl, l2, u2⟩, p2, q2, e2⟩ := hn 4 (by omega) (by omega) ms c1 rest g (by omega) (by omega)
  obtain ⟨many, hm⟩ : ∃ many : Nat, (many : Int) = 1 + d1 := ⟨(1 + d1).toNat, by omega⟩
  obtain ⟨c3, rows, J, b6, b7, b8, b9, e3, r1, r2, r3, r4⟩ := rows_loop hn g (rest := rest) (way := way) hll.2 (many := many) (by omega) (by omega) (a2 := some (.int most)) (a10 := none) (List.range many) c2 [] [] none none none none (by omega) (by simp; omega) (fun k hk => by simpa using hk) (by simp) (by simp; omega)
  simp at r1 r4
  simp only [List.map_nil] at e3
  have hr1 : mRange1 (mVar 3) [some (.ref 0), some (.ctp (ls.map .str)), some (.int most), some (nP many), some (.int way), some (.ref (rest.length + 1)), none, none, none, none, none] (Mini.stM ms c2 :: (rest ++ [.lst []])) = .ok ⟨rangeVals 0 many, always⟩ (Mini.stM ms c2 :: (rest ++ [.lst []])) := range_ok rfl (by omega)
  have hs : (wipeM [some (.ref 0), some (.ctp (ls.map .str)), some (.int most), some (nP many), some (.int way), some (.ref (rest.length + 1)), b6, b7, b8, b9, none] [6])[0]? = some (some (.ref 0)) := rfl
  obtain ⟨c4, es, e4, t1, t2, t3, t4⟩ := ends_comp hn g (rest := rest ++ .lst (rows.map rowP) :: J) hs (List.range many) c3 [] (by omega) (by simp; omega) (by simp) (by simp; omega)
  simp at t1 t4
  simp only [List.map_nil] at e4
  have hr2 : mRange1 (mVar 3) [some (.ref 0), some (.ctp (ls.map .str)), some (.int most), some (nP many), some (.int way), some (.ref (rest.length + 1)), b6, b7, b8, b9, none] (Mini.stM ms c3 :: (rest ++ .lst (rows.map rowP) :: J)) = .ok ⟨rangeVals 0 many, always⟩ (Mini.stM ms c3 :: (rest ++ .lst (rows.map rowP) :: J)) := range_ok rfl (by omega)
  have fin : ∀ es' : List Nat, es'.length = many → (∀ e ∈ es', e ≤ 1) → ∃ rows' ends', machP ls rows es' = machP ls rows' ends' ∧ Mach ls rows' ends' := fun es' hl he => ⟨rows, es', rfl, hls, by omega, by omega, fun r hr => by rw [r1]; exact r2 r hr, by omega, he⟩
  have el : (Mini.stM ms c4 :: (rest ++ .lst (rows.map rowP) :: J)).length = (rest ++ .lst (rows.map rowP) :: J).length + 1 := rfl
  have ec : ∀ es' : List Nat, cl (Mini.stM ms c :: rest) (.ok (machP ls rows es') (Mini.stM ms c4 :: (rest ++ .lst (rows.map rowP) :: (J ++ [.lst (es'.map nP)])))) = .ok (machP ls rows es') (Mini.stM ms c4 :: rest) := fun es' => cl_st (fz_lo (lo_mach _ _ _ _))
  have et : ∀ es' : List Nat, fTupC [.ref (rest.length + 1)] (Mini.stM ms c4 :: (rest ++ .lst (rows.map rowP) :: (J ++ [.lst (es'.map nP)]))) = .ok (.ctp (rows.map rowP)) (Mini.stM ms c4 :: (rest ++ .lst (rows.map rowP) :: (J ++ [.lst (es'.map nP)]))) := fun es' => tuple_st
  have et2 : ∀ es' : List Nat, fTupC [.ref (rest.length + J.length + 1 + 1)] (Mini.stM ms c4 :: (rest ++ .lst (rows.map rowP) :: (J ++ [.lst (es'.map nP)]))) = .ok (.ctp (es'.map nP)) (Mini.stM ms c4 :: (rest ++ .lst (rows.map rowP) :: (J ++ [.lst (es'.map nP)]))) := fun es' => by
    have := tuple_st (ms := ms) (c := c4) (rest := rest ++ .lst (rows.map rowP) :: J) (J := []) (xs := es'.map nP)
    rw [show (rest ++ .lst (rows.map rowP) :: J).length + 1 = rest.length + J.length + 1 + 1 by simp; omega] at this
    simpa only [List.append_assoc, List.cons_append] using this
  have est : ∀ k : Nat, k < many → fStore (.ref (rest.length + J.length + 1 + 1)) (.int (k : Nat)) (.int 0) (Mini.stM ms c4 :: (rest ++ .lst (rows.map rowP) :: (J ++ [.lst (es.map nP)]))) = some (Mini.stM ms c4 :: (rest ++ .lst (rows.map rowP) :: (J ++ [.lst ((es.set k 0).map nP)]))) := fun k hk => by
    have := store_lst (ms := ms) (c := c4) (rest := rest ++ .lst (rows.map rowP) :: J) (J := []) (xs := es.map nP) (v := .int 0) (k := k) (by rw [List.length_map]; omega)
    rw [show (rest ++ .lst (rows.map rowP) :: J).length + 1 = rest.length + J.length + 1 + 1 by simp; omega] at this
    rw [show PV.int 0 = nP 0 from rfl, ← List.map_set] at this
    simp only [List.append_assoc, List.cons_append] at this
    exact this
  have e0 : rest.length + (J.length + 1) + 1 = rest.length + J.length + 1 + 1 := by omega
  have hmi : (1 : Int) + d1 = (many : Nat) := hm.symm
  have hm1 : ((many : Nat) : Int) - 1 = ((many - 1 : Nat) : Int) := by omega
  by_cases hw : way = 3
  · refine ⟨machP ls rows (es.set (many - 1) 0), c4, fin _ (by rw [List.length_set]; exact t1) (fun e he => ?_), by omega, by omega, ?_⟩
    · rcases List.mem_or_eq_of_mem_set he with h | h
      · exact t2 e h
      · omega
    · have : raw__law_machine nx [.ref 0, .ctp (ls.map .str), .int most] (Mini.stM ms c :: rest) = .ok (machP ls rows (es.set (many - 1) 0)) (Mini.stM ms c4 :: (rest ++ .lst (rows.map rowP) :: (J ++ [.lst ((es.set (many - 1) 0).map nP)]))) := by
        unfold raw__law_machine mDef b__law_machine
        subst hw
        simp [e1, e2, hmi, sFor, hr1, rangeVals_nat, e3, mLcL, hr2, e4, e0, hm1, est (many - 1) (by omega), et, et2, -List.map_set]
        rfl
      unfold cleanF
      rw [this]
      exact ec _
  · refine ⟨machP ls rows es, c4, fin _ t1 t2, by omega, by omega, ?_⟩
    have : raw__law_machine nx [.ref 0, .ctp (ls.map .str), .int most] (Mini.stM ms c :: rest) = .ok (machP ls rows es) (Mini.stM ms c4 :: (rest ++ .lst (rows.map rowP) :: (J ++ [.lst (es.map nP)]))) := by
      unfold raw__law_machine mDef b__law_machine
      simp [e1, e2, hmi, sFor, hr1, rangeVals_nat, e3, mLcL, hr2, e4, e0, hw, et, et2]
      rfl
    unfold cleanF
    rw [this]
    exact ec _
end K03

namespace K03
open PySem PySem.Spec PyProof.Rows L2 Mini
/-! ### the text of a machine -/
def num (k : Nat) : Str := toString ((k : Nat) : Int)
theorem fStr_num {k : Nat} {μ : MH} (h : k ≤ 1000) : fStr [nP k] μ = .ok (.str (num k)) μ := by
  unfold fStr
  show (if ((k : Nat) : Int).natAbs.log2 < 1920 then R.ok (PV.str (toString ((k : Nat) : Int))) μ else .bad) = _
  rw [if_pos (by
    have : ((k : Nat) : Int).natAbs = k := Int.natAbs_natCast k
    rw [this]
    have := Nat.log2_le_self k
    omega)]
  rfl
def mark (e : Nat) : Str := if e = 1 then "+" else "."
def rowW (r : List Nat) (e : Nat) : List Str := mark e :: r.map num
def rowL (r : List Nat) (e : Nat) : Str := Str.join (sg 32) (rowW r e)
def linesOf (ls : List Str) (rows : List (List Nat)) (ends : List Nat) : List Str := Str.join (sg 32) ls :: List.zipWith rowL rows ends
def textOf (ls : List Str) (rows : List (List Nat)) (ends : List Nat) : Str := Str.join "" ((linesOf ls rows ends).map (· ++ "\n"))
theorem num_len : ∀ k < 30, (num k).length ≤ 2 := by decide +kernel
theorem num_nv : ∀ k < 30, nv (num k) = (k : Nat) := by decide +kernel
theorem num_free : ∀ k < 30, (num k).cps.toList.all (fun c => decide (48 ≤ c ∧ c ≤ 57)) = true := by decide +kernel
theorem num_free2 {k : Nat} (h : k < 30) {c : Nat} (hc : c ∈ (num k).cps.toList) : 48 ≤ c ∧ c ≤ 57 := by
  have := List.all_eq_true.mp (num_free k h) c hc
  simpa using this
theorem mark_sign (e : Nat) : ∀ c ∈ (mark e).cps.toList, c = 43 ∨ c = 46 := by
  unfold mark
  split <;> decide
theorem mark_len (e : Nat) : (mark e).length = 1 := by unfold mark; split <;> decide
theorem set_words : ∀ ls ∈ goodSets, (∀ z ∈ ls, ∀ c ∈ z.cps.toList, 97 ≤ c ∧ c ≤ 122) := by decide
theorem set_wgt : ∀ ls ∈ goodSets, wgt ls ≤ 100 := by decide
/-- the words of a row's line -/
theorem row_word {r : List Nat} {e : Nat} (h : ∀ k ∈ r, k < 30) {z : Str} (hz : z ∈ rowW r e) : z.length ≤ 2 ∧ ∀ c ∈ z.cps.toList, 43 ≤ c ∧ c ≤ 57 := by
  unfold rowW at hz
  rcases List.mem_cons.mp hz with rfl | hz
  · refine ⟨by rw [mark_len]; omega, fun c hc => ?_⟩
    have := mark_sign e c hc
    omega
  · obtain ⟨k, hk, rfl⟩ := List.mem_map.mp hz
    refine ⟨num_len k (h k hk), fun c hc => ?_⟩
    have := num_free2 (h k hk) hc
    omega
theorem row_wgt {r : List Nat} {e : Nat} (h : ∀ k ∈ r, k < 30) : wgt (rowW r e) ≤ 2 + 3 * r.length := by
  unfold rowW
  rw [wgt_cons, mark_len]
  have : ∀ r : List Nat, (∀ k ∈ r, k < 30) → wgt (r.map num) ≤ 3 * r.length := by
    intro r
    induction r with
    | nil => intro _; simp [wgt_nil]
    | cons k r ih =>
      intro h
      rw [List.map_cons, wgt_cons, List.length_cons]
      have := ih fun k hk => h k (List.mem_cons_of_mem _ hk)
      have := num_len k (h k List.mem_cons_self)
      omega
  have := this r h
  omega
theorem join_free {ys : List Str} {s c : Nat} (hs : c ≠ s) (h : ∀ y ∈ ys, c ∉ y.cps.toList) : c ∉ (Str.join (sg s) ys).cps.toList := fun hc => by
  rw [join_cps] at hc
  rcases jn_mem hc with q | ⟨x, hx, q⟩
  · simp at q; exact hs q
  · obtain ⟨y, hy, rfl⟩ := List.mem_map.mp hx
    exact h y hy q
/-- a line of a machine's text -/
theorem line_ok {ls : List Str} {rows : List (List Nat)} {ends : List Nat} (m : Mach ls rows ends) {l : Str} (hl : l ∈ linesOf ls rows ends) : l.length ≤ 100 ∧ Ascii l ∧ 10 ∉ l.cps.toList := by
  unfold linesOf at hl
  rcases List.mem_cons.mp hl with rfl | hl
  · have w := set_words ls m.hls
    refine ⟨Nat.le_trans (join_wgt ls) (set_wgt ls m.hls), Ascii.join (by unfold Ascii; decide) (fun y hy k hk => ?_), join_free (by decide) fun y hy q => ?_⟩
    · have := w y hy k hk; omega
    · have := w y hy 10 q; omega
  · obtain ⟨i, hi, rfl⟩ := List.mem_iff_getElem.mp hl
    rw [List.getElem_zipWith]
    have hr : i < rows.length := by rw [List.length_zipWith] at hi; omega
    have mr := m.row (rows[i]'hr) (List.getElem_mem hr)
    have lt : ∀ k ∈ rows[i], k < 30 := fun k hk => Nat.lt_of_lt_of_le (mr.2 k hk) m.n2
    have w := fun (y : Str) (hy : y ∈ rowW rows[i] (ends[i]'(by rw [List.length_zipWith] at hi; omega))) => row_word lt hy
    have l4 := (len_sets ls m.hls).2
    refine ⟨Nat.le_trans (join_wgt _) (Nat.le_trans (row_wgt lt) (by rw [mr.1]; omega)), Ascii.join (by unfold Ascii; decide) (fun y hy k hk => ?_), join_free (by decide) fun y hy q => ?_⟩
    · have := (w y hy).2 k hk; omega
    · have := (w y hy).2 10 q; omega
theorem jn_nl : ∀ xs : List (List Nat), jn [] (xs.map (· ++ [10])) = jn [10] (xs ++ [[]])
  | [] => rfl
  | [x] => by simp [jn]
  | x :: y :: r => by
    have ih := jn_nl (y :: r)
    simp only [List.map_cons, List.cons_append] at ih ⊢
    simp only [jn]
    rw [List.append_nil, ih]
theorem text_join (xs : List Str) : Str.join "" (xs.map (· ++ "\n")) = Str.join (sg 10) (xs ++ [("" : Str)]) := by
  apply str_ext
  rw [join_cps, join_cps, List.map_map, List.map_append]
  have := jn_nl (xs.map fun y => y.cps.toList)
  rw [List.map_map] at this
  have e : ((fun y : Str => y.cps.toList) ∘ fun x : Str => x ++ "\n") = ((fun x : List Nat => x ++ [10]) ∘ fun y : Str => y.cps.toList) := by
    funext z
    show (z ++ "\n").cps.toList = z.cps.toList ++ [10]
    rw [cps_app]
    rfl
  rw [e]
  exact this
theorem ln_text {ls : List Str} {rows : List (List Nat)} {ends : List Nat} (m : Mach ls rows ends) : ln (textOf ls rows ends) = linesOf ls rows ends ++ [("" : Str)] := by
  unfold textOf ln
  rw [text_join]
  refine split_join (by simp) fun y hy => ?_
  rcases List.mem_append.mp hy with h | h
  · exact (line_ok m h).2.2
  · simp at h
    subst h
    decide
theorem lines_len {ls : List Str} {rows : List (List Nat)} {ends : List Nat} (m : Mach ls rows ends) : (linesOf ls rows ends).length = rows.length + 1 := by
  unfold linesOf
  rw [List.length_cons, List.length_zipWith, m.hends]
  omega
theorem wgt_le {n : Nat} : ∀ {ys : List Str}, (∀ y ∈ ys, y.length ≤ n) → wgt ys ≤ (n + 1) * ys.length
  | [], _ => by simp [wgt_nil]
  | y :: ys, h => by
    rw [wgt_cons, List.length_cons, Nat.mul_succ]
    have := wgt_le fun z hz => h z (List.mem_cons_of_mem y hz)
    have := h y List.mem_cons_self
    omega
/-- the text of a drawn machine is short -/
theorem text_short {ls : List Str} {rows : List (List Nat)} {ends : List Nat} (m : Mach ls rows ends) : (textOf ls rows ends).length ≤ 5000 ∧ Ascii (textOf ls rows ends) := by
  unfold textOf
  rw [text_join]
  have ok : ∀ y ∈ linesOf ls rows ends ++ [("" : Str)], y.length ≤ 100 ∧ Ascii y := fun y hy => by
    rcases List.mem_append.mp hy with h | h
    · exact ⟨(line_ok m h).1, (line_ok m h).2.1⟩
    · simp at h; subst h; exact ⟨by decide, by unfold Ascii; decide⟩
  refine ⟨Nat.le_trans (join_wgt _) (Nat.le_trans (wgt_le fun y hy => (ok y hy).1) ?_), Ascii.join (by unfold Ascii; decide) fun y hy => (ok y hy).2⟩
  rw [List.length_append, lines_len m]
  have := m.n2
  simp
  omega
/-! ### read back -/
def stsOf (rows : List (List Nat)) (ends : List Nat) : List St := List.zipWith (fun r (e : Nat) => ((e : Int), r.map fun (k : Nat) => (k : Int))) rows ends
theorem rs_row {r : List Nat} {e many : Nat} (hr : r.length = many) (h : ∀ k ∈ r, k < 30) (he : e ≤ 1) : rs (rowL r e) many = some ((e : Int), r.map fun (k : Nat) => (k : Int)) := by
  have w : wd (rowL r e) = rowW r e := split_join (by unfold rowW; simp) fun y hy q => by
    have := (row_word h hy).2 32 q
    omega
  have ro : rowOf (rowL r e) = r.map fun (k : Nat) => (k : Int) := by
    unfold rowOf
    rw [w]
    unfold rowW
    rw [List.drop_succ_cons, List.drop_zero, List.map_map]
    exact List.map_congr_left fun k hk => num_nv k (h k hk)
  unfold rs
  rw [w, ro]
  have hd : (rowW r e).headD "" = mark e := rfl
  rw [hd]
  have c1 : mark e = "+" ∨ mark e = "." := by unfold mark; split <;> simp
  have c2 : ((r.map fun (k : Nat) => (k : Int)).all fun n => decide (n < 30)) = true := by
    rw [List.all_eq_true]
    intro x hx
    obtain ⟨k, hk, rfl⟩ := List.mem_map.mp hx
    have := h k hk
    rw [decide_eq_true_eq]
    omega
  rw [if_pos ⟨c1, by rw [List.length_map]; exact hr, c2⟩]
  congr 2
  rcases (show e = 0 ∨ e = 1 by omega) with rfl | rfl
  · rw [if_neg (by decide)]; rfl
  · rw [if_pos (by decide)]; rfl
theorem body_rows {many : Nat} : ∀ (rows : List (List Nat)) (ends : List Nat) (n : Nat) (acc : List St), (∀ r ∈ rows, r.length = many ∧ ∀ k ∈ r, k < 30) → (∀ e ∈ ends, e ≤ 1) → rows.length = ends.length → acc.length + rows.length ≤ 30 → body many n (List.zipWith rowL rows ends) acc = .inr (acc ++ stsOf rows ends)
  | [], [], n, acc, _, _, _, _ => by unfold body stsOf; simp
  | [], _ :: _, n, acc, _, _, h, _ => by cases h
  | _ :: _, [], n, acc, _, _, h, _ => by cases h
  | r :: rows, e :: ends, n, acc, hr, he, hl, h30 => by
    simp only [List.length_cons] at hl h30
    have ih := body_rows (many := many) rows ends (n + 1) (acc ++ [((e : Int), r.map fun (k : Nat) => (k : Int))]) (fun q hq => hr q (List.mem_cons_of_mem _ hq)) (fun q hq => he q (List.mem_cons_of_mem _ hq)) (by omega) (by rw [List.length_append, List.length_singleton]; omega)
    rw [List.zipWith_cons_cons]
    unfold body
    rw [rs_row (hr r List.mem_cons_self).1 (hr r List.mem_cons_self).2 (he e List.mem_cons_self)]
    simp only
    rw [if_neg (by omega), ih]
    unfold stsOf
    simp
theorem maxL_lt {ns : List Int} {b : Int} (h : 0 < ns.length) (q : ∀ n ∈ ns, n < b) : maxL ns < b := by
  cases ns with
  | nil => exact absurd h (by decide)
  | cons x r => exact q _ (maxL_fold r x).1
theorem sts_len {rows : List (List Nat)} {ends : List Nat} (h : ends.length = rows.length) : (stsOf rows ends).length = rows.length := by
  unfold stsOf
  rw [List.length_zipWith, h]
  omega
theorem parse_text {ls : List Str} {rows : List (List Nat)} {ends : List Nat} (m : Mach ls rows ends) : parse (textOf ls rows ends) = .inr (ls, stsOf rows ends) := by
  have w : wd (Str.join (sg 32) ls) = ls := split_join (fun e => by have := (len_sets ls m.hls).1; rw [e] at this; exact absurd this (by decide)) fun y hy q => by
    have := set_words ls m.hls y hy 32 q
    omega
  have lt : ∀ r ∈ rows, r.length = ls.length ∧ ∀ k ∈ r, k < 30 := fun r hr => ⟨(m.row r hr).1, fun k hk => Nat.lt_of_lt_of_le ((m.row r hr).2 k hk) m.n2⟩
  have b := body_rows rows ends 2 [] lt m.end1 m.hends.symm (by have := m.n2; simp; omega)
  have sl := sts_len m.hends
  unfold parse
  rw [ln_text m, List.dropLast_concat]
  unfold linesOf
  simp only
  rw [w, okL_sets ls m.hls, b]
  simp only [if_true]
  unfold tail
  have f : fin ((Str.join (sg 32) ls :: List.zipWith rowL rows ends ++ [("" : Str)]).getLastD "") ([] ++ stsOf rows ends) = true := by
    have e1 : (Str.join (sg 32) ls :: List.zipWith rowL rows ends ++ [("" : Str)]).getLastD "" = "" := by
      rw [List.getLastD_eq_getLast?]
      rw [List.getLast?_concat]
      rfl
    rw [e1, List.nil_append]
    unfold fin
    rw [sl]
    have n1 := m.n1
    have c2 : maxL ((stsOf rows ends).map fun s => maxL s.2) < (rows.length : Nat) := by
      refine maxL_lt (by rw [List.length_map, sl]; omega) fun n hn => ?_
      obtain ⟨s, hs, rfl⟩ := List.mem_map.mp hn
      unfold stsOf at hs
      obtain ⟨i, hi, rfl⟩ := List.mem_iff_getElem.mp hs
      rw [List.getElem_zipWith]
      have hr : i < rows.length := by rw [List.length_zipWith] at hi; omega
      have mr := m.row (rows[i]'hr) (List.getElem_mem hr)
      refine maxL_lt (by rw [List.length_map, mr.1]; exact (len_sets ls m.hls).1) fun k hk => ?_
      obtain ⟨j, hj, rfl⟩ := List.mem_map.mp hk
      have := mr.2 j hj
      omega
    rw [decide_eq_true c2, decide_eq_true (show ("" : Str) = "" from rfl), decide_eq_true (show rows.length ≠ 0 by omega)]
    rfl
  rw [f, if_pos rfl, w]
  rfl
theorem sts_rows : ∀ (rows : List (List Nat)) (ends : List Nat), ends.length = rows.length → (stsOf rows ends).map (fun s => PV.ctp (s.2.map .int)) = rows.map rowP ∧ (stsOf rows ends).map (fun s => PV.int s.1) = ends.map nP
  | [], [], _ => ⟨rfl, rfl⟩
  | [], _ :: _, h => by cases h
  | _ :: _, [], h => by cases h
  | r :: rows, e :: ends, h => by
    obtain ⟨h1, h2⟩ := sts_rows rows ends (by simpa using h)
    unfold stsOf at h1 h2 ⊢
    rw [List.zipWith_cons_cons, List.map_cons, List.map_cons, List.map_cons, List.map_cons, h1, h2]
    refine ⟨?_, rfl⟩
    congr 1
    unfold rowP
    rw [List.map_map]
    rfl
theorem machV_text {ls : List Str} {rows : List (List Nat)} {ends : List Nat} (m : Mach ls rows ends) : machV (ls, stsOf rows ends) = machP ls rows ends := by
  unfold machV machP
  obtain ⟨h1, h2⟩ := sts_rows rows ends m.hends
  show PV.ctp [_, .ctp ((stsOf rows ends).map fun s => PV.ctp (s.2.map .int)), .ctp ((stsOf rows ends).map fun s => PV.int s.1)] = _
  rw [h1, h2]
end K03

namespace K03
open PySem PySem.Spec PyProof.Rows L2 Mini
/-! ### the program's text and the law's -/
theorem over_newI {i : Nat} {s : MS} {μ : MH} {xs : List PV} (h : s[i]? = some (some (.ref μ.length))) : mOver (mVar i) s (μ ++ [.lst xs]) = .ok ⟨xs, stays μ.length xs⟩ (μ ++ [.lst xs]) := by
  have e : mVar i s (μ ++ [.lst xs]) = .ok (.ref μ.length) (μ ++ [.lst xs]) := by simp only [mVar, h]
  unfold mOver
  rw [e]
  simp [planOf]
theorem str_plus {z : Str} {μ : MH} (h : z.length ≤ 1000) : fAddC (.str z) (.str "\n") μ = .ok (.str (z ++ "\n")) μ := by
  unfold fAddC
  show fAdd (.str z) (.str "\n") μ = _
  unfold fAdd
  show (if z.length + ("\n" : Str).length ≤ sizeLine then R.ok (PV.str (z ++ "\n")) μ else .bad) = _
  rw [if_pos]
  rw [sizeLine_n]
  have : ("\n" : Str).length = 1 := by decide
  omega
theorem join_row {r : List Nat} {e : Nat} {μ : MH} (h : ∀ k ∈ r, k < 30) (h4 : r.length ≤ 4) : fJoin (.str " ") [.frl (.str (mark e) :: r.map fun k => .str (num k))] μ = .ok (.str (rowL r e)) μ := by
  rw [sp_eq]
  have e1 : PV.str (mark e) :: (r.map fun k => PV.str (num k)) = (rowW r e).map .str := by
    unfold rowW
    rw [List.map_cons, List.map_map]
    rfl
  rw [e1]
  exact fJoin_run (txts_frl _ _) (by have := row_wgt (e := e) h; omega)
theorem join_ls {ls : List Str} {μ : MH} (h : ls ∈ goodSets) : fJoin (.str " ") [.ctp (ls.map .str)] μ = .ok (.str (Str.join (sg 32) ls)) μ := by
  rw [sp_eq]
  exact fJoin_run (txts_ctp _ _) (by have := set_wgt ls h; omega)
theorem join_end {ys : List Str} {μ : MH} (h : ∀ y ∈ ys, y.length ≤ 100) (h4 : ys.length ≤ 31) : fJoin (.str "") [.frl (ys.map fun y => .str (y ++ "\n"))] μ = .ok (.str (Str.join "" (ys.map (· ++ "\n")))) μ := by
  have e1 : (ys.map fun y => PV.str (y ++ "\n")) = (ys.map (· ++ ("\n" : Str))).map .str := by
    rw [List.map_map]
    rfl
  rw [e1]
  have app : ∀ y : Str, (y ++ "\n").length = y.length + 1 := fun y => by
    rw [str_len, str_len, cps_app, List.length_append]
    rfl
  refine fJoin0_run (txts_frl _ _) ?_
  have := wgt_le (n := 101) (ys := ys.map (· ++ ("\n" : Str))) fun z hz => by
    obtain ⟨y, hy, rfl⟩ := List.mem_map.mp hz
    have := h y hy
    have := app y
    omega
  rw [List.length_map] at this
  omega
theorem nats_lc {vs : List Nat} {j : Nat} {i : MI} {s s2 : MS} {μ : MH} {r : List Nat} (hi : i s μ = .ok ⟨r.map nP, always⟩ μ) (h2 : wipeM s vs = s2) (hj : j < s2.length) (h : ∀ k ∈ r, k < 30) (h4 : r.length ≤ 4) : mLc vs i (.nm j) mbYes (mCallP fStr (msCons (mVar j) msNil)) s μ = .ok (.frl (r.map fun k => .str (num k))) μ :=
  lc_map (chk := always) nP (fun k => .str (num k)) hi rfl (fun k hk => ⟨_, rfl, by
    have h3 : (s2.set j (some (nP k)))[j]? = some (some (nP k)) := by rw [List.getElem?_set_self hj]
    rw [h2]
    simp only [mCallP, msCons, msNil, mVar, h3, R.bind_ok]
    exact fStr_num (by have := h k hk; omega)⟩) (by omega)
theorem mt_turn {M Ls Rs Es : PV} {r : List Nat} {e : Nat} {acc : List Str} {a7 a8 : Option PV} {μ : MH} (h : ∀ k ∈ r, k < 30) (h4 : r.length ≤ 4) (he : e ≤ 1) (ha : acc.length ≤ 100) :
    L1_machine_text [some M, some Ls, some Rs, some Es, some (.ref μ.length), some (rowP r), some (nP e), a7, a8] (μ ++ [.lst (acc.map .str)]) = .nx [some M, some Ls, some Rs, some Es, some (.ref μ.length), some (rowP r), some (nP e), a7, a8] (μ ++ [.lst ((acc ++ [rowL r e]).map .str)]) := by
  have isl := isL_new μ (acc.map .str)
  have ap := append_new (μ := μ) (xs := acc.map .str) (v := .str (rowL r e)) (by rw [List.length_map]; omega)
  have lc := nats_lc (vs := [7]) (j := 7) (i := mOver (mVar 5)) (s := [some M, some Ls, some Rs, some Es, some (.ref μ.length), some (rowP r), some (nP e), a7, a8]) (μ := μ ++ [.lst (acc.map .str)]) (r := r) (by
    unfold rowP
    exact over_ctp (by simp)) rfl (by show 7 < 9; decide) h h4
  have j := join_row (e := e) (μ := μ ++ [.lst (acc.map .str)]) h h4
  unfold L1_machine_text
  rcases (show e = 0 ∨ e = 1 by omega) with rfl | rfl
  · have mk : mark 0 = "." := by decide
    rw [mk] at j
    simp [mMeth, isl, isStr_str, lc, starOf, seqT, seqR, lstR, lstM, j, ap, show r.length ≤ 16777215 by omega]
  · have mk : mark 1 = "+" := by decide
    rw [mk] at j
    simp [mMeth, isl, isStr_str, lc, starOf, seqT, seqR, lstR, lstM, j, ap, show r.length ≤ 16777215 by omega]
theorem mt_loop {M Ls Rs Es : PV} {μ : MH} : ∀ (rows : List (List Nat)) (ends : List Nat) (acc : List Str) (a5 a6 a7 a8 : Option PV), (∀ r ∈ rows, r.length ≤ 4 ∧ ∀ k ∈ r, k < 30) → (∀ e ∈ ends, e ≤ 1) → ends.length = rows.length → acc.length + rows.length ≤ 100 →
    ∃ a5' a6' a7' a8', forGo always (.tp [.nm 5, .nm 6]) L1_machine_text (zipVals (rows.map rowP) (ends.map nP)) [some M, some Ls, some Rs, some Es, some (.ref μ.length), a5, a6, a7, a8] (μ ++ [.lst (acc.map .str)]) = .nx [some M, some Ls, some Rs, some Es, some (.ref μ.length), a5', a6', a7', a8'] (μ ++ [.lst ((acc ++ List.zipWith rowL rows ends).map .str)])
  | [], [], acc, a5, a6, a7, a8, _, _, _, _ => ⟨a5, a6, a7, a8, by simp [zipVals, forGo]⟩
  | [], _ :: _, acc, a5, a6, a7, a8, _, _, h, _ => by cases h
  | _ :: _, [], acc, a5, a6, a7, a8, _, _, h, _ => by cases h
  | r :: rows, e :: ends, acc, a5, a6, a7, a8, hr, he, hl, h100 => by
    simp only [List.length_cons] at hl h100
    obtain ⟨b5, b6, b7, b8, ih⟩ := mt_loop (M := M) (Ls := Ls) (Rs := Rs) (Es := Es) (μ := μ) rows ends (acc ++ [rowL r e]) (some (rowP r)) (some (nP e)) a7 a8 (fun q hq => hr q (List.mem_cons_of_mem _ hq)) (fun q hq => he q (List.mem_cons_of_mem _ hq)) (by omega) (by rw [List.length_append, List.length_singleton]; omega)
    refine ⟨b5, b6, b7, b8, ?_⟩
    have turn := mt_turn (M := M) (Ls := Ls) (Rs := Rs) (Es := Es) (acc := acc) (a7 := a7) (a8 := a8) (μ := μ) (hr r List.mem_cons_self).2 (hr r List.mem_cons_self).1 (he e List.mem_cons_self) (by omega)
    rw [List.map_cons, List.map_cons]
    unfold zipVals forGo
    simp only [always_true, if_true, bindT_tup, bindTs_nm, bindTs_nil]
    rw [show (([some M, some Ls, some Rs, some Es, some (.ref μ.length), a5, a6, a7, a8] : MS).set 5 (some (rowP r))).set 6 (some (nP e)) = [some M, some Ls, some Rs, some Es, some (.ref μ.length), some (rowP r), some (nP e), a7, a8] from rfl, turn]
    simp only
    rw [ih]
    simp
def LawText (f : MF) : Prop := ∀ (ls : List Str) (rows : List (List Nat)) (ends : List Nat) (μ : MH), Mach ls rows ends → f [machP ls rows ends] μ = .ok (.str (textOf ls rows ends)) μ
theorem row_four {ls : List Str} {rows : List (List Nat)} {ends : List Nat} (m : Mach ls rows ends) : ∀ r ∈ rows, r.length ≤ 4 ∧ ∀ k ∈ r, k < 30 := fun r hr => by
  have := m.row r hr
  have := (len_sets ls m.hls).2
  exact ⟨by omega, fun k hk => Nat.lt_of_lt_of_le ((m.row r hr).2 k hk) m.n2⟩
theorem add_lc {vs : List Nat} {i j : Nat} {s s2 : MS} {μ : MH} {ys : List Str} (hs : s[i]? = some (some (.ref μ.length))) (h2 : wipeM s vs = s2) (hj : j < s2.length) (h : ∀ y ∈ ys, y.length ≤ 100) (h4 : ys.length ≤ 31) : mLc vs (mOver (mVar i)) (.nm j) mbYes (mOp fAddC (mVar j) (mC (.str "\n"))) s (μ ++ [.lst (ys.map .str)]) = .ok (.frl (ys.map fun y => .str (y ++ "\n"))) (μ ++ [.lst (ys.map .str)]) :=
  lc_map (chk := stays μ.length (ys.map .str)) PV.str (fun y => .str (y ++ "\n")) (over_newI hs) (stays_self (by simp)) (fun y hy => ⟨_, rfl, by
    have h3 : (s2.set j (some (.str y)))[j]? = some (some (.str y)) := by rw [List.getElem?_set_self hj]
    rw [h2]
    simp only [mOp, mC, mVar, h3, R.bind_ok]
    exact str_plus (by have := h y hy; omega)⟩) (by omega)
theorem law_machine_text : LawText (cleanF raw_machine_text) := by
  intro ls rows ends μ m
  have l1 := lines_len m
  have n2 := m.n2
  have ok : ∀ y ∈ linesOf ls rows ends, y.length ≤ 100 := fun y hy => (line_ok m hy).1
  have jl := join_ls (μ := μ) m.hls
  obtain ⟨b5, b6, b7, b8, lp⟩ := mt_loop (M := machP ls rows ends) (Ls := .ctp (ls.map .str)) (Rs := .ctp (rows.map rowP)) (Es := .ctp (ends.map nP)) (μ := μ) rows ends [Str.join (sg 32) ls] none none none none (row_four m) m.end1 m.hends (by simp; omega)
  have cons : [Str.join (sg 32) ls] ++ List.zipWith rowL rows ends = linesOf ls rows ends := rfl
  rw [cons] at lp
  have lc := add_lc (vs := [8]) (i := 4) (j := 8) (s := [some (machP ls rows ends), some (.ctp (ls.map .str)), some (.ctp (rows.map rowP)), some (.ctp (ends.map nP)), some (.ref μ.length), b5, b6, b7, b8]) (μ := μ) (ys := linesOf ls rows ends) rfl rfl (by show 8 < 9; decide) ok (by omega)
  have je := join_end (μ := μ ++ [.lst ((linesOf ls rows ends).map .str)]) ok (by omega)
  have e : raw_machine_text [machP ls rows ends] μ = .ok (.str (textOf ls rows ends)) (μ ++ [.lst ((linesOf ls rows ends).map .str)]) := by
    unfold raw_machine_text mDef
    show (match b_machine_text [some (machP ls rows ends), none, none, none, none, none, none, none, none] μ with | .nx _ μ1 => R.ok PV.non μ1 | .rt v μ1 => R.ok v μ1 | .er c p _ μ1 => R.err c p μ1 | _ => R.bad) = _
    unfold b_machine_text
    rw [sSeq_nx (s1 := [some (machP ls rows ends), some (.ctp (ls.map .str)), some (.ctp (rows.map rowP)), some (.ctp (ends.map nP)), none, none, none, none, none]) (μ1 := μ) (by simp [machP])]
    rw [sSeq_nx (s1 := [some (machP ls rows ends), some (.ctp (ls.map .str)), some (.ctp (rows.map rowP)), some (.ctp (ends.map nP)), some (.ref μ.length), none, none, none, none]) (μ1 := μ ++ [.lst [.str (Str.join (sg 32) ls)]]) (by simp [mMeth, isStr_str, jl])]
    rw [sSeq_nx (s1 := [some (machP ls rows ends), some (.ctp (ls.map .str)), some (.ctp (rows.map rowP)), some (.ctp (ends.map nP)), some (.ref μ.length), b5, b6, b7, b8]) (μ1 := μ ++ [.lst ((linesOf ls rows ends).map .str)]) (by
      unfold sFor
      have : mZip (mVar 2) (mVar 3) [some (machP ls rows ends), some (.ctp (ls.map .str)), some (.ctp (rows.map rowP)), some (.ctp (ends.map nP)), some (.ref μ.length), none, none, none, none] (μ ++ [.lst [.str (Str.join (sg 32) ls)]]) = .ok ⟨zipVals (rows.map rowP) (ends.map nP), fun μ => always μ && always μ⟩ (μ ++ [.lst [.str (Str.join (sg 32) ls)]]) := by
        simp [mZip, planOf, isT]
      rw [this]
      exact lp)]
    simp [mMeth, isStr_str, lc, je, textOf]
  unfold cleanF
  rw [e]
  exact cl_app (fz_lo (by simp [PV.lo]))
/-! the law's text -/
theorem mark_ix {e : Nat} {μ : MH} (he : e ≤ 1) : fIx (.str ".+") (nP e) μ = .ok (.str (mark e)) μ := by
  rcases (show e = 0 ∨ e = 1 by omega) with rfl | rfl <;> rfl
theorem lt_turn {ls : List Str} {rows : List (List Nat)} {ends : List Nat} (m : Mach ls rows ends) {k : Nat} {r : List Nat} {e : Nat} (hr : rows[k]? = some r) (he : ends[k]? = some e) {acc : List Str} {a3 a4 : Option PV} {μ : MH} (ha : acc.length ≤ 100) :
    L1__law_text [some (machP ls rows ends), some (.ref μ.length), some (nP k), a3, a4] (μ ++ [.lst (acc.map .str)]) = .nx [some (machP ls rows ends), some (.ref μ.length), some (nP k), a3, a4] (μ ++ [.lst ((acc ++ [rowL r e]).map .str)]) := by
  have rf := row_four m r (List.mem_of_getElem? hr)
  have e1 := m.end1 e (List.mem_of_getElem? he)
  have isl := isL_new μ (acc.map .str)
  have ap := append_new (μ := μ) (xs := acc.map .str) (v := .str (rowL r e)) (by rw [List.length_map]; omega)
  have ixr : fIx (.ctp (rows.map rowP)) (nP k) (μ ++ [.lst (acc.map .str)]) = .ok (rowP r) (μ ++ [.lst (acc.map .str)]) := by
    have : atI (rows.map rowP) ((k : Nat) : Int) = some (rowP r) := Mini.atI_nat (by rw [List.getElem?_map, hr]; rfl)
    simp [this]
  have ixe : fIx (.ctp (ends.map nP)) (nP k) (μ ++ [.lst (acc.map .str)]) = .ok (nP e) (μ ++ [.lst (acc.map .str)]) := by
    have : atI (ends.map nP) ((k : Nat) : Int) = some (nP e) := Mini.atI_nat (by rw [List.getElem?_map, he]; rfl)
    simp [this]
  have m1 : fIx (machP ls rows ends) (.int 1) (μ ++ [.lst (acc.map .str)]) = .ok (.ctp (rows.map rowP)) (μ ++ [.lst (acc.map .str)]) := by simp [machP]
  have m2 : fIx (machP ls rows ends) (.int 2) (μ ++ [.lst (acc.map .str)]) = .ok (.ctp (ends.map nP)) (μ ++ [.lst (acc.map .str)]) := by simp [machP]
  have lc := nats_lc (vs := [3]) (j := 3) (i := mOver (mOp fIx (mOp fIx (mVar 0) (mC (.int 1))) (mVar 2))) (s := [some (machP ls rows ends), some (.ref μ.length), some (nP k), a3, a4]) (μ := μ ++ [.lst (acc.map .str)]) (r := r) (by
    refine over_ctp ?_
    simp only [mOp, mC, mVar, R.bind_ok, List.getElem?_cons_zero, List.getElem?_cons_succ, m1, ixr]
    rfl) rfl (by show 3 < 5; decide) rf.2 rf.1
  have mi := mark_ix (e := e) (μ := μ ++ [.lst (acc.map .str)]) e1
  have j := join_row (e := e) (μ := μ ++ [.lst (acc.map .str)]) rf.2 rf.1
  have ad : fAddC (.frl [.str (mark e)]) (.frl (r.map fun k => .str (num k))) (μ ++ [.lst (acc.map .str)]) = .ok (.frl (.str (mark e) :: r.map fun k => .str (num k))) (μ ++ [.lst (acc.map .str)]) := fAddC_frl (by rw [List.length_map, sizeLine_n]; simp; omega)
  unfold L1__law_text
  simp only [sExpr, mMeth, mOp, mC, mVar, R.bind_ok, List.getElem?_cons_zero, List.getElem?_cons_succ, msCons, msNil, mCallP, m2, ixe, mi, lc, isl, isStr_str, if_true, fFrl, List.length_singleton, ad, j, ap, show 1 ≤ sizeLine from by decide]
  simp [ap]
theorem lt_loop {ls : List Str} {rows : List (List Nat)} {ends : List Nat} (m : Mach ls rows ends) {μ : MH} : ∀ (rs : List (List Nat)) (es : List Nat) (k : Nat) (acc : List Str) (a2 a3 a4 : Option PV), es.length = rs.length → (∀ (j : Nat) (r : List Nat), rs[j]? = some r → rows[k + j]? = some r) → (∀ (j : Nat) (e : Nat), es[j]? = some e → ends[k + j]? = some e) → acc.length + rs.length ≤ 100 →
    ∃ a2' a3' a4', forGo always (.nm 2) L1__law_text (rangeVals (k : Nat) rs.length) [some (machP ls rows ends), some (.ref μ.length), a2, a3, a4] (μ ++ [.lst (acc.map .str)]) = .nx [some (machP ls rows ends), some (.ref μ.length), a2', a3', a4'] (μ ++ [.lst ((acc ++ List.zipWith rowL rs es).map .str)])
  | [], [], k, acc, a2, a3, a4, _, _, _, _ => ⟨a2, a3, a4, by simp [rangeVals, forGo]⟩
  | [], _ :: _, k, acc, a2, a3, a4, h, _, _, _ => by cases h
  | _ :: _, [], k, acc, a2, a3, a4, h, _, _, _ => by cases h
  | r :: rs, e :: es, k, acc, a2, a3, a4, hl, hr, he, h100 => by
    simp only [List.length_cons] at hl h100
    obtain ⟨b2, b3, b4, ih⟩ := lt_loop m (μ := μ) rs es (k + 1) (acc ++ [rowL r e]) (some (nP k)) a3 a4 (by omega) (fun j q hq => by
      have := hr (j + 1) q (by simpa using hq)
      rwa [show k + 1 + j = k + (j + 1) by omega]) (fun j q hq => by
      have := he (j + 1) q (by simpa using hq)
      rwa [show k + 1 + j = k + (j + 1) by omega]) (by rw [List.length_append, List.length_singleton]; omega)
    refine ⟨b2, b3, b4, ?_⟩
    have turn := lt_turn m (hr 0 r rfl) (he 0 e rfl) (acc := acc) (a3 := a3) (a4 := a4) (μ := μ) (by omega)
    rw [Nat.add_zero] at turn
    rw [List.length_cons, range_cons]
    unfold forGo
    simp only [always_true, if_true, bindT_nm]
    rw [show ([some (machP ls rows ends), some (.ref μ.length), a2, a3, a4] : MS).set 2 (some (.int (k : Nat))) = [some (machP ls rows ends), some (.ref μ.length), some (nP k), a3, a4] from rfl, turn]
    simp only
    have cast : ((k + 1 : Nat) : Int) = (k : Nat) + 1 := by omega
    rw [cast] at ih
    rw [ih]
    simp
theorem law__law_text : LawText (cleanF raw__law_text) := by
  intro ls rows ends μ m
  have l1 := lines_len m
  have n2 := m.n2
  have ok : ∀ y ∈ linesOf ls rows ends, y.length ≤ 100 := fun y hy => (line_ok m hy).1
  have jl := join_ls (μ := μ) m.hls
  obtain ⟨b2, b3, b4, lp⟩ := lt_loop m (μ := μ) rows ends 0 [Str.join (sg 32) ls] none none none m.hends (fun j r h => by rw [Nat.zero_add]; exact h) (fun j r h => by rw [Nat.zero_add]; exact h) (by simp; omega)
  have cons : [Str.join (sg 32) ls] ++ List.zipWith rowL rows ends = linesOf ls rows ends := rfl
  rw [cons] at lp
  have lc := add_lc (vs := [4]) (i := 1) (j := 4) (s := [some (machP ls rows ends), some (.ref μ.length), b2, b3, b4]) (μ := μ) (ys := linesOf ls rows ends) rfl rfl (by show 4 < 5; decide) ok (by omega)
  have je := join_end (μ := μ ++ [.lst ((linesOf ls rows ends).map .str)]) ok (by omega)
  have e : raw__law_text [machP ls rows ends] μ = .ok (.str (textOf ls rows ends)) (μ ++ [.lst ((linesOf ls rows ends).map .str)]) := by
    unfold raw__law_text mDef
    show (match b__law_text [some (machP ls rows ends), none, none, none, none] μ with | .nx _ μ1 => R.ok PV.non μ1 | .rt v μ1 => R.ok v μ1 | .er c p _ μ1 => R.err c p μ1 | _ => R.bad) = _
    unfold b__law_text
    rw [sSeq_nx (s1 := [some (machP ls rows ends), some (.ref μ.length), none, none, none]) (μ1 := μ ++ [.lst [.str (Str.join (sg 32) ls)]]) (by simp [mMeth, isStr_str, machP, jl])]
    rw [sSeq_nx (s1 := [some (machP ls rows ends), some (.ref μ.length), b2, b3, b4]) (μ1 := μ ++ [.lst ((linesOf ls rows ends).map .str)]) (by
      unfold sFor
      rw [range_ok (n := rows.length) (μ1 := μ ++ [.lst [.str (Str.join (sg 32) ls)]]) (by simp [machP]) (by omega)]
      exact lp)]
    simp [mMeth, isStr_str, lc, je, textOf]
  unfold cleanF
  rw [e]
  exact cl_app (fz_lo (by simp [PV.lo]))
end K03

namespace K03
open PySem PySem.Spec PyProof.Rows L2 Mini
/-! ### lists of short texts -/
def Good (b : Nat) (ys : List Str) : Prop := wgt ys ≤ b ∧ ∀ y ∈ ys, Ascii y
theorem Good.cut {b : Nat} {ys : List Str} (h : Good b ys) (lo hi : Option Int) : Good b (cutL ys lo hi) := by
  unfold cutL
  generalize HT.sIx ys.length 0 lo = i
  generalize HT.sIx ys.length ys.length hi - i = j
  refine ⟨?_, fun y hy => h.2 y (List.mem_of_mem_drop (List.mem_of_mem_take hy))⟩
  have h1 := wgt_take ys i
  have h2 := wgt_take (ys.drop i) j
  have := h.1
  omega
theorem Good.app {a b : Nat} {xs ys : List Str} (h : Good a xs) (q : Good b ys) : Good (a + b) (xs ++ ys) := ⟨by rw [wgt_app]; have := h.1; have := q.1; omega, fun y hy => by
  rcases List.mem_append.mp hy with r | r
  · exact h.2 y r
  · exact q.2 y r⟩
theorem Good.rev {a : Nat} {xs : List Str} (h : Good a xs) : Good a xs.reverse := ⟨by rw [wgt_rev]; exact h.1, fun y hy => h.2 y (List.mem_reverse.mp hy)⟩
theorem Good.set {a n : Nat} {xs : List Str} {z : Str} {k : Nat} (h : Good a xs) (hz : z.length ≤ n) (az : Ascii z) : Good (a + n) (xs.set k z) := ⟨Nat.le_trans (wgt_set _ _ _) (by have := h.1; omega), fun y hy => by
  rcases List.mem_or_eq_of_mem_set hy with r | r
  · exact h.2 y r
  · rw [r]; exact az⟩
theorem Good.one {z : Str} {n : Nat} (h : z.length + 1 ≤ n) (a : Ascii z) : Good n [z] := ⟨by rw [wgt_cons, wgt_nil]; omega, fun y hy => by
  rw [List.mem_singleton] at hy
  rw [hy]
  exact a⟩
theorem Good.mem {n : Nat} {ys : List Str} (h : Good n ys) {y : Str} (hy : y ∈ ys) : y.length + 1 ≤ n ∧ Ascii y := ⟨Nat.le_trans (wgt_mem hy) h.1, h.2 y hy⟩
theorem Good.split {t : Str} {n c : Nat} (h : t.length ≤ n) (a : Ascii t) : Good (n + 1) (Txt.split t (sg c)) := ⟨Nat.le_trans (split_wgt t c) (by omega), fun y hy => a.split hy⟩
theorem Good.join {n c : Nat} {ys : List Str} (h : Good n ys) (hc : c < 128) : (Str.join (sg c) ys).length ≤ n ∧ Ascii (Str.join (sg c) ys) := ⟨Nat.le_trans (join_wgt ys) h.1, Ascii.join (fun k hk => by
  have : k = c := by simpa using hk
  omega) h.2⟩
theorem len_wgt : ∀ ys : List Str, ys.length ≤ wgt ys
  | [] => Nat.le_refl _
  | y :: ys => by rw [wgt_cons, List.length_cons]; have := len_wgt ys; omega
theorem Good.len {n : Nat} {ys : List Str} (h : Good n ys) : ys.length ≤ n := Nat.le_trans (len_wgt ys) h.1
/-! ### what is done to lists in places -/
theorem slS {n : Nat} {ys : List Str} {lo hi : Option Int} {μ : MH} (h : μ[n]? = some (.lst (ys.map .str))) : fSlC (.ref n) lo hi μ = .ok (.frl ((cutL ys lo hi).map .str)) μ := by
  unfold fSlC fSl
  simp only [seqT, lstR, lstM, h]
  rw [cutL_map]
theorem slF {ys : List Str} {lo hi : Option Int} {μ : MH} : fSlC (.frl (ys.map .str)) lo hi μ = .ok (.frl ((cutL ys lo hi).map .str)) μ := by
  unfold fSlC fSl
  simp only [seqT, lstR, lstM]
  rw [cutL_map]
theorem adS {n m : Nat} {xs ys : List Str} {μ : MH} (h : Good n xs) (q : Good m ys) (hn : n + m ≤ 1000000) : fAddC (.frl (xs.map .str)) (.frl (ys.map .str)) μ = .ok (.frl ((xs ++ ys).map .str)) μ := by
  have := h.len
  have := q.len
  rw [fAddC_frl (by rw [List.length_map, List.length_map, sizeLine_n]; omega), List.map_append]
theorem joF {n c : Nat} {ys : List Str} {μ : MH} (h : Good n ys) (hn : n ≤ 1000000) : fJoin (.str (sg c)) [.frl (ys.map .str)] μ = .ok (.str (Str.join (sg c) ys)) μ := fJoin_run (txts_frl _ _) (by have := h.1; omega)
theorem joR {n c p : Nat} {ys : List Str} {μ : MH} (e : μ[p]? = some (.lst (ys.map .str))) (h : Good n ys) (hn : n ≤ 1000000) : fJoin (.str (sg c)) [.ref p] μ = .ok (.str (Str.join (sg c) ys)) μ := fJoin_run (txts_ref e) (by have := h.1; omega)
theorem joFn {n : Nat} {ys : List Str} {μ : MH} (h : Good n ys) (hn : n ≤ 1000000) : fJoin (.str "\n") [.frl (ys.map .str)] μ = .ok (.str (Str.join (sg 10) ys)) μ := by
  rw [nl_eq]
  exact joF h hn
theorem joRn {n p : Nat} {ys : List Str} {μ : MH} (e : μ[p]? = some (.lst (ys.map .str))) (h : Good n ys) (hn : n ≤ 1000000) : fJoin (.str "\n") [.ref p] μ = .ok (.str (Str.join (sg 10) ys)) μ := by
  rw [nl_eq]
  exact joR e h hn
theorem lenS {n : Nat} {ys : List Str} {μ : MH} (h : μ[n]? = some (.lst (ys.map .str))) : fLen [.ref n] μ = .ok (.int (ys.length : Nat)) μ := by
  unfold fLen lenOf
  simp only [seqT, lstR, lstM, h]
  rw [List.length_map]
theorem ixS {n k : Nat} {ys : List Str} {y : Str} {μ : MH} (h : μ[n]? = some (.lst (ys.map .str))) (hk : ys[k]? = some y) : fIx (.ref n) (.int (k : Nat)) μ = .ok (.str y) μ := by
  have : atI (ys.map PV.str) ((k : Nat) : Int) = some (.str y) := Mini.atI_nat (by rw [List.getElem?_map, hk]; rfl)
  rw [fIx_ref h, this]
theorem backS {n : Nat} {ys : List Str} {μ : MH} (h : μ[n]? = some (.lst (ys.map .str))) : fBackL (.ref n) μ = .ok (.frl (ys.reverse.map .str)) μ := by
  unfold fBackL
  simp only [lstR, lstM, h]
  rw [List.map_reverse]
theorem isT_str {z : Str} {lo hi : Option Int} {μ : MH} (h : z.length ≤ 1000000) : fSlC (.str z) lo hi μ = .ok (.str (cutS z lo hi)) μ := by
  unfold fSlC fSl
  simp only [seqT, lstR, lstM]
  rw [if_pos (by rw [sizeLine_n]; omega)]
theorem cutS_asc {z : Str} {lo hi : Option Int} (h : Ascii z) : Ascii (cutS z lo hi) := fun k hk => h k (by
  unfold cutS at hk
  exact List.mem_of_mem_drop (List.mem_of_mem_take hk))
/-! ### bent texts -/
abbrev M1 (ms : List Int) (c : Int) (rest : MH) (ls : List Str) : MH := stM ms c :: (rest ++ [.lst (ls.map .str)])
abbrev M2 (ms : List Int) (c : Int) (rest : MH) (ls ws : List Str) : MH := stM ms c :: (rest ++ [.lst (ls.map .str), .lst (ws.map .str)])
theorem g1 {ms : List Int} {c : Int} {rest : MH} {ls : List Str} : (M1 ms c rest ls)[rest.length + 1]? = some (.lst (ls.map .str)) := get_st
theorem g2 {ms : List Int} {c : Int} {rest : MH} {ls ws : List Str} : (M2 ms c rest ls ws)[rest.length + 1]? = some (.lst (ls.map .str)) := get_st
theorem g3 {ms : List Int} {c : Int} {rest : MH} {ls ws : List Str} : (M2 ms c rest ls ws)[rest.length + 2]? = some (.lst (ws.map .str)) := by
  have := get_st (ms := ms) (c := c) (rest := rest ++ [.lst (ls.map .str)]) (J := []) (o := .lst (ws.map .str))
  rw [List.length_append, List.length_singleton] at this
  simpa using this
theorem st1 {ms : List Int} {c : Int} {rest : MH} {ls ws : List Str} {k : Nat} {z : Str} (h : k < ls.length) : fStore (.ref (rest.length + 1)) (.int (k : Nat)) (.str z) (M2 ms c rest ls ws) = some (M2 ms c rest (ls.set k z) ws) := by
  have := store_lst (ms := ms) (c := c) (rest := rest) (J := [.lst (ws.map .str)]) (xs := ls.map .str) (v := .str z) (k := k) (by rw [List.length_map]; exact h)
  rw [this, ← List.map_set]
theorem st2 {ms : List Int} {c : Int} {rest : MH} {ls ws : List Str} {k : Nat} {z : Str} (h : k < ws.length) : fStore (.ref (rest.length + 2)) (.int (k : Nat)) (.str z) (M2 ms c rest ls ws) = some (M2 ms c rest ls (ws.set k z)) := by
  have := store_lst (ms := ms) (c := c) (rest := rest ++ [.lst (ls.map .str)]) (J := []) (xs := ws.map .str) (v := .str z) (k := k) (by rw [List.length_map]; exact h)
  rw [List.length_append, List.length_singleton, ← List.map_set, List.append_assoc, List.append_assoc] at this
  exact this
abbrev LastB : MSt := (sSeq (sSub (mVar 2) (mVar 3) (mMeth isStr fJoin (mC (.str " ")) (msCons (mVar 4) msNil)) fStore)
  (sRet (mMeth isStr fJoin (mC (.str "\n")) (msCons (mVar 2) msNil))))
theorem last_b {ms : List Int} {c : Int} {rest : MH} {ls ws vs : List Str} {at' : Nat} {a0 a1 a5 a6 : Option PV} {W : PV} (hl : Good 10000 ls) (hv : Good 20000 vs) (ha : at' < ls.length) (hw : ∀ μ : MH, μ = M2 ms c rest ls ws → fJoin (.str " ") [W] μ = .ok (.str (Str.join (sg 32) vs)) μ) :
    ∃ (t' : Str) (ls' : List Str), Tx t' ∧ LastB [a0, a1, some (.ref (rest.length + 1)), some (.int (at' : Nat)), some W, a5, a6] (M2 ms c rest ls ws) = .rt (.str t') (M2 ms c rest ls' ws) := by
  have j1 := hw _ rfl
  have gj := hv.join (c := 32) (by decide)
  have s1 := st1 (ms := ms) (c := c) (rest := rest) (ls := ls) (ws := ws) (k := at') (z := Str.join (sg 32) vs) ha
  have gs := hl.set (k := at') gj.1 gj.2
  have j2 := joRn (g2 (ms := ms) (c := c) (rest := rest) (ls := ls.set at' (Str.join (sg 32) vs)) (ws := ws)) gs (by omega)
  have g := gs.join (c := 10) (by decide)
  refine ⟨Str.join (sg 10) (ls.set at' (Str.join (sg 32) vs)), ls.set at' (Str.join (sg 32) vs), ⟨Nat.le_trans g.1 (by omega), g.2⟩, ?_⟩
  unfold LastB
  simp [-List.map_set, mMeth, isStr_str, j1, s1, j2]
def wordsB : List Str := ["00", "30", "29", "x", "+", ".", "-1", "A", "3", "abcdefg"]
theorem wordsB_ok : ∀ z ∈ wordsB, z.length ≤ 7 ∧ z.cps.toList.all (fun k => decide (k < 128)) = true := by decide
theorem wordsB_asc {z : Str} (h : z ∈ wordsB) : z.length ≤ 7 ∧ Ascii z := ⟨(wordsB_ok z h).1, fun k hk => by
  have := List.all_eq_true.mp (wordsB_ok z h).2 k hk
  simpa using this⟩
def LawBent (f : MF) : Prop := ∀ t : Str, t.length ≤ 5000 → Ascii t → DrawF 10 (fun v => ∃ t', v = .str t' ∧ Tx t') f [.ref 0, .str t]
theorem law__law_bent {nx : MF} (hn : LawNext nx) : LawBent (cleanF (raw__law_bent nx)) := by
  intro t ht ta ms c rest g hc hc2
  have tx : Tx t := ⟨by omega, ta⟩
  have gl : Good 5001 (ln t) := Good.split ht ta
  have ne : 0 < (ln t).length := List.length_pos_iff.mpr (ln_ne t)
  have gll := gl.len
  obtain ⟨_, c1, ⟨d1, rfl, l1, u1⟩, p1, q1, e1⟩ := hn ((ln t).length : Nat) (by omega) (by omega) ms c (rest ++ [.lst ((ln t).map .str)]) g hc (by omega)
  obtain ⟨k1, rfl⟩ : ∃ k1 : Nat, d1 = (k1 : Nat) := ⟨d1.toNat, by omega⟩
  have hk1 : k1 < (ln t).length := by omega
  obtain ⟨l, hl⟩ : ∃ l, (ln t)[k1]? = some l := ⟨_, List.getElem?_eq_getElem hk1⟩
  have ml := gl.mem (List.mem_of_getElem? hl)
  have tl : Tx l := ⟨by omega, ml.2⟩
  have gw : Good 5001 (wd l) := Good.split (by omega) ml.2
  have gwl := gw.len
  have new : 0 < (wd l).length := List.length_pos_iff.mpr (wd_ne l)
  obtain ⟨_, c2, ⟨d2, rfl, l2, u2⟩, p2, q2, e2⟩ := hn ((wd l).length : Nat) (by omega) (by omega) ms c1 (rest ++ [.lst ((ln t).map .str), .lst ((wd l).map .str)]) g (by omega) (by omega)
  obtain ⟨k2, rfl⟩ : ∃ k2 : Nat, d2 = (k2 : Nat) := ⟨d2.toNat, by omega⟩
  have hk2 : k2 < (wd l).length := by omega
  obtain ⟨_, c3, ⟨d3, rfl, l3, u3⟩, p3, q3, e3⟩ := hn 8 (by omega) (by omega) ms c2 (rest ++ [.lst ((ln t).map .str), .lst ((wd l).map .str)]) g (by omega) (by omega)
  obtain ⟨_, c4, ⟨d4, rfl, l4, u4⟩, p4, q4, e4⟩ := hn 10 (by omega) (by omega) ms c3 (rest ++ [.lst ((ln t).map .str), .lst ((wd l).map .str)]) g (by omega) (by omega)
  have sp1 := splitP_nl (μ := stM ms c :: rest) tx
  have sp2 := splitP_sp (μ := M1 ms c1 rest (ln t)) tl
  have len1 : (M1 ms c1 rest (ln t)).length = rest.length + 2 := by simp
  have ix1 := ixS (g1 (ms := ms) (c := c1) (rest := rest) (ls := ln t)) hl
  have ln1 := lenS (g1 (ms := ms) (c := c) (rest := rest) (ls := ln t))
  have ln2 := lenS (g3 (ms := ms) (c := c1) (rest := rest) (ls := ln t) (ws := wd l))
  suffices hs : ∃ (t' : Str) (c' : Int) (J : MH), Tx t' ∧ c ≤ c' ∧ c' ≤ c + 10 ∧ raw__law_bent nx [.ref 0, .str t] (stM ms c :: rest) = .ok (.str t') (stM ms c' :: (rest ++ J)) by
    obtain ⟨t', c', J, h1, h2, h3, e⟩ := hs
    refine ⟨.str t', c', ⟨t', rfl, h1⟩, h2, h3, ?_⟩
    unfold cleanF
    rw [e]
    exact cl_st (fz_lo (by simp [PV.lo]))
  suffices hs : ∃ (t' : Str) (c' : Int) (ls' ws' : List Str), Tx t' ∧ c ≤ c' ∧ c' ≤ c + 10 ∧ b__law_bent nx [some (.ref 0), some (.str t), none, none, none, none, none] (stM ms c :: rest) = .rt (.str t') (M2 ms c' rest ls' ws') by
    obtain ⟨t', c', ls', ws', h1, h2, h3, e⟩ := hs
    refine ⟨t', c', [.lst (ls'.map .str), .lst (ws'.map .str)], h1, h2, h3, ?_⟩
    unfold raw__law_bent mDef
    show (match b__law_bent nx [some (.ref 0), some (.str t), none, none, none, none, none] (stM ms c :: rest) with | .nx _ μ1 => R.ok PV.non μ1 | .rt v μ1 => R.ok v μ1 | .er c p _ μ1 => R.err c p μ1 | _ => R.bad) = _
    rw [e]
  unfold b__law_bent
  rw [sSeq_nx (s1 := [some (.ref 0), some (.str t), some (.ref (rest.length + 1)), none, none, none, none]) (μ1 := M1 ms c rest (ln t)) (by simp [mMeth, isStr_str, sp1])]
  rw [sSeq_nx (s1 := [some (.ref 0), some (.str t), some (.ref (rest.length + 1)), some (.int (k1 : Nat)), none, none, none]) (μ1 := M1 ms c1 rest (ln t)) (by simp [ln1, e1])]
  rw [sSeq_nx (s1 := [some (.ref 0), some (.str t), some (.ref (rest.length + 1)), some (.int (k1 : Nat)), some (.ref (rest.length + 2)), none, none]) (μ1 := M2 ms c1 rest (ln t) (wd l)) (by
    rw [len1] at sp2
    simp [mMeth, isStr_str, ix1, sp2])]
  rw [sSeq_nx (s1 := [some (.ref 0), some (.str t), some (.ref (rest.length + 1)), some (.int (k1 : Nat)), some (.ref (rest.length + 2)), some (.int (k2 : Nat)), none]) (μ1 := M2 ms c2 rest (ln t) (wd l)) (by simp [ln2, e2])]
  rw [sSeq_nx (s1 := [some (.ref 0), some (.str t), some (.ref (rest.length + 1)), some (.int (k1 : Nat)), some (.ref (rest.length + 2)), some (.int (k2 : Nat)), some (.int d3)]) (μ1 := M2 ms c3 rest (ln t) (wd l)) (by simp [e3])]
  have G2 := g2 (ms := ms) (c := c3) (rest := rest) (ls := ln t) (ws := wd l)
  have G3 := g3 (ms := ms) (c := c3) (rest := rest) (ls := ln t) (ws := wd l)
  have cl := slS (lo := none) (hi := some (k1 : Nat)) G2
  have cr := slS (lo := some (k1 : Nat)) (hi := none) G2
  have cr1 := slS (lo := some ((k1 : Nat) + 1)) (hi := none) G2
  have Gl := gl.cut none (some (k1 : Nat))
  have Gr := gl.cut (some (k1 : Nat)) none
  have Gr1 := gl.cut (some ((k1 : Nat) + 1)) none
  have fin : ∀ {xs : List Str} {n : Nat}, Good n xs → n ≤ 500000 → Tx (Str.join (sg 10) xs) := fun h hn => ⟨Nat.le_trans (h.join (c := 10) (by decide)).1 hn, (h.join (c := 10) (by decide)).2⟩
  rcases (show d3 = 0 ∨ d3 = 1 ∨ d3 = 2 ∨ d3 = 3 ∨ d3 = 4 ∨ 4 < d3 by omega) with rfl | rfl | rfl | rfl | rfl | big
  · have ad := adS (μ := M2 ms c3 rest (ln t) (wd l)) Gl Gr1 (by omega)
    have j := joFn (μ := M2 ms c3 rest (ln t) (wd l)) (Gl.app Gr1) (by omega)
    refine ⟨Str.join (sg 10) (cutL (ln t) none (some (k1 : Nat)) ++ cutL (ln t) (some ((k1 : Nat) + 1)) none), c3, ln t, wd l, fin (Gl.app Gr1) (by omega), by omega, by omega, ?_⟩
    simp [mMeth, isStr_str, mSlC, cl, cr1, ad, j, -List.map_append]
  · have G5 := Gl.app (Good.one (z := l) (n := 5001) ml.1 ml.2)
    have ix3 := ixS G2 hl
    have ad := adS (μ := M2 ms c3 rest (ln t) (wd l)) Gl (Good.one (z := l) (n := 5001) ml.1 ml.2) (by omega)
    have ad2 := adS (μ := M2 ms c3 rest (ln t) (wd l)) G5 Gr (by omega)
    have j := joFn (μ := M2 ms c3 rest (ln t) (wd l)) (G5.app Gr) (by omega)
    rw [List.map_singleton] at ad
    refine ⟨Str.join (sg 10) (cutL (ln t) none (some (k1 : Nat)) ++ [l] ++ cutL (ln t) (some (k1 : Nat)) none), c3, ln t, wd l, fin (G5.app Gr) (by omega), by omega, by omega, ?_⟩
    simp [mMeth, isStr_str, mSlC, cl, cr, ix3, ad, ad2, j, -List.map_append, -List.append_assoc]
  · have bk := backS G2
    have j := joFn (μ := M2 ms c3 rest (ln t) (wd l)) gl.rev (by omega)
    refine ⟨Str.join (sg 10) (ln t).reverse, c3, ln t, wd l, fin gl.rev (by omega), by omega, by omega, ?_⟩
    simp [mMeth, isStr_str, bk, j, -List.map_reverse]
  · have cs := isT_str (z := t) (lo := none) (hi := some (-1)) (μ := M2 ms c3 rest (ln t) (wd l)) (by omega)
    refine ⟨cutS t none (some (-1)), c3, ln t, wd l, ⟨Nat.le_trans (cutS_length _ _ _) (by omega), cutS_asc ta⟩, by omega, by omega, ?_⟩
    simp [mSlC, cs]
  · have wl := slS (lo := none) (hi := some (k2 : Nat)) G3
    have wr := slS (lo := some (k2 : Nat)) (hi := none) G3
    have Gwl := gw.cut none (some (k2 : Nat))
    have Gwr := gw.cut (some (k2 : Nat)) none
    have o1 : Good 1 [("" : Str)] := Good.one (by decide) (by unfold Ascii; decide)
    have G5 := Gwl.app o1
    have ad := adS (μ := M2 ms c3 rest (ln t) (wd l)) Gwl o1 (by omega)
    have ad2 := adS (μ := M2 ms c3 rest (ln t) (wd l)) G5 Gwr (by omega)
    rw [List.map_singleton] at ad
    have G6 := G5.app Gwr
    obtain ⟨t', ls', h1, e⟩ := last_b (ms := ms) (c := c3) (rest := rest) (ls := ln t) (ws := wd l) (at' := k1) (a0 := some (.ref 0)) (a1 := some (.str t)) (a5 := some (.int (k2 : Nat))) (a6 := some (.int 4)) (W := .frl ((cutL (wd l) none (some (k2 : Nat)) ++ [("" : Str)] ++ cutL (wd l) (some (k2 : Nat)) none).map .str)) ⟨by have := gl.1; omega, gl.2⟩ ⟨by have := G6.1; omega, G6.2⟩ hk1 (fun μ hμ => by rw [sp_eq]; exact joF G6 (by omega))
    refine ⟨t', c3, ls', wd l, h1, by omega, by omega, ?_⟩
    rw [← e]
    simp only [sSeq, sIf, sAsg, mbE, mOp, mC, mVar, mSlC, evPt, mCallP, msCons, msNil, R.bind_ok, List.getElem?_cons_zero, List.getElem?_cons_succ, wl, wr, fFrl, ad, ad2, List.length_singleton]
    simp [wl, wr, ad, ad2, -List.map_append, -List.append_assoc]
  · have n0 : ¬ d3 = 0 := by omega
    have n1 : ¬ d3 = 1 := by omega
    have n2 : ¬ d3 = 2 := by omega
    have n3 : ¬ d3 = 3 := by omega
    have n4 : ¬ d3 = 4 := by omega
    obtain ⟨z, hz, ez⟩ : ∃ z ∈ wordsB, atI (wordsB.map PV.str) d4 = some (.str z) := by
      obtain ⟨x, h3, h4⟩ := Mini.atI_int (xs := wordsB.map PV.str) l4 (by simpa [wordsB] using u4)
      rw [List.getElem?_map, Option.map_eq_some_iff] at h3
      obtain ⟨z, h5, rfl⟩ := h3
      exact ⟨z, List.mem_of_getElem? h5, h4⟩
    have zo := wordsB_asc hz
    have sx := st2 (ms := ms) (c := c4) (rest := rest) (ls := ln t) (ws := wd l) (k := k2) (z := z) hk2
    have G6 := gw.set (k := k2) zo.1 zo.2
    obtain ⟨t', ls', h1, e⟩ := last_b (ms := ms) (c := c4) (rest := rest) (ls := ln t) (ws := (wd l).set k2 z) (vs := (wd l).set k2 z) (at' := k1) (a0 := some (.ref 0)) (a1 := some (.str t)) (a5 := some (.int (k2 : Nat))) (a6 := some (.int d3)) (W := .ref (rest.length + 2)) ⟨by have := gl.1; omega, gl.2⟩ ⟨by have := G6.1; omega, G6.2⟩ hk1 (fun μ hμ => by rw [sp_eq, hμ]; exact joR g3 G6 (by omega))
    refine ⟨t', c4, ls', (wd l).set k2 z, h1, by omega, by omega, ?_⟩
    rw [← e]
    simp [wordsB] at ez
    simp [n0, n1, n2, n3, n4, big, e4, ez, sx]
end K03

namespace K03
open PySem PySem.Spec PyProof.Rows L2 Mini
/-! ### what is told is small -/
def smallS (s : St) : Prop := s.2.length ≤ 4 ∧ (∀ n ∈ s.2, 0 ≤ n ∧ n ≤ 99) ∧ 0 ≤ s.1 ∧ s.1 ≤ 1
theorem body_in {many : Nat} {P : St → Prop} (hP : ∀ (l : Str) (s : St), rs l many = some s → P s) : ∀ (ls : List Str) (n : Nat) (acc sts : List St), body many n ls acc = .inr sts → (∀ s ∈ acc, P s) → ∀ s ∈ sts, P s
  | [], n, acc, sts, h, ha => by
    unfold body at h
    cases h
    exact ha
  | l :: r, n, acc, sts, h, ha => by
    unfold body at h
    cases o : rs l many with
    | none => rw [o] at h; cases h
    | some s =>
      rw [o] at h
      simp only at h
      split at h
      · cases h
      · refine body_in hP r (n + 1) (acc ++ [s]) sts h (fun x hx => ?_)
        rcases List.mem_append.mp hx with hx | hx
        · exact ha x hx
        · rw [List.mem_singleton.mp hx]
          exact hP l s o
theorem body_at {many : Nat} : ∀ (ls : List Str) (n : Nat) (acc : List St) (k : Nat), body many n ls acc = .inl k → k ≤ n + ls.length
  | [], n, acc, k, h => by unfold body at h; cases h
  | l :: r, n, acc, k, h => by
    unfold body at h
    rw [List.length_cons]
    cases o : rs l many with
    | none => rw [o] at h; cases h; omega
    | some s =>
      rw [o] at h
      simp only at h
      split at h
      · cases h; omega
      · have := body_at r (n + 1) (acc ++ [s]) k h
        omega
theorem rs_small {l : Str} {many : Nat} {s : St} (hm : many ≤ 4) (h : rs l many = some s) : smallS s := by
  unfold rs at h
  split at h
  · rename_i c
    cases h
    refine ⟨Nat.le_trans (Nat.le_of_eq c.2.1) hm, fun n hn => ?_, by simp only; split <;> decide, by simp only; split <;> decide⟩
    unfold rowOf at hn
    obtain ⟨z, _, rfl⟩ := List.mem_map.mp hn
    exact nv_range z
  · cases h
theorem okL_small {ls : List Str} (h : okL ls = true) : ls.length ≤ 4 ∧ ∀ z ∈ ls, z.length ≤ 6 ∧ Ascii z := by
  unfold okL at h
  rw [Bool.and_eq_true, Bool.and_eq_true, decide_eq_true_eq] at h
  refine ⟨h.1.2, fun z hz => ?_⟩
  have w := List.all_eq_true.mp h.2.1 z hz
  unfold isWord at w
  rw [Bool.and_eq_true, decide_eq_true_eq] at w
  refine ⟨w.1.2, fun k hk => ?_⟩
  have := List.all_eq_true.mp w.2 k hk
  rw [decide_eq_true_eq] at this
  have all : ∀ k ∈ SIG.cps.toList, k < 128 := by decide
  exact all k this
theorem parse_small {t : Str} (ht : Tx t) : (∀ k, parse t = .inl k → k ≤ 1000000) ∧ ∀ m, parse t = .inr m → okL m.1 = true ∧ m.2.length ≤ 30 ∧ ∀ s ∈ m.2, smallS s := by
  have hl := ln_len ht
  unfold parse
  cases hd : (ln t).dropLast with
  | nil => exact ⟨fun k h => by simp only at h; cases h; omega, fun m h => by cases h⟩
  | cons l0 r =>
    have hr : r.length ≤ 500002 := by
      have := congrArg List.length hd
      rw [List.length_dropLast, List.length_cons] at this
      omega
    simp only
    cases o : okL (wd l0) with
    | false => exact ⟨fun k h => by simp at h; omega, fun m h => by simp at h⟩
    | true =>
      simp only [if_true]
      have hm := (okL_small o).1
      cases hb : body (wd l0).length 2 r [] with
      | inl n => exact ⟨fun k h => by have := body_at r 2 [] n hb; simp at h; omega, fun m h => by simp at h⟩
      | inr sts =>
        have b1 := body_in (P := smallS) (fun l s h => rs_small hm h) r 2 [] sts hb (fun s h => nomatch h)
        have b2 := (body_all r 2 [] sts hb (fun s h => nomatch h) (by decide)).2
        simp only
        unfold tail
        split
        · refine ⟨fun k h => ?_, fun m h => ?_⟩
          · cases h
          · cases h
            exact ⟨o, b2, b1⟩
        · refine ⟨fun k h => ?_, fun m h => ?_⟩
          · cases h
            omega
          · cases h
theorem dat_small {n : Int} (h : 0 ≤ n) (q : n ≤ 2000000) : Dat 63 0 (.int n) (.int n) := dat_int (k := 60) (by
  unfold Sz
  have : n.natAbs ≤ 2000000 := by omega
  exact Nat.lt_of_le_of_lt this (by decide)) (by decide) (by decide)
theorem dat_ctpN {n b m N : Nat} {xs : List PV} (h : ∀ x ∈ xs, ∃ d, Dat n b x d) (hl : xs.length ≤ m) (hN : m * (n + 2) + 4 ≤ N) : ∃ d, Dat N (b + 1) (.ctp xs) d := by
  obtain ⟨d, q⟩ := dat_ctp h
  exact ⟨d, q.mono (Nat.le_trans (Nat.add_le_add_right (Nat.mul_le_mul_right _ hl) 4) hN) (Nat.le_refl _)⟩
theorem dat_machV {ls : List Str} {sts : List St} (h1 : okL ls = true) (h2 : sts.length ≤ 30) (h3 : ∀ s ∈ sts, smallS s) : ∃ d, Dat 24100 3 (machV (ls, sts)) d := by
  obtain ⟨l4, lw⟩ := okL_small h1
  have e1 : ∃ d, Dat 300 1 (sT ls) d := dat_ctpN (n := 62) (m := 4) (fun x hx => by
    obtain ⟨z, hz, rfl⟩ := List.mem_map.mp hx
    exact ⟨_, dat_str (n := 6) (lw z hz).2.okD (lw z hz).1⟩) (by rw [List.length_map]; exact l4) (by decide)
  have e2 : ∃ d, Dat 8000 2 (.ctp (sts.map fun s => .ctp (s.2.map .int))) d := dat_ctpN (n := 264) (m := 30) (fun x hx => by
    obtain ⟨s, hs, rfl⟩ := List.mem_map.mp hx
    have sm := h3 s hs
    exact dat_ctpN (n := 63) (m := 4) (fun y hy => by
      obtain ⟨n, hn, rfl⟩ := List.mem_map.mp hy
      have := sm.2.1 n hn
      exact ⟨_, dat_small this.1 (by omega)⟩) (by rw [List.length_map]; exact sm.1) (by decide)) (by rw [List.length_map]; exact h2) (by decide)
  have e3 : ∃ d, Dat 2000 1 (.ctp (sts.map fun s => .int s.1)) d := dat_ctpN (n := 63) (m := 30) (fun x hx => by
    obtain ⟨s, hs, rfl⟩ := List.mem_map.mp hx
    have sm := h3 s hs
    exact ⟨_, dat_small sm.2.2.1 (by have := sm.2.2.2; omega)⟩) (by rw [List.length_map]; exact h2) (by decide)
  obtain ⟨d1, q1⟩ := e1
  obtain ⟨d2, q2⟩ := e2
  obtain ⟨d3, q3⟩ := e3
  unfold machV
  refine dat_ctpN (n := 8000) (b := 2) (m := 3) (fun x hx => ?_) (by simp) (by decide)
  simp only [List.mem_cons, List.not_mem_nil, or_false] at hx
  rcases hx with rfl | rfl | rfl
  · exact ⟨_, q1.mono (by decide) (by decide)⟩
  · exact ⟨_, q2⟩
  · exact ⟨_, q3.mono (by decide) (by decide)⟩
theorem lit_dat {z : Str} (h : z.length ≤ 10) (a : Ascii z) : Dat 102 0 (.str z) (.str z) := dat_str (n := 10) a.okD h
theorem dat_due {t : Str} (ht : Tx t) : ∃ d, Dat 49000 4 (dueV (parse t)) d := by
  obtain ⟨h1, h2⟩ := parse_small ht
  cases p : parse t with
  | inl k =>
    unfold dueV
    refine dat_ctpN (n := 24100) (b := 3) (m := 2) (fun x hx => ?_) (by simp) (by decide)
    simp only [List.mem_cons, List.not_mem_nil, or_false] at hx
    rcases hx with rfl | rfl
    · exact ⟨_, (lit_dat (z := "form") (by decide) (by unfold Ascii; decide)).mono (by decide) (by decide)⟩
    · have := h1 k p
      exact ⟨_, (dat_small (n := (k : Nat)) (by omega) (by omega)).mono (by decide) (by decide)⟩
  | inr m =>
    obtain ⟨q1, q2, q3⟩ := h2 m p
    obtain ⟨d, hd⟩ := dat_machV q1 q2 q3
    unfold dueV
    refine dat_ctpN (n := 24100) (b := 3) (m := 2) (fun x hx => ?_) (by simp) (by decide)
    simp only [List.mem_cons, List.not_mem_nil, or_false] at hx
    rcases hx with rfl | rfl
    · exact ⟨_, (lit_dat (z := "read") (by decide) (by unfold Ascii; decide)).mono (by decide) (by decide)⟩
    · exact ⟨d, hd⟩
/-! ### the law -/
structure Kit (st mn lt tx sm td mt bn du : MF) : Prop where
  lt : LawLetters lt
  mn : LawMachine mn
  sm : LawSame sm
  tx : LawText tx
  td : LawDue td
  mt : LawText mt
  bn : LawBent bn
  du : LawDue du
variable {st mn lt tx sm td mt bn du : MF}
theorem rangeVals_len (i : Int) (n : Nat) : (rangeVals i n).length = n := by simp [rangeVals]
theorem told_due (K : Kit st mn lt tx sm td mt bn du) {t : Str} (ht : Tx t) (μ : MH) : td [.str t] μ = .ok (dueV (parse t)) μ ∧ du [.str t] μ = .ok (dueV (parse t)) μ ∧ sm [dueV (parse t), dueV (parse t)] μ = .ok (.bl true) μ := by
  obtain ⟨d, hd⟩ := dat_due ht
  exact ⟨K.td t μ ht, K.du t μ ht, same_dat K.sm hd (by decide) (by decide)⟩
theorem turn_bent (K : Kit st mn lt tx sm td mt bn du) {ms : List Int} (g : GoodN ms) {rest : MH} {c : Int} {t : Str} (hc : 0 ≤ c) (hc2 : c + 10 ≤ 1000000) (ht : t.length ≤ 5000) (ta : Ascii t) (s0 s2 s3 s5 s6 s7 s8 : Option PV) :
    ∃ s6' c', c ≤ c' ∧ c' ≤ c + 10 ∧ L1_law st mn lt tx sm td mt bn du [s0, some (.ref 0), s2, s3, some (.str t), s5, s6, s7, s8] (stM ms c :: rest) = .nx [s0, some (.ref 0), s2, s3, some (.str t), s5, s6', s7, s8] (stM ms c' :: rest) := by
  obtain ⟨_, c', ⟨t', rfl, tx'⟩, h1, h2, e⟩ := K.bn t ht ta ms c rest g hc hc2
  obtain ⟨e1, e2, e3⟩ := told_due K tx' (stM ms c' :: rest)
  refine ⟨some (.str t'), c', h1, by omega, ?_⟩
  simp [e, e1, e2, e3]
theorem loop_bent (K : Kit st mn lt tx sm td mt bn du) {ms : List Int} (g : GoodN ms) {rest : MH} {t : Str} (ht : t.length ≤ 5000) (ta : Ascii t) (s0 s2 s3 s7 s8 : Option PV) : ∀ (vs : List PV) (c : Int) (s5 s6 : Option PV), 0 ≤ c → c + 10 * (vs.length : Int) ≤ 1000000 →
    ∃ s5' s6' c', c ≤ c' ∧ c' ≤ c + 10 * (vs.length : Int) ∧ forGo always (.nm 5) (L1_law st mn lt tx sm td mt bn du) vs [s0, some (.ref 0), s2, s3, some (.str t), s5, s6, s7, s8] (stM ms c :: rest) = .nx [s0, some (.ref 0), s2, s3, some (.str t), s5', s6', s7, s8] (stM ms c' :: rest)
  | [], c, s5, s6, _, _ => ⟨s5, s6, c, by omega, by simp, by unfold forGo; rfl⟩
  | v :: vs, c, s5, s6, hc, hc2 => by
    simp only [List.length_cons] at hc2 ⊢
    obtain ⟨t6, c1, h1, h2, e⟩ := turn_bent K g (rest := rest) hc (by omega) ht ta s0 s2 s3 (some v) s6 s7 s8
    obtain ⟨u5, u6, c', h3, h4, e'⟩ := loop_bent K g (rest := rest) ht ta s0 s2 s3 s7 s8 vs c1 (some v) t6 (by omega) (by omega)
    refine ⟨u5, u6, c', by omega, by omega, ?_⟩
    unfold forGo
    rw [if_pos always_true]
    simp only [bindT_nm, List.set_cons_succ, List.set_cons_zero]
    rw [e]
    exact e'
theorem same_text (K : Kit st mn lt tx sm td mt bn du) {ls : List Str} {rows : List (List Nat)} {ends : List Nat} (m : Mach ls rows ends) (μ : MH) : td [.str (textOf ls rows ends)] μ = .ok (.ctp [.str "read", machP ls rows ends]) μ ∧ sm [.frl [.str (textOf ls rows ends), .ctp [.str "read", machP ls rows ends]], .frl [.str (textOf ls rows ends), .ctp [.str "read", machP ls rows ends]]] μ = .ok (.bl true) μ := by
  have sh := text_short m
  have ht : Tx (textOf ls rows ends) := ⟨by omega, sh.2⟩
  have e1 := K.td _ μ ht
  rw [parse_text m] at e1
  have du' : dueV (.inr (ls, stsOf rows ends)) = .ctp [.str "read", machP ls rows ends] := by
    unfold dueV
    simp only
    rw [machV_text m]
  obtain ⟨d, hd⟩ := dat_due ht
  rw [parse_text m, du'] at hd
  rw [du'] at e1
  refine ⟨e1, ?_⟩
  obtain ⟨d2, q⟩ := dat_frl (n := 50002) (b := 4) (xs := [.str (textOf ls rows ends), .ctp [.str "read", machP ls rows ends]]) (fun x hx => by
    simp only [List.mem_cons, List.not_mem_nil, or_false] at hx
    rcases hx with rfl | rfl
    · exact ⟨_, (dat_str (n := 5000) sh.2.okD sh.1).mono (by decide) (by decide)⟩
    · exact ⟨d, hd.mono (by decide) (by decide)⟩)
  exact same_dat K.sm q (by simp) (by decide)
theorem turn_law (K : Kit st mn lt tx sm td mt bn du) {ms : List Int} (g : GoodN ms) {rest : MH} {c : Int} (hc : 0 ≤ c) (hc2 : c + 600 ≤ 1000000) {t : Nat} (t3 : t < 3) (s0 s3 s4 s5 s6 s7 s8 : Option PV) :
    ∃ s3' s4' s5' s6' c', c ≤ c' ∧ c' ≤ c + 600 ∧ L2_law st mn lt tx sm td mt bn du [s0, some (.ref 0), some (.int (t : Nat)), s3, s4, s5, s6, s7, s8] (stM ms c :: rest) = .nx [s0, some (.ref 0), some (.int (t : Nat)), s3', s4', s5', s6', s7, s8] (stM ms c' :: rest) := by
  obtain ⟨_, c1, ⟨ls, hls, rfl⟩, p1, q1, e1⟩ := K.lt ms c rest g hc (by omega)
  obtain ⟨most, hm1, hm2, em⟩ : ∃ most : Int, 1 ≤ most ∧ most ≤ 30 ∧ ∀ μ, fIx (.frl [.int 12, .int 12, .int 30]) (.int (t : Nat)) μ = .ok (.int most) μ := by
    rcases (show t = 0 ∨ t = 1 ∨ t = 2 by omega) with rfl | rfl | rfl
    · exact ⟨12, by decide, by decide, fun _ => rfl⟩
    · exact ⟨12, by decide, by decide, fun _ => rfl⟩
    · exact ⟨30, by decide, by decide, fun _ => rfl⟩
  obtain ⟨_, c2, ⟨rows, ends, rfl, m⟩, p2, q2, e2⟩ := K.mn ls most hls hm1 hm2 ms c1 rest g (by omega) (by omega)
  have sh := text_short m
  have f1 := K.tx ls rows ends (stM ms c2 :: rest) m
  have f2 := K.mt ls rows ends (stM ms c2 :: rest) m
  obtain ⟨f3, f4⟩ := same_text K m (stM ms c2 :: rest)
  obtain ⟨u5, u6, c', h3, h4, e'⟩ := loop_bent K g (rest := rest) sh.1 sh.2 s0 (some (.int (t : Nat))) (some (machP ls rows ends)) s7 s8 (rangeVals 0 6) c2 s5 s6 (by omega) (by rw [rangeVals_len]; omega)
  rw [rangeVals_len] at h4
  refine ⟨some (machP ls rows ends), some (.str (textOf ls rows ends)), u5, u6, c', by omega, by omega, ?_⟩
  refine (sSeq_nx (s1 := [s0, some (.ref 0), some (.int (t : Nat)), some (machP ls rows ends), s4, s5, s6, s7, s8]) (μ1 := stM ms c2 :: rest) (by simp [e1, em, e2, -fIx_frl])).trans ?_
  refine (sSeq_nx (s1 := [s0, some (.ref 0), some (.int (t : Nat)), some (machP ls rows ends), some (.str (textOf ls rows ends)), s5, s6, s7, s8]) (μ1 := stM ms c2 :: rest) (by simp [f1])).trans ?_
  refine (sSeq_nx (s1 := [s0, some (.ref 0), some (.int (t : Nat)), some (machP ls rows ends), some (.str (textOf ls rows ends)), s5, s6, s7, s8]) (μ1 := stM ms c2 :: rest) (by simp [f2, f3, f4])).trans ?_
  unfold sFor
  rw [range_ok (n := 6) (m := mC (.int 6)) (μ1 := stM ms c2 :: rest) rfl (by decide)]
  exact e'
theorem loop_law (K : Kit st mn lt tx sm td mt bn du) {ms : List Int} (g : GoodN ms) (s0 s7 s8 : Option PV) : ∀ (ks : List Nat) (c : Int) (rest : MH) (s2 s3 s4 s5 s6 : Option PV), (∀ k ∈ ks, k < 3) → 0 ≤ c → c + 600 * (ks.length : Int) ≤ 1000000 →
    ∃ s2' s3' s4' s5' s6' c', forGo always (.nm 2) (L2_law st mn lt tx sm td mt bn du) (ks.map fun k => .int (k : Nat)) [s0, some (.ref 0), s2, s3, s4, s5, s6, s7, s8] (stM ms c :: rest) = .nx [s0, some (.ref 0), s2', s3', s4', s5', s6', s7, s8] (stM ms c' :: rest)
  | [], c, rest, s2, s3, s4, s5, s6, _, _, _ => ⟨s2, s3, s4, s5, s6, c, by rw [List.map_nil]; unfold forGo; rfl⟩
  | k :: ks, c, rest, s2, s3, s4, s5, s6, hk, hc, hc2 => by
    simp only [List.length_cons] at hc2
    obtain ⟨t3, t4, t5, t6, c1, h1, h2, e⟩ := turn_law K (rest := rest) g hc (by omega) (hk k (by simp)) s0 s3 s4 s5 s6 s7 s8
    obtain ⟨u2, u3, u4, u5, u6, c', e'⟩ := loop_law K g s0 s7 s8 ks c1 rest (some (.int (k : Nat))) t3 t4 t5 t6 (fun x hx => hk x (by simp [hx])) (by omega) (by omega)
    refine ⟨u2, u3, u4, u5, u6, c', ?_⟩
    rw [List.map_cons]
    unfold forGo
    rw [if_pos always_true]
    simp only [bindT_nm, List.set_cons_succ, List.set_cons_zero]
    rw [e]
    exact e'
/-! the odd texts -/
def odds : List Str := ["", "\n", "a\n", "a b\n+ 0 0", ("a\n" : Str) ++ repTx "+ 0\n" 30, ("a\n" : Str) ++ repTx "+ 0\n" 31, "a\n+ 1\n", "a\n+ 1\n. 1\n", "b a\n+ 0 0\n", "a\n+  0\n", "a \n+ 0\n"]
theorem odds_ok : odds.all (fun t => decide (t.length ≤ 500000) && t.cps.toList.all fun k => decide (k < 128)) = true := by decide +kernel
theorem odds_tx {t : Str} (h : t ∈ odds) : Tx t := by
  have := List.all_eq_true.mp odds_ok t h
  rw [Bool.and_eq_true, decide_eq_true_eq] at this
  refine ⟨this.1, fun k hk => ?_⟩
  have := List.all_eq_true.mp this.2 k hk
  simpa using this
theorem rep30 {μ : MH} : fRepT (.str "+ 0\n") (.int 30) μ = .ok (.str (repTx "+ 0\n" 30)) μ := by
  unfold fRepT
  simp only
  rw [if_pos (by decide)]
  rfl
theorem rep31 {μ : MH} : fRepT (.str "+ 0\n") (.int 31) μ = .ok (.str (repTx "+ 0\n" 31)) μ := by
  unfold fRepT
  simp only
  rw [if_pos (by decide)]
  rfl
theorem app_rep {k : Nat} {μ : MH} (h : k ≤ 31) : fAddC (.str "a\n") (.str (repTx "+ 0\n" k)) μ = .ok (.str (("a\n" : Str) ++ repTx "+ 0\n" k)) μ := by
  have e : fAddC (.str "a\n") (.str (repTx "+ 0\n" k)) μ = fAdd (.str "a\n") (.str (repTx "+ 0\n" k)) μ := by unfold fAddC; rfl
  rw [e]
  unfold fAdd
  have l1 : ("a\n" : Str).length = 2 := by decide
  have l2 : ("+ 0\n" : Str).length = 4 := by decide
  simp only
  rw [if_pos (by rw [repTx_len, l1, l2, sizeLine_n]; omega)]
theorem value_law (K : Kit st mn lt tx sm td mt bn du) (hst : LawStream st) : ∀ ns : List Int, ns.length ≤ 63 → ∃ μ, raw_law st mn lt tx sm td mt bn du [.scr (ns.map PV.int)] [] = .ok (.bl true) μ := by
  intro ns hn
  obtain ⟨ms, g, es⟩ := hst ns [] hn
  obtain ⟨u2, u3, u4, u5, u6, c', e⟩ := loop_law K g (some (.scr (ns.map PV.int))) none none [0, 1, 2] 0 [] none none none none none (by decide) (by decide) (by simp)
  have e3 : mRange1 (mC (.int 3)) [some (.scr (ns.map PV.int)), some (.ref 0), none, none, none, none, none, none, none] [stM ms 0] = .ok ⟨([0, 1, 2] : List Nat).map (fun k => .int (k : Nat)), always⟩ [stM ms 0] := by
    rw [range_ok (n := 3) (m := mC (.int 3)) (μ1 := [stM ms 0]) rfl (by decide)]
    rfl
  refine ⟨[stM ms c'], ?_⟩
  obtain ⟨L, h1, h2, _⟩ := lc_bls (vs := [8]) (i := mOver (mVar 7)) (t := .nm 8) (me := mCallP sm (msCons (mCallP td (msCons (mVar 8) msNil)) (msCons (mCallP du (msCons (mVar 8) msNil)) msNil))) (s := [some (.scr (ns.map PV.int)), some (.ref 0), u2, u3, u4, u5, u6, some (.frl (odds.map .str)), none]) (μ := [stM ms c']) (μ1 := [stM ms c']) (xs := odds) PV.str (fun _ => true) (chk := always) rfl rfl (fun t ht => ⟨_, rfl, by
    obtain ⟨q1, q2, q3⟩ := told_due K (odds_tx ht) [stM ms c']
    simp [wipeM, q1, q2, q3]⟩) (by decide)
  rw [show odds.all (fun _ => true) = true by simp] at h2
  have eb : b_law st mn lt tx sm td mt bn du [some (.scr (ns.map PV.int)), none, none, none, none, none, none, none, none] [] = .rt (.bl true) [stM ms c'] := by
    unfold b_law
    refine (sSeq_nx (s1 := [some (.scr (ns.map PV.int)), some (.ref 0), none, none, none, none, none, none, none]) (μ1 := [stM ms 0]) (by simp [es, Mini.stM])).trans ?_
    refine (sSeq_nx (s1 := [some (.scr (ns.map PV.int)), some (.ref 0), u2, u3, u4, u5, u6, none, none]) (μ1 := [stM ms c']) (by unfold sFor; rw [e3]; exact e)).trans ?_
    refine (sSeq_nx (s1 := [some (.scr (ns.map PV.int)), some (.ref 0), u2, u3, u4, u5, u6, some (.frl (odds.map .str)), none]) (μ1 := [stM ms c']) (by
      simp [rep30, rep31, app_rep (k := 30) (by decide), app_rep (k := 31) (by decide), odds])).trans ?_
    simp [h1, h2]
  show (match b_law _ _ _ _ _ _ _ _ _ [some (.scr (ns.map PV.int)), none, none, none, none, none, none, none, none] [] with
    | .nx _ μ1 => R.ok PV.non μ1
    | .rt v μ1 => .ok v μ1
    | .er c p _ μ1 => .err c p μ1
    | _ => .bad) = _
  rw [eb]
end K03

namespace K03
open PySem PySem.Spec PyProof.Rows L2 Mini
def v_is_word : MF := cleanF (raw_is_word)
def v_check_letters : MF := cleanF (raw_check_letters v_is_word)
def v_machine_text : MF := cleanF (raw_machine_text)
def v_read_number : MF := cleanF (raw_read_number)
def v_read_state : MF := cleanF (raw_read_state v_read_number)
def v_read_letters : MF := cleanF (raw_read_letters v_check_letters)
def v_read_machine : MF := cleanF (raw_read_machine v_read_letters v_read_state)
def v__law_same : MF := cleanF (raw__law_same)
def v__law_stream : MF := cleanF (raw__law_stream)
def v__law_next : MF := cleanF (raw__law_next)
def v__law_letters : MF := cleanF (raw__law_letters v__law_next)
def v__law_machine : MF := cleanF (raw__law_machine v__law_next)
def v__law_text : MF := cleanF (raw__law_text)
def v__law_told : MF := cleanF (raw__law_told v_read_machine)
def v__law_are_letters : MF := cleanF (raw__law_are_letters)
def v__law_number : MF := cleanF (raw__law_number)
def v__law_due : MF := cleanF (raw__law_due v__law_are_letters v__law_number)
def v__law_bent : MF := cleanF (raw__law_bent v__law_next)
abbrev v_law : MF := raw_law v__law_stream v__law_machine v__law_letters v__law_text v__law_same v__law_told v_machine_text v__law_bent v__law_due
end K03
namespace K03
open PySem PySem.Spec PyProof.Rows L2 Mini
theorem k_is_word : LawWord v_is_word := law_is_word
theorem k_check_letters : LawCk v_check_letters := law_check_letters k_is_word
theorem k_read_letters : LawRL v_read_letters := law_read_letters k_check_letters
theorem k_read_state : LawRS v_read_state := law_read_state law_rd
theorem k_read_machine : LawRM v_read_machine := law_read_machine k_read_letters k_read_state
theorem kit : Kit v__law_stream v__law_machine v__law_letters v__law_text v__law_same v__law_told v_machine_text v__law_bent v__law_due where
  lt := law__law_letters law__law_next
  mn := law__law_machine law__law_next
  sm := law__law_same
  tx := law__law_text
  td := law_told k_read_machine
  mt := law_machine_text
  bn := law__law_bent law__law_next
  du := law_due law_are law_number
theorem value : ∀ ns : List Int, ns.length ≤ 63 → ∃ μ, v_law [.scr (ns.map PV.int)] [] = .ok (.bl true) μ := value_law kit law__law_stream
end K03

namespace K03
open PySem PySem.Spec PyProof.Rows L2 Mini
theorem F_all {P : Program} {w : World} {K : PySem.W.Frag} {h : Heap} {mg : Str → Option Value} {fa : Addr} {C_BadForm : Addr} {C_NotAllowed : Addr}  (KX : K.In h) (G : h.Ns mainGlobals mg) (hfa : mg "law" = some (.ref fa))
    (D_is_word : FactD K "is_word" (top 8))
    (D_check_letters : FactD K "check_letters" (top 9))
    (D_machine_text : FactD K "machine_text" (top 12))
    (D_read_number : FactD K "read_number" (top 13))
    (D_read_state : FactD K "read_state" (top 14))
    (D_read_letters : FactD K "read_letters" (top 15))
    (D_read_machine : FactD K "read_machine" (top 16))
    (D__law_same : FactD K "_law_same" (top 18))
    (D__law_stream : FactD K "_law_stream" (top 19))
    (D__law_next : FactD K "_law_next" (top 20))
    (D__law_letters : FactD K "_law_letters" (top 21))
    (D__law_machine : FactD K "_law_machine" (top 22))
    (D__law_text : FactD K "_law_text" (top 23))
    (D__law_told : FactD K "_law_told" (top 24))
    (D__law_are_letters : FactD K "_law_are_letters" (top 25))
    (D__law_number : FactD K "_law_number" (top 26))
    (D__law_due : FactD K "_law_due" (top 27))
    (D__law_bent : FactD K "_law_bent" (top 28))
    (D_law : FactD K "law" (top 29))
    (z_abs : PySem.W.nsIn K mainGlobals "abs" = some none)
    (z_all : PySem.W.nsIn K mainGlobals "all" = some none)
    (z_enumerate : PySem.W.nsIn K mainGlobals "enumerate" = some none)
    (z_int : PySem.W.nsIn K mainGlobals "int" = some none)
    (z_len : PySem.W.nsIn K mainGlobals "len" = some none)
    (z_list : PySem.W.nsIn K mainGlobals "list" = some none)
    (z_max : PySem.W.nsIn K mainGlobals "max" = some none)
    (z_min : PySem.W.nsIn K mainGlobals "min" = some none)
    (z_range : PySem.W.nsIn K mainGlobals "range" = some none)
    (z_repr : PySem.W.nsIn K mainGlobals "repr" = some none)
    (z_set : PySem.W.nsIn K mainGlobals "set" = some none)
    (z_sorted : PySem.W.nsIn K mainGlobals "sorted" = some none)
    (z_str : PySem.W.nsIn K mainGlobals "str" = some none)
    (z_tuple : PySem.W.nsIn K mainGlobals "tuple" = some none)
    (z_zip : PySem.W.nsIn K mainGlobals "zip" = some none)
    (g_MAX_LETTERS : FactV K "MAX_LETTERS" k_MAX_LETTERS)
    (g_MAX_STATES : FactV K "MAX_STATES" k_MAX_STATES)
    (g_MAX_WORD : FactV K "MAX_WORD" k_MAX_WORD)
    (g_SIGNS : FactV K "SIGNS" k_SIGNS)
    (m_BadForm : PySem.W.nsIn K mainGlobals "BadForm" = some (some (.ref C_BadForm)))
    (m_NotAllowed : PySem.W.nsIn K mainGlobals "NotAllowed" = some (some (.ref C_NotAllowed)))
    (r_NotAllowed : FactR K C_NotAllowed)
    (z_super : PySem.W.nsIn K mainGlobals "super" = some none)
    (L_BadForm : FactL P K C_BadForm)
    (e_NotAllowed : PySem.W.exmOne K (.ref C_NotAllowed) (.ref C_NotAllowed) = some true)
    (e_BadForm : PySem.W.exmOne K (.ref C_BadForm) (.ref C_BadForm) = some true)
    (xf_BadForm : XfC K C_BadForm)
    (no_BadForm : PySem.W.findIn K (.ref C_BadForm) "line" = some none)
    : ∃ fd : FuncData, (∀ (s : Shared) (u : Value), BindsTo s fd ⟨[u], []⟩ [("script", u)]) ∧ ∀ base : Heap, K.In base → base.Ns mainGlobals mg → FnG P w K mg base 9 fa fd ["script"] (spM K (oRL mg) v_law) := by
  have T : Txt mg := ⟨PySem.W.mg_none_of KX G z_abs, PySem.W.mg_none_of KX G z_all, PySem.W.mg_none_of KX G z_enumerate, PySem.W.mg_none_of KX G z_int, PySem.W.mg_none_of KX G z_len, PySem.W.mg_none_of KX G z_list, PySem.W.mg_none_of KX G z_max, PySem.W.mg_none_of KX G z_min, PySem.W.mg_none_of KX G z_range, PySem.W.mg_none_of KX G z_repr, PySem.W.mg_none_of KX G z_set, PySem.W.mg_none_of KX G z_sorted, PySem.W.mg_none_of KX G z_str, PySem.W.mg_none_of KX G z_tuple, PySem.W.mg_none_of KX G z_zip⟩
  have c_MAX_LETTERS := g_MAX_LETTERS.get KX G
  have c_MAX_STATES := g_MAX_STATES.get KX G
  have c_MAX_WORD := g_MAX_WORD.get KX G
  have c_SIGNS := g_SIGNS.get KX G
  obtain ⟨f_is_word, fd_is_word, m_is_word, F_is_word, B_is_word⟩ := D_is_word.get KX G (ps := ["text"]) (fun _ _ _ _ _ _ us hl => match us, hl with | [_], _ => rfl)
  obtain ⟨f_check_letters, fd_check_letters, m_check_letters, F_check_letters, B_check_letters⟩ := D_check_letters.get KX G (ps := ["letters"]) (fun _ _ _ _ _ _ us hl => match us, hl with | [_], _ => rfl)
  obtain ⟨f_machine_text, fd_machine_text, m_machine_text, F_machine_text, B_machine_text⟩ := D_machine_text.get KX G (ps := ["machine"]) (fun _ _ _ _ _ _ us hl => match us, hl with | [_], _ => rfl)
  obtain ⟨f_read_number, fd_read_number, m_read_number, F_read_number, B_read_number⟩ := D_read_number.get KX G (ps := ["word"]) (fun _ _ _ _ _ _ us hl => match us, hl with | [_], _ => rfl)
  obtain ⟨f_read_state, fd_read_state, m_read_state, F_read_state, B_read_state⟩ := D_read_state.get KX G (ps := ["line", "many"]) (fun _ _ _ _ _ _ us hl => match us, hl with | [_, _], _ => rfl)
  obtain ⟨f_read_letters, fd_read_letters, m_read_letters, F_read_letters, B_read_letters⟩ := D_read_letters.get KX G (ps := ["line"]) (fun _ _ _ _ _ _ us hl => match us, hl with | [_], _ => rfl)
  obtain ⟨f_read_machine, fd_read_machine, m_read_machine, F_read_machine, B_read_machine⟩ := D_read_machine.get KX G (ps := ["text"]) (fun _ _ _ _ _ _ us hl => match us, hl with | [_], _ => rfl)
  obtain ⟨f__law_same, fd__law_same, m__law_same, F__law_same, B__law_same⟩ := D__law_same.get KX G (ps := ["told", "due"]) (fun _ _ _ _ _ _ us hl => match us, hl with | [_, _], _ => rfl)
  obtain ⟨f__law_stream, fd__law_stream, m__law_stream, F__law_stream, B__law_stream⟩ := D__law_stream.get KX G (ps := ["script"]) (fun _ _ _ _ _ _ us hl => match us, hl with | [_], _ => rfl)
  obtain ⟨f__law_next, fd__law_next, m__law_next, F__law_next, B__law_next⟩ := D__law_next.get KX G (ps := ["state", "many"]) (fun _ _ _ _ _ _ us hl => match us, hl with | [_, _], _ => rfl)
  obtain ⟨f__law_letters, fd__law_letters, m__law_letters, F__law_letters, B__law_letters⟩ := D__law_letters.get KX G (ps := ["state"]) (fun _ _ _ _ _ _ us hl => match us, hl with | [_], _ => rfl)
  obtain ⟨f__law_machine, fd__law_machine, m__law_machine, F__law_machine, B__law_machine⟩ := D__law_machine.get KX G (ps := ["state", "letters", "most"]) (fun _ _ _ _ _ _ us hl => match us, hl with | [_, _, _], _ => rfl)
  obtain ⟨f__law_text, fd__law_text, m__law_text, F__law_text, B__law_text⟩ := D__law_text.get KX G (ps := ["machine"]) (fun _ _ _ _ _ _ us hl => match us, hl with | [_], _ => rfl)
  obtain ⟨f__law_told, fd__law_told, m__law_told, F__law_told, B__law_told⟩ := D__law_told.get KX G (ps := ["text"]) (fun _ _ _ _ _ _ us hl => match us, hl with | [_], _ => rfl)
  obtain ⟨f__law_are_letters, fd__law_are_letters, m__law_are_letters, F__law_are_letters, B__law_are_letters⟩ := D__law_are_letters.get KX G (ps := ["letters"]) (fun _ _ _ _ _ _ us hl => match us, hl with | [_], _ => rfl)
  obtain ⟨f__law_number, fd__law_number, m__law_number, F__law_number, B__law_number⟩ := D__law_number.get KX G (ps := ["word"]) (fun _ _ _ _ _ _ us hl => match us, hl with | [_], _ => rfl)
  obtain ⟨f__law_due, fd__law_due, m__law_due, F__law_due, B__law_due⟩ := D__law_due.get KX G (ps := ["text"]) (fun _ _ _ _ _ _ us hl => match us, hl with | [_], _ => rfl)
  obtain ⟨f__law_bent, fd__law_bent, m__law_bent, F__law_bent, B__law_bent⟩ := D__law_bent.get KX G (ps := ["state", "text"]) (fun _ _ _ _ _ _ us hl => match us, hl with | [_, _], _ => rfl)
  obtain ⟨f_law, fd_law, m_law, F_law, B_law⟩ := D_law.get KX G (ps := ["script"]) (fun _ _ _ _ _ _ us hl => match us, hl with | [_], _ => rfl)
  cases hfa.symm.trans m_law
  obtain ⟨oc, od, kV, doc, pm, an, cdv, ct, osl, efd, lk, hcd⟩ := id F_law.ex
  refine ⟨fd_law, fun s u => by rw [efd]; exact .of_eq rfl, fun base _ _ => ?_⟩
  have R_BadForm : RaiseL P K mg "BadForm" := L_BadForm.raise (PySem.W.mg_of KX G m_BadForm) (PySem.W.mg_none_of KX G z_super)
  have R_NotAllowed : RaiseX K mg "NotAllowed" := r_NotAllowed.raise (PySem.W.mg_of KX G m_NotAllowed)
  have CC_NotAllowed : CatchC K mg "NotAllowed" := ⟨C_NotAllowed, PySem.W.mg_of KX G m_NotAllowed, e_NotAllowed⟩
  have CL_BadForm : CatchL K mg "BadForm" := ⟨C_BadForm, PySem.W.mg_of KX G m_BadForm, e_BadForm, xf_BadForm, no_BadForm⟩
  have d_is_word : DefOk P w K mg base "is_word" 2 (spM K (oRL mg) v_is_word) := DefOk.cleanL (w_is_word (P := P) (w := w) (base := base) m_is_word F_is_word B_is_word T c_MAX_WORD c_SIGNS)
  have d_check_letters : DefOk P w K mg base "check_letters" 3 (spM K (oRL mg) v_check_letters) := DefOk.cleanL (w_check_letters (P := P) (w := w) (base := base) m_check_letters F_check_letters B_check_letters T d_is_word c_MAX_LETTERS R_NotAllowed)
  have d_machine_text : DefOk P w K mg base "machine_text" 2 (spM K (oRL mg) v_machine_text) := DefOk.cleanL (w_machine_text (P := P) (w := w) (base := base) m_machine_text F_machine_text B_machine_text T )
  have d_read_number : DefOk P w K mg base "read_number" 2 (spM K (oRL mg) v_read_number) := DefOk.cleanL (w_read_number (P := P) (w := w) (base := base) m_read_number F_read_number B_read_number T c_MAX_STATES)
  have d_read_state : DefOk P w K mg base "read_state" 3 (spM K (oRL mg) v_read_state) := DefOk.cleanL (w_read_state (P := P) (w := w) (base := base) m_read_state F_read_state B_read_state T d_read_number)
  have d_read_letters : DefOk P w K mg base "read_letters" 4 (spM K (oRL mg) v_read_letters) := DefOk.cleanL (w_read_letters (P := P) (w := w) (base := base) m_read_letters F_read_letters B_read_letters T d_check_letters CC_NotAllowed)
  have d_read_machine : DefOk P w K mg base "read_machine" 7 (spM K (oRL mg) v_read_machine) := DefOk.cleanL (w_read_machine (P := P) (w := w) (base := base) m_read_machine F_read_machine B_read_machine T d_read_letters d_read_state c_MAX_STATES R_BadForm)
  have d__law_same : DefOk P w K mg base "_law_same" 2 (spM K (oRL mg) v__law_same) := DefOk.cleanL (w__law_same (P := P) (w := w) (base := base) m__law_same F__law_same B__law_same T )
  have d__law_stream : DefOk P w K mg base "_law_stream" 2 (spM K (oRL mg) v__law_stream) := DefOk.cleanL (w__law_stream (P := P) (w := w) (base := base) m__law_stream F__law_stream B__law_stream T )
  have d__law_next : DefOk P w K mg base "_law_next" 2 (spM K (oRL mg) v__law_next) := DefOk.cleanL (w__law_next (P := P) (w := w) (base := base) m__law_next F__law_next B__law_next T )
  have d__law_letters : DefOk P w K mg base "_law_letters" 3 (spM K (oRL mg) v__law_letters) := DefOk.cleanL (w__law_letters (P := P) (w := w) (base := base) m__law_letters F__law_letters B__law_letters T d__law_next)
  have d__law_machine : DefOk P w K mg base "_law_machine" 3 (spM K (oRL mg) v__law_machine) := DefOk.cleanL (w__law_machine (P := P) (w := w) (base := base) m__law_machine F__law_machine B__law_machine T d__law_next)
  have d__law_text : DefOk P w K mg base "_law_text" 2 (spM K (oRL mg) v__law_text) := DefOk.cleanL (w__law_text (P := P) (w := w) (base := base) m__law_text F__law_text B__law_text T )
  have d__law_told : DefOk P w K mg base "_law_told" 8 (spM K (oRL mg) v__law_told) := DefOk.cleanL (w__law_told (P := P) (w := w) (base := base) m__law_told F__law_told B__law_told T d_read_machine CL_BadForm)
  have d__law_are_letters : DefOk P w K mg base "_law_are_letters" 2 (spM K (oRL mg) v__law_are_letters) := DefOk.cleanL (w__law_are_letters (P := P) (w := w) (base := base) m__law_are_letters F__law_are_letters B__law_are_letters T )
  have d__law_number : DefOk P w K mg base "_law_number" 2 (spM K (oRL mg) v__law_number) := DefOk.cleanL (w__law_number (P := P) (w := w) (base := base) m__law_number F__law_number B__law_number T )
  have d__law_due : DefOk P w K mg base "_law_due" 3 (spM K (oRL mg) v__law_due) := DefOk.cleanL (w__law_due (P := P) (w := w) (base := base) m__law_due F__law_due B__law_due T d__law_are_letters d__law_number)
  have d__law_bent : DefOk P w K mg base "_law_bent" 3 (spM K (oRL mg) v__law_bent) := DefOk.cleanL (w__law_bent (P := P) (w := w) (base := base) m__law_bent F__law_bent B__law_bent T d__law_next)
  exact wf_law (P := P) (w := w) (base := base) F_law T d__law_stream d__law_machine d__law_letters d__law_text d__law_same d__law_told d_machine_text d__law_bent d__law_due
end K03
open PySem PySem.W PyProof.Rows in
set_option maxRecDepth 100000 in
set_option maxHeartbeats 0 in
theorem PySem.Challenge.cw_tellapart_k03_texts_of_machines_holds : PySem.Challenge.rw_tellapart_k03_texts_of_machines.Holds := by
  w_on; o_law; k_head; (case hw => w_witness2)
  k_fill
  refine Mini.walkG (l := PySem.Challenge.rw_tellapart_k03_texts_of_machines) (n := 63) (k := 9) (x := "script") (f := K03.v_law) (XR := fun _ mg => Mini.oRL mg) rfl (by decide) rfl ⟨rfl, by decide, by decide⟩ (fun w h Y => PySem.W.kIn_of Y) ?F K03.value
  case F =>
    intro w mg fa h KX G hmg
    refine' K03.F_all KX G hmg ?D_is_word ?D_check_letters ?D_machine_text ?D_read_number ?D_read_state ?D_read_letters ?D_read_machine ?D__law_same ?D__law_stream ?D__law_next ?D__law_letters ?D__law_machine ?D__law_text ?D__law_told ?D__law_are_letters ?D__law_number ?D__law_due ?D__law_bent ?D_law ?z_abs ?z_all ?z_enumerate ?z_int ?z_len ?z_list ?z_max ?z_min ?z_range ?z_repr ?z_set ?z_sorted ?z_str ?z_tuple ?z_zip ?g_MAX_LETTERS ?g_MAX_STATES ?g_MAX_WORD ?g_SIGNS ?m_BadForm ?m_NotAllowed ?r_NotAllowed ?z_super ?L_BadForm ?e_NotAllowed ?e_BadForm ?xf_BadForm ?no_BadForm
    (case D_is_word => refine' Mini.FactD.of ?a ?l ?c ?k; (case a => k_is); (case l => k_is); (case c => k_is); (case k => k_is))
    (case D_check_letters => refine' Mini.FactD.of ?a ?l ?c ?k; (case a => k_is); (case l => k_is); (case c => k_is); (case k => k_is))
    (case D_machine_text => refine' Mini.FactD.of ?a ?l ?c ?k; (case a => k_is); (case l => k_is); (case c => k_is); (case k => k_is))
    (case D_read_number => refine' Mini.FactD.of ?a ?l ?c ?k; (case a => k_is); (case l => k_is); (case c => k_is); (case k => k_is))
    (case D_read_state => refine' Mini.FactD.of ?a ?l ?c ?k; (case a => k_is); (case l => k_is); (case c => k_is); (case k => k_is))
    (case D_read_letters => refine' Mini.FactD.of ?a ?l ?c ?k; (case a => k_is); (case l => k_is); (case c => k_is); (case k => k_is))
    (case D_read_machine => refine' Mini.FactD.of ?a ?l ?c ?k; (case a => k_is); (case l => k_is); (case c => k_is); (case k => k_is))
    (case D__law_same => refine' Mini.FactD.of ?a ?l ?c ?k; (case a => k_is); (case l => k_is); (case c => k_is); (case k => k_is))
    (case D__law_stream => refine' Mini.FactD.of ?a ?l ?c ?k; (case a => k_is); (case l => k_is); (case c => k_is); (case k => k_is))
    (case D__law_next => refine' Mini.FactD.of ?a ?l ?c ?k; (case a => k_is); (case l => k_is); (case c => k_is); (case k => k_is))
    (case D__law_letters => refine' Mini.FactD.of ?a ?l ?c ?k; (case a => k_is); (case l => k_is); (case c => k_is); (case k => k_is))
    (case D__law_machine => refine' Mini.FactD.of ?a ?l ?c ?k; (case a => k_is); (case l => k_is); (case c => k_is); (case k => k_is))
    (case D__law_text => refine' Mini.FactD.of ?a ?l ?c ?k; (case a => k_is); (case l => k_is); (case c => k_is); (case k => k_is))
    (case D__law_told => refine' Mini.FactD.of ?a ?l ?c ?k; (case a => k_is); (case l => k_is); (case c => k_is); (case k => k_is))
    (case D__law_are_letters => refine' Mini.FactD.of ?a ?l ?c ?k; (case a => k_is); (case l => k_is); (case c => k_is); (case k => k_is))
    (case D__law_number => refine' Mini.FactD.of ?a ?l ?c ?k; (case a => k_is); (case l => k_is); (case c => k_is); (case k => k_is))
    (case D__law_due => refine' Mini.FactD.of ?a ?l ?c ?k; (case a => k_is); (case l => k_is); (case c => k_is); (case k => k_is))
    (case D__law_bent => refine' Mini.FactD.of ?a ?l ?c ?k; (case a => k_is); (case l => k_is); (case c => k_is); (case k => k_is))
    (case D_law => refine' Mini.FactD.of ?a ?l ?c ?k; (case a => k_is); (case l => k_is); (case c => k_is); (case k => k_is))
    (case z_abs => k_is)
    (case z_all => k_is)
    (case z_enumerate => k_is)
    (case z_int => k_is)
    (case z_len => k_is)
    (case z_list => k_is)
    (case z_max => k_is)
    (case z_min => k_is)
    (case z_range => k_is)
    (case z_repr => k_is)
    (case z_set => k_is)
    (case z_sorted => k_is)
    (case z_str => k_is)
    (case z_tuple => k_is)
    (case z_zip => k_is)
    (case g_MAX_LETTERS => refine' Mini.FactV.int ?a; (case a => k_is))
    (case g_MAX_STATES => refine' Mini.FactV.int ?a; (case a => k_is))
    (case g_MAX_WORD => refine' Mini.FactV.int ?a; (case a => k_is))
    (case g_SIGNS => refine' Mini.FactV.str ?a; (case a => k_is))
    (case m_BadForm => k_is)
    (case m_NotAllowed => k_is)
    (case r_NotAllowed => refine' ⟨?a, ?b, ?c, ?d⟩; (case a => k_exc); (case b => k_is); (case c => k_is); (case d => k_is))
    (case z_super => k_is)
    (case L_BadForm => refine' Mini.FactL.of ?ylk ?yrv ?ysa ?yex ?yty ?ykc ?yno ?ysup ?ysb ?ymro ?ythr ?ytop ?yfi ?yft ?ylf ?yci ?ylc ?yvf ?ypf ?ylcc ?yha ?yhs ?yhn ?yhco ?yhgen ?yhk ?yhl ?yshort ?ybd; (case ylk => k_is); (case yrv => rfl); (case ysa => k_is); (case yex => k_is); (case yty => k_is); (case ykc => k_is); (case yno => k_is); (case ysup => ks_is); (case ysb => k_is); (case ymro => k_is); (case ythr => k_is); (case ytop => rfl); (case yfi => k_is); (case yft => k_is); (case ylf => k_is); (case yci => k_is); (case ylc => k_is); (case yvf => rfl); (case ypf => rfl); (case ylcc => k_is); (case yha => rfl); (case yhs => rfl); (case yhn => rfl); (case yhco => rfl); (case yhgen => rfl); (case yhk => rfl); (case yhl => rfl); (case yshort => decide); (case ybd => exact fun us hl => match us, hl with | [_, _], _ => rfl))
    (case e_NotAllowed => refine' PySem.W.exm_ref ?a ?b ?c ?d; (case a => k_is); (case b => k_is); (case c => k_is); (case d => k_is))
    (case e_BadForm => refine' PySem.W.exm_ref ?a ?b ?c ?d; (case a => k_is); (case b => k_is); (case c => k_is); (case d => k_is))
    (case xf_BadForm => refine' ⟨?a, ?b, ?c, ?d⟩; (case a => k_is); (case b => k_is); (case c => k_is); (case d => k_is))
    (case no_BadForm => k_is)

