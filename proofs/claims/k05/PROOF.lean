import PyProof.Rows.All
import HandS.ForMost
import HandS.ForExc
import HandS.TupAny
import HandS.Conv
import HandS.Rev
import HandS.RevRange
import HandS.Zip
import HandS.Wide
import HandS.WideMore
import HandS.IsInst
import HandS.Flow
import HandS.Style
import HandS.Gcd
import KE.GoesEnum
import PySem.Challenge.RW_rainovers_k05_creases_along_an_innings
set_option Elab.async false
set_option linter.all false
set_option maxRecDepth 100000
/-! DL0: data by value over the hand layer's heap. A value is a PyData (persistent: tuples, frozen lists), or a list of ours (a slot's own). -/
namespace DL
open PySem PySem.Spec PyProof.Rows L2

/-! ### persistent data -/
def pz : HO → Bool
  | .tup _ => true
  | .frz _ (.lst _) => true
  | _ => false
def Pers (H H' : Hp) : Prop := ∀ a o, H a = some o → pz o = true → H' a = some o
theorem Pers.refl (H : Hp) : Pers H H := fun _ _ h _ => h
theorem Pers.trans {H H1 H2 : Hp} (a : Pers H H1) (b : Pers H1 H2) : Pers H H2 := fun x o h p => b x o (a x o h p) p
theorem Pers.of_same {H H' : Hp} (s : Same H H') : Pers H H' := fun a o h _ => s a o h

def FzL (K : PySem.W.Frag) (H : Hp) (a : Addr) (xs : List V) : Prop := (∃ o, H a = some (.frz o (.lst xs))) ∨
  ∃ (o : Obj) (its : Array Value) (n : Nat), K.lookup a = some o ∧ o.cls = .type "list" ∧ o.dict = none ∧ o.data = .seq its n ∧ its.size ≤ sizeLine ∧ Vals xs its.toList
def TpT (K : PySem.W.Frag) (H : Hp) (a : Addr) (xs : List V) : Prop :=
  H a = some (.tup xs) ∨ ∃ (o : Obj) (its : Array Value) (n : Nat), K.lookup a = some o ∧ o.cls = .type "tuple" ∧ o.data = .seq its n ∧ its.size ≤ sizeLine ∧ Vals xs its.toList
theorem FzL.sq {K : PySem.W.Frag} {H : Hp} {a : Addr} {xs : List V} (h : FzL K H a xs) : SqL K H a xs := by
  rcases h with h | h
  · exact .inl (.inr h)
  · exact .inr h
theorem TpT.sq {K : PySem.W.Frag} {H : Hp} {a : Addr} {xs : List V} (h : TpT K H a xs) : SqT K H a xs := by
  rcases h with h | h
  · exact .inl (.inl h)
  · exact .inr h
theorem FzL.mono {K : PySem.W.Frag} {H H' : Hp} {a : Addr} {xs : List V} (p : Pers H H') (h : FzL K H a xs) : FzL K H' a xs := by
  rcases h with ⟨o, e⟩ | h
  · exact .inl ⟨o, p _ _ e rfl⟩
  · exact .inr h
theorem TpT.mono {K : PySem.W.Frag} {H H' : Hp} {a : Addr} {xs : List V} (p : Pers H H') (h : TpT K H a xs) : TpT K H' a xs := by
  rcases h with h | h
  · exact .inl (p _ _ h rfl)
  · exact .inr h

mutual
/-- the value v is the data d; what it stands on never changes -/
def Rep (K : PySem.W.Frag) (H : Hp) : PyData → V → Prop
  | .none, v => v = .non
  | .bool b, v => v = .bl b
  | .int i, v => v = .int i
  | .str x, v => v = .str x ∧ x.length ≤ sizeLine ∧ PyData.strOk x = true
  | .list ds, v => ds.length ≤ sizeLine ∧ ∃ a vs, v = .ref a ∧ FzL K H a vs ∧ Reps K H ds vs
  | .tuple ds, v => ds.length ≤ sizeLine ∧ ∃ a vs, v = .ref a ∧ TpT K H a vs ∧ Reps K H ds vs
  | .dict _, _ => False
def Reps (K : PySem.W.Frag) (H : Hp) : List PyData → List V → Prop
  | [], vs => vs = []
  | d :: ds, vs => ∃ v r, vs = v :: r ∧ Rep K H d v ∧ Reps K H ds r
end

section
variable {K : PySem.W.Frag} {H H' : Hp}
mutual
theorem Rep.mono (p : Pers H H') : ∀ (d : PyData) (v : V), Rep K H d v → Rep K H' d v
  | .none, _, h => h
  | .bool _, _, h => h
  | .int _, _, h => h
  | .str _, _, h => h
  | .list ds, _, h => let ⟨z, a, vs, e, f, r⟩ := h; ⟨z, a, vs, e, f.mono p, Reps.mono p ds vs r⟩
  | .tuple ds, _, h => let ⟨z, a, vs, e, f, r⟩ := h; ⟨z, a, vs, e, f.mono p, Reps.mono p ds vs r⟩
  | .dict _, _, h => h
theorem Reps.mono (p : Pers H H') : ∀ (ds : List PyData) (vs : List V), Reps K H ds vs → Reps K H' ds vs
  | [], _, h => h
  | d :: ds, _, h => let ⟨v, r, e, h1, h2⟩ := h; ⟨v, r, e, Rep.mono p d v h1, Reps.mono p ds r h2⟩
end
theorem Reps.length : ∀ {ds : List PyData} {vs : List V}, Reps K H ds vs → vs.length = ds.length
  | [], _, h => by rw [show _ = [] from h] <;> rfl
  | d :: ds, _, h => by
    obtain ⟨v, r, e, _, h2⟩ := h
    rw [e, List.length_cons, List.length_cons, Reps.length h2]
theorem Reps.get : ∀ {ds : List PyData} {vs : List V} {i : Nat} {d : PyData}, Reps K H ds vs → ds[i]? = some d → ∃ v, vs[i]? = some v ∧ Rep K H d v
  | [], _, _, _, _, e => by simp at e
  | d :: ds, _, 0, _, h, e => by
    obtain ⟨v, r, ev, h1, _⟩ := h
    simp at e
    subst e
    exact ⟨v, by rw [ev]; rfl, h1⟩
  | d :: ds, _, i + 1, _, h, e => by
    obtain ⟨v, r, ev, _, h2⟩ := h
    obtain ⟨u, hu, ru⟩ := Reps.get (i := i) h2 (by simpa using e)
    exact ⟨u, by rw [ev]; simpa using hu, ru⟩
theorem Reps.get' : ∀ {ds : List PyData} {vs : List V} {i : Nat} {v : V}, Reps K H ds vs → vs[i]? = some v → ∃ d, ds[i]? = some d ∧ Rep K H d v := by
  intro ds vs i v h e
  have hl := h.length
  have hi : i < ds.length := by
    have := (List.getElem?_eq_some_iff.mp e).1
    omega
  obtain ⟨u, hu, ru⟩ := Reps.get h (List.getElem?_eq_getElem hi)
  rw [hu] at e
  cases e
  exact ⟨_, List.getElem?_eq_getElem hi, ru⟩
theorem Reps.append : ∀ {ds es : List PyData} {vs us : List V}, Reps K H ds vs → Reps K H es us → Reps K H (ds ++ es) (vs ++ us)
  | [], _, _, _, h, g => by rw [show _ = [] from h]; exact g
  | d :: ds, _, _, _, h, g => by
    obtain ⟨v, r, ev, h1, h2⟩ := h
    exact ⟨v, r ++ _, by rw [ev]; rfl, h1, Reps.append h2 g⟩
theorem Reps.take : ∀ {ds : List PyData} {vs : List V} (n : Nat), Reps K H ds vs → Reps K H (ds.take n) (vs.take n)
  | _, _, 0, _ => by simp [Reps]
  | [], _, _ + 1, h => by rw [show _ = [] from h]; simp [Reps]
  | d :: ds, _, n + 1, h => by
    obtain ⟨v, r, ev, h1, h2⟩ := h
    exact ⟨v, r.take n, by rw [ev]; rfl, h1, Reps.take n h2⟩
theorem Reps.drop : ∀ {ds : List PyData} {vs : List V} (n : Nat), Reps K H ds vs → Reps K H (ds.drop n) (vs.drop n)
  | _, _, 0, h => h
  | [], _, _ + 1, h => by rw [show _ = [] from h]; simp [Reps]
  | d :: ds, _, n + 1, h => by
    obtain ⟨v, r, ev, h1, h2⟩ := h
    rw [ev]
    exact Reps.drop n h2
theorem Reps.set : ∀ {ds : List PyData} {vs : List V} {d : PyData} {v : V} (n : Nat), Reps K H ds vs → Rep K H d v → Reps K H (ds.set n d) (vs.set n v)
  | [], _, _, _, _, h, _ => by rw [show _ = [] from h]; simp [Reps]
  | d :: ds, _, _, _, 0, h, g => by
    obtain ⟨v, r, ev, h1, h2⟩ := h
    exact ⟨_, r, by rw [ev]; rfl, g, h2⟩
  | d :: ds, _, _, _, n + 1, h, g => by
    obtain ⟨v, r, ev, h1, h2⟩ := h
    exact ⟨v, r.set n _, by rw [ev]; rfl, h1, Reps.set n h2 g⟩
theorem Reps.eraseIdx : ∀ {ds : List PyData} {vs : List V} (n : Nat), Reps K H ds vs → Reps K H (ds.eraseIdx n) (vs.eraseIdx n)
  | [], _, _, h => by rw [show _ = [] from h]; simp [Reps]
  | d :: ds, _, 0, h => by
    obtain ⟨v, r, ev, h1, h2⟩ := h
    rw [ev]
    exact h2
  | d :: ds, _, n + 1, h => by
    obtain ⟨v, r, ev, h1, h2⟩ := h
    exact ⟨v, r.eraseIdx n, by rw [ev]; rfl, h1, Reps.eraseIdx n h2⟩
theorem Reps.dropLast : ∀ {ds : List PyData} {vs : List V}, Reps K H ds vs → Reps K H ds.dropLast vs.dropLast := by
  intro ds vs h
  rw [List.dropLast_eq_take, List.dropLast_eq_take, h.length]
  exact h.take _
theorem Reps.nil : Reps K H [] [] := rfl
theorem Reps.one {d : PyData} {v : V} (h : Rep K H d v) : Reps K H [d] [v] := ⟨v, [], rfl, h, rfl⟩
theorem Reps.cons {d : PyData} {v : V} {ds : List PyData} {vs : List V} (h : Rep K H d v) (g : Reps K H ds vs) : Reps K H (d :: ds) (v :: vs) := ⟨v, vs, rfl, h, g⟩
theorem Reps.reverse : ∀ {ds : List PyData} {vs : List V}, Reps K H ds vs → Reps K H ds.reverse vs.reverse
  | [], _, h => by rw [show _ = [] from h]; simp [Reps]
  | d :: ds, _, h => by
    obtain ⟨v, r, ev, h1, h2⟩ := h
    rw [ev, List.reverse_cons, List.reverse_cons]
    exact (Reps.reverse h2).append (.one h1)
theorem Reps.ints : ∀ {ns : List Int} {vs : List V}, Reps K H (ns.map .int) vs → vs = ns.map V.int
  | [], _, h => h
  | n :: ns, _, h => by
    obtain ⟨v, r, ev, h1, h2⟩ := h
    rw [ev, show v = V.int n from h1, Reps.ints h2] <;> rfl
theorem reps_ints : ∀ (ns : List Int), Reps K H (ns.map .int) (ns.map V.int)
  | [] => rfl
  | n :: ns => ⟨_, _, rfl, rfl, reps_ints ns⟩
theorem Reps.bls : ∀ {ns : List Bool} {vs : List V}, Reps K H (ns.map .bool) vs → vs = ns.map V.bl
  | [], _, h => h
  | n :: ns, _, h => by
    obtain ⟨v, r, ev, h1, h2⟩ := h
    rw [ev, show v = V.bl n from h1, Reps.bls h2] <;> rfl

mutual
theorem Rep.dp : ∀ (d : PyData) (v : V), Rep K H d v → Dp K H v d
  | .none, _, h => by rw [show _ = V.non from h]; exact .non
  | .bool b, _, h => by rw [show _ = V.bl b from h]; exact .bl b
  | .int i, _, h => by rw [show _ = V.int i from h]; exact .int i
  | .str x, _, h => by rw [h.1]; exact .str x
  | .list ds, _, h => by
    obtain ⟨z, a, vs, e, f, r⟩ := h
    rw [e]
    exact .lst f.sq (Reps.dp ds vs r)
  | .tuple ds, _, h => by
    obtain ⟨z, a, vs, e, f, r⟩ := h
    rw [e]
    exact .tup f.sq (Reps.dp ds vs r)
  | .dict _, _, h => h.elim
theorem Reps.dp : ∀ (ds : List PyData) (vs : List V), Reps K H ds vs → DpAll K H vs ds
  | [], _, h => by rw [show _ = [] from h]; exact .nil
  | d :: ds, _, h => by
    obtain ⟨v, r, e, h1, h2⟩ := h
    rw [e]
    exact .cons (Rep.dp d v h1) (Reps.dp ds r h2)
end
mutual
theorem Rep.lay : ∀ (d : PyData) (v : V), Rep K H d v → d.canLay0 = true
  | .none, _, h => by simp [PyData.canLay0]
  | .bool b, _, h => by simp [PyData.canLay0]
  | .int i, _, h => by simp [PyData.canLay0]
  | .str x, _, h => by simpa [PyData.canLay0] using h.2.2
  | .list ds, _, h => by
    obtain ⟨z, a, vs, e, f, r⟩ := h
    simpa [PyData.canLay0] using Reps.lay ds vs r
  | .tuple ds, _, h => by
    obtain ⟨z, a, vs, e, f, r⟩ := h
    simpa [PyData.canLay0] using Reps.lay ds vs r
  | .dict _, _, h => h.elim
theorem Reps.lay : ∀ (ds : List PyData) (vs : List V), Reps K H ds vs → PyData.canLayAll0 ds = true
  | [], _, h => by simp [PyData.canLayAll0]
  | d :: ds, _, h => by
    obtain ⟨v, r, e, h1, h2⟩ := h
    simp [PyData.canLayAll0, Rep.lay d v h1, Reps.lay ds r h2]
end
end

/-! ### slots -/
/-- what a name holds: data; a list of ours; a list lent by the caller (its place among the parameters). As an expression's value also: what stands at a slot -/
inductive S where
  | d (x : PyData) | own (xs : List PyData) | par (j : Nat) (xs : List PyData) | brw (i : Nat)
abbrev Sg := List (Option S)

/-- the context: the written part, the addresses of the lent lists, the heap at the entry -/
structure Ctx where
  K : PySem.W.Frag
  P : Nat → Option Addr
  H0 : Hp

def SR (C : Ctx) (H : Hp) : S → V → List Addr → Prop
  | .d x, v, f => f = [] ∧ Rep C.K H x v
  | .own xs, v, f => xs.length ≤ sizeLine ∧ ∃ a vs, v = .ref a ∧ f = [a] ∧ C.H0 a = none ∧ H a = some (.lst vs) ∧ Reps C.K H xs vs
  | .par j xs, v, f => xs.length ≤ sizeLine ∧ ∃ a vs, v = .ref a ∧ f = [a] ∧ C.P j = some a ∧ H a = some (.lst vs) ∧ Reps C.K H xs vs
  | .brw _, _, _ => False
def OR (C : Ctx) (H : Hp) : Option S → Option V → List Addr → Prop
  | none, _, f => f = []
  | some s, some v, f => SR C H s v f
  | some _, none, _ => False
def StR (C : Ctx) (H : Hp) : Sg → L2.St → List (List Addr) → Prop
  | [], [], [] => True
  | o :: os, v :: vs, f :: fs => OR C H o v f ∧ StR C H os vs fs
  | _, _, _ => False
structure Cfg (C : Ctx) (H : Hp) (σ : Sg) (τ : L2.St) (fps : List (List Addr)) : Prop where
  rel : StR C H σ τ fps
  nd : fps.flatten.Nodup
  dom : ∀ a, H a = none → C.H0 a = none
structure Stp (H : Hp) (fps : List (List Addr)) (H' : Hp) (fps' : List (List Addr)) : Prop where
  fr : ∀ a o, H a = some o → a ∉ fps.flatten → H' a = some o
  gr : ∀ a ∈ fps'.flatten, a ∈ fps.flatten ∨ H a = none
  un : ∀ a, H' a = none → H a = none
theorem Stp.refl (H : Hp) (fps : List (List Addr)) : Stp H fps H fps := ⟨fun _ _ h _ => h, fun _ h => .inl h, fun _ h => h⟩
theorem Stp.trans {H H1 H2 : Hp} {fps fps1 fps2 : List (List Addr)} (a : Stp H fps H1 fps1) (b : Stp H1 fps1 H2 fps2) : Stp H fps H2 fps2 where
  fr := fun x o h n => b.fr x o (a.fr x o h n) fun q => (a.gr x q).elim n fun z => by rw [h] at z; cases z
  gr := fun x h => (b.gr x h).elim (fun q => a.gr x q) fun z => .inr (a.un x z)
  un := fun x h => a.un x (b.un x h)
theorem Same.un {H H' : Hp} (s : Same H H') : ∀ a, H' a = none → H a = none := fun a h => by
  cases e : H a with
  | none => rfl
  | some o =>
    rw [s a o e] at h
    cases h
theorem Stp.same {H H' : Hp} (s : Same H H') (fps : List (List Addr)) : Stp H fps H' fps := ⟨fun a o h _ => s a o h, fun _ h => .inl h, DL.Same.un s⟩

section
variable {C : Ctx} {H H' : Hp} {σ : Sg} {τ : L2.St} {fps fps' : List (List Addr)}
theorem SR.mut {s : S} {v : V} {f : List Addr} (h : SR C H s v f) : ∀ a ∈ f, ∃ vs, H a = some (.lst vs) := by
  cases s with
  | d x => rw [h.1]; intro a ha; cases ha
  | own xs =>
    obtain ⟨_, a, vs, _, rfl, _, e, _⟩ := h
    intro b hb
    rw [List.mem_singleton.mp hb]
    exact ⟨vs, e⟩
  | par j xs =>
    obtain ⟨_, a, vs, _, rfl, _, e, _⟩ := h
    intro b hb
    rw [List.mem_singleton.mp hb]
    exact ⟨vs, e⟩
  | brw i => exact h.elim
theorem OR.mut {s : Option S} {v : Option V} {f : List Addr} (h : OR C H s v f) : ∀ a ∈ f, ∃ vs, H a = some (.lst vs) := by
  cases s with
  | none => rw [show f = [] from h]; intro a ha; cases ha
  | some s =>
    cases v with
    | none => exact (show False from h).elim
    | some v => exact SR.mut h
theorem StR.mut : ∀ {σ : Sg} {τ : L2.St} {fps : List (List Addr)}, StR C H σ τ fps → ∀ a ∈ fps.flatten, ∃ vs, H a = some (.lst vs)
  | [], [], [], _ => fun a ha => by cases ha
  | o :: os, v :: vs, f :: fs, h => fun a ha => by
    rw [List.flatten_cons] at ha
    rcases List.mem_append.mp ha with q | q
    · exact OR.mut h.1 a q
    · exact StR.mut h.2 a q
  | [], [], _ :: _, h => (show False from h).elim
  | [], _ :: _, _, h => (show False from h).elim
  | _ :: _, [], _, h => (show False from h).elim
  | _ :: _, _ :: _, [], h => (show False from h).elim
theorem Cfg.pers (c : Cfg C H σ τ fps) (s : Stp H fps H' fps') : Pers H H' := fun a o h p => s.fr a o h fun q => by
  obtain ⟨vs, e⟩ := c.rel.mut a q
  rw [h] at e
  cases e
  cases p
/-- a relation stands where what it stands on is kept -/
theorem SR.keep {s : S} {v : V} {f : List Addr} (h : SR C H s v f) (p : Pers H H') (k : ∀ a ∈ f, H' a = H a) : SR C H' s v f := by
  cases s with
  | d x => exact ⟨h.1, Rep.mono p _ _ h.2⟩
  | own xs =>
    obtain ⟨z, a, vs, e1, rfl, e2, e, r⟩ := h
    exact ⟨z, a, vs, e1, rfl, e2, (k a (List.mem_singleton.mpr rfl)).trans e, Reps.mono p _ _ r⟩
  | par j xs =>
    obtain ⟨z, a, vs, e1, rfl, e2, e, r⟩ := h
    exact ⟨z, a, vs, e1, rfl, e2, (k a (List.mem_singleton.mpr rfl)).trans e, Reps.mono p _ _ r⟩
  | brw i => exact h.elim
theorem OR.keep {s : Option S} {v : Option V} {f : List Addr} (h : OR C H s v f) (p : Pers H H') (k : ∀ a ∈ f, H' a = H a) : OR C H' s v f := by
  cases s with
  | none => exact h
  | some s =>
    cases v with
    | none => exact (show False from h).elim
    | some v => exact SR.keep h p k
theorem StR.keep : ∀ {σ : Sg} {τ : L2.St} {fps : List (List Addr)}, StR C H σ τ fps → Pers H H' → (∀ a ∈ fps.flatten, H' a = H a) → StR C H' σ τ fps
  | [], [], [], _, _, _ => trivial
  | o :: os, v :: vs, f :: fs, h, p, k => ⟨OR.keep h.1 p fun a ha => k a (by rw [List.flatten_cons]; exact List.mem_append_left _ ha), StR.keep h.2 p fun a ha => k a (by rw [List.flatten_cons]; exact List.mem_append_right _ ha)⟩
  | [], [], _ :: _, h, _, _ => (show False from h).elim
  | [], _ :: _, _, h, _, _ => (show False from h).elim
  | _ :: _, [], _, h, _, _ => (show False from h).elim
  | _ :: _, _ :: _, [], h, _, _ => (show False from h).elim
theorem Cfg.same (c : Cfg C H σ τ fps) (s : Same H H') : Cfg C H' σ τ fps :=
  ⟨c.rel.keep (.of_same s) fun a ha => by
    obtain ⟨vs, e⟩ := c.rel.mut a ha
    rw [e, s a _ e], c.nd, fun a h => c.dom a (Same.un s a h)⟩
theorem StR.len : ∀ {σ : Sg} {τ : L2.St} {fps : List (List Addr)}, StR C H σ τ fps → σ.length = τ.length ∧ fps.length = τ.length
  | [], [], [], _ => ⟨rfl, rfl⟩
  | o :: os, v :: vs, f :: fs, h => by
    obtain ⟨a, b⟩ := StR.len h.2
    simp only [List.length_cons]
    omega
  | [], [], _ :: _, h => (show False from h).elim
  | [], _ :: _, _, h => (show False from h).elim
  | _ :: _, [], _, h => (show False from h).elim
  | _ :: _, _ :: _, [], h => (show False from h).elim
/-- the slot i -/
theorem StR.at : ∀ {σ : Sg} {τ : L2.St} {fps : List (List Addr)} {i : Nat} {s : S}, StR C H σ τ fps → σ[i]? = some (some s) → ∃ v f, τ[i]? = some (some v) ∧ fps[i]? = some f ∧ SR C H s v f
  | [], _, _, _, _, _, e => by simp at e
  | o :: os, v :: vs, f :: fs, 0, s, h, e => by
    simp at e
    subst e
    cases v with
    | none => exact (show False from h.1).elim
    | some v => exact ⟨v, f, rfl, rfl, h.1⟩
  | o :: os, v :: vs, f :: fs, i + 1, s, h, e => by
    obtain ⟨u, g, h1, h2, h3⟩ := StR.at (i := i) h.2 (by simpa using e)
    exact ⟨u, g, by simpa using h1, by simpa using h2, h3⟩
  | _ :: _, [], _, _, _, h, _ => (show False from h).elim
  | _ :: _, _ :: _, [], _, _, h, _ => (show False from h).elim
theorem mem_flat : ∀ {l : List (List Addr)} {i : Nat} {f : List Addr}, l[i]? = some f → ∀ a ∈ f, a ∈ l.flatten := fun e a h => List.mem_flatten.mpr ⟨_, List.mem_of_getElem? e, h⟩
/-- a slot is stored anew -/
theorem StR.set : ∀ {σ : Sg} {τ : L2.St} {fps : List (List Addr)} {o : Option S} {v : Option V} {f : List Addr} (i : Nat), StR C H σ τ fps → OR C H o v f → StR C H (σ.set i o) (τ.set i v) (fps.set i f)
  | [], [], [], _, _, _, _, _, _ => trivial
  | o :: os, v :: vs, f :: fs, _, _, _, 0, h, g => ⟨g, h.2⟩
  | o :: os, v :: vs, f :: fs, _, _, _, i + 1, h, g => ⟨h.1, StR.set i h.2 g⟩
  | [], [], _ :: _, _, _, _, _, h, _ => (show False from h).elim
  | [], _ :: _, _, _, _, _, _, h, _ => (show False from h).elim
  | _ :: _, [], _, _, _, _, _, h, _ => (show False from h).elim
  | _ :: _, _ :: _, [], _, _, _, _, h, _ => (show False from h).elim
theorem mem_flat_set {f : List Addr} : ∀ {l : List (List Addr)} {i : Nat} {a : Addr}, a ∈ (l.set i f).flatten → a ∈ l.flatten ∨ a ∈ f
  | [], _, _, h => by simp at h
  | g :: l, 0, a, h => by
    rw [List.set_cons_zero, List.flatten_cons] at h
    rcases List.mem_append.mp h with q | q
    · exact .inr q
    · exact .inl (by rw [List.flatten_cons]; exact List.mem_append_right _ q)
  | g :: l, i + 1, a, h => by
    rw [List.set_cons_succ, List.flatten_cons] at h
    rcases List.mem_append.mp h with q | q
    · exact .inl (by rw [List.flatten_cons]; exact List.mem_append_left _ q)
    · rcases mem_flat_set q with z | z
      · exact .inl (by rw [List.flatten_cons]; exact List.mem_append_right _ z)
      · exact .inr z
theorem nodup_flat_set {f : List Addr} (hf : f.Nodup) : ∀ {l : List (List Addr)} {i : Nat}, l.flatten.Nodup → (∀ a ∈ f, a ∉ l.flatten) → (l.set i f).flatten.Nodup
  | [], _, h, _ => by simp
  | g :: l, 0, h, k => by
    rw [List.set_cons_zero, List.flatten_cons]
    rw [List.flatten_cons] at h k
    refine List.nodup_append.mpr ⟨hf, (List.nodup_append.mp h).2.1, fun a ha b hb => ?_⟩
    rintro rfl
    exact k a ha (List.mem_append_right _ hb)
  | g :: l, i + 1, h, k => by
    rw [List.set_cons_succ, List.flatten_cons]
    rw [List.flatten_cons] at h k
    obtain ⟨h1, h2, h3⟩ := List.nodup_append.mp h
    refine List.nodup_append.mpr ⟨h1, nodup_flat_set hf h2 fun a ha hb => k a ha (List.mem_append_right _ hb), fun a ha b hb => ?_⟩
    rintro rfl
    rcases mem_flat_set hb with q | q
    · exact h3 a ha a q rfl
    · exact k a q (List.mem_append_left _ ha)
/-- .. by the same cells, or fewer -/
theorem nodup_flat_sub {f : List Addr} : ∀ {l : List (List Addr)} {i : Nat} {g : List Addr}, l.flatten.Nodup → l[i]? = some g → f.Sublist g → (l.set i f).flatten.Nodup
  | [], _, _, _, e, _ => by simp at e
  | g :: l, 0, g', h, e, s => by
    simp at e
    subst e
    rw [List.set_cons_zero, List.flatten_cons]
    rw [List.flatten_cons] at h
    exact h.sublist (List.Sublist.append s (List.Sublist.refl _))
  | g :: l, i + 1, g', h, e, s => by
    rw [List.set_cons_succ, List.flatten_cons]
    rw [List.flatten_cons] at h
    obtain ⟨h1, h2, h3⟩ := List.nodup_append.mp h
    refine List.nodup_append.mpr ⟨h1, nodup_flat_sub h2 (by simpa using e) s, fun a ha b hb => ?_⟩
    rintro rfl
    rcases mem_flat_set hb with q | q
    · exact h3 a ha a q rfl
    · exact h3 a ha a (mem_flat (by simpa using e) a (s.subset q)) rfl
end

/-! ### values on the way -/
/-- an expression's value -/
def VR (C : Ctx) (H : Hp) (τ : L2.St) : S → V → List Addr → Prop
  | .d x, v, f => f = [] ∧ Rep C.K H x v
  | .own xs, v, f => xs.length ≤ sizeLine ∧ ∃ a vs, v = .ref a ∧ f = [a] ∧ C.H0 a = none ∧ H a = some (.lst vs) ∧ Reps C.K H xs vs
  | .brw i, v, f => f = [] ∧ τ[i]? = some (some v)
  | .par _ _, _, _ => False
theorem VR.keep {C : Ctx} {H H' : Hp} {τ : L2.St} {s : S} {v : V} {f : List Addr} (h : VR C H τ s v f) (p : Pers H H') (k : ∀ a ∈ f, H' a = H a) : VR C H' τ s v f := by
  cases s with
  | d x => exact ⟨h.1, Rep.mono p _ _ h.2⟩
  | own xs =>
    obtain ⟨z, a, vs, e1, rfl, e2, e, r⟩ := h
    exact ⟨z, a, vs, e1, rfl, e2, (k a (List.mem_singleton.mpr rfl)).trans e, Reps.mono p _ _ r⟩
  | par j xs => exact h.elim
  | brw i => exact h
theorem VR.mut {C : Ctx} {H : Hp} {τ : L2.St} {s : S} {v : V} {f : List Addr} (h : VR C H τ s v f) : ∀ a ∈ f, ∃ vs, H a = some (.lst vs) := by
  cases s with
  | d x => rw [h.1]; intro a ha; cases ha
  | own xs =>
    obtain ⟨_, a, vs, _, rfl, _, e, _⟩ := h
    intro b hb
    rw [List.mem_singleton.mp hb]
    exact ⟨vs, e⟩
  | par j xs => exact h.elim
  | brw i => rw [h.1]; intro a ha; cases ha
theorem VR.nd {C : Ctx} {H : Hp} {τ : L2.St} {s : S} {v : V} {f : List Addr} (h : VR C H τ s v f) : f.Nodup := by
  cases s with
  | d x => rw [h.1]; exact List.nodup_nil
  | own xs =>
    obtain ⟨_, a, vs, _, rfl, _⟩ := h
    simp
  | par j xs => exact h.elim
  | brw i => rw [h.1]; exact List.nodup_nil

/-- an expression's reading over data; a test's; an argument list's -/
abbrev DE := Sg → (S → Sg → Prop) → Prop
abbrev DT := Sg → (Bool → Sg → Prop) → Prop
abbrev DA := Sg → (List S → Sg → Prop) → Prop

/-- values of an argument list -/
def VRs (C : Ctx) (H : Hp) (τ : L2.St) : List S → List V → List Addr → Prop
  | [], vs, f => vs = [] ∧ f = []
  | s :: ss, vs, f => ∃ v r g h, vs = v :: r ∧ f = g ++ h ∧ VR C H τ s v g ∧ VRs C H τ ss r h

/-- how an expression ends -/
def PostE (C : Ctx) (H : Hp) (fps : List (List Addr)) (τ : L2.St) (Q : S → Sg → Prop) (v : V) (H' : Hp) : Prop :=
  ∃ s σ' fps' f, Stp H fps H' fps' ∧ Cfg C H' σ' τ fps' ∧ VR C H' τ s v f ∧ (∀ a ∈ f, H a = none ∧ a ∉ fps'.flatten) ∧ Q s σ'
def PostT (C : Ctx) (H : Hp) (fps : List (List Addr)) (τ : L2.St) (Q : Bool → Sg → Prop) (b : Bool) (H' : Hp) : Prop :=
  ∃ σ' fps', Stp H fps H' fps' ∧ Cfg C H' σ' τ fps' ∧ Q b σ'
def PostA (C : Ctx) (H : Hp) (fps : List (List Addr)) (τ : L2.St) (Q : List S → Sg → Prop) (vs : List V) (H' : Hp) : Prop :=
  ∃ ss σ' fps' f, Stp H fps H' fps' ∧ Cfg C H' σ' τ fps' ∧ VRs C H' τ ss vs f ∧ f.Nodup ∧ (∀ a ∈ f, H a = none ∧ a ∉ fps'.flatten) ∧ Q ss σ'
def lE (C : Ctx) (t : DE) : TE := fun τ H QV => ∃ σ fps Q, Cfg C H σ τ fps ∧ t σ Q ∧ ∀ v H', PostE C H fps τ Q v H' → QV v H'
def lT (C : Ctx) (t : DT) : TT := fun τ H QV => ∃ σ fps Q, Cfg C H σ τ fps ∧ t σ Q ∧ ∀ b H', PostT C H fps τ Q b H' → QV b H'
def lA (C : Ctx) (t : DA) : TA := fun τ H QV => ∃ σ fps Q, Cfg C H σ τ fps ∧ t σ Q ∧ ∀ vs H', PostA C H fps τ Q vs H' → QV vs H'

theorem PE.weak {X : Cx} {e : Expr} {t t' : TE} (h : PE X e t) (w : ∀ τ H Q, t' τ H Q → t τ H Q) : PE X e t' := ⟨fun pins s σ H Q I q => h.run pins s σ H Q I (w _ _ _ q)⟩
theorem PT.weak {X : Cx} {e : Expr} {t t' : TT} (h : PT X e t) (w : ∀ τ H Q, t' τ H Q → t τ H Q) : PT X e t' := ⟨fun pins s σ H Q I q => h.run pins s σ H Q I (w _ _ _ q)⟩
theorem PW.weak {X : Cx} {e : Expr} {t t' : TT} (h : PW X e t) (w : ∀ τ H Q, t' τ H Q → t τ H Q) : PW X e t' := ⟨fun wh pins s σ H Q I q => h.run wh pins s σ H Q I (w _ _ _ q)⟩
theorem PA.weak {X : Cx} {es : List Expr} {t t' : TA} (h : PA X es t) (w : ∀ τ H Q, t' τ H Q → t τ H Q) : PA X es t' := ⟨fun p pins s σ H Q I q => h.run p pins s σ H Q I (w _ _ _ q)⟩
theorem PS.weak {X : Cx} {e : Stmt} {t t' : TS} (h : PS X e t) (w : ∀ D τ H, t' D τ H → t D τ H) : PS X e t' := ⟨fun pins s σ H D I q => h.run pins s σ H D I (w _ _ _ q)⟩
theorem PSs.weak {X : Cx} {e : List Stmt} {t t' : TS} (h : PSs X e t) (w : ∀ D τ H, t' D τ H → t D τ H) : PSs X e t' := ⟨fun pins s σ H D I q => h.run pins s σ H D I (w _ _ _ q)⟩
theorem PI.weak {X : Cx} {tg e : Expr} {t t' : TI} (h : PI X tg e t) (w : ∀ τ H Q, t' τ H Q → t τ H Q) : PI X tg e t' := ⟨fun pins s σ H Q I q => h.run pins s σ H Q I (w _ _ _ q)⟩

/-- what a value on the way becomes while another expression runs -/
theorem VR.step {C : Ctx} {H H1 H' : Hp} {τ : L2.St} {σ σ' : Sg} {fps fps1 fps' : List (List Addr)} {s : S} {v : V} {f : List Addr} (c : Cfg C H1 σ τ fps1) (h : VR C H1 τ s v f) (n : ∀ a ∈ f, H a = none ∧ a ∉ fps1.flatten) (st : Stp H1 fps1 H' fps') :
    VR C H' τ s v f ∧ ∀ a ∈ f, H a = none ∧ a ∉ fps'.flatten := by
  refine ⟨h.keep (c.pers st) fun a ha => ?_, fun a ha => ⟨(n a ha).1, fun q => ?_⟩⟩
  · obtain ⟨vs, e⟩ := h.mut a ha
    rw [e, st.fr a _ e (n a ha).2]
  · obtain ⟨vs, e⟩ := h.mut a ha
    rcases st.gr a q with z | z
    · exact (n a ha).2 z
    · rw [e] at z; cases z
theorem VRs.step {C : Ctx} {H H1 H' : Hp} {τ : L2.St} {σ : Sg} {fps1 fps' : List (List Addr)} : ∀ {ss : List S} {vs : List V} {f : List Addr}, Cfg C H1 σ τ fps1 → VRs C H1 τ ss vs f → (∀ a ∈ f, H a = none ∧ a ∉ fps1.flatten) → Stp H1 fps1 H' fps' →
    VRs C H' τ ss vs f ∧ ∀ a ∈ f, H a = none ∧ a ∉ fps'.flatten
  | [], _, _, _, h, n, _ => by
    obtain ⟨rfl, rfl⟩ := h
    exact ⟨⟨rfl, rfl⟩, fun a ha => by cases ha⟩
  | s :: ss, _, _, c, h, n, st => by
    obtain ⟨v, r, g, k, rfl, rfl, h1, h2⟩ := h
    obtain ⟨a1, a2⟩ := VR.step (σ' := σ) (fps := fps1) c h1 (fun a ha => n a (List.mem_append_left _ ha)) st
    obtain ⟨b1, b2⟩ := VRs.step c h2 (fun a ha => n a (List.mem_append_right _ ha)) st
    exact ⟨⟨v, r, g, k, rfl, rfl, a1, b1⟩, fun a ha => (List.mem_append.mp ha).elim (a2 a) (b2 a)⟩
theorem VRs.mut {C : Ctx} {H : Hp} {τ : L2.St} : ∀ {ss : List S} {vs : List V} {f : List Addr}, VRs C H τ ss vs f → ∀ a ∈ f, ∃ vs, H a = some (.lst vs)
  | [], _, _, h => by
    obtain ⟨rfl, rfl⟩ := h
    intro a ha; cases ha
  | s :: ss, _, _, h => by
    obtain ⟨v, r, g, k, rfl, rfl, h1, h2⟩ := h
    exact fun a ha => (List.mem_append.mp ha).elim (h1.mut a) (VRs.mut h2 a)
end DL

set_option Elab.async false
set_option linter.all false
set_option maxRecDepth 100000
set_option maxHeartbeats 2000000
/-! DL1: operations over data, and that the hand layer's rules serve them. -/
namespace DL
open PySem PySem.Spec PyProof.Rows L2

/-- what a value is at this moment -/
def Now (K : PySem.W.Frag) (H : Hp) : PyData → V → Prop
  | .list ds, v => ds.length ≤ sizeLine ∧ ∃ a vs, v = .ref a ∧ SqL K H a vs ∧ Reps K H ds vs
  | .tuple ds, v => ds.length ≤ sizeLine ∧ ∃ a vs, v = .ref a ∧ TpT K H a vs ∧ Reps K H ds vs
  | .none, v => v = .non
  | .bool b, v => v = .bl b
  | .int i, v => v = .int i
  | .str x, v => v = .str x ∧ x.length ≤ sizeLine ∧ PyData.strOk x = true
  | .dict _, _ => False
section
variable {K : PySem.W.Frag} {H H' : Hp}
theorem Rep.now : ∀ {d : PyData} {v : V}, Rep K H d v → Now K H d v
  | .none, _, h => h
  | .bool _, _, h => h
  | .int _, _, h => h
  | .str _, _, h => h
  | .list _, _, h => let ⟨z, a, vs, e, f, r⟩ := h; ⟨z, a, vs, e, f.sq, r⟩
  | .tuple _, _, h => h
  | .dict _, _, h => h
theorem Now.dp : ∀ {d : PyData} {v : V}, Now K H d v → Dp K H v d
  | .none, _, h => by rw [show _ = V.non from h]; exact .non
  | .bool b, _, h => by rw [show _ = V.bl b from h]; exact .bl b
  | .int i, _, h => by rw [show _ = V.int i from h]; exact .int i
  | .str x, _, h => by rw [h.1]; exact .str x
  | .list ds, _, h => by
    obtain ⟨z, a, vs, e, f, r⟩ := h
    rw [e]
    exact .lst f (Reps.dp ds vs r)
  | .tuple ds, _, h => by
    obtain ⟨z, a, vs, e, f, r⟩ := h
    rw [e]
    exact .tup f.sq (Reps.dp ds vs r)
  | .dict _, _, h => h.elim
theorem Now.lay : ∀ {d : PyData} {v : V}, Now K H d v → d.canLay0 = true
  | .none, _, h => by simp [PyData.canLay0]
  | .bool b, _, h => by simp [PyData.canLay0]
  | .int i, _, h => by simp [PyData.canLay0]
  | .str x, _, h => by simpa [PyData.canLay0] using h.2.2
  | .list ds, _, h => by
    obtain ⟨z, a, vs, e, f, r⟩ := h
    simpa [PyData.canLay0] using Reps.lay ds vs r
  | .tuple ds, _, h => by
    obtain ⟨z, a, vs, e, f, r⟩ := h
    simpa [PyData.canLay0] using Reps.lay ds vs r
  | .dict _, _, h => h.elim
end

/-- a place of a list, counted; whnf reads it off -/
def nth {α : Type} : List α → Nat → Option α
  | [], _ => none
  | x :: _, 0 => some x
  | _ :: xs, n + 1 => nth xs n
theorem nth_eq {α : Type} : ∀ (xs : List α) (n : Nat), nth xs n = xs[n]?
  | [], _ => rfl
  | x :: _, 0 => rfl
  | _ :: xs, n + 1 => by simpa [nth] using nth_eq xs n
/-- what stands at a slot -/
def slot (σ : Sg) (i : Nat) : Option S := (nth σ i).join
theorem slot_eq {σ : Sg} {i : Nat} {s : S} (h : slot σ i = some s) : σ[i]? = some (some s) := by
  unfold slot at h
  rw [nth_eq] at h
  cases e : σ[i]? with
  | none => rw [e] at h; cases h
  | some o =>
    rw [e] at h
    have h' : o = some s := h
    rw [h']
/-- the data that a value is at this moment -/
def rd (σ : Sg) : S → Option PyData
  | .d x => some x
  | .own xs => some (.list xs)
  | .par _ xs => some (.list xs)
  | .brw i => match slot σ i with
    | some (.own xs) => some (.list xs)
    | some (.par _ xs) => some (.list xs)
    | _ => none

theorem now_of {C : Ctx} {H : Hp} {σ : Sg} {τ : L2.St} {fps : List (List Addr)} {s : S} {v : V} {f : List Addr} {x : PyData} (c : Cfg C H σ τ fps) (h : VR C H τ s v f) (e : rd σ s = some x) : Now C.K H x v := by
  cases s with
  | d y =>
    cases e
    exact Rep.now h.2
  | own xs =>
    cases e
    obtain ⟨z, a, vs, e1, _, _, e2, r⟩ := h
    exact ⟨z, a, vs, e1, SqL.of e2, r⟩
  | par j xs => exact h.elim
  | brw i =>
    have e' : (match slot σ i with | some (.own xs) => some (.list xs) | some (.par _ xs) => some (.list xs) | _ => none) = some x := e
    cases q : slot σ i with
    | none => rw [q] at e'; cases e'
    | some o =>
      rw [q] at e'
      obtain ⟨u, g, h1, h2, h3⟩ := c.rel.at (slot_eq q)
      have hv : τ[i]? = some (some v) := h.2
      rw [h1] at hv
      cases hv
      cases o with
      | d y => cases e'
      | own xs =>
        cases e'
        obtain ⟨z, a, vs, e1, _, _, e2, r⟩ := h3
        exact ⟨z, a, vs, e1, SqL.of e2, r⟩
      | par j xs =>
        cases e'
        obtain ⟨z, a, vs, e1, _, _, e2, r⟩ := h3
        exact ⟨z, a, vs, e1, SqL.of e2, r⟩
      | brw j => cases e'

/-- how an operation on values ends -/
def PV (C : Ctx) (H : Hp) (Q : S → Prop) (v : V) (H' : Hp) : Prop := ∃ s f, Same H H' ∧ VR C H' [] s v f ∧ (∀ a ∈ f, H a = none) ∧ Q s
def Dom (C : Ctx) (H : Hp) : Prop := ∀ a, H a = none → C.H0 a = none
theorem VR.any {C : Ctx} {H : Hp} {τ : L2.St} {s : S} {v : V} {f : List Addr} (h : VR C H [] s v f) : VR C H τ s v f := by
  cases s with
  | d x => exact h
  | own xs => exact h
  | par j xs => exact h
  | brw i => have q := h.2; simp at q
section
variable {C : Ctx} {H : Hp} {Q : S → Prop}
theorem same_upd {H : Hp} {p : Addr} {o : HO} (n : H p = none) : Same H (upd H p o) := fun b u e => by rw [upd_ne (ne_of_none e n)]; exact e
theorem PV.dat {x : PyData} {v : V} (r : Rep C.K H x v) (q : Q (.d x)) : PV C H Q v H := ⟨.d x, [], Same.refl H, ⟨rfl, r⟩, fun a h => (by cases h), q⟩
theorem PV.int {i : Int} (q : Q (.d (.int i))) : PV C H Q (.int i) H := PV.dat (x := .int i) rfl q
theorem PV.bl {i : Bool} (q : Q (.d (.bool i))) : PV C H Q (.bl i) H := PV.dat (x := .bool i) rfl q
theorem PV.str {x : Str} (h1 : x.length ≤ sizeLine) (h2 : PyData.strOk x = true) (q : Q (.d (.str x))) : PV C H Q (.str x) H := PV.dat (x := .str x) ⟨rfl, h1, h2⟩ q
theorem PV.tup {p : Addr} {xs : List PyData} {vs : List V} (n : H p = none) (r : Reps C.K H xs vs) (z : xs.length ≤ sizeLine) (q : Q (.d (.tuple xs))) : PV C H Q (.ref p) (upd H p (.tup vs)) :=
  ⟨.d (.tuple xs), [], same_upd n, ⟨rfl, z, p, vs, rfl, .inl upd_same, Reps.mono (.of_same (same_upd n)) _ _ r⟩, fun a h => (by cases h), q⟩
theorem PV.lst {p : Addr} {xs : List PyData} {vs : List V} (dm : Dom C H) (n : H p = none) (r : Reps C.K H xs vs) (z : xs.length ≤ sizeLine) (q : Q (.own xs)) : PV C H Q (.ref p) (upd H p (.lst vs)) :=
  ⟨.own xs, [p], same_upd n, ⟨z, p, vs, rfl, rfl, dm p n, upd_same, Reps.mono (.of_same (same_upd n)) _ _ r⟩, fun a h => by rw [List.mem_singleton.mp h]; exact n, q⟩
end

abbrev O1 := PyData → (S → Prop) → Prop
abbrev O2 := PyData → PyData → (S → Prop) → Prop
abbrev ON := List PyData → (S → Prop) → Prop
def l2 (C : Ctx) (r : O2) : R2 := fun v w H QV => ∃ x y Q, Dom C H ∧ Now C.K H x v ∧ Now C.K H y w ∧ r x y Q ∧ ∀ u H', PV C H Q u H' → QV u H'
def l1 (C : Ctx) (r : O1) : V → Hp → VK → Prop := fun v H QV => ∃ x Q, Dom C H ∧ Now C.K H x v ∧ r x Q ∧ ∀ u H', PV C H Q u H' → QV u H'
/-- the values of a list as they are -/
def Nows (K : PySem.W.Frag) (H : Hp) : List PyData → List V → Prop
  | [], vs => vs = []
  | d :: ds, vs => ∃ v r, vs = v :: r ∧ Now K H d v ∧ Nows K H ds r
def lN (C : Ctx) (r : ON) : List V → Hp → VK → Prop := fun vs H QV => ∃ xs Q, Dom C H ∧ Nows C.K H xs vs ∧ r xs Q ∧ ∀ u H', PV C H Q u H' → QV u H'

abbrev cx (X : Cx) (P : Nat → Option Addr) (H0 : Hp) : Ctx := ⟨X.K, P, H0⟩

theorem OpR.imp {X : Cx} {f : Value → Value → Sem Value} {r r' : R2} (h : OpR X f r) (w : ∀ x y H Q, r' x y H Q → r x y H Q) : OpR X f r' := fun pins s σ H x y v u Q I rx ry q => h pins s σ H x y v u Q I rx ry (w _ _ _ _ q)
theorem CallR.imp {X : Cx} {f : Value} {r r' : List V → Hp → VK → Prop} (h : CallR X f r) (w : ∀ xs H Q, r' xs H Q → r xs H Q) : CallR X f r' := fun pins s σ H xs us Q I r q => h pins s σ H xs us Q I r (w _ _ _ q)

theorem len_append (a b : Str) : (a ++ b).length = a.length + b.length := by
  show (a.cps ++ b.cps).size = _
  rw [Array.size_append] <;> rfl
theorem strOk_append {a b : Str} (h1 : PyData.strOk a = true) (h2 : PyData.strOk b = true) : PyData.strOk (a ++ b) = true := by
  show (a.cps ++ b.cps).all _ = true
  rw [Array.all_append, Bool.and_eq_true]
  exact ⟨h1, h2⟩

/-! ### a + b -/
/-- lists together, whatever they are -/
theorem op_catL {X : Cx} : OpR X (binaryOp .Add) (fun x y H Q => ∃ l b xs zs, x = .ref l ∧ y = .ref b ∧ SqL X.K H l xs ∧ SqL X.K H b zs ∧ xs.length + zs.length ≤ sizeLine ∧ ∀ p, H p = none → Q (.ref p) (upd H p (.lst (xs ++ zs)))) := by
  intro pins s σ H x y v u Q I rx ry h
  obtain ⟨l, b, xs, zs, rfl, rfl, hH, hB, hz, q⟩ := h
  cases rx
  cases ry
  obtain ⟨its, r, p1, hz1⟩ := I.list hH
  obtain ⟨its2, r2, p2, hz2⟩ := I.list hB
  have hl := r.length
  have hl2 := r2.length
  obtain ⟨⟨cls, dd, data, sl⟩, n, ho, hc, hdd, hd⟩ := p1
  obtain ⟨⟨cls2, dd2, data2, sl2⟩, n2, ho2, hc2, hdd2, hd2⟩ := p2
  simp only at hc hd hc2 hd2
  subst hc hd hc2 hd2
  have e : its.toArray ++ its2.toArray = (its ++ its2).toArray := by simp
  refine concat_meets ⟨_, ho, rfl⟩ ⟨_, ho2, rfl⟩ noFill_list_add seq_list_add PySem.F.slot_list_add PySem.F.entry_list_add (PySem.F.args_list_add_2 _ _) (list_addW l b its.toArray its2.toArray n n2 dd dd2 sl sl2 (by simp only [List.size_toArray]; omega)) ⟨ho, ho2, ?_⟩
  rw [e]
  exact ⟨.ref _, _, I.lnew (t' := s.toks) (r.append r2) (by rw [List.length_append]; omega), rfl, q _ I.fresh⟩
def opAdd : O2
  | .int i, .int j, Q => Q (.d (.int (i + j)))
  | .str a, .str b, Q => a.length + b.length ≤ sizeLine ∧ Q (.d (.str (a ++ b)))
  | .tuple a, .tuple b, Q => a.length + b.length ≤ sizeLine ∧ Q (.d (.tuple (a ++ b)))
  | .list a, .list b, Q => a.length + b.length ≤ sizeLine ∧ Q (.own (a ++ b))
  | _, _, _ => False
section
variable {X : Cx} {P : Nat → Option Addr} {H0 : Hp}
theorem o_add : OpR X (binaryOp .Add) (l2 (cx X P H0) opAdd) := by
  refine OpR.imp (op_add.or (op_add_str.or (op_catA.or op_catL))) ?_
  rintro v w H QV ⟨x, y, Q, dm, hx, hy, h, k⟩
  cases x with
  | int i =>
    cases y with
    | int j => exact .inl ⟨i, j, hx, hy, k _ _ (PV.int h)⟩
    | _ => exact h.elim
  | str a =>
    cases y with
    | str b => exact .inr (.inl ⟨a, b, hx.1, hy.1, h.1, k _ _ (PV.str (by rw [len_append]; exact h.1) (strOk_append hx.2.2 hy.2.2) h.2)⟩)
    | _ => exact h.elim
  | tuple a =>
    cases y with
    | tuple b =>
      obtain ⟨z1, p, vs, rfl, t1, r1⟩ := hx
      obtain ⟨z2, q, us, rfl, t2, r2⟩ := hy
      have e1 := r1.length
      have e2 := r2.length
      refine .inr (.inr (.inl ⟨p, q, vs, us, rfl, rfl, t1.sq, t2.sq, by rw [e1, e2]; exact h.1, fun z => ?_, fun _ z => ?_, fun _ _ n hn => ?_⟩))
      · subst z
        have : a = [] := List.length_eq_zero_iff.mp (by simpa using e1.symm)
        subst this
        exact k _ _ (PV.dat (x := .tuple b) ⟨z2, q, us, rfl, t2, r2⟩ h.2)
      · subst z
        have : b = [] := List.length_eq_zero_iff.mp (by simpa using e2.symm)
        subst this
        refine k _ _ (PV.dat (x := .tuple a) ⟨z1, p, vs, rfl, t1, r1⟩ ?_)
        have := h.2
        rwa [List.append_nil] at this
      · exact k _ _ (PV.tup hn (r1.append r2) (by rw [List.length_append]; exact h.1) h.2)
    | _ => exact h.elim
  | list a =>
    cases y with
    | list b =>
      obtain ⟨z1, p, vs, rfl, t1, r1⟩ := hx
      obtain ⟨z2, q, us, rfl, t2, r2⟩ := hy
      exact .inr (.inr (.inr ⟨p, q, vs, us, rfl, rfl, t1, t2, by rw [r1.length, r2.length]; exact h.1, fun n hn => k _ _ (PV.lst dm hn (r1.append r2) (by rw [List.length_append]; exact h.1) h.2)⟩))
    | _ => exact h.elim
  | _ => exact h.elim

/-! ### numbers -/
def opI2 (C : Int → Int → Prop) (g : Int → Int → Int) : O2
  | .int i, .int j, Q => C i j ∧ Q (.d (.int (g i j)))
  | _, _, _ => False
theorem o_int {f : Value → Value → Sem Value} {C : Int → Int → Prop} {g : Int → Int → Int} (h : OpR X f (rI C fun i j => .int (g i j))) : OpR X f (l2 (cx X P H0) (opI2 C g)) := by
  refine OpR.imp h ?_
  rintro v w H QV ⟨x, y, Q, dm, hx, hy, h, k⟩
  cases x with
  | int i =>
    cases y with
    | int j => exact ⟨i, j, hx, hy, h.1, k _ _ (PV.int h.2)⟩
    | _ => exact h.elim
  | _ => exact h.elim
def opSub : O2
  | .int i, .int j, Q => Q (.d (.int (i - j)))
  | _, _, _ => False
theorem o_sub : OpR X (binaryOp .Sub) (l2 (cx X P H0) opSub) := by
  refine OpR.imp op_sub ?_
  rintro v w H QV ⟨x, y, Q, dm, hx, hy, h, k⟩
  cases x with
  | int i =>
    cases y with
    | int j => exact ⟨i, j, hx, hy, k _ _ (PV.int h)⟩
    | _ => exact h.elim
  | _ => exact h.elim
def MulOk (i j : Int) : Prop := IntMulOk i j
def opMul : O2 := opI2 MulOk fun i j => i * j
theorem op_mulA : OpR X (binaryOp .Mult) (rI MulOk fun i j => .int (i * j)) := opI fun _ _ _ _ _ _ _ hc q => mul_int q hc
theorem o_mul : OpR X (binaryOp .Mult) (l2 (cx X P H0) opMul) := o_int op_mulA
def opFdiv : O2 := opI2 CDivW fun i j => i / j
theorem o_fdiv : OpR X (binaryOp .FloorDiv) (l2 (cx X P H0) opFdiv) := o_int op_fdivW
def opMod : O2 := opI2 (fun _ j => 0 < j) fun i j => i % j
theorem o_mod : OpR X (binaryOp .Mod) (l2 (cx X P H0) opMod) := o_int op_mod
def opPow : O2 := opI2 CPow fun i j => i ^ j.toNat
theorem o_pow : OpR X (binaryOp .Pow) (l2 (cx X P H0) opPow) := o_int op_pow
theorem MulOk.left {i j : Int} (h1 : -(2 ^ 64) < i) (h2 : i < 2 ^ 64) : MulOk i j := CMul.ok (.inl ⟨h1, h2⟩)
theorem MulOk.right {i j : Int} (h1 : -(2 ^ 64) < j) (h2 : j < 2 ^ 64) : MulOk i j := CMul.ok (.inr ⟨h1, h2⟩)

/-! ### comparisons -/
def opCmpI (g : Int → Int → Bool) : O2
  | .int i, .int j, Q => Q (.d (.bool (g i j)))
  | _, _, _ => False
theorem o_cmp {f : Value → Value → Sem Value} {g : Int → Int → Bool} (h : OpR X f (rI0 fun i j => .bl (g i j))) : OpR X f (l2 (cx X P H0) (opCmpI g)) := by
  refine OpR.imp h ?_
  rintro v w H QV ⟨x, y, Q, dm, hx, hy, h, k⟩
  cases x with
  | int i =>
    cases y with
    | int j => exact ⟨i, j, hx, hy, k _ _ (PV.bl h)⟩
    | _ => exact h.elim
  | _ => exact h.elim
def opLt : O2 := opCmpI fun i j => decide (i < j)
def opLe : O2 := opCmpI fun i j => decide (i ≤ j)
def opGt : O2 := opCmpI fun i j => decide (j < i)
def opGe : O2 := opCmpI fun i j => decide (j ≤ i)
theorem o_lt : OpR X (compareOp .Lt) (l2 (cx X P H0) opLt) := o_cmp op_lt
theorem o_le : OpR X (compareOp .LtE) (l2 (cx X P H0) opLe) := o_cmp op_le
theorem o_gt : OpR X (compareOp .Gt) (l2 (cx X P H0) opGt) := o_cmp op_gt
theorem o_ge : OpR X (compareOp .GtE) (l2 (cx X P H0) opGe) := o_cmp op_ge
/-- how deep the two are, the flatter one -/
def Flat (x y : PyData) : Prop := min x.depth y.depth ≤ 64
def opEq : O2 := fun x y Q => Flat x y ∧ Q (.d (.bool (PyData.eqv x y)))
def opNe : O2 := fun x y Q => Flat x y ∧ Q (.d (.bool (!PyData.eqv x y)))
theorem o_eq {k : Nat} (hr : Room k X.A) : OpR X (compareOp .Eq) (l2 (cx X P H0) opEq) := by
  intro pins s σ H x y v u QV I rx ry ⟨d, e, Q, dm, hx, hy, h, k⟩
  obtain ⟨as, r1⟩ := Dp.reads I d x v hx.dp rx
  obtain ⟨bs, r2⟩ := Dp.reads I e y u hy.dp ry
  have hu := hr.units
  have hf : min d.depth e.depth ≤ 64 := h.1
  exact SeqAt.compareEq_reads r1 r2 hx.lay hy.lay (by omega) ⟨.bl _, H, I, rfl, k _ _ (PV.bl h.2)⟩
theorem o_ne {k : Nat} (hr : Room k X.A) : OpR X (compareOp .NotEq) (l2 (cx X P H0) opNe) := by
  intro pins s σ H x y v u QV I rx ry ⟨d, e, Q, dm, hx, hy, h, k⟩
  obtain ⟨as, r1⟩ := Dp.reads I d x v hx.dp rx
  obtain ⟨bs, r2⟩ := Dp.reads I e y u hy.dp ry
  have hu := hr.units
  have hf : min d.depth e.depth ≤ 64 := h.1
  exact SeqAt.compareNe_reads r1 r2 hx.lay hy.lay (by omega) ⟨.bl _, H, I, rfl, k _ _ (PV.bl h.2)⟩
/-- x in a list, a tuple -/
def opIn (neg : Bool) : O2
  | x, .list ys, Q => x.depth ≤ 64 ∧ Q (.d (.bool (xor neg (ys.any fun y => PyData.eqv y x))))
  | x, .tuple ys, Q => x.depth ≤ 64 ∧ Q (.d (.bool (xor neg (ys.any fun y => PyData.eqv y x))))
  | _, _, _ => False
theorem o_in {k : Nat} (hr : Room k X.A) : OpR X (compareOp .In) (l2 (cx X P H0) (opIn false)) := by
  intro pins s σ H x y v u QV I rx ry ⟨d, e, Q, dm, hx, hy, h, k⟩
  obtain ⟨as, r1⟩ := Dp.reads I d x v hx.dp rx
  obtain ⟨bs, r2⟩ := Dp.reads I e y u hy.dp ry
  have hu := hr.un
  cases e with
  | list ys =>
    have hl : PyData.canLayAll0 ys = true := by simpa [PyData.canLay0] using hy.lay
    have hd : d.depth ≤ 64 := h.1
    exact SeqAt.in_list_reads r2 r1 hl hx.lay (by have := Nat.min_le_right (PyData.depthAll ys) d.depth; omega) ⟨.bl _, H, I, rfl, k _ _ (PV.bl (by simpa using h.2))⟩
  | tuple ys =>
    have hl : PyData.canLayAll0 ys = true := by simpa [PyData.canLay0] using hy.lay
    have hd : d.depth ≤ 64 := h.1
    exact SeqAt.in_tuple_reads r2 r1 hl hx.lay (by have := Nat.min_le_right (PyData.depthAll ys) d.depth; omega) ⟨.bl _, H, I, rfl, k _ _ (PV.bl (by simpa using h.2))⟩
  | _ => exact h.elim
theorem o_notIn {k : Nat} (hr : Room k X.A) : OpR X (compareOp .NotIn) (l2 (cx X P H0) (opIn true)) := by
  intro pins s σ H x y v u QV I rx ry ⟨d, e, Q, dm, hx, hy, h, k⟩
  obtain ⟨as, r1⟩ := Dp.reads I d x v hx.dp rx
  obtain ⟨bs, r2⟩ := Dp.reads I e y u hy.dp ry
  have hu := hr.un
  cases e with
  | list ys =>
    have hl : PyData.canLayAll0 ys = true := by simpa [PyData.canLay0] using hy.lay
    have hd : d.depth ≤ 64 := h.1
    exact SeqAt.notIn_list_reads r2 r1 hl hx.lay (by have := Nat.min_le_right (PyData.depthAll ys) d.depth; omega) ⟨.bl _, H, I, rfl, k _ _ (PV.bl (by simpa using h.2))⟩
  | tuple ys =>
    have hl : PyData.canLayAll0 ys = true := by simpa [PyData.canLay0] using hy.lay
    have hd : d.depth ≤ 64 := h.1
    exact SeqAt.notIn_tuple_reads r2 r1 hl hx.lay (by have := Nat.min_le_right (PyData.depthAll ys) d.depth; omega) ⟨.bl _, H, I, rfl, k _ _ (PV.bl (by simpa using h.2))⟩
  | _ => exact h.elim

/-! ### places -/
def opIx : O2
  | .list xs, .int i, Q => ∃ x, atI xs i = some x ∧ Q (.d x)
  | .tuple xs, .int i, Q => ∃ x, atI xs i = some x ∧ Q (.d x)
  | .str x, .int i, Q => ∃ c, atI x.cps.toList i = some c ∧ Q (.d (.str ⟨#[c]⟩))
  | _, _, _ => False
theorem Reps.atI {K : PySem.W.Frag} {H : Hp} {ds : List PyData} {vs : List V} {i : Int} {d : PyData} (r : Reps K H ds vs) (h : L2.atI ds i = some d) : ∃ v, L2.atI vs i = some v ∧ Rep K H d v := by
  unfold L2.atI at h ⊢
  rw [r.length]
  cases e : ixN ds.length i with
  | none => rw [e] at h; cases h
  | some j =>
    rw [e] at h
    exact r.get h
theorem strOk_one {x : Str} {c : Nat} (h : PyData.strOk x = true) (m : c ∈ x.cps.toList) : PyData.strOk ⟨#[c]⟩ = true := by
  have h' : x.cps.all (· < 0x110000) = true := h
  rw [← Array.all_toList, List.all_eq_true] at h'
  have := h' c m
  show (#[c] : Array Nat).all _ = true
  simpa using this
theorem atI_mem {α : Type} {xs : List α} {i : Int} {x : α} (h : L2.atI xs i = some x) : x ∈ xs := by
  obtain ⟨j, _, e, _⟩ := atI_get h
  exact List.mem_of_getElem? e
theorem x_ix : IxR X (l2 (cx X P H0) opIx) := by
  intro va sl pins s σ H x y v u QV I rx ry ⟨d, e, Q, dm, hx, hy, h, k⟩ hs
  refine ix_seq va sl pins s σ H x y v u QV I rx ry ?_ hs
  cases d with
  | list ds =>
    cases e with
    | int i =>
      obtain ⟨z, a, vs, rfl, f, r⟩ := hx
      obtain ⟨c, hc, q⟩ := h
      obtain ⟨w, hw, rw'⟩ := Reps.atI r hc
      exact .inl ⟨a, vs, i, w, rfl, hy, f, hw, k _ _ (PV.dat rw' q)⟩
    | _ => exact h.elim
  | tuple ds =>
    cases e with
    | int i =>
      obtain ⟨z, a, vs, rfl, f, r⟩ := hx
      obtain ⟨c, hc, q⟩ := h
      obtain ⟨w, hw, rw'⟩ := Reps.atI r hc
      exact .inr (.inl ⟨a, vs, i, w, rfl, hy, f.sq, hw, k _ _ (PV.dat rw' q)⟩)
    | _ => exact h.elim
  | str ds =>
    cases e with
    | int i =>
      obtain ⟨c, hc, q⟩ := h
      exact .inr (.inr ⟨ds, i, c, hx.1, hy, hx.2.1, hc, k _ _ (PV.str (by show 1 ≤ sizeLine; decide) (strOk_one hx.2.2 (atI_mem hc)) q)⟩)
    | _ => exact h.elim
  | _ => exact h.elim
end
end DL

set_option Elab.async false
set_option linter.all false
set_option maxRecDepth 100000
set_option maxHeartbeats 2000000
/-! DL2: expressions and tests over data. -/
namespace DL
open PySem PySem.Spec PyProof.Rows L2
section
variable {X : Cx} {P : Nat → Option Addr} {H0 : Hp} {a b c e : Expr} {ta tb tc t : DE} {pos : Pos}

/-! ### two expressions, then an operation -/
def d2 (r : O2) (ta tb : DE) : DE := fun σ Q => ta σ fun x σ1 => tb σ1 fun y σ2 => match rd σ2 x, rd σ2 y with
  | some u, some w => r u w fun z => Q z σ2
  | _, _ => False
def d1 (r : O1) (ta : DE) : DE := fun σ Q => ta σ fun x σ1 => match rd σ1 x with
  | some u => r u fun z => Q z σ1
  | none => False
theorem post_pv {C : Ctx} {H H1 H' : Hp} {σ1 : Sg} {τ : L2.St} {fps fps1 : List (List Addr)} {Q : S → Sg → Prop} {v : V} (st : Stp H fps H1 fps1) (c : Cfg C H1 σ1 τ fps1) (p : PV C H1 (fun z => Q z σ1) v H') : PostE C H fps τ Q v H' := by
  obtain ⟨s, f, sm, vr, fr, q⟩ := p
  refine ⟨s, σ1, fps1, f, st.trans (.same sm fps1), c.same sm, vr.any, fun a ha => ⟨st.un a (fr a ha), fun z => ?_⟩, q⟩
  obtain ⟨vs, e⟩ := c.rel.mut a z
  rw [fr a ha] at e
  cases e
theorem two {C : Ctx} {r : O2} {ta tb : DE} (τ : L2.St) (H : Hp) (QV : VK) (h : lE C (d2 r ta tb) τ H QV) : tOp (l2 C r) (lE C ta) (lE C tb) τ H QV := by
  obtain ⟨σ, fps, Q, cf, h, k⟩ := h
  refine ⟨σ, fps, _, cf, h, fun x H1 ⟨sx, σ1, fps1, fx, st1, cf1, vx, nx, h1⟩ => ⟨σ1, fps1, _, cf1, h1, fun y H2 ⟨sy, σ2, fps2, fy, st2, cf2, vy, ny, h2⟩ => ?_⟩⟩
  obtain ⟨vx2, nx2⟩ := VR.step (σ' := σ1) (fps := fps1) cf1 vx nx st2
  cases ex : rd σ2 sx with
  | none => simp only [ex] at h2
  | some dx =>
    cases ey : rd σ2 sy with
    | none => simp only [ex, ey] at h2
    | some dy =>
      simp only [ex, ey] at h2
      exact ⟨dx, dy, _, cf2.dom, now_of cf2 vx2 ex, now_of cf2 vy ey, h2, fun u H' p => k u H' (post_pv (st1.trans st2) cf2 p)⟩
theorem de_op {op : Operator} {r : O2} (ho : OpR X (binaryOp op) (l2 (cx X P H0) r)) (ha : PE X a (lE (cx X P H0) ta)) (hb : PE X b (lE (cx X P H0) tb)) : PE X (.BinOp a op b pos) (lE (cx X P H0) (d2 r ta tb)) :=
  PE.weak (pe_op ho ha hb) two
theorem de_cmp {op : CmpOp} {r : O2} (ho : OpR X (compareOp op) (l2 (cx X P H0) r)) (ha : PE X a (lE (cx X P H0) ta)) (hb : PE X b (lE (cx X P H0) tb)) (hm : behindInMarks op b = false) : PE X (.Compare a [op] [b] pos) (lE (cx X P H0) (d2 r ta tb)) :=
  PE.weak (pe_cmpR ho ha hb hm) two
theorem de_ix (ha : PE X a (lE (cx X P H0) ta)) (hb : PE X b (lE (cx X P H0) tb)) (hs : PlainIx b) : PE X (.Subscript a b pos) (lE (cx X P H0) (d2 opIx ta tb)) :=
  PE.weak (pe_ix x_ix ha hb hs) two
theorem one {C : Ctx} {r : O1} {ta : DE} (τ : L2.St) (H : Hp) (QV : VK) (h : lE C (d1 r ta) τ H QV) : lE C ta τ H fun x H1 => l1 C r x H1 QV := by
  obtain ⟨σ, fps, Q, cf, h, k⟩ := h
  refine ⟨σ, fps, _, cf, h, fun x H1 ⟨sx, σ1, fps1, fx, st1, cf1, vx, nx, h1⟩ => ?_⟩
  cases ex : rd σ1 sx with
  | none => simp only [ex] at h1
  | some dx =>
    simp only [ex] at h1
    exact ⟨dx, _, cf1.dom, now_of cf1 vx ex, h1, fun u H' p => k u H' (post_pv st1 cf1 p)⟩
theorem UnR.imp {f : Value → Sem Value} {r r' : V → Hp → VK → Prop} (h : UnR X f r) (w : ∀ x H Q, r' x H Q → r x H Q) : UnR X f r' := fun pins s σ H x v Q I rx q => h pins s σ H x v Q I rx (w _ _ _ q)
theorem de_un {op : UnaryOp} {r : O1} (ho : UnR X (unaryOp op) (l1 (cx X P H0) r)) (ha : PE X a (lE (cx X P H0) ta)) : PE X (.UnaryOp op a pos) (lE (cx X P H0) (d1 r ta)) :=
  PE.weak (pe_un ho ha) one
def opNeg : O1
  | .int i, Q => Q (.d (.int (-i)))
  | _, _ => False
theorem u_neg : UnR X (unaryOp .USub) (l1 (cx X P H0) opNeg) := by
  refine UnR.imp un_neg ?_
  rintro v H QV ⟨x, Q, dm, hx, h, k⟩
  cases x with
  | int i => exact ⟨i, hx, k _ _ (PV.int h)⟩
  | _ => exact h.elim

/-! ### names, constants -/
def dVar (i : Nat) : DE := fun σ Q => match slot σ i with
  | some (.d x) => Q (.d x) σ
  | some _ => Q (.brw i) σ
  | none => False
theorem de_var {i : Nat} (h : PE X e (tVar i)) : PE X e (lE (cx X P H0) (dVar i)) := by
  refine PE.weak h ?_
  rintro τ H QV ⟨σ, fps, Q, cf, h, k⟩
  cases q : slot σ i with
  | none => simp only [dVar, q] at h
  | some s =>
    obtain ⟨v, f, h1, h2, h3⟩ := cf.rel.at (slot_eq q)
    refine ⟨v, h1, k v H ?_⟩
    cases s with
    | d x =>
      simp only [dVar, q] at h
      exact ⟨.d x, σ, fps, [], .refl _ _, cf, ⟨rfl, h3.2⟩, fun a ha => (by cases ha), h⟩
    | own xs =>
      simp only [dVar, q] at h
      exact ⟨.brw i, σ, fps, [], .refl _ _, cf, ⟨rfl, h1⟩, fun a ha => (by cases ha), h⟩
    | par j xs =>
      simp only [dVar, q] at h
      exact ⟨.brw i, σ, fps, [], .refl _ _, cf, ⟨rfl, h1⟩, fun a ha => (by cases ha), h⟩
    | brw j => exact h3.elim
theorem dv (i : Nat) {x : Str} {pos : Pos} (hN : X.N[i]? = some x := by rfl) (hv : Vis X.env.scope x := by first | exact Or.inl rfl | exact Or.inr (Or.inl rfl) | exact Or.inr (Or.inr rfl)) (hd : (x == ("__debug__" : Str)) = false := by decide)
    (hcd : (x == ("__classdict__" : Str)) = false := by decide) : PE X (.Name x pos) (lE (cx X P H0) (dVar i)) := de_var (pe_var hN hv hd hcd)
def dC (x : PyData) : DE := fun σ Q => Q (.d x) σ
theorem de_const {v : V} {x : PyData} (h : PE X e (tC v)) (r : ∀ H, Rep X.K H x v) : PE X e (lE (cx X P H0) (dC x)) := by
  refine PE.weak h ?_
  rintro τ H QV ⟨σ, fps, Q, cf, h, k⟩
  exact k v H ⟨.d x, σ, fps, [], .refl _ _, cf, ⟨rfl, r H⟩, fun a ha => (by cases ha), h⟩
theorem de_int {i j pos} : PE X (.Constant (.int i) j pos) (lE (cx X P H0) (dC (.int i))) := de_const pe_int fun _ => rfl
theorem de_bl {b j pos} : PE X (.Constant (.bool b) j pos) (lE (cx X P H0) (dC (.bool b))) := de_const pe_bl fun _ => rfl
theorem de_non {j pos} : PE X (.Constant .none j pos) (lE (cx X P H0) (dC .none)) := de_const pe_non fun _ => rfl
def okS (x : Str) : Bool := decide (x.length ≤ 1000) && PyData.strOk x
theorem okS_rep {x : Str} (h : okS x = true) {K : PySem.W.Frag} (H : Hp) : Rep K H (.str x) (.str x) := by
  unfold okS at h
  rw [Bool.and_eq_true, decide_eq_true_eq] at h
  exact ⟨rfl, Nat.le_trans h.1 (by decide), h.2⟩
theorem de_str {x j pos} (h : okS x = true := by decide +kernel) : PE X (.Constant (.str x) j pos) (lE (cx X P H0) (dC (.str x))) := de_const pe_str fun H => okS_rep h H

/-! ### freezing: a list of ours that is put into data -/
theorem Cfg.lock {C : Ctx} {H : Hp} {σ : Sg} {τ : L2.St} {fps : List (List Addr)} {a : Addr} {vs : List V} {od : Obj} (cf : Cfg C H σ τ fps) (e : H a = some (.lst vs)) (n : a ∉ fps.flatten) : Cfg C (upd H a (.frz od (.lst vs))) σ τ fps := by
  refine ⟨cf.rel.keep (fun b o h p => ?_) fun b hb => ?_, cf.nd, fun b h => ?_⟩
  · rw [upd_ne (fun z => by rw [z, e] at h; cases h; cases p)]; exact h
  · rw [upd_ne (fun z => n (by rw [← z]; exact hb))]
  · by_cases z : b = a
    · rw [z, upd_same] at h; cases h
    · rw [upd_ne z] at h; exact cf.dom b h
theorem reps_lock {K : PySem.W.Frag} {H : Hp} {a : Addr} {vs us : List V} {od : Obj} {xs : List PyData} (e : H a = some (.lst vs)) (r : Reps K H xs us) : Reps K (upd H a (.frz od (.lst vs))) xs us :=
  Reps.mono (fun b o h p => by rw [upd_ne (fun z => by rw [z, e] at h; cases h; cases p)]; exact h) _ _ r
theorem flat_set_out {f : List Addr} : ∀ {l : List (List Addr)} {i : Nat} {a : Addr}, l.flatten.Nodup → l[i]? = some f → a ∈ f → a ∉ (l.set i []).flatten
  | [], _, _, _, e, _ => by simp at e
  | g :: l, 0, a, n, e, h => by
    simp at e
    subst e
    rw [List.set_cons_zero, List.flatten_cons, List.nil_append]
    rw [List.flatten_cons] at n
    exact fun q => (List.nodup_append.mp n).2.2 a h a q rfl
  | g :: l, i + 1, a, n, e, h => by
    rw [List.set_cons_succ, List.flatten_cons]
    rw [List.flatten_cons] at n
    obtain ⟨n1, n2, n3⟩ := List.nodup_append.mp n
    have e' : l[i]? = some f := by simpa using e
    intro q
    rcases List.mem_append.mp q with q | q
    · exact n3 a q a (mem_flat e' a h) rfl
    · exact flat_set_out n2 e' h q
/-- the slot i is given up -/
theorem Cfg.drop {C : Ctx} {H : Hp} {σ : Sg} {τ : L2.St} {fps : List (List Addr)} {i : Nat} {v : V} {f : List Addr} (cf : Cfg C H σ τ fps) (hv : τ[i]? = some (some v)) (hf : fps[i]? = some f) : Cfg C H (σ.set i none) τ (fps.set i []) := by
  refine ⟨?_, nodup_flat_sub cf.nd hf (List.nil_sublist _), cf.dom⟩
  have := cf.rel.set (o := none) (v := some v) (f := []) i rfl
  rwa [show τ.set i (some v) = τ from by
    refine List.ext_getElem? fun j => ?_
    by_cases z : i = j
    · subst z
      rw [hv, List.getElem?_set_self (List.getElem?_eq_some_iff.mp hv).1]
    · rw [List.getElem?_set_ne z]] at this
theorem stp_drop {H : Hp} {fps : List (List Addr)} {i : Nat} : Stp H fps H (fps.set i []) := ⟨fun _ _ h _ => h, fun a h => .inl ((mem_flat_set h).elim id fun z => by cases z), fun _ h => h⟩
theorem lock_in {X : Cx} {pins : List (Addr × Obj)} {H : Hp} {τ : L2.St} {s : Shared} {a : Addr} {vs : List V} (I : Inv X pins τ H s) (e : H a = some (.lst vs)) : ∃ od, Inv X pins τ (upd H a (.frz od (.lst vs))) s := Inv.lock I e trivial
theorem stp_lock {H H' : Hp} {fps fps' : List (List Addr)} {a : Addr} {vs : List V} {od : Obj} (st : Stp H fps H' fps') (n : H a = none ∨ a ∈ fps.flatten) (hn : H' a = some (.lst vs)) : Stp H fps (upd H' a (.frz od (.lst vs))) fps' := by
  refine ⟨fun b o h q => ?_, st.gr, fun b h => ?_⟩
  · rw [upd_ne (fun z => ?_)]
    · exact st.fr b o h q
    · subst z
      rcases n with n | n
      · rw [n] at h; cases h
      · exact q n
  · by_cases z : b = a
    · rw [z, upd_same] at h; cases h
    · rw [upd_ne z] at h; exact st.un b h
/-- a slot's list of ours becomes data -/
def frzAt (σ : Sg) (i : Nat) (xs : List PyData) : Sg := σ.set i (some (.d (.list xs)))
theorem cfg_frz {C : Ctx} {H : Hp} {σ : Sg} {τ : L2.St} {fps : List (List Addr)} {i : Nat} {xs : List PyData} (cf : Cfg C H σ τ fps) (q : slot σ i = some (.own xs)) :
    ∃ a vs f, τ[i]? = some (some (.ref a)) ∧ fps[i]? = some f ∧ a ∈ f ∧ H a = some (.lst vs) ∧ ∀ od, Cfg C (upd H a (.frz od (.lst vs))) (frzAt σ i xs) τ (fps.set i []) ∧ Rep C.K (upd H a (.frz od (.lst vs))) (.list xs) (.ref a) := by
  obtain ⟨v, f, h1, h2, h3⟩ := cf.rel.at (slot_eq q)
  obtain ⟨z, a, vs, rfl, rfl, e0, e, r⟩ := h3
  refine ⟨a, vs, [a], h1, h2, List.mem_singleton.mpr rfl, e, fun od => ?_⟩
  have c1 := (cf.drop h1 h2).lock (od := od) e (flat_set_out cf.nd h2 (List.mem_singleton.mpr rfl))
  have rp : Rep C.K (upd H a (.frz od (.lst vs))) (.list xs) (.ref a) := ⟨z, a, vs, rfl, (.inl ⟨od, upd_same⟩), reps_lock e r⟩
  refine ⟨⟨?_, c1.nd, c1.dom⟩, rp⟩
  have := c1.rel.set (o := some (.d (.list xs))) (v := some (.ref a)) (f := []) i ⟨rfl, rp⟩
  rw [List.set_set, List.set_set] at this
  rwa [show τ.set i (some (.ref a)) = τ from by
    refine List.ext_getElem? fun j => ?_
    by_cases z : i = j
    · subst z
      rw [h1, List.getElem?_set_self (List.getElem?_eq_some_iff.mp h1).1]
    · rw [List.getElem?_set_ne z]] at this
def dFz (t : DE) : DE := fun σ Q => t σ fun s σ1 => match s with
  | .d x => Q (.d x) σ1
  | .own xs => Q (.d (.list xs)) σ1
  | .par _ _ => False
  | .brw i => match slot σ1 i with
    | some (.own xs) => Q (.d (.list xs)) (frzAt σ1 i xs)
    | _ => False
theorem de_frz (h : PE X e (lE (cx X P H0) t)) : PE X e (lE (cx X P H0) (dFz t)) := by
  refine ⟨fun pins s τ H QV I ⟨σ, fps, Q, cf, hq, k⟩ => ?_⟩
  refine thn (h.run pins s τ H _ I ⟨σ, fps, _, cf, hq, fun v H' p => p⟩) fun u s1 ⟨v, H1, I1, r1, sx, σ1, fps1, f, st, cf1, vr, nf, h1⟩ => ?_
  cases sx with
  | d x => exact ⟨v, H1, I1, r1, k _ _ ⟨.d x, σ1, fps1, f, st, cf1, vr, nf, h1⟩⟩
  | own xs =>
    obtain ⟨z, a, vs, rfl, rfl, e0, e, r⟩ := vr
    obtain ⟨na, nb⟩ := nf a (List.mem_singleton.mpr rfl)
    obtain ⟨od, I2⟩ := lock_in I1 e
    refine ⟨_, _, I2, r1, k _ _ ⟨.d (.list xs), σ1, fps1, [], stp_lock st (.inl na) e, cf1.lock e nb, ⟨rfl, z, a, vs, rfl, (.inl ⟨od, upd_same⟩), reps_lock e r⟩, fun b hb => (by cases hb), h1⟩⟩
  | par j xs => exact h1.elim
  | brw i =>
    cases q : slot σ1 i with
    | none => simp only [q] at h1
    | some o =>
      cases o with
      | own xs =>
        simp only [q] at h1
        obtain ⟨a, vs, g, e1, e2, ha, e3, k2⟩ := cfg_frz cf1 q
        obtain ⟨od, I2⟩ := lock_in I1 e3
        obtain ⟨c2, rp⟩ := k2 od
        have hv := vr.2
        rw [e1] at hv
        cases hv
        have hmem := mem_flat e2 a ha
        have hn : H a = none ∨ a ∈ fps.flatten := (st.gr a hmem).symm
        exact ⟨_, _, I2, r1, k _ _ ⟨.d (.list xs), _, _, [], stp_lock (st.trans stp_drop) hn e3, c2, ⟨rfl, rp⟩, fun b hb => (by cases hb), h1⟩⟩
      | d y => simp only [q] at h1
      | par j xs => simp only [q] at h1
      | brw j => simp only [q] at h1
/-- only a new list is frozen; a slot's is lent -/
def dAr (t : DE) : DE := fun σ Q => t σ fun s σ1 => match s with
  | .own xs => Q (.d (.list xs)) σ1
  | .d x => Q (.d x) σ1
  | .brw i => Q (.brw i) σ1
  | .par _ _ => False
theorem de_arg (h : PE X e (lE (cx X P H0) t)) : PE X e (lE (cx X P H0) (dAr t)) := by
  refine ⟨fun pins s τ H QV I ⟨σ, fps, Q, cf, hq, k⟩ => ?_⟩
  refine thn (h.run pins s τ H _ I ⟨σ, fps, _, cf, hq, fun v H' p => p⟩) fun u s1 ⟨v, H1, I1, r1, sx, σ1, fps1, f, st, cf1, vr, nf, h1⟩ => ?_
  cases sx with
  | d x => exact ⟨v, H1, I1, r1, k _ _ ⟨.d x, σ1, fps1, f, st, cf1, vr, nf, h1⟩⟩
  | own xs =>
    obtain ⟨z, a, vs, rfl, rfl, e0, e, r⟩ := vr
    obtain ⟨na, nb⟩ := nf a (List.mem_singleton.mpr rfl)
    obtain ⟨od, I2⟩ := lock_in I1 e
    refine ⟨_, _, I2, r1, k _ _ ⟨.d (.list xs), σ1, fps1, [], stp_lock st (.inl na) e, cf1.lock e nb, ⟨rfl, z, a, vs, rfl, (.inl ⟨od, upd_same⟩), reps_lock e r⟩, fun b hb => (by cases hb), h1⟩⟩
  | par j xs => exact h1.elim
  | brw i => exact ⟨v, H1, I1, r1, k _ _ ⟨.brw i, σ1, fps1, f, st, cf1, vr, nf, h1⟩⟩

/-! ### argument lists, displays -/
def lAn (C : Ctx) (n : Nat) (t : DA) : TA := fun τ H QV => ∃ σ fps Q, Cfg C H σ τ fps ∧ t σ Q ∧ ∀ vs H', PostA C H fps τ (fun ss σ' => ss.length = n ∧ Q ss σ') vs H' → QV vs H'
def dNil : DA := fun σ Q => Q [] σ
def dCons (ta : DE) (tr : DA) : DA := fun σ Q => ta σ fun x σ1 => tr σ1 fun xs σ2 => Q (x :: xs) σ2
theorem da_nil : PA X [] (lAn (cx X P H0) 0 dNil) := by
  refine PA.weak pa_nil ?_
  rintro τ H QV ⟨σ, fps, Q, cf, h, k⟩
  exact k [] H ⟨[], σ, fps, [], .refl _ _, cf, ⟨rfl, rfl⟩, List.nodup_nil, fun a ha => (by cases ha), rfl, h⟩
theorem da_cons {es : List Expr} {n : Nat} {tr : DA} (ha : PE X e (lE (cx X P H0) t)) (hr : PA X es (lAn (cx X P H0) n tr)) (hs : starEach (e :: es) X.env = (false, eval e X.env) :: starEach es X.env := by rfl) :
    PA X (e :: es) (lAn (cx X P H0) (n + 1) (dCons t tr)) := by
  refine PA.weak (pa_cons ha hr hs) ?_
  rintro τ H QV ⟨σ, fps, Q, cf, h, k⟩
  refine ⟨σ, fps, _, cf, h, fun x H1 ⟨sx, σ1, fps1, fx, st1, cf1, vx, nx, h1⟩ => ⟨σ1, fps1, _, cf1, h1, fun ys H2 ⟨ss, σ2, fps2, fy, st2, cf2, vy, ndy, ny, hl, h2⟩ => ?_⟩⟩
  obtain ⟨vx2, nx2⟩ := VR.step (σ' := σ1) (fps := fps1) cf1 vx nx st2
  refine k _ _ ⟨sx :: ss, σ2, fps2, fx ++ fy, st1.trans st2, cf2, ⟨x, ys, fx, fy, rfl, rfl, vx2, vy⟩, List.nodup_append.mpr ⟨vx.nd, ndy, fun a h1 b h2 => ?_⟩, fun a h => ?_, by rw [List.length_cons, hl], h2⟩
  · rintro rfl
    obtain ⟨vs, e⟩ := vx.mut a h1
    rw [(ny a h2).1] at e
    cases e
  · rcases List.mem_append.mp h with h | h
    · exact nx2 a h
    · exact ⟨st1.un a (ny a h).1, (ny a h).2⟩
/-- all are data -/
def dats : List S → Option (List PyData)
  | [] => some []
  | .d x :: r => match dats r with
    | some xs => some (x :: xs)
    | none => none
  | _ => none
theorem dats_reps {C : Ctx} {H : Hp} {τ : L2.St} : ∀ {ss : List S} {vs : List V} {f : List Addr} {xs : List PyData}, VRs C H τ ss vs f → dats ss = some xs → Reps C.K H xs vs ∧ xs.length = ss.length
  | [], _, _, _, h, e => by
    cases e
    exact ⟨h.1, rfl⟩
  | s :: ss, _, _, xs, h, e => by
    obtain ⟨v, r, g, k, rfl, rfl, h1, h2⟩ := h
    cases s with
    | d x =>
      cases q : dats ss with
      | none => simp only [dats, q] at e; cases e
      | some ys =>
        simp only [dats, q] at e
        cases e
        obtain ⟨a, b⟩ := dats_reps h2 q
        exact ⟨⟨v, r, rfl, h1.2, a⟩, by rw [List.length_cons, List.length_cons, b]⟩
    | own ys => simp only [dats] at e; cases e
    | par j ys => simp only [dats] at e; cases e
    | brw j => simp only [dats] at e; cases e
def dTup (t : DA) : DE := fun σ Q => t σ fun ss σ1 => match dats ss with
  | some xs => Q (.d (.tuple xs)) σ1
  | none => False
def dLst (t : DA) : DE := fun σ Q => t σ fun ss σ1 => match dats ss with
  | some xs => Q (.own xs) σ1
  | none => False
theorem de_tup {es : List Expr} {x1} {n : Nat} {t : DA} (h : PA X es (lAn (cx X P H0) n t)) (hz : n ≤ sizeLine := by decide) : PE X (.Tuple es x1 pos) (lE (cx X P H0) (dTup t)) := by
  refine PE.weak (pe_tup h) ?_
  rintro τ H QV ⟨σ, fps, Q, cf, h, k⟩
  refine ⟨σ, fps, _, cf, h, fun vs H1 ⟨ss, σ1, fps1, f, st, cf1, vr, nd, nf, hl, h1⟩ => ?_⟩
  cases q : dats ss with
  | none => simp only [q] at h1
  | some xs =>
    simp only [q] at h1
    obtain ⟨r, el⟩ := dats_reps vr q
    have hx : xs.length ≤ sizeLine := by rw [el, hl]; exact hz
    exact ⟨by rw [r.length]; exact hx, fun p hp => k _ _ (post_pv st cf1 (PV.tup hp r hx h1))⟩
theorem de_lst {es : List Expr} {n : Nat} {t : DA} (h : PA X es (lAn (cx X P H0) n t)) (hz : n ≤ sizeLine := by decide) : PE X (.List es pos) (lE (cx X P H0) (dLst t)) := by
  refine PE.weak (pe_lst h) ?_
  rintro τ H QV ⟨σ, fps, Q, cf, h, k⟩
  refine ⟨σ, fps, _, cf, h, fun vs H1 ⟨ss, σ1, fps1, f, st, cf1, vr, nd, nf, hl, h1⟩ => ?_⟩
  cases q : dats ss with
  | none => simp only [q] at h1
  | some xs =>
    simp only [q] at h1
    obtain ⟨r, el⟩ := dats_reps vr q
    have hx : xs.length ≤ sizeLine := by rw [el, hl]; exact hz
    exact ⟨by rw [r.length]; exact hx, fun p hp => k _ _ (post_pv st cf1 (PV.lst cf1.dom hp r hx h1))⟩

/-! ### built-ins called by name -/
def rds (σ : Sg) : List S → Option (List PyData)
  | [] => some []
  | s :: r => match rd σ s with
    | some x => match rds σ r with
      | some xs => some (x :: xs)
      | none => none
    | none => none
theorem rds_nows {C : Ctx} {H : Hp} {σ : Sg} {τ : L2.St} {fps : List (List Addr)} (cf : Cfg C H σ τ fps) : ∀ {ss : List S} {vs : List V} {f : List Addr} {xs : List PyData}, VRs C H τ ss vs f → rds σ ss = some xs → Nows C.K H xs vs
  | [], _, _, _, h, e => by
    cases e
    exact h.1
  | s :: ss, _, _, xs, h, e => by
    obtain ⟨v, r, g, k, rfl, rfl, h1, h2⟩ := h
    cases q : rd σ s with
    | none => simp only [rds, q] at e; cases e
    | some x =>
      cases q2 : rds σ ss with
      | none => simp only [rds, q, q2] at e; cases e
      | some ys =>
        simp only [rds, q, q2] at e
        cases e
        exact ⟨v, r, rfl, now_of cf h1 q, rds_nows cf h2 q2⟩
def dCB (r : ON) (t : DA) : DE := fun σ Q => t σ fun ss σ1 => match rds σ1 ss with
  | some xs => r xs fun z => Q z σ1
  | none => False
theorem calls {C : Ctx} {n : Nat} {r : ON} {t : DA} (τ : L2.St) (H : Hp) (QV : VK) (h : lE C (dCB r t) τ H QV) : tCB (lN C r) (lAn C n t) τ H QV := by
  obtain ⟨σ, fps, Q, cf, h, k⟩ := h
  refine ⟨σ, fps, _, cf, h, fun vs H1 ⟨ss, σ1, fps1, f, st, cf1, vr, nd, nf, hl, h1⟩ => ?_⟩
  cases q : rds σ1 ss with
  | none => simp only [q] at h1
  | some xs =>
    simp only [q] at h1
    exact ⟨xs, _, cf1.dom, rds_nows cf1 vr q, h1, fun u H' p => k u H' (post_pv st cf1 p)⟩
theorem de_callB {x : Str} {id : String} {es : List Expr} {n : Nat} {r : ON} {t : DA} {p : Pos} (hc : CallR X (.builtin id) (lN (cx X P H0) r)) (hg : Gl X x) (hm : X.mg x = none) (hv : bootBuiltins x = some (.builtin id)) (ha : PA X (e :: es) (lAn (cx X P H0) n t)) (hn : x ≠ "__name__" := by decide) (hdb : (x == ("__debug__" : Str)) = false := by decide)
    (he : starEach (e :: es) X.env = (false, eval e X.env) :: starEach es X.env := by rfl) (hpl : (backTo pos (starEach es X.env)).any (·.1) = false := by rfl) : PE X (.Call (.Name x p) (e :: es) [] pos) (lE (cx X P H0) (dCB r t)) :=
  PE.weak (pe_callB hc hg hm hv ha hn hdb he hpl) calls
theorem de_callTy {x : Str} {T : String} {es : List Expr} {n : Nat} {r : ON} {t : DA} {p : Pos} (hc : CallR X (.type T) (lN (cx X P H0) r)) (hg : Gl X x) (hm : X.mg x = none) (hv : bootBuiltins x = some (.type T)) (ha : PA X (e :: es) (lAn (cx X P H0) n t)) (hn : x ≠ "__name__" := by decide) (hdb : (x == ("__debug__" : Str)) = false := by decide)
    (he : starEach (e :: es) X.env = (false, eval e X.env) :: starEach es X.env := by rfl) (hpl : (backTo pos (starEach es X.env)).any (·.1) = false := by rfl) : PE X (.Call (.Name x p) (e :: es) [] pos) (lE (cx X P H0) (dCB r t)) :=
  PE.weak (pe_callTy hc hg hm hv ha hn hdb he hpl) calls
/-- a builtin that the module holds under a name (gcd) -/
theorem de_callBfun {x : Str} {id : String} {es : List Expr} {n : Nat} {r : ON} {t : DA} {p : Pos} (h : PE X (.Call (.Name x p) (e :: es) [] pos) (tCB (lN (cx X P H0) r) (lAn (cx X P H0) n t))) : PE X (.Call (.Name x p) (e :: es) [] pos) (lE (cx X P H0) (dCB r t)) :=
  PE.weak h calls

theorem nows1 {K : PySem.W.Frag} {H : Hp} {x : PyData} {vs : List V} (h : Nows K H [x] vs) : ∃ v, vs = [v] ∧ Now K H x v := by
  obtain ⟨v, r, rfl, h1, h2⟩ := h
  exact ⟨v, by rw [show r = [] from h2], h1⟩
theorem nows2 {K : PySem.W.Frag} {H : Hp} {x y : PyData} {vs : List V} (h : Nows K H [x, y] vs) : ∃ v w, vs = [v, w] ∧ Now K H x v ∧ Now K H y w := by
  obtain ⟨v, r, rfl, h1, h2⟩ := h
  obtain ⟨w, rfl, h3⟩ := nows1 h2
  exact ⟨v, w, rfl, h1, h3⟩
def bLen : ON
  | [.list xs], Q => Q (.d (.int xs.length))
  | [.tuple xs], Q => Q (.d (.int xs.length))
  | [.str x], Q => Q (.d (.int x.length))
  | _, _ => False
theorem c_len : CallR X (.builtin "len") (lN (cx X P H0) bLen) := by
  refine CallR.imp call_len ?_
  rintro vs H QV ⟨xs, Q, dm, hx, h, k⟩
  rcases xs with _ | ⟨x, _ | ⟨y, ys⟩⟩
  · exact h.elim
  · obtain ⟨v, rfl, hv⟩ := nows1 hx
    cases x with
    | list ds =>
      obtain ⟨z, a, us, rfl, f, r⟩ := hv
      exact ⟨_, _, rfl, .inl ⟨us, f, rfl⟩, k _ _ (by rw [r.length]; exact PV.int h)⟩
    | tuple ds =>
      obtain ⟨z, a, us, rfl, f, r⟩ := hv
      exact ⟨_, _, rfl, .inr ⟨us, f.sq, rfl⟩, k _ _ (by rw [r.length]; exact PV.int h)⟩
    | str x =>
      obtain ⟨rfl, h1, h2⟩ := hv
      exact ⟨_, _, rfl, ⟨h1, rfl⟩, k _ _ (PV.int h)⟩
    | _ => exact h.elim
  · cases x <;> exact h.elim
def bAbs : ON
  | [.int i], Q => Q (.d (.int (if i < 0 then -i else i)))
  | _, _ => False
theorem c_abs : CallR X (.builtin "abs") (lN (cx X P H0) bAbs) := by
  refine CallR.imp call_abs ?_
  rintro vs H QV ⟨xs, Q, dm, hx, h, k⟩
  rcases xs with _ | ⟨x, _ | ⟨y, ys⟩⟩
  · exact h.elim
  · obtain ⟨v, rfl, hv⟩ := nows1 hx
    cases x with
    | int i => exact ⟨i, by rw [show v = V.int i from hv], k _ _ (PV.int h)⟩
    | _ => exact h.elim
  · cases x <;> exact h.elim
def bInt : ON
  | [.int i], Q => Q (.d (.int i))
  | [.bool b], Q => Q (.d (.int (if b then 1 else 0)))
  | _, _ => False
theorem c_int : CallR X (.type "int") (lN (cx X P H0) bInt) := by
  refine CallR.imp call_int1 ?_
  rintro vs H QV ⟨xs, Q, dm, hx, h, k⟩
  rcases xs with _ | ⟨x, _ | ⟨y, ys⟩⟩
  · exact h.elim
  · obtain ⟨v, rfl, hv⟩ := nows1 hx
    cases x with
    | int i => exact .inl ⟨i, by rw [show v = V.int i from hv], k _ _ (PV.int h)⟩
    | bool b => exact .inr ⟨b, by rw [show v = V.bl b from hv], k _ _ (PV.int h)⟩
    | _ => exact h.elim
  · cases x <;> exact h.elim
def bMax2 : ON
  | [.int i, .int j], Q => Q (.d (.int (if j > i then j else i)))
  | _, _ => False
def bMin2 : ON
  | [.int i, .int j], Q => Q (.d (.int (if j < i then j else i)))
  | _, _ => False
theorem c_max2 (hc : X.calm = true) : CallR X (.builtin "max") (lN (cx X P H0) bMax2) := by
  refine CallR.imp (call_max2 hc) ?_
  rintro vs H QV ⟨xs, Q, dm, hx, h, k⟩
  rcases xs with _ | ⟨x, _ | ⟨y, _ | ⟨z, ys⟩⟩⟩
  · exact h.elim
  · cases x <;> exact h.elim
  · obtain ⟨v, w, rfl, hv, hw⟩ := nows2 hx
    cases x with
    | int i =>
      cases y with
      | int j => exact ⟨i, j, by rw [show v = V.int i from hv, show w = V.int j from hw], k _ _ (PV.int h)⟩
      | _ => exact h.elim
    | _ => exact h.elim
  · cases x <;> try exact h.elim
    cases y <;> exact h.elim
theorem c_min2 (hc : X.calm = true) : CallR X (.builtin "min") (lN (cx X P H0) bMin2) := by
  refine CallR.imp (call_min2 hc) ?_
  rintro vs H QV ⟨xs, Q, dm, hx, h, k⟩
  rcases xs with _ | ⟨x, _ | ⟨y, _ | ⟨z, ys⟩⟩⟩
  · exact h.elim
  · cases x <;> exact h.elim
  · obtain ⟨v, w, rfl, hv, hw⟩ := nows2 hx
    cases x with
    | int i =>
      cases y with
      | int j => exact ⟨i, j, by rw [show v = V.int i from hv, show w = V.int j from hw], k _ _ (PV.int h)⟩
      | _ => exact h.elim
    | _ => exact h.elim
  · cases x <;> try exact h.elim
    cases y <;> exact h.elim
def bList : ON
  | [.list xs], Q => Q (.own xs)
  | [.tuple xs], Q => Q (.own xs)
  | _, _ => False
theorem c_list : CallR X (.type "list") (lN (cx X P H0) bList) := by
  refine CallR.imp call_list_of ?_
  rintro vs H QV ⟨xs, Q, dm, hx, h, k⟩
  rcases xs with _ | ⟨x, _ | ⟨y, ys⟩⟩
  · exact h.elim
  · obtain ⟨v, rfl, hv⟩ := nows1 hx
    cases x with
    | list ds =>
      obtain ⟨z, a, us, rfl, f, r⟩ := hv
      exact ⟨_, _, rfl, .inl f, fun l hl => k _ _ (PV.lst dm hl r z h)⟩
    | tuple ds =>
      obtain ⟨z, a, us, rfl, f, r⟩ := hv
      exact ⟨_, _, rfl, .inr f.sq, fun l hl => k _ _ (PV.lst dm hl r z h)⟩
    | _ => exact h.elim
  · cases x <;> exact h.elim
def bTuple : ON
  | [.list xs], Q => Q (.d (.tuple xs))
  | [.tuple xs], Q => Q (.d (.tuple xs))
  | _, _ => False
theorem c_tuple : CallR X (.type "tuple") (lN (cx X P H0) bTuple) := by
  refine CallR.imp call_tuple_of ?_
  rintro vs H QV ⟨xs, Q, dm, hx, h, k⟩
  rcases xs with _ | ⟨x, _ | ⟨y, ys⟩⟩
  · exact h.elim
  · obtain ⟨v, rfl, hv⟩ := nows1 hx
    cases x with
    | list ds =>
      obtain ⟨z, a, us, rfl, f, r⟩ := hv
      exact ⟨_, _, rfl, .inl ⟨f, fun l hl => k _ _ (PV.tup hl r z h)⟩⟩
    | tuple ds =>
      have hv' := hv
      obtain ⟨z, a, us, rfl, f, r⟩ := hv
      exact ⟨_, _, rfl, .inr ⟨f.sq, k _ _ (PV.dat (x := .tuple ds) hv' h)⟩⟩
    | _ => exact h.elim
  · cases x <;> exact h.elim
def intsD : List PyData → Option (List Int)
  | [] => some []
  | .int i :: r => match intsD r with
    | some ns => some (i :: ns)
    | none => none
  | _ => none
theorem intsD_eq : ∀ {xs : List PyData} {ns : List Int}, intsD xs = some ns → xs = ns.map .int
  | [], _, e => by cases e; rfl
  | x :: xs, ns, e => by
    cases x with
    | int i =>
      cases q : intsD xs with
      | none => simp only [intsD, q] at e; cases e
      | some ms =>
        simp only [intsD, q] at e
        cases e
        rw [intsD_eq q]
        rfl
    | _ => simp only [intsD] at e; cases e
theorem intsD_map : ∀ (ns : List Int), intsD (ns.map .int) = some ns
  | [] => rfl
  | n :: ns => by simp only [List.map_cons, intsD, intsD_map ns]
def bSum : ON
  | [.list xs], Q => ∃ ns : List Int, xs = ns.map .int ∧ Q (.d (.int ns.sum))
  | _, _ => False
theorem c_sum (hc : X.calm = true) : CallR X (.builtin "sum") (lN (cx X P H0) bSum) := by
  refine CallR.imp (cr_sum hc) ?_
  rintro vs H QV ⟨xs, Q, dm, hx, h, k⟩
  rcases xs with _ | ⟨x, _ | ⟨y, ys⟩⟩
  · exact h.elim
  · obtain ⟨v, rfl, hv⟩ := nows1 hx
    cases x with
    | list ds =>
      obtain ⟨z, a, us, rfl, f, r⟩ := hv
      obtain ⟨ns, rfl, q⟩ := h
      have := r.ints
      subst this
      exact ⟨a, ns, rfl, f, k _ _ (PV.int q)⟩
    | _ => exact h.elim
  · cases x <;> exact h.elim
def bMax1 : ON
  | [.list xs], Q => ∃ ns : List Int, xs = ns.map .int ∧ 0 < ns.length ∧ ∀ m, m ∈ ns → (∀ y, y ∈ ns → y ≤ m) → Q (.d (.int m))
  | _, _ => False
def bMin1 : ON
  | [.list xs], Q => ∃ ns : List Int, xs = ns.map .int ∧ 0 < ns.length ∧ ∀ m, m ∈ ns → (∀ y, y ∈ ns → m ≤ y) → Q (.d (.int m))
  | _, _ => False
theorem c_max1 (hc : X.calm = true) : CallR X (.builtin "max") (lN (cx X P H0) bMax1) := by
  refine CallR.imp (cr_max hc) ?_
  rintro vs H QV ⟨xs, Q, dm, hx, h, k⟩
  rcases xs with _ | ⟨x, _ | ⟨y, ys⟩⟩
  · exact h.elim
  · obtain ⟨v, rfl, hv⟩ := nows1 hx
    cases x with
    | list ds =>
      obtain ⟨z, a, us, rfl, f, r⟩ := hv
      obtain ⟨ns, rfl, hp, q⟩ := h
      have := r.ints
      subst this
      exact ⟨a, ns, rfl, f, hp, fun m h1 h2 => k _ _ (PV.int (q m h1 h2))⟩
    | _ => exact h.elim
  · cases x <;> exact h.elim
theorem c_min1 (hc : X.calm = true) : CallR X (.builtin "min") (lN (cx X P H0) bMin1) := by
  refine CallR.imp (cr_min hc) ?_
  rintro vs H QV ⟨xs, Q, dm, hx, h, k⟩
  rcases xs with _ | ⟨x, _ | ⟨y, ys⟩⟩
  · exact h.elim
  · obtain ⟨v, rfl, hv⟩ := nows1 hx
    cases x with
    | list ds =>
      obtain ⟨z, a, us, rfl, f, r⟩ := hv
      obtain ⟨ns, rfl, hp, q⟩ := h
      have := r.ints
      subst this
      exact ⟨a, ns, rfl, f, hp, fun m h1 h2 => k _ _ (PV.int (q m h1 h2))⟩
    | _ => exact h.elim
  · cases x <;> exact h.elim
def bAll : ON
  | [.list xs], Q => ∃ bs : List Bool, xs = bs.map .bool ∧ Q (.d (.bool (bs.all id)))
  | _, _ => False
def bAny : ON
  | [.list xs], Q => ∃ bs : List Bool, xs = bs.map .bool ∧ Q (.d (.bool (bs.any id)))
  | _, _ => False
theorem c_all (hc : X.calm = true) : CallR X (.builtin "all") (lN (cx X P H0) bAll) := by
  refine CallR.imp (cr_all hc) ?_
  rintro vs H QV ⟨xs, Q, dm, hx, h, k⟩
  rcases xs with _ | ⟨x, _ | ⟨y, ys⟩⟩
  · exact h.elim
  · obtain ⟨v, rfl, hv⟩ := nows1 hx
    cases x with
    | list ds =>
      obtain ⟨z, a, us, rfl, f, r⟩ := hv
      obtain ⟨ns, rfl, q⟩ := h
      have := r.bls
      subst this
      exact ⟨a, ns, rfl, f, k _ _ (PV.bl q)⟩
    | _ => exact h.elim
  · cases x <;> exact h.elim
theorem c_any (hc : X.calm = true) : CallR X (.builtin "any") (lN (cx X P H0) bAny) := by
  refine CallR.imp (cr_any hc) ?_
  rintro vs H QV ⟨xs, Q, dm, hx, h, k⟩
  rcases xs with _ | ⟨x, _ | ⟨y, ys⟩⟩
  · exact h.elim
  · obtain ⟨v, rfl, hv⟩ := nows1 hx
    cases x with
    | list ds =>
      obtain ⟨z, a, us, rfl, f, r⟩ := hv
      obtain ⟨ns, rfl, q⟩ := h
      have := r.bls
      subst this
      exact ⟨a, ns, rfl, f, k _ _ (PV.bl q)⟩
    | _ => exact h.elim
  · cases x <;> exact h.elim
def bGcd : ON
  | [.int i, .int j], Q => Q (.d (.int ((Nat.gcd i.natAbs j.natAbs : Nat) : Int)))
  | _, _ => False
theorem c_gcd : CallR X (.builtin "math.gcd") (lN (cx X P H0) bGcd) := by
  refine CallR.imp cr_gcd ?_
  rintro vs H QV ⟨xs, Q, dm, hx, h, k⟩
  rcases xs with _ | ⟨x, _ | ⟨y, _ | ⟨z, ys⟩⟩⟩
  · exact h.elim
  · cases x <;> exact h.elim
  · obtain ⟨v, w, rfl, hv, hw⟩ := nows2 hx
    cases x with
    | int i =>
      cases y with
      | int j => exact ⟨i, j, by rw [show v = V.int i from hv, show w = V.int j from hw], k _ _ (PV.int h)⟩
      | _ => exact h.elim
    | _ => exact h.elim
  · cases x <;> try exact h.elim
    cases y <;> exact h.elim
end
end DL

set_option Elab.async false
set_option linter.all false
set_option maxRecDepth 100000
set_option maxHeartbeats 2000000
/-! DL3: tests, small statements. -/
namespace DL
open PySem PySem.Spec PyProof.Rows L2
section
variable {X : Cx} {P : Nat → Option Addr} {H0 : Hp} {a b c e : Expr} {ta tb tc t : DE} {u w : DT} {pos : Pos}

/-! ### tests -/
def dTst (t : DE) : DT := fun σ Q => t σ fun s σ1 => match s with
  | .d (.bool k) => Q k σ1
  | _ => False
theorem tst {C : Ctx} (τ : L2.St) (H : Hp) (QV : Bool → Hp → Prop) (h : lT C (dTst t) τ H QV) : lE C t τ H fun x H' => ∃ k, x = .bl k ∧ QV k H' := by
  obtain ⟨σ, fps, Q, cf, h, k⟩ := h
  refine ⟨σ, fps, _, cf, h, fun v H1 ⟨sx, σ1, fps1, f, st, cf1, vr, nf, h1⟩ => ?_⟩
  cases sx with
  | d x =>
    cases x with
    | bool q => exact ⟨q, vr.2, k _ _ ⟨σ1, fps1, st, cf1, h1⟩⟩
    | _ => exact h1.elim
  | _ => exact h1.elim
theorem dt_cmp {op : CmpOp} {r : O2} (ho : OpR X (compareOp op) (l2 (cx X P H0) r)) (ha : PE X a (lE (cx X P H0) ta)) (hb : PE X b (lE (cx X P H0) tb)) (hm : behindInMarks op b = false) : PT X (.Compare a [op] [b] pos) (lT (cx X P H0) (dTst (d2 r ta tb))) :=
  PT.weak (pt_cmpR ho ha hb hm) fun τ H Q h => two τ H _ (tst τ H Q h)
def isNone : PyData → Bool
  | .none => true
  | _ => false
theorem isNone_rep {K : PySem.W.Frag} {H : Hp} {x : PyData} {v : V} (h : Rep K H x v) : decide (v = .non) = isNone x := by
  cases x with
  | none => rw [show v = V.non from h] <;> rfl
  | bool b => rw [show v = V.bl b from h] <;> rfl
  | int b => rw [show v = V.int b from h] <;> rfl
  | str b => rw [h.1] <;> rfl
  | list b => obtain ⟨_, a, vs, rfl, _⟩ := h; rfl
  | tuple b => obtain ⟨_, a, vs, rfl, _⟩ := h; rfl
  | dict b => exact h.elim
def dIsN (neg : Bool) (t : DE) : DE := fun σ Q => t σ fun s σ1 => match s with
  | .d x => Q (.d (.bool (xor neg (isNone x)))) σ1
  | _ => False
theorem isn {C : Ctx} {neg : Bool} (τ : L2.St) (H : Hp) (QV : VK) (h : lE C (dIsN neg t) τ H QV) : lE C t τ H fun x H1 => QV (.bl (xor neg (decide (x = .non)))) H1 := by
  obtain ⟨σ, fps, Q, cf, h, k⟩ := h
  refine ⟨σ, fps, _, cf, h, fun v H1 ⟨sx, σ1, fps1, f, st, cf1, vr, nf, h1⟩ => ?_⟩
  cases sx with
  | d x =>
    rw [isNone_rep vr.2]
    exact k _ _ ⟨.d (.bool (xor neg (isNone x))), σ1, fps1, [], st, cf1, ⟨rfl, rfl⟩, fun a ha => (by cases ha), h1⟩
  | _ => exact h1.elim
theorem de_isN {j pos'} (ha : PE X a (lE (cx X P H0) ta)) : PE X (.Compare a [.Is] [.Constant .none j pos'] pos) (lE (cx X P H0) (dIsN false ta)) :=
  PE.weak (pe_cmp (pc_isN ha) rfl) fun τ H Q h => by
    have := isn τ H Q h
    simpa [tIsN] using this
theorem de_notN {j pos'} (ha : PE X a (lE (cx X P H0) ta)) : PE X (.Compare a [.IsNot] [.Constant .none j pos'] pos) (lE (cx X P H0) (dIsN true ta)) :=
  PE.weak (pe_cmp (pc_notN ha) rfl) fun τ H Q h => by
    have := isn τ H Q h
    simpa [tNotN] using this
theorem dt_isN {j pos'} (ha : PE X a (lE (cx X P H0) ta)) : PT X (.Compare a [.Is] [.Constant .none j pos'] pos) (lT (cx X P H0) (dTst (dIsN false ta))) :=
  PT.weak (pt_cmp (pc_isN ha) rfl) fun τ H Q h => by
    have := isn τ H _ (tst τ H Q h)
    simpa [tB, tIsN] using this
theorem dt_notN {j pos'} (ha : PE X a (lE (cx X P H0) ta)) : PT X (.Compare a [.IsNot] [.Constant .none j pos'] pos) (lT (cx X P H0) (dTst (dIsN true ta))) :=
  PT.weak (pt_cmp (pc_notN ha) rfl) fun τ H Q h => by
    have := isn τ H _ (tst τ H Q h)
    simpa [tB, tNotN] using this
/-- a value's truth -/
def tru : PyData → Bool
  | .none => false
  | .bool b => b
  | .int i => i != 0
  | .str x => x.length != 0
  | .list xs => !xs.isEmpty
  | .tuple xs => !xs.isEmpty
  | .dict _ => false
def dTru (t : DE) : DT := fun σ Q => t σ fun s σ1 => match rd σ1 s with
  | some x => Q (tru x) σ1
  | none => False
theorem isEmpty_reps {K : PySem.W.Frag} {H : Hp} {xs : List PyData} {vs : List V} (r : Reps K H xs vs) : vs.isEmpty = xs.isEmpty := by
  cases xs with
  | nil => rw [show vs = [] from r] <;> rfl
  | cons x xs => obtain ⟨v, q, rfl, _⟩ := r; rfl
theorem tru_now {K : PySem.W.Frag} {H : Hp} {x : PyData} {v : V} (h : Now K H x v) : TruV K v H (tru x) := by
  cases x with
  | none => rw [show v = V.non from h]; rfl
  | bool b => rw [show v = V.bl b from h]; rfl
  | int b => rw [show v = V.int b from h]; rfl
  | str b =>
    rw [h.1]
    refine ⟨h.2.1, ?_⟩
    show (b.length != 0) = ((b.length : Int) != 0)
    by_cases z : b.length = 0
    · rw [z]; rfl
    · rw [bne_iff_ne.mpr z]
      exact (bne_iff_ne.mpr (by omega)).symm
  | list b =>
    obtain ⟨_, a, vs, rfl, f, r⟩ := h
    exact .inl ⟨vs, f, by rw [isEmpty_reps r]; rfl⟩
  | tuple b =>
    obtain ⟨_, a, vs, rfl, f, r⟩ := h
    exact .inr (.inl ⟨vs, f.sq, by rw [isEmpty_reps r]; rfl⟩)
  | dict b => exact h.elim
theorem dt_tru (ha : PE X a (lE (cx X P H0) ta)) (he : ∀ whole, isTrue a X.env whole = (do let v ← whole; standAt a.pos; holding [v] (truthy v))) : PT X a (lT (cx X P H0) (dTru ta)) := by
  refine PT.weak (pt_truth ha he) ?_
  rintro τ H QV ⟨σ, fps, Q, cf, h, k⟩
  refine ⟨σ, fps, _, cf, h, fun v H1 ⟨sx, σ1, fps1, f, st, cf1, vr, nf, h1⟩ => ?_⟩
  cases q : rd σ1 sx with
  | none => simp only [q] at h1
  | some x =>
    simp only [q] at h1
    exact ⟨_, tru_now (now_of cf1 vr q), k _ _ ⟨σ1, fps1, st, cf1, h1⟩⟩
def dTAnd (u w : DT) : DT := fun σ Q => u σ fun k σ1 => (k = true → w σ1 Q) ∧ (k = false → Q false σ1)
def dTOr (u w : DT) : DT := fun σ Q => u σ fun k σ1 => (k = true → Q true σ1) ∧ (k = false → w σ1 Q)
def dTNot (u : DT) : DT := fun σ Q => u σ fun k σ1 => Q (!k) σ1
theorem dw_and1 (ha : PT X a (lT (cx X P H0) u)) : PW X (.BoolOp .And [a] pos) (lT (cx X P H0) u) := pw_and1 ha
theorem dw_or1 (ha : PT X a (lT (cx X P H0) u)) : PW X (.BoolOp .Or [a] pos) (lT (cx X P H0) u) := pw_or1 ha
theorem post_tt {C : Ctx} {H H1 : Hp} {τ : L2.St} {fps fps1 : List (List Addr)} {Q : Bool → Sg → Prop} {k : Bool} {H' : Hp} (st : Stp H fps H1 fps1) (p : PostT C H1 fps1 τ Q k H') : PostT C H fps τ Q k H' :=
  let ⟨σ', fps', st', cf, q⟩ := p; ⟨σ', fps', st.trans st', cf, q⟩
theorem dw_and {rest : List Expr} (ha : PT X a (lT (cx X P H0) u)) (hb : PW X (.BoolOp .And (b :: rest) pos) (lT (cx X P H0) w)) : PW X (.BoolOp .And (a :: b :: rest) pos) (lT (cx X P H0) (dTAnd u w)) := by
  refine PW.weak (pw_and ha hb) ?_
  rintro τ H QV ⟨σ, fps, Q, cf, h, k⟩
  refine ⟨σ, fps, _, cf, h, fun q H1 ⟨σ1, fps1, st, cf1, h1⟩ => ?_⟩
  cases q with
  | true => exact ⟨σ1, fps1, Q, cf1, h1.1 rfl, fun q' H2 p => k _ _ (post_tt st p)⟩
  | false => exact k _ _ ⟨σ1, fps1, st, cf1, h1.2 rfl⟩
theorem dw_or {rest : List Expr} (ha : PT X a (lT (cx X P H0) u)) (hb : PW X (.BoolOp .Or (b :: rest) pos) (lT (cx X P H0) w)) : PW X (.BoolOp .Or (a :: b :: rest) pos) (lT (cx X P H0) (dTOr u w)) := by
  refine PW.weak (pw_or ha hb) ?_
  rintro τ H QV ⟨σ, fps, Q, cf, h, k⟩
  refine ⟨σ, fps, _, cf, h, fun q H1 ⟨σ1, fps1, st, cf1, h1⟩ => ?_⟩
  cases q with
  | true => exact k _ _ ⟨σ1, fps1, st, cf1, h1.1 rfl⟩
  | false => exact ⟨σ1, fps1, Q, cf1, h1.2 rfl, fun q' H2 p => k _ _ (post_tt st p)⟩
theorem dt_not (ha : PT X a (lT (cx X P H0) u)) : PT X (.UnaryOp .Not a pos) (lT (cx X P H0) (dTNot u)) := by
  refine PT.weak (pt_not ha) ?_
  rintro τ H QV ⟨σ, fps, Q, cf, h, k⟩
  exact ⟨σ, fps, _, cf, h, fun q H1 ⟨σ1, fps1, st, cf1, h1⟩ => k _ _ ⟨σ1, fps1, st, cf1, h1⟩⟩

/-! ### and, or, not as values; a if t else b -/
def dAnd (ta tb : DE) : DE := fun σ Q => ta σ fun s σ1 => match s with
  | .d (.bool k) => (k = true → tb σ1 Q) ∧ (k = false → Q (.d (.bool false)) σ1)
  | _ => False
def dOr (ta tb : DE) : DE := fun σ Q => ta σ fun s σ1 => match s with
  | .d (.bool k) => (k = true → Q (.d (.bool true)) σ1) ∧ (k = false → tb σ1 Q)
  | _ => False
def dNot (ta : DE) : DE := fun σ Q => ta σ fun s σ1 => match s with
  | .d (.bool k) => Q (.d (.bool (!k))) σ1
  | _ => False
theorem post_ee {C : Ctx} {H H1 : Hp} {τ : L2.St} {fps fps1 : List (List Addr)} {Q : S → Sg → Prop} {v : V} {H' : Hp} (st : Stp H fps H1 fps1) (p : PostE C H1 fps1 τ Q v H') : PostE C H fps τ Q v H' :=
  let ⟨s, σ', fps', f, st', cf, vr, nf, q⟩ := p; ⟨s, σ', fps', f, st.trans st', cf, vr, fun a ha => ⟨st.un a (nf a ha).1, (nf a ha).2⟩, q⟩
theorem post_bl {C : Ctx} {H : Hp} {τ : L2.St} {fps fps1 : List (List Addr)} {Q : S → Sg → Prop} {σ1 : Sg} {k : Bool} {H' : Hp} (st : Stp H fps H' fps1) (cf : Cfg C H' σ1 τ fps1) (q : Q (.d (.bool k)) σ1) : PostE C H fps τ Q (.bl k) H' :=
  ⟨.d (.bool k), σ1, fps1, [], st, cf, ⟨rfl, rfl⟩, fun a ha => (by cases ha), q⟩
theorem de_one {op} (h : PE X a (lE (cx X P H0) ta)) : PE X (.BoolOp op [a] pos) (lE (cx X P H0) ta) := pe_one h
theorem de_and {rest : List Expr} (ha : PE X a (lE (cx X P H0) ta)) (hb : PE X (.BoolOp .And (b :: rest) pos) (lE (cx X P H0) tb)) : PE X (.BoolOp .And (a :: b :: rest) pos) (lE (cx X P H0) (dAnd ta tb)) := by
  refine PE.weak (pe_and ha hb) ?_
  rintro τ H QV ⟨σ, fps, Q, cf, h, k⟩
  refine ⟨σ, fps, _, cf, h, fun v H1 ⟨sx, σ1, fps1, f, st, cf1, vr, nf, h1⟩ => ?_⟩
  cases sx with
  | d x =>
    cases x with
    | bool q =>
      refine ⟨q, vr.2, ?_⟩
      cases q with
      | true => exact iteT ⟨σ1, fps1, Q, cf1, h1.1 rfl, fun v' H2 p => k _ _ (post_ee st p)⟩
      | false => exact iteF (k _ _ (post_bl st cf1 (h1.2 rfl)))
    | _ => exact h1.elim
  | _ => exact h1.elim
theorem de_or {rest : List Expr} (ha : PE X a (lE (cx X P H0) ta)) (hb : PE X (.BoolOp .Or (b :: rest) pos) (lE (cx X P H0) tb)) : PE X (.BoolOp .Or (a :: b :: rest) pos) (lE (cx X P H0) (dOr ta tb)) := by
  refine PE.weak (pe_or ha hb) ?_
  rintro τ H QV ⟨σ, fps, Q, cf, h, k⟩
  refine ⟨σ, fps, _, cf, h, fun v H1 ⟨sx, σ1, fps1, f, st, cf1, vr, nf, h1⟩ => ?_⟩
  cases sx with
  | d x =>
    cases x with
    | bool q =>
      refine ⟨q, vr.2, ?_⟩
      cases q with
      | true => exact iteT (k _ _ (post_bl st cf1 (h1.1 rfl)))
      | false => exact iteF ⟨σ1, fps1, Q, cf1, h1.2 rfl, fun v' H2 p => k _ _ (post_ee st p)⟩
    | _ => exact h1.elim
  | _ => exact h1.elim
theorem de_not (ha : PE X a (lE (cx X P H0) ta)) : PE X (.UnaryOp .Not a pos) (lE (cx X P H0) (dNot ta)) := by
  refine PE.weak (pe_not ha) ?_
  rintro τ H QV ⟨σ, fps, Q, cf, h, k⟩
  refine ⟨σ, fps, _, cf, h, fun v H1 ⟨sx, σ1, fps1, f, st, cf1, vr, nf, h1⟩ => ?_⟩
  cases sx with
  | d x =>
    cases x with
    | bool q => exact ⟨q, vr.2, k _ _ (post_bl st cf1 h1)⟩
    | _ => exact h1.elim
  | _ => exact h1.elim
def dIf (u : DT) (ta tb : DE) : DE := fun σ Q => u σ fun k σ1 => (k = true → ta σ1 Q) ∧ (k = false → tb σ1 Q)
theorem de_if (hc : PT X c (lT (cx X P H0) u)) (ha : PE X a (lE (cx X P H0) ta)) (hb : PE X b (lE (cx X P H0) tb)) : PE X (.IfExp c a b pos) (lE (cx X P H0) (dIf u ta tb)) := by
  refine PE.weak (pe_ifExp hc ha hb) ?_
  rintro τ H QV ⟨σ, fps, Q, cf, h, k⟩
  refine ⟨σ, fps, _, cf, h, fun q H1 ⟨σ1, fps1, st, cf1, h1⟩ => ?_⟩
  cases q with
  | true => exact iteT ⟨σ1, fps1, Q, cf1, h1.1 rfl, fun v' H2 p => k _ _ (post_ee st p)⟩
  | false => exact iteF ⟨σ1, fps1, Q, cf1, h1.2 rfl, fun v' H2 p => k _ _ (post_ee st p)⟩
/-- the ways of an expression joined by what holds of its value -/
def dCut (t : DE) : DE := fun σ Q => ∃ R : S → Sg → Prop, t σ R ∧ ∀ s σ', R s σ' → Q s σ'
theorem de_cut (h : PE X e (lE (cx X P H0) t)) : PE X e (lE (cx X P H0) (dCut t)) := by
  refine PE.weak h ?_
  rintro τ H QV ⟨σ, fps, Q, cf, ⟨R, h, r⟩, k⟩
  exact ⟨σ, fps, R, cf, h, fun v H' ⟨s, σ', fps', f, st, cf', vr, nf, q⟩ => k v H' ⟨s, σ', fps', f, st, cf', vr, nf, r s σ' q⟩⟩

/-! ### isinstance -/
def tyName : PyData → String
  | .none => "NoneType"
  | .bool _ => "bool"
  | .int _ => "int"
  | .str _ => "str"
  | .list _ => "list"
  | .tuple _ => "tuple"
  | .dict _ => "dict"
theorem tyX_now {K : PySem.W.Frag} {H : Hp} {x : PyData} {v : V} (h : Now K H x v) : TyX K H v (.type (tyName x)) := by
  cases x with
  | none => rw [show v = V.non from h]; exact .base .non
  | bool b => rw [show v = V.bl b from h]; exact .base (.bl b)
  | int b => rw [show v = V.int b from h]; exact .base (.int b)
  | str b => rw [h.1]; exact .base (.str b)
  | list b =>
    obtain ⟨_, a, vs, rfl, f, r⟩ := h
    rcases f with (f | ⟨o, f⟩) | ⟨o, its, n, f, hc, _⟩
    · exact .base (.lst f)
    · exact .base (.frz f)
    · exact .kList f hc
  | tuple b =>
    obtain ⟨_, a, vs, rfl, f, r⟩ := h
    rcases f with f | ⟨o, its, n, f, hc, _⟩
    · exact .base (.tup f)
    · exact .kTuple f hc
  | dict b => exact h.elim
def isTup : PyData → Bool
  | .tuple _ => true
  | _ => false
def isLst : PyData → Bool
  | .list _ => true
  | _ => false
def isBool : PyData → Bool
  | .bool _ => true
  | _ => false
def isStr : PyData → Bool
  | .str _ => true
  | _ => false
def isInt : PyData → Bool
  | .bool _ => true
  | .int _ => true
  | _ => false
def noDict : PyData → Prop
  | .dict _ => False
  | _ => True
def KitIs (T : String) (p : PyData → Bool) : Prop := ∀ x, noDict x → kitB (tyName x) T = some (p x)
theorem kit_tup : KitIs "tuple" isTup := fun x h => by cases x <;> first | exact h.elim | decide +kernel | (show kitB _ _ = some _; simp only [tyName, isTup]; decide +kernel)
theorem kit_lst : KitIs "list" isLst := fun x h => by cases x <;> first | exact h.elim | decide +kernel | (show kitB _ _ = some _; simp only [tyName, isLst]; decide +kernel)
theorem kit_bool : KitIs "bool" isBool := fun x h => by cases x <;> first | exact h.elim | decide +kernel | (show kitB _ _ = some _; simp only [tyName, isBool]; decide +kernel)
theorem kit_str : KitIs "str" isStr := fun x h => by cases x <;> first | exact h.elim | decide +kernel | (show kitB _ _ = some _; simp only [tyName, isStr]; decide +kernel)
theorem kit_int : KitIs "int" isInt := fun x h => by cases x <;> first | exact h.elim | decide +kernel | (show kitB _ _ = some _; simp only [tyName, isInt]; decide +kernel)
def dIs (p : PyData → Bool) (t : DE) : DE := fun σ Q => t σ fun s σ1 => match rd σ1 s with
  | some x => Q (.d (.bool (p x))) σ1
  | none => False
theorem de_is {T : String} {p : PyData → Bool} {pp p2 : Pos} {x2 : Str} (kt : KitIs T p) (hg : Gl X "isinstance") (hm : X.mg "isinstance" = none) (hg2 : Gl X x2) (hm2 : X.mg x2 = none) (hv2 : bootBuiltins x2 = some (.type T)) (ha : PE X a (lE (cx X P H0) ta))
    (hv : bootBuiltins "isinstance" = some (.builtin "isinstance") := by decide +kernel) (hn2 : x2 ≠ "__name__" := by decide) (hdb2 : (x2 == ("__debug__" : Str)) = false := by decide)
    (he : starEach (a :: [.Name x2 p2]) X.env = (false, eval a X.env) :: starEach [.Name x2 p2] X.env := by rfl) (he2 : starEach [.Name x2 p2] X.env = (false, eval (.Name x2 p2) X.env) :: starEach [] X.env := by rfl) (hpl : (backTo pos (starEach [.Name x2 p2] X.env)).any (·.1) = false := by rfl) :
    PE X (.Call (.Name "isinstance" pp) [a, .Name x2 p2] [] pos) (lE (cx X P H0) (dIs p ta)) := by
  refine PE.weak (pe_callB call_isi hg hm hv (pa_cons ha (pa_cons (pe_bltn (v := .ty T) hg2 hm2 hv2 rfl hn2 hdb2) pa_nil he2) he) (by decide) (by decide) he hpl) ?_
  rintro τ H QV ⟨σ, fps, Q, cf, h, k⟩
  refine ⟨σ, fps, _, cf, h, fun v H1 ⟨sx, σ1, fps1, f, st, cf1, vr, nf, h1⟩ => ?_⟩
  cases q : rd σ1 sx with
  | none => simp only [q] at h1
  | some x =>
    simp only [q] at h1
    have nw := now_of cf1 vr q
    have nd : noDict x := by
      cases x <;> first | trivial | exact (show False from nw).elim
    exact ⟨v, .ty T, .type (tyName x), .type T, p x, rfl, .ty T, tyX_now nw, kit_ty (kt x nd), k _ _ (post_bl st cf1 h1)⟩

/-! ### slices -/
def lO (C : Ctx) (t : Sg → (Option Int → Sg → Prop) → Prop) : TO := fun τ H QV => ∃ σ fps Q, Cfg C H σ τ fps ∧ t σ Q ∧ ∀ o H', (∃ σ' fps', Stp H fps H' fps' ∧ Cfg C H' σ' τ fps' ∧ Q o σ') → QV o H'
def dNoP : Sg → (Option Int → Sg → Prop) → Prop := fun σ Q => Q none σ
def dPt (t : DE) : Sg → (Option Int → Sg → Prop) → Prop := fun σ Q => t σ fun s σ1 => match s with
  | .d (.int i) => Q (some i) σ1
  | _ => False
theorem do_none : PO X none (lO (cx X P H0) dNoP) := ⟨fun pins s τ H QV I ⟨σ, fps, Q, cf, h, k⟩ => po_none.run pins s τ H QV I (k none H ⟨σ, fps, .refl _ _, cf, h⟩)⟩
theorem do_some (h : PE X e (lE (cx X P H0) t)) : PO X (some e) (lO (cx X P H0) (dPt t)) := by
  refine ⟨fun pins s τ H QV I ⟨σ, fps, Q, cf, hq, k⟩ => (po_some h).run pins s τ H QV I ?_⟩
  refine ⟨σ, fps, _, cf, hq, fun v H1 ⟨sx, σ1, fps1, f, st, cf1, vr, nf, h1⟩ => ?_⟩
  cases sx with
  | d x =>
    cases x with
    | int i => exact ⟨i, vr.2, k _ _ ⟨σ1, fps1, st, cf1, h1⟩⟩
    | _ => exact h1.elim
  | _ => exact h1.elim
def cutD (xs : List PyData) (lo hi : Option Int) : List PyData := (xs.drop (HT.sIx xs.length 0 lo)).take (HT.sIx xs.length xs.length hi - HT.sIx xs.length 0 lo)
theorem cutD_length (xs : List PyData) (lo hi : Option Int) : (cutD xs lo hi).length ≤ xs.length := by
  unfold cutD
  rw [List.length_take, List.length_drop]
  omega
theorem Reps.cut {K : PySem.W.Frag} {H : Hp} {xs : List PyData} {vs : List V} (r : Reps K H xs vs) (lo hi : Option Int) : Reps K H (cutD xs lo hi) (cutV vs lo hi) := by
  unfold cutD cutV
  rw [r.length]
  exact (r.drop _).take _
theorem strOk_cut {z : Str} (h : PyData.strOk z = true) (lo hi : Option Int) : PyData.strOk (cutS z lo hi) = true := by
  have h' : z.cps.all (· < 0x110000) = true := h
  rw [← Array.all_toList, List.all_eq_true] at h'
  show (cutS z lo hi).cps.all (· < 0x110000) = true
  rw [← Array.all_toList, List.all_eq_true]
  intro c hc
  refine h' c ?_
  unfold cutS at hc
  simp only [List.toList_toArray] at hc
  exact List.mem_of_mem_drop (List.mem_of_mem_take hc)
def opSl : PyData → Option Int → Option Int → (S → Prop) → Prop
  | .tuple xs, lo, hi, Q => Q (.d (.tuple (cutD xs lo hi)))
  | .list xs, lo, hi, Q => Q (.own (cutD xs lo hi))
  | .str z, lo, hi, Q => Q (.d (.str (cutS z lo hi)))
  | _, _, _, _ => False
def lSl (C : Ctx) : V → Option Int → Option Int → Hp → VK → Prop := fun v lo hi H QV => ∃ x Q, Dom C H ∧ Now C.K H x v ∧ opSl x lo hi Q ∧ ∀ u H', PV C H Q u H' → QV u H'
theorem SlR.imp {r r' : V → Option Int → Option Int → Hp → VK → Prop} (h : SlR X r) (w : ∀ x lo hi H Q, r' x lo hi H Q → r x lo hi H Q) : SlR X r' := fun pins s σ H x v vl vu lo hi sl Q I rx hs pl pu q => h pins s σ H x v vl vu lo hi sl Q I rx hs pl pu (w _ _ _ _ _ q)
theorem s_any : SlR X (lSl (cx X P H0)) := by
  refine SlR.imp (SlR.or sl_tupA (SlR.or sl_list sl_str)) ?_
  rintro v lo hi H QV ⟨x, Q, dm, hx, h, k⟩
  cases x with
  | tuple xs =>
    have hx' := hx
    obtain ⟨z, a, vs, rfl, f, r⟩ := hx
    refine .inl ⟨a, vs, rfl, f.sq, fun hw => ?_, fun _ p hp => ?_⟩
    · have e : cutD xs lo hi = xs := by
        unfold cutD
        rw [r.length] at hw
        rw [hw.1, hw.2, List.drop_zero, Nat.sub_zero, List.take_length]
      have q : Q (.d (.tuple (cutD xs lo hi))) := h
      rw [e] at q
      exact k _ _ (PV.dat (x := .tuple xs) hx' q)
    · exact k _ _ (PV.tup hp (r.cut lo hi) (Nat.le_trans (cutD_length _ _ _) z) h)
  | list xs =>
    obtain ⟨z, a, vs, rfl, f, r⟩ := hx
    exact .inr (.inl ⟨a, vs, rfl, f, fun p hp => k _ _ (PV.lst dm hp (r.cut lo hi) (Nat.le_trans (cutD_length _ _ _) z) h)⟩)
  | str y =>
    obtain ⟨rfl, h1, h2⟩ := hx
    exact .inr (.inr ⟨y, rfl, h1, k _ _ (PV.str (Nat.le_trans (cutS_length _ _ _) h1) (strOk_cut h2 lo hi) h)⟩)
  | _ => exact h.elim
def dSl (te : DE) (tl th : Sg → (Option Int → Sg → Prop) → Prop) : DE := fun σ Q => te σ fun s σ1 => tl σ1 fun l σ2 => th σ2 fun h σ3 => match rd σ3 s with
  | some x => opSl x l h fun z => Q z σ3
  | none => False
theorem de_sl {lo hi : Option Expr} {tl th : Sg → (Option Int → Sg → Prop) → Prop} {p2 : Pos} (he : PE X e (lE (cx X P H0) t)) (hl : PO X lo (lO (cx X P H0) tl)) (hu : PO X hi (lO (cx X P H0) th)) : PE X (.Subscript e (.Slice lo hi none p2) pos) (lE (cx X P H0) (dSl t tl th)) := by
  refine PE.weak (pe_slice (s_any (P := P) (H0 := H0)) he hl hu) ?_
  rintro τ H QV ⟨σ, fps, Q, cf, h, k⟩
  refine ⟨σ, fps, _, cf, h, fun x H1 ⟨sx, σ1, fps1, fx, st1, cf1, vx, nx, h1⟩ => ⟨σ1, fps1, _, cf1, h1, fun l H2 ⟨σ2, fps2, st2, cf2, h2⟩ => ⟨σ2, fps2, _, cf2, h2, fun r H3 ⟨σ3, fps3, st3, cf3, h3⟩ => ?_⟩⟩⟩
  obtain ⟨vx2, nx2⟩ := VR.step (σ' := σ1) (fps := fps1) cf1 vx nx (st2.trans st3)
  cases ex : rd σ3 sx with
  | none => simp only [ex] at h3
  | some dx =>
    simp only [ex] at h3
    exact ⟨dx, _, cf3.dom, now_of cf3 vx2 ex, h3, fun u H' p => k u H' (post_pv (st1.trans (st2.trans st3)) cf3 p)⟩
/-- xs[::-1] of a list -/
def dRevL (t : DE) : DE := fun σ Q => t σ fun s σ1 => match rd σ1 s with
  | some (.list xs) => Q (.own xs.reverse) σ1
  | _ => False
theorem de_revL {k : Nat} {p1 p2 p3 pos : Pos} (he : PE X e (lE (cx X P H0) t)) : PE X (.Subscript e (.Slice none none (some (.UnaryOp .USub (.Constant (.int 1) k p1) p2)) p3) pos) (lE (cx X P H0) (dRevL t)) := by
  refine PE.weak (pe_revL he) ?_
  rintro τ H QV ⟨σ, fps, Q, cf, h, k⟩
  refine ⟨σ, fps, _, cf, h, fun v H1 ⟨sx, σ1, fps1, f, st, cf1, vr, nf, h1⟩ => ?_⟩
  cases q : rd σ1 sx with
  | none => simp only [q] at h1
  | some x =>
    cases x with
    | list xs =>
      simp only [q] at h1
      obtain ⟨z, a, vs, rfl, g, r⟩ := now_of cf1 vr q
      exact ⟨a, vs, rfl, g, fun p hp => k _ _ (post_pv st cf1 (PV.lst cf1.dom hp r.reverse (by rw [List.length_reverse]; exact z) h1))⟩
    | _ => simp only [q] at h1
/-- a < b < c: two comparisons of three expressions -/
def dChain (r r' : O2) (ta tb tc : DE) : DE := fun σ Q => ta σ fun x σ1 => tb σ1 fun y σ2 => match rd σ2 x, rd σ2 y with
  | some dx, some dy => r dx dy fun z => match z with
    | .d (.bool k) => (k = true → tc σ2 fun z' σ3 => match rd σ3 y, rd σ3 z' with
        | some dy', some dz => r' dy' dz fun q => Q q σ3
        | _, _ => False) ∧ (k = false → Q (.d (.bool false)) σ2)
    | _ => False
  | _, _ => False
theorem chain {C : Ctx} {r r' : O2} (τ : L2.St) (H : Hp) (QV : VK) (h : lE C (dChain r r' ta tb tc) τ H QV) : tChain (l2 C r) (l2 C r') (lE C ta) (lE C tb) (lE C tc) τ H QV := by
  obtain ⟨σ, fps, Q, cf, h, k⟩ := h
  refine ⟨σ, fps, _, cf, h, fun x H1 ⟨sx, σ1, fps1, fx, st1, cf1, vx, nx, h1⟩ => ⟨σ1, fps1, _, cf1, h1, fun y H2 ⟨sy, σ2, fps2, fy, st2, cf2, vy, ny, h2⟩ => ?_⟩⟩
  obtain ⟨vx2, nx2⟩ := VR.step (σ' := σ1) (fps := fps1) cf1 vx nx st2
  cases ex : rd σ2 sx with
  | none => simp only [ex] at h2
  | some dx =>
    cases ey : rd σ2 sy with
    | none => simp only [ex, ey] at h2
    | some dy =>
      simp only [ex, ey] at h2
      refine ⟨dx, dy, _, cf2.dom, now_of cf2 vx2 ex, now_of cf2 vy ey, h2, fun u H3 p => ?_⟩
      obtain ⟨s, f, sm, vr, fr, q⟩ := p
      cases s with
      | d z =>
        cases z with
        | bool kk =>
          refine ⟨kk, vr.2, ?_⟩
          have cf3 := cf2.same sm
          have st3 : Stp H2 fps2 H3 fps2 := .same sm fps2
          cases kk with
          | false => exact iteF (k _ _ (post_bl (st1.trans (st2.trans st3)) cf3 (q.2 rfl)))
          | true =>
            refine iteT ⟨σ2, fps2, _, cf3, q.1 rfl, fun w H4 ⟨sz, σ3, fps3, fz, st4, cf4, vz, nz, h4⟩ => ?_⟩
            obtain ⟨vy2, ny2⟩ := VR.step (σ' := σ2) (fps := fps2) cf2 vy ny (st3.trans st4)
            cases ey' : rd σ3 sy with
            | none => simp only [ey'] at h4
            | some dy' =>
              cases ez : rd σ3 sz with
              | none => simp only [ey', ez] at h4
              | some dz =>
                simp only [ey', ez] at h4
                exact ⟨dy', dz, _, cf4.dom, now_of cf4 vy2 ey', now_of cf4 vz ez, h4, fun u H' p => k u H' (post_pv (st1.trans (st2.trans (st3.trans st4))) cf4 p)⟩
        | _ => exact q.elim
      | _ => exact q.elim
theorem de_chain {op op' : CmpOp} {r r' : O2} (ho : OpR X (compareOp op) (l2 (cx X P H0) r)) (ho' : OpR X (compareOp op') (l2 (cx X P H0) r')) (ha : PE X a (lE (cx X P H0) ta)) (hb : PE X b (lE (cx X P H0) tb)) (hc : PE X c (lE (cx X P H0) tc))
    (hm : lastMarks [op, op'] [b, c] = false := by with_unfolding_all rfl) : PE X (.Compare a [op, op'] [b, c] pos) (lE (cx X P H0) (dChain r r' ta tb tc)) := PE.weak (pe_chain ho ho' ha hb hc hm) chain
theorem dt_chain {op op' : CmpOp} {r r' : O2} (ho : OpR X (compareOp op) (l2 (cx X P H0) r)) (ho' : OpR X (compareOp op') (l2 (cx X P H0) r')) (ha : PE X a (lE (cx X P H0) ta)) (hb : PE X b (lE (cx X P H0) tb)) (hc : PE X c (lE (cx X P H0) tc))
    (hm : lastMarks [op, op'] [b, c] = false := by with_unfolding_all rfl) : PT X (.Compare a [op, op'] [b, c] pos) (lT (cx X P H0) (dTst (dChain r r' ta tb tc))) := PT.weak (pt_chain ho ho' ha hb hc hm) fun τ H Q h => chain τ H _ (tst τ H Q h)
end
end DL

set_option Elab.async false
set_option linter.all false
set_option maxRecDepth 100000
set_option maxHeartbeats 2000000
/-! DL4: statements, loops, comprehensions over data. -/
namespace DL
open PySem PySem.Spec PyProof.Rows L2

structure DEnds where
  nx : Sg → Prop
  rt : S → Sg → Prop
  bk : Sg → Prop := fun _ => False
  ct : Sg → Prop := fun _ => False
abbrev DS := DEnds → Sg → Prop
structure PostS (C : Ctx) (H : Hp) (fps : List (List Addr)) (e : DEnds) (E : Ends) : Prop where
  nx : ∀ τ' H' σ' fps', Stp H fps H' fps' → Cfg C H' σ' τ' fps' → e.nx σ' → E.nx τ' H'
  rt : ∀ v τ' H' s σ' fps' f, Stp H fps H' fps' → Cfg C H' σ' τ' fps' → VR C H' τ' s v f → (∀ a ∈ f, H a = none ∧ a ∉ fps'.flatten) → e.rt s σ' → E.rt v H'
  bk : ∀ τ' H' σ' fps', Stp H fps H' fps' → Cfg C H' σ' τ' fps' → e.bk σ' → E.bk τ' H'
  ct : ∀ τ' H' σ' fps', Stp H fps H' fps' → Cfg C H' σ' τ' fps' → e.ct σ' → E.ct τ' H'
def lS (C : Ctx) (t : DS) : TS := fun E τ H => ∃ σ fps e, Cfg C H σ τ fps ∧ t e σ ∧ PostS C H fps e E
theorem PostS.go {C : Ctx} {H H1 : Hp} {fps fps1 : List (List Addr)} {e : DEnds} {E : Ends} (p : PostS C H fps e E) (st : Stp H fps H1 fps1) : PostS C H1 fps1 e E where
  nx := fun τ' H' σ' fps' s c q => p.nx τ' H' σ' fps' (st.trans s) c q
  rt := fun v τ' H' s σ' fps' f s' c vr nf q => p.rt v τ' H' s σ' fps' f (st.trans s') c vr (fun a ha => ⟨st.un a (nf a ha).1, (nf a ha).2⟩) q
  bk := fun τ' H' σ' fps' s c q => p.bk τ' H' σ' fps' (st.trans s) c q
  ct := fun τ' H' σ' fps' s c q => p.ct τ' H' σ' fps' (st.trans s) c q

/-- a name is stored -/
def asg (σ : Sg) (i : Nat) : S → Option Sg
  | .d x => some (σ.set i (some (.d x)))
  | .own xs => some (σ.set i (some (.own xs)))
  | _ => none
theorem asg_ok {C : Ctx} {H : Hp} {σ σ2 : Sg} {τ : L2.St} {fps : List (List Addr)} {s : S} {v : V} {f : List Addr} {i : Nat} (cf : Cfg C H σ τ fps) (vr : VR C H τ s v f) (nf : ∀ a ∈ f, a ∉ fps.flatten) (e : asg σ i s = some σ2) : Cfg C H σ2 (τ.set i (some v)) (fps.set i f) := by
  cases s with
  | d x =>
    cases e
    exact ⟨cf.rel.set i vr, nodup_flat_set vr.nd cf.nd nf, cf.dom⟩
  | own xs =>
    cases e
    exact ⟨cf.rel.set i (show OR C H (some (.own xs)) (some v) f from vr), nodup_flat_set vr.nd cf.nd nf, cf.dom⟩
  | par j xs => cases e
  | brw j => cases e
theorem stp_set {H H' : Hp} {fps fps' : List (List Addr)} {i : Nat} {f : List Addr} (st : Stp H fps H' fps') (nf : ∀ a ∈ f, H a = none) : Stp H fps H' (fps'.set i f) :=
  ⟨st.fr, fun a h => (mem_flat_set h).elim (st.gr a) fun z => .inr (nf a z), st.un⟩
theorem VR.tau {C : Ctx} {H : Hp} {τ τ' : L2.St} {s : S} {v : V} {f : List Addr} {σ σ2 : Sg} {i : Nat} (vr : VR C H τ s v f) (e : asg σ i s = some σ2) : VR C H τ' s v f := by
  cases s with
  | d x => exact vr
  | own xs => exact vr
  | par j xs => cases e
  | brw j => cases e

section
variable {X : Cx} {P : Nat → Option Addr} {H0 : Hp} {a b c e : Expr} {st : Stmt} {rest : List Stmt} {ta tb tc t : DE} {u w : DT} {r s : DS} {pos : Pos}

def dSeq (r s : DS) : DS := fun e σ => r { e with nx := fun σ' => s e σ' } σ
theorem dss_cons (h1 : PS X st (lS (cx X P H0) r)) (h2 : PSs X rest (lS (cx X P H0) s)) : PSs X (st :: rest) (lS (cx X P H0) (dSeq r s)) := by
  refine PSs.weak (pss_cons h1 h2) ?_
  rintro E τ H ⟨σ, fps, e, cf, h, k⟩
  exact ⟨σ, fps, _, cf, h, ⟨fun τ' H' σ' fps' st' c q => ⟨σ', fps', e, c, q, k.go st'⟩, k.rt, k.bk, k.ct⟩⟩
/-- .. where what holds between is told -/
def dSeqC (r s : DS) : DS := fun e σ => ∃ R : Sg → Prop, r { e with nx := R } σ ∧ ∀ σ', R σ' → s e σ'
theorem dss_cut (h1 : PS X st (lS (cx X P H0) r)) (h2 : PSs X rest (lS (cx X P H0) s)) : PSs X (st :: rest) (lS (cx X P H0) (dSeqC r s)) := by
  refine PSs.weak (pss_cons h1 h2) ?_
  rintro E τ H ⟨σ, fps, e, cf, ⟨R, h, hr⟩, k⟩
  exact ⟨σ, fps, _, cf, h, ⟨fun τ' H' σ' fps' st' c q => ⟨σ', fps', e, c, hr σ' q, k.go st'⟩, k.rt, k.bk, k.ct⟩⟩
theorem dss_one (h1 : PS X st (lS (cx X P H0) r)) : PSs X [st] (lS (cx X P H0) r) := pss_one h1
def dNext : DS := fun e σ => e.nx σ
theorem dss_nil : PSs X [] (lS (cx X P H0) dNext) := PSs.weak pss_nil fun E τ H ⟨σ, fps, e, cf, h, k⟩ => k.nx τ H σ fps (.refl _ _) cf h
theorem ds_pass : PS X (.Pass pos) (lS (cx X P H0) dNext) := PS.weak ps_pass fun E τ H ⟨σ, fps, e, cf, h, k⟩ => k.nx τ H σ fps (.refl _ _) cf h
theorem ds_doc {x j pos pos'} : PS X (.Expr (.Constant (.str x) j pos) pos') (lS (cx X P H0) dNext) := PS.weak ps_doc fun E τ H ⟨σ, fps, e, cf, h, k⟩ => k.nx τ H σ fps (.refl _ _) cf h
def dBreak : DS := fun e σ => e.bk σ
def dCont : DS := fun e σ => e.ct σ
theorem ds_break : PS X (.Break pos) (lS (cx X P H0) dBreak) := PS.weak ps_break fun E τ H ⟨σ, fps, e, cf, h, k⟩ => k.bk τ H σ fps (.refl _ _) cf h
theorem ds_cont : PS X (.Continue pos) (lS (cx X P H0) dCont) := PS.weak ps_continue fun E τ H ⟨σ, fps, e, cf, h, k⟩ => k.ct τ H σ fps (.refl _ _) cf h
def dExpr (t : DE) : DS := fun e σ => t σ fun _ σ1 => e.nx σ1
theorem ds_expr (he : PE X e (lE (cx X P H0) t)) (hs : swapsWith e none pos.line X.env = pure false := by rfl) : PS X (.Expr e pos) (lS (cx X P H0) (dExpr t)) := by
  refine PS.weak (ps_expr he hs) ?_
  rintro E τ H ⟨σ, fps, e, cf, h, k⟩
  exact ⟨σ, fps, _, cf, h, fun v H1 ⟨sx, σ1, fps1, f, st, cf1, vr, nf, h1⟩ => k.nx _ _ _ _ st cf1 h1⟩
def dRet (t : DE) : DS := fun e σ => t σ e.rt
theorem ds_ret (he : PE X e (lE (cx X P H0) t)) : PS X (.Return (some e) pos) (lS (cx X P H0) (dRet t)) := by
  refine PS.weak (ps_ret he) ?_
  rintro E τ H ⟨σ, fps, e, cf, h, k⟩
  exact ⟨σ, fps, _, cf, h, fun v H1 ⟨sx, σ1, fps1, f, st, cf1, vr, nf, h1⟩ => k.rt _ _ _ _ _ _ _ st cf1 vr nf h1⟩
def dRetN : DS := fun e σ => e.rt (.d .none) σ
theorem ds_retN : PS X (.Return none pos) (lS (cx X P H0) dRetN) := PS.weak ps_retN fun E τ H ⟨σ, fps, e, cf, h, k⟩ => k.rt _ τ H (.d .none) σ fps [] (.refl _ _) cf ⟨rfl, rfl⟩ (fun a ha => (by cases ha)) h
def dIfS (u : DT) (r s : DS) : DS := fun e σ => u σ fun k σ1 => (k = true → r e σ1) ∧ (k = false → s e σ1)
theorem ds_if {x y : List Stmt} (hc : PT X c (lT (cx X P H0) u)) (ha : PSs X x (lS (cx X P H0) r)) (hb : PSs X y (lS (cx X P H0) s)) : PS X (.If c x y pos) (lS (cx X P H0) (dIfS u r s)) := by
  refine PS.weak (ps_if hc ha hb) ?_
  rintro E τ H ⟨σ, fps, e, cf, h, k⟩
  refine ⟨σ, fps, _, cf, h, fun q H1 ⟨σ1, fps1, st, cf1, h1⟩ => ?_⟩
  cases q with
  | true => exact iteT ⟨σ1, fps1, e, cf1, h1.1 rfl, k.go st⟩
  | false => exact iteF ⟨σ1, fps1, e, cf1, h1.2 rfl, k.go st⟩

/-! ### stores -/
def dSet (i : Nat) (t : DE) : DS := fun e σ => t σ fun s σ1 => match asg σ1 i s with
  | some σ2 => e.nx σ2
  | none => False
theorem set_ok {i : Nat} {C : Ctx} (E : Ends) (τ : L2.St) (H : Hp) (h : lS C (dSet i t) E τ H) : tAsg (lE C t) (gName i) E τ H := by
  obtain ⟨σ, fps, e, cf, h, k⟩ := h
  refine ⟨σ, fps, _, cf, h, fun v H1 ⟨sx, σ1, fps1, f, st, cf1, vr, nf, h1⟩ => ?_⟩
  cases q : asg σ1 i sx with
  | none => simp only [q] at h1
  | some σ2 =>
    simp only [q] at h1
    exact k.nx _ _ _ _ (stp_set st fun a ha => (nf a ha).1) (asg_ok cf1 vr (fun a ha => (nf a ha).2) q) h1
theorem ds_set {i : Nat} {x : Str} {pos' : Pos} (hN : X.N.Nodup) (hi : X.N[i]? = some x) (hx : Loc X.env.scope x) (he : PE X e (lE (cx X P H0) t)) (hs : swapsWith e (some (.Name x pos')) pos.line X.env = pure false := by rfl) (hf : X.fn x = true ∨ X.env.scope.names.lookup x = some .local := by first | exact .inl rfl | exact .inr rfl | assumption) :
    PS X (.Assign [.Name x pos'] e pos) (lS (cx X P H0) (dSet i t)) := PS.weak (ps_set hN hi hx he hs hf) set_ok
def dPar (i j : Nat) (t : DA) : DS := fun e σ => t σ fun ss σ1 => match ss with
  | [x, y] => match asg σ1 i x with
    | some σ2 => match asg σ2 j y with
      | some σ3 => e.nx σ3
      | none => False
    | none => False
  | _ => False
theorem ds_par {i j n : Nat} {x y : Str} {t : DA} {px py pt : Pos} {kt k2 pt2} (hc : X.calm = true) (hN : X.N.Nodup) (hi : X.N[i]? = some x) (hj : X.N[j]? = some y) (hij : i ≠ j)
    (hx : X.env.scope.names.lookup x = some .local) (hy : X.env.scope.names.lookup y = some .local) (ha : PA X [a, b] (lAn (cx X P H0) n t))
    (hw : swappedStores [.Tuple [.Name x px, .Name y py] kt pt] (.Tuple [a, b] k2 pt2) X.env = pure (some [x, y]))
    (hs : swapsWithSole [.Tuple [.Name x px, .Name y py] kt pt] (.Tuple [a, b] k2 pt2) pos.line X.env = pure false := by rfl) :
    PS X (.Assign [.Tuple [.Name x px, .Name y py] kt pt] (.Tuple [a, b] k2 pt2) pos) (lS (cx X P H0) (dPar i j t)) := by
  refine PS.weak (ps_par hc hN hi hj hij hx hy ha hw hs) ?_
  rintro E τ H ⟨σ, fps, e, cf, h, k⟩
  refine ⟨σ, fps, _, cf, h, fun vs H1 ⟨ss, σ1, fps1, f, st, cf1, vr, nd, nf, hl, h1⟩ => ?_⟩
  rcases ss with _ | ⟨s1, _ | ⟨s2, _ | ⟨s3, ss⟩⟩⟩
  · exact h1.elim
  · exact h1.elim
  · obtain ⟨v, _, g, _, rfl, rfl, v1, w, _, g2, _, rfl, rfl, v2, rfl, rfl⟩ := vr
    rw [List.append_nil] at nd nf
    obtain ⟨nd1, nd2, nd3⟩ := List.nodup_append.mp nd
    cases q : asg σ1 i s1 with
    | none => simp only [q] at h1
    | some σ2 =>
      cases q2 : asg σ2 j s2 with
      | none => simp only [q, q2] at h1
      | some σ3 =>
        simp only [q, q2] at h1
        have c2 := asg_ok cf1 v1 (fun a ha => (nf a (List.mem_append_left _ ha)).2) q
        refine ⟨v, w, rfl, k.nx _ _ _ _ (stp_set (stp_set st fun a ha => (nf a (List.mem_append_left _ ha)).1) fun a ha => (nf a (List.mem_append_right _ ha)).1)
          (asg_ok c2 (v2.tau q2) (fun a ha z => ?_) q2) h1⟩
        rcases mem_flat_set z with z | z
        · exact (nf a (List.mem_append_right _ ha)).2 z
        · exact nd3 a z a ha rfl
  · exact h1.elim
def dPar3 (i j l : Nat) (t : DA) : DS := fun e σ => t σ fun ss σ1 => match ss with
  | [x, y, z] => match asg σ1 i x with
    | some σ2 => match asg σ2 j y with
      | some σ3 => match asg σ3 l z with
        | some σ4 => e.nx σ4
        | none => False
      | none => False
    | none => False
  | _ => False
theorem par3_ok {i j l n : Nat} {t : DA} {C : Ctx} (E : Ends) (τ : L2.St) (H : Hp) (h : lS C (dPar3 i j l t) E τ H) : tPar3 i j l (lAn C n t) E τ H := by
  obtain ⟨σ, fps, e, cf, h, k⟩ := h
  refine ⟨σ, fps, _, cf, h, fun vs H1 ⟨ss, σ1, fps1, f, st, cf1, vr, nd, nf, hl, h1⟩ => ?_⟩
  rcases ss with _ | ⟨s1, _ | ⟨s2, _ | ⟨s3, _ | ⟨s4, ss⟩⟩⟩⟩
  · exact h1.elim
  · exact h1.elim
  · exact h1.elim
  · obtain ⟨v, _, g, _, rfl, rfl, v1, w, _, g2, _, rfl, rfl, v2, x, _, g3, _, rfl, rfl, v3, rfl, rfl⟩ := vr
    rw [List.append_nil] at nd nf
    obtain ⟨nd1, nd2, nd3⟩ := List.nodup_append.mp nd
    obtain ⟨nd4, nd5, nd6⟩ := List.nodup_append.mp nd2
    cases q : asg σ1 i s1 with
    | none => simp only [q] at h1
    | some σ2 =>
      cases q2 : asg σ2 j s2 with
      | none => simp only [q, q2] at h1
      | some σ3 =>
        cases q3 : asg σ3 l s3 with
        | none => simp only [q, q2, q3] at h1
        | some σ4 =>
          simp only [q, q2, q3] at h1
          have m1 : ∀ a ∈ g, a ∈ g ++ (g2 ++ g3) := fun a ha => List.mem_append_left _ ha
          have m2 : ∀ a ∈ g2, a ∈ g ++ (g2 ++ g3) := fun a ha => List.mem_append_right _ (List.mem_append_left _ ha)
          have m3 : ∀ a ∈ g3, a ∈ g ++ (g2 ++ g3) := fun a ha => List.mem_append_right _ (List.mem_append_right _ ha)
          have c2 := asg_ok cf1 v1 (fun a ha => (nf a (m1 a ha)).2) q
          have c3 := asg_ok c2 (v2.tau q2) (fun a ha z => by
            rcases mem_flat_set z with z | z
            · exact (nf a (m2 a ha)).2 z
            · exact nd3 a z a (List.mem_append_left _ ha) rfl) q2
          refine ⟨v, w, x, rfl, k.nx _ _ _ _ (stp_set (stp_set (stp_set st fun a ha => (nf a (m1 a ha)).1) fun a ha => (nf a (m2 a ha)).1) fun a ha => (nf a (m3 a ha)).1)
            (asg_ok c3 (v3.tau q3) (fun a ha z => ?_) q3) h1⟩
          rcases mem_flat_set z with z | z
          · rcases mem_flat_set z with z | z
            · exact (nf a (m3 a ha)).2 z
            · exact nd3 a z a (List.mem_append_right _ ha) rfl
          · exact nd6 a z a ha rfl
  · exact h1.elim
theorem ds_par3 {i j l n : Nat} {x y z : Str} {a b c : Expr} {t : DA} {px py pz pt pos : Pos} {kt k2 pt2} (hc : X.calm = true) (hN : X.N.Nodup) (hi : X.N[i]? = some x) (hj : X.N[j]? = some y) (hl : X.N[l]? = some z) (hij : i ≠ j) (hil : i ≠ l) (hjl : j ≠ l)
    (h : PS X (.Assign [.Tuple [.Name x px, .Name y py, .Name z pz] kt pt] (.Tuple [a, b, c] k2 pt2) pos) (tPar3 i j l (lAn (cx X P H0) n t))) : PS X (.Assign [.Tuple [.Name x px, .Name y py, .Name z pz] kt pt] (.Tuple [a, b, c] k2 pt2) pos) (lS (cx X P H0) (dPar3 i j l t)) := PS.weak h par3_ok

/-! ### several names at once -/
def gNames : List Nat → TGs
  | [] => gNil
  | i :: is => gCons (gName i) (gNames is)
def unp (σ : Sg) : List Nat → List PyData → Option Sg
  | [], [] => some σ
  | i :: is, x :: xs => unp (σ.set i (some (.d x))) is xs
  | _, _ => none
def setsV (τ : L2.St) : List Nat → List V → L2.St
  | i :: is, v :: vs => setsV (τ.set i (some v)) is vs
  | _, _ => τ
theorem gNames_ok : ∀ {is : List Nat} {vs : List V} {τ : L2.St} {H : Hp} {Q : L2.St → Hp → Prop}, vs.length = is.length → Q (setsV τ is vs) H → gNames is vs τ H Q
  | [], [], _, _, _, _, h => ⟨rfl, h⟩
  | i :: is, v :: vs, _, _, _, hl, h => ⟨v, vs, rfl, gNames_ok (by simpa using hl) h⟩
  | [], _ :: _, _, _, _, hl, _ => by simp at hl
  | _ :: _, [], _, _, _, hl, _ => by simp at hl
theorem set_nil_stp {H H' : Hp} {fps fps' : List (List Addr)} {i : Nat} (st : Stp H fps H' fps') : Stp H fps H' (fps'.set i []) := stp_set st fun a ha => (by cases ha)
theorem unp_ok {C : Ctx} {H : Hp} : ∀ {is : List Nat} {xs : List PyData} {vs : List V} {σ σ2 : Sg} {τ : L2.St} {fps : List (List Addr)}, Cfg C H σ τ fps → Reps C.K H xs vs → unp σ is xs = some σ2 →
    vs.length = is.length ∧ ∃ fps', Cfg C H σ2 (setsV τ is vs) fps' ∧ ∀ {G : Hp} {gps : List (List Addr)}, Stp G gps H fps → Stp G gps H fps'
  | [], [], vs, σ, σ2, τ, fps, cf, r, e => by
    cases e
    rw [show vs = [] from r]
    exact ⟨rfl, fps, cf, fun s => s⟩
  | i :: is, x :: xs, vs, σ, σ2, τ, fps, cf, r, e => by
    obtain ⟨v, us, rfl, h1, h2⟩ := r
    have c1 : Cfg C H (σ.set i (some (.d x))) (τ.set i (some v)) (fps.set i []) := asg_ok (s := .d x) cf ⟨rfl, h1⟩ (fun a ha => (by cases ha)) rfl
    obtain ⟨hl, fps', c2, k⟩ := unp_ok c1 h2 e
    exact ⟨by rw [List.length_cons, List.length_cons, hl], fps', c2, fun s => k (set_nil_stp s)⟩
  | [], _ :: _, _, _, _, _, _, _, _, e => by cases e
  | _ :: _, [], _, _, _, _, _, _, _, e => by cases e
def dUnp (is : List Nat) (t : DE) : DS := fun e σ => t σ fun s σ1 => match s with
  | .d (.tuple xs) => match unp σ1 is xs with
    | some σ2 => e.nx σ2
    | none => False
  | _ => False
theorem ds_unp {es : List Expr} {is : List Nat} {n kk : Nat} {p2 : Pos} (hc : X.calm = true) (he : PE X e (lE (cx X P H0) t)) (hg : PGs X es (gNames is)) (hn : (assignEach es X.env).length = n := by rfl) (hni : is.length = n := by rfl) (hst : (assignEach es X.env).findIdx? (·.1) = none := by rfl)
    (hs : swapsWithSole [.Tuple es kk p2] e pos.line X.env = pure false := by rfl) (hw : swappedStores [.Tuple es kk p2] e X.env = pure none := by rfl) (h1 : (assignEach [.Tuple es kk p2] X.env).map (·.2) = [assign (.Tuple es kk p2) X.env] := by rfl) :
    PS X (.Assign [.Tuple es kk p2] e pos) (lS (cx X P H0) (dUnp is t)) := by
  refine PS.weak (ps_asg he (pg_tup hc hg hn hst) hs hw h1) ?_
  rintro E τ H ⟨σ, fps, e, cf, h, k⟩
  refine ⟨σ, fps, _, cf, h, fun v H1 ⟨sx, σ1, fps1, f, st, cf1, vr, nf, h1⟩ => ?_⟩
  cases sx with
  | d x =>
    cases x with
    | tuple xs =>
      cases q : unp σ1 is xs with
      | none => simp only [q] at h1
      | some σ2 =>
        simp only [q] at h1
        obtain ⟨_, z, a, vs, rfl, tp, r⟩ := vr
        obtain ⟨hl, fps', c2, kk⟩ := unp_ok cf1 r q
        exact ⟨a, vs, rfl, tp.sq, by rw [hl, hni], gNames_ok hl (k.nx _ _ _ _ (kk st) c2 h1)⟩
    | _ => exact h1.elim
  | _ => exact h1.elim

/-! ### name op= e -/
def dAug (i : Nat) (o : O2) (t : DE) : DS := fun e σ => match slot σ i with
  | some (.d x) => t σ fun s σ1 => match rd σ1 s with
    | some y => o x y fun z => match z with
      | .d q => e.nx (σ1.set i (some (.d q)))
      | _ => False
    | none => False
  | _ => False
theorem i_add : OpR X (inplaceOp .Add) (l2 (cx X P H0) (fun x y Q => match x, y with
    | .int i, .int j => Q (.d (.int (i + j)))
    | .str a, .str b => a.length + b.length ≤ sizeLine ∧ Q (.d (.str (a ++ b)))
    | _, _ => False)) := by
  refine OpR.imp (iop_add.or iop_add_str) ?_
  rintro v w H QV ⟨x, y, Q, dm, hx, hy, h, k⟩
  cases x with
  | int i =>
    cases y with
    | int j => exact .inl ⟨i, j, hx, hy, k _ _ (PV.int h)⟩
    | _ => exact h.elim
  | str a =>
    cases y with
    | str b => exact .inr ⟨a, b, hx.1, hy.1, h.1, k _ _ (PV.str (by rw [len_append]; exact h.1) (strOk_append hx.2.2 hy.2.2) h.2)⟩
    | _ => exact h.elim
  | _ => exact h.elim
theorem i_sub : OpR X (inplaceOp .Sub) (l2 (cx X P H0) opSub) := by
  refine OpR.imp iop_sub ?_
  rintro v w H QV ⟨x, y, Q, dm, hx, hy, h, k⟩
  cases x with
  | int i =>
    cases y with
    | int j => exact ⟨i, j, hx, hy, k _ _ (PV.int h)⟩
    | _ => exact h.elim
  | _ => exact h.elim
theorem ds_aug {i : Nat} {x : Str} {op : Operator} {o : O2} {pos' : Pos} (hN : X.N.Nodup) (hi : X.N[i]? = some x) (hx : Loc X.env.scope x) (he : PE X e (lE (cx X P H0) t)) (ho : OpR X (inplaceOp op) (l2 (cx X P H0) o)) (hf : X.fn x = true ∨ X.env.scope.names.lookup x = some .local := by first | exact .inl rfl | exact .inr rfl | assumption) :
    PS X (.AugAssign (.Name x pos') op e pos) (lS (cx X P H0) (dAug i o t)) := by
  refine PS.weak (ps_aug hN hi hx he (show PIp X op (l2 (cx X P H0) o) from ho) hf) ?_
  rintro E τ H ⟨σ, fps, e, cf, h, k⟩
  cases q : slot σ i with
  | none => simp only [dAug, q] at h
  | some s0 =>
    cases s0 with
    | d x =>
      simp only [dAug, q] at h
      obtain ⟨v, f, e1, e2, e3⟩ := cf.rel.at (slot_eq q)
      refine ⟨v, e1, σ, fps, _, cf, h, fun y H1 ⟨sy, σ1, fps1, fy, st, cf1, vy, ny, h1⟩ => ?_⟩
      cases q2 : rd σ1 sy with
      | none => simp only [q2] at h1
      | some dy =>
        simp only [q2] at h1
        refine ⟨x, dy, _, cf1.dom, Rep.now (Rep.mono (cf.pers st) _ _ e3.2), now_of cf1 vy q2, h1, fun z H2 ⟨sz, g, sm, vz, nz, hz⟩ => ?_⟩
        cases sz with
        | d q3 =>
          have c2 := cf1.same sm
          exact k.nx _ _ _ _ (set_nil_stp (st.trans (.same sm fps1))) (asg_ok (s := .d q3) c2 ⟨rfl, vz.2⟩ (fun a ha => (by cases ha)) rfl) hz
        | _ => exact hz.elim
    | _ => simp only [dAug, q] at h

/-! ### a slot's list is changed -/
/-- the slot's list anew -/
def putL (σ : Sg) (n : Nat) (ys : List PyData) : Option Sg := match slot σ n with
  | some (.own _) => some (σ.set n (some (.own ys)))
  | some (.par j _) => some (σ.set n (some (.par j ys)))
  | _ => none
def getL (σ : Sg) (n : Nat) : Option (List PyData) := match slot σ n with
  | some (.own xs) => some xs
  | some (.par _ xs) => some xs
  | _ => none
theorem tau_set {τ : L2.St} {i : Nat} {v : V} (h : τ[i]? = some (some v)) : τ.set i (some v) = τ := by
  refine List.ext_getElem? fun j => ?_
  by_cases z : i = j
  · subst z
    rw [h, List.getElem?_set_self (List.getElem?_eq_some_iff.mp h).1]
  · rw [List.getElem?_set_ne z]
theorem fps_set {fps : List (List Addr)} {i : Nat} {f : List Addr} (h : fps[i]? = some f) : fps.set i f = fps := by
  refine List.ext_getElem? fun j => ?_
  by_cases z : i = j
  · subst z
    rw [h, List.getElem?_set_self (List.getElem?_eq_some_iff.mp h).1]
  · rw [List.getElem?_set_ne z]
theorem getL_at {C : Ctx} {H : Hp} {σ : Sg} {τ : L2.St} {fps : List (List Addr)} {n : Nat} {xs : List PyData} (cf : Cfg C H σ τ fps) (q : getL σ n = some xs) :
    ∃ a vs, τ[n]? = some (some (.ref a)) ∧ fps[n]? = some [a] ∧ H a = some (.lst vs) ∧ Reps C.K H xs vs ∧ xs.length ≤ sizeLine := by
  unfold getL at q
  cases e : slot σ n with
  | none => rw [e] at q; cases q
  | some s0 =>
    rw [e] at q
    obtain ⟨v, f, e1, e2, e3⟩ := cf.rel.at (slot_eq e)
    cases s0 with
    | own ys =>
      cases q
      obtain ⟨z, a, vs, rfl, rfl, _, e4, r⟩ := e3
      exact ⟨a, vs, e1, e2, e4, r, z⟩
    | par j ys =>
      cases q
      obtain ⟨z, a, vs, rfl, rfl, _, e4, r⟩ := e3
      exact ⟨a, vs, e1, e2, e4, r, z⟩
    | d y => cases q
    | brw j => cases q
theorem pers_lst {H : Hp} {a : Addr} {vs : List V} {o : HO} (e : H a = some (.lst vs)) : Pers H (upd H a o) := fun b u h p => by
  rw [upd_ne (fun z => by rw [z, e] at h; cases h; cases p)]; exact h
/-- what stands at the slot n is rewritten -/
theorem putL_ok {C : Ctx} {H : Hp} {σ σ2 : Sg} {τ : L2.St} {fps : List (List Addr)} {n : Nat} {a : Addr} {vs ws : List V} {ys : List PyData} (cf : Cfg C H σ τ fps) (e0 : τ[n]? = some (some (.ref a))) (e1 : fps[n]? = some [a]) (e2 : H a = some (.lst vs)) (r : Reps C.K H ys ws) (z : ys.length ≤ sizeLine) (q : putL σ n ys = some σ2) :
    Cfg C (upd H a (.lst ws)) σ2 τ fps ∧ Stp H fps (upd H a (.lst ws)) fps := by
  have ha : a ∈ fps.flatten := mem_flat e1 a (List.mem_singleton.mpr rfl)
  have hp : Pers H (upd H a (.lst ws)) := pers_lst e2
  have c1 := cf.drop e0 e1
  have out := flat_set_out cf.nd e1 (List.mem_singleton.mpr rfl)
  have R : StR C (upd H a (.lst ws)) (σ.set n none) τ (fps.set n []) := c1.rel.keep hp fun b hb => upd_ne (fun w => out (by rw [← w]; exact hb))
  have dm : ∀ b, upd H a (.lst ws) b = none → C.H0 b = none := fun b h => by
    by_cases w : b = a
    · rw [w, upd_same] at h; cases h
    · rw [upd_ne w] at h; exact cf.dom b h
  refine ⟨?_, ⟨fun b o h nb => by rw [upd_ne (fun w => nb (by rw [w]; exact ha))]; exact h, fun b h => .inl h, fun b h => ?_⟩⟩
  · unfold putL at q
    cases e : slot σ n with
    | none => rw [e] at q; cases q
    | some s0 =>
      rw [e] at q
      obtain ⟨v, f, f1, f2, f3⟩ := cf.rel.at (slot_eq e)
      rw [e0] at f1
      cases f1
      rw [e1] at f2
      cases f2
      have fin : ∀ s : S, SR C (upd H a (.lst ws)) s (.ref a) [a] → Cfg C (upd H a (.lst ws)) (σ.set n (some s)) τ fps := fun s hs => by
        refine ⟨?_, cf.nd, dm⟩
        have := R.set (o := some s) (v := some (.ref a)) (f := [a]) n hs
        rwa [List.set_set, List.set_set, tau_set e0, fps_set e1] at this
      cases s0 with
      | own xs =>
        cases q
        obtain ⟨_, a', vs', ea, _, e5, _, _⟩ := f3
        cases ea
        exact fin _ ⟨z, a, ws, rfl, rfl, e5, upd_same, Reps.mono hp _ _ r⟩
      | par j xs =>
        cases q
        obtain ⟨_, a', vs', ea, _, e5, _, _⟩ := f3
        cases ea
        exact fin _ ⟨z, a, ws, rfl, rfl, e5, upd_same, Reps.mono hp _ _ r⟩
      | d y => cases q
      | brw j => cases q
  · by_cases w : b = a
    · rw [w, upd_same] at h; cases h
    · rw [upd_ne w] at h; exact h

/-! ### methods of a slot's list -/
abbrev DM := List PyData → List PyData → (PyData → List PyData → Prop) → Prop
def lM (K : PySem.W.Frag) (m : DM) : V → List V → Hp → VK → Prop := fun x vs H QV => ∃ l us xs ys Q, x = .ref l ∧ H l = some (.lst us) ∧ Reps K H xs us ∧ xs.length ≤ sizeLine ∧ Reps K H ys vs ∧ m xs ys Q ∧
  ∀ d zs v ws, Rep K H d v → Reps K H zs ws → zs.length ≤ sizeLine → Q d zs → QV v (upd H l (.lst ws))
theorem MtR.imp {id : String} {r r' : V → List V → Hp → VK → Prop} (h : MtR X id r) (w : ∀ x xs H Q, r' x xs H Q → r x xs H Q) : MtR X id r' := fun pins s σ H x xs v us Q I rx rs q => h pins s σ H x xs v us Q I rx rs (w _ _ _ _ q)
def mAppend : DM
  | xs, [y], Q => xs.length < sizeLine ∧ Q .none (xs ++ [y])
  | _, _, _ => False
theorem m_append : MtR X "list.append" (lM X.K mAppend) := by
  refine MtR.imp mt_append ?_
  rintro x vs H QV ⟨l, us, xs, ys, Q, rfl, e, r, z, ry, h, k⟩
  rcases ys with _ | ⟨y, _ | ⟨y2, ys⟩⟩
  · exact h.elim
  · obtain ⟨v, r', rfl, h1, h2⟩ := ry
    rw [show r' = [] from h2]
    exact ⟨l, us, v, rfl, rfl, e, by rw [r.length]; exact h.1, k .none _ _ _ rfl (r.append (.one h1)) (by rw [List.length_append]; have := h.1; simp only [List.length_cons, List.length_nil]; omega) h.2⟩
  · exact h.elim
def mPop : DM
  | xs, [], Q => ∃ y, xs[xs.length - 1]? = some y ∧ Q y xs.dropLast
  | _, _, _ => False
theorem m_pop : MtR X "list.pop" (lM X.K mPop) := by
  refine MtR.imp mt_pop ?_
  rintro x vs H QV ⟨l, us, xs, ys, Q, rfl, e, r, z, ry, h, k⟩
  rcases ys with _ | ⟨y, ys⟩
  · obtain ⟨y, hy, q⟩ := h
    obtain ⟨v, hv, rv⟩ := r.get hy
    exact ⟨l, us, v, rfl, ry, e, by rw [r.length]; exact hv, k y _ _ _ rv r.dropLast (by rw [List.length_dropLast]; omega) q⟩
  · exact h.elim
def mPopAt : DM
  | xs, [.int i], Q => ∃ j y, ixN xs.length i = some j ∧ xs[j]? = some y ∧ Q y (xs.eraseIdx j)
  | _, _, _ => False
theorem m_popAt : MtR X "list.pop" (lM X.K mPopAt) := by
  refine MtR.imp mt_popAt ?_
  rintro x vs H QV ⟨l, us, xs, ys, Q, rfl, e, r, z, ry, h, k⟩
  have hs := sizeLine_eq
  rcases ys with _ | ⟨y, _ | ⟨y2, ys⟩⟩
  · exact h.elim
  · cases y with
    | int i =>
      obtain ⟨j, y, hj, hy, q⟩ := h
      obtain ⟨v, r', rfl, h1, h2⟩ := ry
      rw [show r' = [] from h2, show v = V.int i from h1]
      obtain ⟨g1, g2, g3, g4⟩ := ixN_seq hj
      obtain ⟨w, hw, rw'⟩ := r.get hy
      exact ⟨l, us, i, j, w, rfl, rfl, e, by omega, by omega, by rw [r.length]; exact g1, hw, k y _ _ _ rw' (r.eraseIdx j) (Nat.le_trans (len_erase xs j) z) q⟩
    | _ => exact h.elim
  · cases y <;> exact h.elim
def mReverse : DM
  | xs, [], Q => Q .none xs.reverse
  | _, _, _ => False
theorem m_reverse : MtR X "list.reverse" (lM X.K mReverse) := by
  refine MtR.imp mt_reverse ?_
  rintro x vs H QV ⟨l, us, xs, ys, Q, rfl, e, r, z, ry, h, k⟩
  rcases ys with _ | ⟨y, ys⟩
  · exact ⟨l, us, rfl, ry, e, k .none _ _ _ rfl r.reverse (by rw [List.length_reverse]; exact z) h⟩
  · exact h.elim
def mtEnd (m : DM) (n : Nat) (Q : S → Sg → Prop) (ss : List S) (σ2 : Sg) : Prop := match getL σ2 n, dats ss with
  | some xs, some ys => m xs ys fun d zs => match putL σ2 n zs with
    | some σ3 => Q (.d d) σ3
    | none => False
  | _, _ => False
def dMt (m : DM) (to : DE) (ta : DA) : DE := fun σ Q => to σ fun o σ1 => match o with
  | .brw n => match getL σ1 n with
    | some _ => ta σ1 (mtEnd m n Q)
    | none => False
  | _ => False
theorem tyV_lst {K : PySem.W.Frag} {H : Hp} {a : Addr} {vs : List V} (h : H a = some (.lst vs)) : tyV K "list" (.ref a) H := Or.inl ⟨rfl, _, Or.inl (Or.inl h)⟩
theorem mt_core {C : Ctx} {n : Nat} {m : DM} {to : DE} {t : DA} (τ : L2.St) (H : Hp) (QV : VK) (h : lE C (dMt m to t) τ H QV) : tBM C.K "list" (lM C.K m) (lE C to) (lAn C n t) τ H QV := by
  obtain ⟨σ, fps, Q, cf, h, k⟩ := h
  refine ⟨σ, fps, _, cf, h, fun x H1 ⟨so, σ1, fps1, fo, st1, cf1, vo, no, h1⟩ => ?_⟩
  cases so with
  | brw i =>
    cases g : getL σ1 i with
    | none => simp only [g] at h1
    | some xs0 =>
      simp only [g] at h1
      obtain ⟨a0, vs0, e0, _, e2, _, _⟩ := getL_at cf1 g
      have hv := vo.2
      rw [e0] at hv
      cases hv
      refine ⟨tyV_lst e2, σ1, fps1, _, cf1, h1, fun vs H2 ⟨ss, σ2, fps2, f, st2, cf2, vr, nd, nf, hl, h2⟩ => ?_⟩
      unfold mtEnd at h2
      cases g2 : getL σ2 i with
      | none => simp only [g2] at h2
      | some xs =>
        cases q : dats ss with
        | none => simp only [g2, q] at h2
        | some ys =>
          simp only [g2, q] at h2
          obtain ⟨a1, us, e3, e4, e5, r, z⟩ := getL_at cf2 g2
          rw [e0] at e3
          cases e3
          obtain ⟨ry, _⟩ := dats_reps vr q
          refine ⟨a0, us, xs, ys, _, rfl, e5, r, z, ry, h2, fun d zs v ws rd' rz hz q2 => ?_⟩
          cases p : putL σ2 i zs with
          | none => simp only [p] at q2
          | some σ3 =>
            simp only [p] at q2
            obtain ⟨c3, s3⟩ := putL_ok cf2 e0 e4 e5 rz hz p
            exact k _ _ ⟨.d d, σ3, fps2, [], st1.trans (st2.trans s3), c3, ⟨rfl, Rep.mono (pers_lst e5) _ _ rd'⟩, fun b hb => (by cases hb), q2⟩
  | _ => exact h1.elim
theorem mt_core0 {C : Ctx} {m : DM} {to : DE} (τ : L2.St) (H : Hp) (QV : VK) (h : lE C (dMt m to dNil) τ H QV) : tBM0 C.K "list" (lM C.K m) (lE C to) τ H QV := by
  obtain ⟨σ, fps, Q, cf, h, k⟩ := h
  refine ⟨σ, fps, _, cf, h, fun x H1 ⟨so, σ1, fps1, fo, st1, cf1, vo, no, h1⟩ => ?_⟩
  cases so with
  | brw i =>
    cases g : getL σ1 i with
    | none => simp only [g] at h1
    | some xs =>
      simp only [g] at h1
      obtain ⟨a0, us, e0, e4, e2, r, z⟩ := getL_at cf1 g
      have hv := vo.2
      rw [e0] at hv
      cases hv
      have h2 : mtEnd m i Q [] σ1 := h1
      unfold mtEnd at h2
      simp only [g, dats] at h2
      refine ⟨tyV_lst e2, a0, us, xs, [], _, rfl, e2, r, z, rfl, h2, fun d zs v ws rd' rz hz q2 => ?_⟩
      cases p : putL σ1 i zs with
      | none => simp only [p] at q2
      | some σ3 =>
        simp only [p] at q2
        obtain ⟨c3, s3⟩ := putL_ok cf1 e0 e4 e2 rz hz p
        exact k _ _ ⟨.d d, σ3, fps1, [], st1.trans s3, c3, ⟨rfl, Rep.mono (pers_lst e2) _ _ rd'⟩, fun b hb => (by cases hb), q2⟩
  | _ => exact h1.elim
theorem de_mt {n : Nat} {m : DM} {t : DA} {to : DE} (h : PE X c (tBM X.K "list" (lM X.K m) (lE (cx X P H0) to) (lAn (cx X P H0) n t))) : PE X c (lE (cx X P H0) (dMt m to t)) := PE.weak h mt_core
theorem de_mt0 {m : DM} {to : DE} (h : PE X c (tBM0 X.K "list" (lM X.K m) (lE (cx X P H0) to))) : PE X c (lE (cx X P H0) (dMt m to dNil)) := PE.weak h mt_core0
/-- x[i] = e, x a slot's list -/
def dSub (te to ti : DE) : DS := fun e σ => te σ fun s σ1 => to σ1 fun o σ2 => ti σ2 fun i σ3 => match s, o, i with
  | .d y, .brw n, .d (.int k) => match getL σ3 n with
    | some xs => ∃ j, ixN xs.length k = some j ∧ match putL σ3 n (xs.set j y) with
      | some σ4 => e.nx σ4
      | none => False
    | none => False
  | _, _, _ => False
theorem ds_sub {te to ti : DE} {p2 : Pos} (he : PE X e (lE (cx X P H0) te)) (ho : PE X a (lE (cx X P H0) to)) (hi : PE X b (lE (cx X P H0) ti))
    (hg : ∀ v, assign (.Subscript a b p2) X.env v = (do
      let ov ← holding [v] (eval a X.env)
      let iv ← holding [v, ov] (eval b X.env)
      standAt p2
      holding [v, ov, iv] (setItem ov iv v)
      release [v, ov, iv] []) := by intro _; rfl) (hs : swapsWithSole [.Subscript a b p2] e pos.line X.env = pure false := by rfl) (hw : swappedStores [.Subscript a b p2] e X.env = pure none := by rfl)
    (h1 : (assignEach [.Subscript a b p2] X.env).map (·.2) = [assign (.Subscript a b p2) X.env] := by rfl) : PS X (.Assign [.Subscript a b p2] e pos) (lS (cx X P H0) (dSub te to ti)) := by
  refine PS.weak (ps_asg he (pg_sub ho hi set_list hg) hs hw h1) ?_
  rintro E τ H ⟨σ, fps, e, cf, h, k⟩
  refine ⟨σ, fps, _, cf, h, fun v H1 ⟨sx, σ1, fps1, f, st, cf1, vr, nf, h1⟩ => ⟨σ1, fps1, _, cf1, h1, fun o H2 ⟨so, σ2, fps2, fo, st2, cf2, vo, no, h2⟩ => ⟨σ2, fps2, _, cf2, h2, fun i H3 ⟨si, σ3, fps3, fi, st3, cf3, vi, ni, h3⟩ => ?_⟩⟩⟩
  obtain ⟨vr3, _⟩ := VR.step (σ' := σ1) (fps := fps1) cf1 vr nf (st2.trans st3)
  cases sx with
  | d y =>
    cases so with
    | brw n =>
      cases si with
      | d q =>
        cases q with
        | int kk =>
          cases g : getL σ3 n with
          | none => simp only [g] at h3
          | some xs =>
            simp only [g] at h3
            obtain ⟨j, hj, h4⟩ := h3
            cases p : putL σ3 n (xs.set j y) with
            | none => simp only [p] at h4
            | some σ4 =>
              simp only [p] at h4
              obtain ⟨a0, us, e0, e4, e2, r, z⟩ := getL_at cf3 g
              have hv := vo.2
              rw [e0] at hv
              cases hv
              obtain ⟨c3, s3⟩ := putL_ok cf3 e0 e4 e2 (r.set j vr3.2) (by rw [List.length_set]; exact z) p
              refine ⟨a0, us, kk, j, rfl, vi.2, e2, by rw [r.length]; exact hj, k.nx _ _ _ _ (st.trans (st2.trans (st3.trans s3))) c3 h4⟩
        | _ => exact h3.elim
      | _ => exact h3.elim
    | _ => exact h3.elim
  | _ => exact h3.elim
end
end DL

set_option Elab.async false
set_option linter.all false
set_option maxRecDepth 100000
set_option maxHeartbeats 4000000
/-! DL5: what is walked; for, while, list comprehensions. -/
namespace PySem
open Sem (wp)
theorem meets_enumerate_newB1 {v : Value} {o : Obj} {H : Heap → Prop} (B : Begins v o H) :
    Meets (Builtin.«enumerate.__new__» ⟨[.type "enumerate", v], []⟩) (fun _ R s => H s.heap ∧
      R (.ok (.ret (.ref (s.heap.push o).objs.size))) { s with heap := (s.heap.push o).push { cls := .type "enumerate", data := .fields #[.none, .bool false, .ref s.heap.objs.size, rawInt 0, .none, .none] } }) :=
  .of_wp fun prog w A R s h => by
    obtain ⟨hp, g, d, tk, os⟩ := s; obtain ⟨h1, h⟩ := h
    have hsub := sub_enumerate
    have q1 : ∀ {A' : Around} {E : Value → Shared → Prop} {Q : Value → Shared → Prop}, Q (.ref hp.objs.size) ⟨hp.push o, g, d, tk, os⟩ → wpAny (model prog w) A' (pyIter v) Q E ⟨hp, g, d, tk, os⟩ :=
      fun q => B.iter prog w _ _ ⟨hp, g, d, tk, os⟩ _ h1 q
    wp_walk using q1
    refine wpAny_stack_any fun st => wpAny_pure ?_
    split
    · rename_i c _ _ _ _ _
      cases (c == Value.type "enumerate")
      · wp_walk using q1
        exact ⟨_, rfl, h⟩
      · wp_walk using q1
        exact ⟨_, rfl, h⟩
    · wp_walk using q1
      exact ⟨_, rfl, h⟩
theorem enum_begins1 {prog : Program} {w : World} {A : Around} {E : Value → Shared → Prop} {s : Shared} {v : Value} {o : Obj} {H : Heap → Prop} {Q : Value → Shared → Prop} (B : Begins v o H) (h1 : H s.heap)
    (h : ∀ h', IsEnum h' (s.heap.objs.size + 1) s.heap.objs.size 0 .none → h'.get? s.heap.objs.size = some o → h'.objs.size = s.heap.objs.size + 2 →
      (∀ b o, s.heap.get? b = some o → h'.get? b = some o) → Q (.ref (s.heap.objs.size + 1)) { s with heap := h' }) :
    wpAny (model prog w) A (call (.type "enumerate") [v]) Q E s := by
  refine callType_new F.called_enumerate (by decide) (F.typeCall_enumerate_1 _) (F.newCall_enumerate_1 _) (fun obj => F.args_object_init_2 obj _) F.entry_enumerate_new
    (meets_enumerate_newB1 B) ⟨h1, ?_⟩
  have hz : (s.heap.push o).objs.size = s.heap.objs.size + 1 := Heap.size_push ..
  show _ ∧ _
  rw [hz]
  have he : IsEnum ((s.heap.push o).push { cls := .type "enumerate", data := .fields #[.none, .bool false, .ref s.heap.objs.size, rawInt 0, .none, .none] }) (s.heap.objs.size + 1) s.heap.objs.size 0 .none := by
    have := Heap.get?_push_size (s.heap.push o) (o := { cls := .type "enumerate", data := .fields #[.none, .bool false, .ref s.heap.objs.size, rawInt 0, .none, .none] }) rfl
    rw [hz] at this; exact this
  refine ⟨⟨_, he, rfl⟩, h _ he (Heap.get?_push_of_some _ (Heap.get?_push_size _ B.free)) (by rw [Heap.size_push, hz]) fun b o x => Heap.get?_push_of_some _ (Heap.get?_push_of_some _ x)⟩
end PySem
namespace L2
open PySem PySem.Spec PyProof.Rows
/-! ### enumerate of a tuple -/
def IteT (K : PySem.W.Frag) (a : Addr) : It :=
  ⟨fun i H => ∃ (xs : List V) (x : V), SqT K H a xs ∧ xs[i]? = some x, fun i H v H' => ∃ T x, v = .ref T ∧ H T = none ∧ H' = upd H T (.tup [.int (i : Nat), x]) ∧ ∀ xs, SqT K H a xs → xs[i]? = some x, fun i H => ∃ xs : List V, SqT K H a xs ∧ xs.length = i⟩
theorem turn_enumT {P : Program} {w : World} {K : PySem.W.Frag} {elts : List Expr} {kk : Nat} {tpos : Pos} (a e it : Addr) (hai : a ≠ it) (hae : a ≠ e) :
    Turn P w K (.Tuple elts kk tpos) (IteT K a) [e, it] e (fun i h => (∃ old, IsEnum h e it ((i : Nat) : Int) old) ∧ h.IsTupleIter it a i ∧ e ≠ it) where
  mem := by simp
  obj := fun i h st b hb => by
    obtain ⟨⟨old, he⟩, ⟨o, ho, hc, hd⟩, _⟩ := st
    have e' : b = e ∨ b = it := by simpa using hb
    rcases e' with z | z
    · rw [z]; exact ⟨_, he, fun v q => nomatch q⟩
    · rw [z]; exact ⟨o, ho, fun v q => by rw [hd] at q; cases q⟩
  keep := fun i h h' st k => let ⟨⟨old, he⟩, hi, hne⟩ := st; ⟨⟨old, k e (by simp) _ he⟩, hi.at fun o q => k it (by simp) o q, hne⟩
  item := by
    intro X hP hw hK hc i pins s σ H E I hf st hg
    subst hP hw hK
    obtain ⟨⟨old, he⟩, hit, hne⟩ := st
    obtain ⟨xs, x, hq, hx⟩ := hg
    obtain ⟨its, rv, p, hz⟩ := I.tuple hq
    obtain ⟨u, hu, ru⟩ := rv.get hx
    have hel : e < s.heap.objs.size := Heap.lt_size he
    have hil : it < s.heap.objs.size := by obtain ⟨_, q, _⟩ := hit; exact Heap.lt_size q
    have hi : i < its.toArray.size := by
      have := (List.getElem?_eq_some_iff.mp hu).1
      simpa using this
    have D := Draws.tuple (prog := X.prog) (w := X.w) (A := X.A.in1) (by exact I.ok.hd hc) it a hai its.toArray
    refine wpAny_pyNext_enum_itemC D he ⟨hit, show s.heap.IsTuple a its.toArray from p⟩ hi hne (by simp [hne, hae.symm]) fun y h' tk hy ho hst' hT hsz hk => ?_
    have ey : y = u := by
      have : its.toArray[i]? = some y := hy
      simp at this
      rw [hu] at this
      exact (Option.some.inj this).symm
    subst ey
    refine ⟨_, rfl, wpAny_letOwnedTupleGo_enum (s := { s with heap := h', toks := tk + 1 }) ho fun h'' he' sb => ?_⟩
    have hT2 : h''.get? s.heap.objs.size = some { cls := .type "tuple", data := .seq #[.int i tk, y] } := (sb.2 _ (Nat.ne_of_gt hel)).trans hT
    have new : ObjOk X.prog X.w (upd H s.heap.objs.size (.tup [.int (i : Nat), x])) h'' s.heap.objs.size (.tup [.int (i : Nat), x]) :=
      ⟨by show 2 ≤ sizeLine; decide, [.int i tk, y], .cons ⟨_, rfl⟩ (.cons ru .nil), ⟨_, hT2, rfl, _, rfl⟩⟩
    have I1 : Inv X pins σ (upd H s.heap.objs.size (.tup [.int (i : Nat), x])) { s with heap := h'', toks := tk + 1 } :=
      I.turnedNew (ch := [e, it]) (fun b ob hb q => (sb.2 b (fun z => hb (by simp [z]))).trans (hk b ob (fun z => hb (by simp [z])) (fun z => hb (by simp [z])) q)) hf (Nat.le_refl _) new
    refine ⟨.ref s.heap.objs.size, _, I1, rfl, ⟨_, x, rfl, I.hok.fresh (Nat.le_refl _), rfl, fun ys hy => by rw [I.tuple_inj hy hq]; exact hx⟩, ⟨⟨y, ?_⟩, hst'.1.at fun o q => (sb.2 it (Ne.symm hne)).trans q, hne⟩, fun b hb => ?_⟩
    · have e1 : ((i + 1 : Nat) : Int) = (i : Int) + 1 := by omega
      rw [e1]; exact he'
    · have hb' : b < s.heap.objs.size := by
        have e' : b = e ∨ b = it := by simpa using hb
        rcases e' with z | z
        · rw [z]; exact hel
        · rw [z]; exact hil
      rw [upd_ne (Nat.ne_of_lt hb')]
      exact (hf b hb).1
  done := by
    intro X hP hw hK hc i pins s σ H E I hf st hg
    subst hP hw hK
    obtain ⟨⟨old, he⟩, hit, hne⟩ := st
    obtain ⟨xs, hq, hx⟩ := hg
    obtain ⟨its, rv, p, hz⟩ := I.tuple hq
    obtain ⟨f0, f1, f2, f3, f4, f5⟩ := hf it (by simp)
    have hl := rv.length
    have D := Draws.tuple (prog := X.prog) (w := X.w) (A := X.A.in1) (by exact I.ok.hd hc) it a hai its.toArray
    have hsz : its.toArray.size = i := by simp; omega
    exact wpAny_pyNext_enum_endD D he ⟨by rw [hsz]; exact hit, show s.heap.IsTuple a its.toArray from p⟩ fun h' eb => ⟨rfl, I.turned (t' := s.toks) (fun b o hb q => eb b o hb q) f0 f1 f3 f4 f5⟩
  self := fun A i s Q E st h => let ⟨⟨_, he⟩, _⟩ := st; wpAny_pyIter_enum he h
def iEnumA (K : PySem.W.Frag) (ta : TA) : TI := fun σ H R => ta σ H fun vs H1 => (∃ a xs, vs = [.ref a] ∧ SqL K H1 a xs ∧ R (Ite K a) H1) ∨ ∃ a xs, vs = [.ref a] ∧ SqT K H1 a xs ∧ R (IteT K a) H1
theorem pi_enumA {X : Cx} {e : Expr} {ta : TA} {p pos tpos : Pos} {elts : List Expr} {kk : Nat} (hg : Gl X "enumerate") (hm : X.mg "enumerate" = none) (ha : PA X [e] ta) (hs : starEach [e] X.env = [(false, eval e X.env)] := by rfl) :
    PI X (.Tuple elts kk tpos) (.Call (.Name "enumerate" p) [e] [] pos) (iEnumA X.K ta) := by
  refine ⟨fun pins s σ H R I h => ?_⟩
  refine Call_ (ld_blt I hg hm boot_enumerate (PyProof.Rows.callWith_type1 (thn (ha.run pos pins s σ H _ I h) fun us s1 ⟨vs, H1, I1, r1, q1⟩ => ?_) hs rfl))
  rcases q1 with ⟨a, xs, ex, hq, q⟩ | ⟨a, xs, ex, hq, q⟩
  · subst ex
    cases r1 with
    | cons r rr =>
      cases rr
      cases r
      obtain ⟨its, rv, p', hz⟩ := I1.list hq
      refine call_enumerate_list p'.isList fun h' he hit hsz hk => wpAny_pyIter_enum he ?_
      have I2 : Inv X pins σ H1 { s1 with heap := h' } := I1.kept (t' := s1.toks) hk
      refine ⟨s1.heap.objs.size + 1, [s1.heap.objs.size + 1, s1.heap.objs.size], _, _, H1, rfl, I2, turn_enum a (s1.heap.objs.size + 1) s1.heap.objs.size, ⟨⟨.none, he⟩, hit, Nat.succ_ne_self _⟩, fun b hb => ?_, q⟩
      have e' : b = s1.heap.objs.size + 1 ∨ b = s1.heap.objs.size := by simpa using hb
      have hle : s1.heap.objs.size ≤ b := by
        rcases e' with z | z
        · rw [z]; exact Nat.le_add_right _ _
        · rw [z]; exact Nat.le_refl _
      exact I1.fpOk hle (I1.hok.fresh hle)
  · subst ex
    cases r1 with
    | cons r rr =>
      cases rr
      cases r
      obtain ⟨its, rv, p', hz⟩ := I1.tuple hq
      obtain ⟨o1, ho1, _⟩ := id p'
      have hlt := Heap.lt_size ho1
      refine PySem.enum_begins1 (begins_tuple a its.toArray) (show s1.heap.IsTuple a its.toArray from p') fun h' he hit hsz hk => wpAny_pyIter_enum he ?_
      have I2 : Inv X pins σ H1 { s1 with heap := h' } := I1.kept (t' := s1.toks) hk
      refine ⟨s1.heap.objs.size + 1, [s1.heap.objs.size + 1, s1.heap.objs.size], _, _, H1, rfl, I2, turn_enumT a (s1.heap.objs.size + 1) s1.heap.objs.size (Nat.ne_of_lt hlt) (Nat.ne_of_lt (Nat.lt_succ_of_lt hlt)), ⟨⟨.none, he⟩, ⟨_, hit, rfl, rfl⟩, Nat.succ_ne_self _⟩, fun b hb => ?_, q⟩
      have e' : b = s1.heap.objs.size + 1 ∨ b = s1.heap.objs.size := by simpa using hb
      have hle : s1.heap.objs.size ≤ b := by
        rcases e' with z | z
        · rw [z]; exact Nat.le_add_right _ _
        · rw [z]; exact Nat.le_refl _
      exact I1.fpOk hle (I1.hok.fresh hle)
end L2

namespace DL
open PySem PySem.Spec PyProof.Rows L2

abbrev DI := Sg → (List PyData → Sg → Prop) → Prop
/-- J walks the items, wherever what it stands on is kept -/
def JOk (K : PySem.W.Frag) (J : It) (H : Hp) (items : List PyData) : Prop :=
  ∀ H2, Pers H H2 → ∀ i : Nat, (∀ d, items[i]? = some d → J.go i H2 ∧ ∀ x H3, J.yld i H2 x H3 → Same H2 H3 ∧ Rep K H3 d x) ∧ (i = items.length → J.stop i H2)
def lI (C : Ctx) (t : DI) : TI := fun τ H R => ∃ σ fps Q, Cfg C H σ τ fps ∧ t σ Q ∧ ∀ J H' σ' fps' items, Stp H fps H' fps' → Cfg C H' σ' τ fps' → JOk C.K J H' items → items.length ≤ sizeLine → Q items σ' → R J H'

section
variable {X : Cx} {P : Nat → Option Addr} {H0 : Hp} {a b c e iter tg : Expr} {st : Stmt} {rest : List Stmt} {ta tb tc t : DE} {u w : DT} {r s : DS} {pos p : Pos}
/-- a list or a tuple, not a list that is still ours -/
def seqD : S → Option (List PyData)
  | .d (.list xs) => some xs
  | .d (.tuple xs) => some xs
  | _ => none
def dIt (t : DE) : DI := fun σ Q => t σ fun s σ1 => match seqD s with
  | some xs => Q xs σ1
  | none => False
theorem pi_seq {te : TE} (he : PE X e te) : PI X tg e (fun σ H R => te σ H fun x H1 => (∃ a, x = .ref a ∧ (∃ xs, SqL X.K H1 a xs) ∧ R (Itl X.K a) H1) ∨ ∃ a, x = .ref a ∧ (∃ xs, SqT X.K H1 a xs) ∧ R (Itt X.K a) H1) := by
  refine ⟨fun pins s σ H R I h => ?_⟩
  refine thn (he.run pins s σ H _ I h) fun v s1 ⟨x, H1, I1, r1, q1⟩ => ?_
  rcases q1 with ⟨a, ea, ⟨xs, hq⟩, q⟩ | ⟨a, ea, ⟨xs, hq⟩, q⟩
  · subst ea
    cases r1
    obtain ⟨its, rv, p, hz⟩ := I1.list hq
    refine wpAny_pyIter_list p.isList ?_
    refine ⟨s1.heap.objs.size, [s1.heap.objs.size], _, _, H1, rfl, I1.kept (t' := s1.toks) fun b o e => Heap.get?_push_of_some _ e, turn_list a _, ⟨_, Heap.get?_push_size _ rfl, rfl, rfl⟩, fun b hb => ?_, q⟩
    have e : b = s1.heap.objs.size := by simpa using hb
    subst e
    exact I1.fpOk (Nat.le_refl _) (I1.hok.fresh (Nat.le_refl _))
  · subst ea
    cases r1
    obtain ⟨its, rv, p, hz⟩ := I1.tuple hq
    refine wpAny_pyIter_tuple (show s1.heap.IsTuple a its.toArray from p) ?_
    refine ⟨s1.heap.objs.size, [s1.heap.objs.size], _, _, H1, rfl, I1.kept (t' := s1.toks) fun b o e => Heap.get?_push_of_some _ e, turn_tuple a _, ⟨_, Heap.get?_push_size _ rfl, rfl, rfl⟩, fun b hb => ?_, q⟩
    have e : b = s1.heap.objs.size := by simpa using hb
    subst e
    exact I1.fpOk (Nat.le_refl _) (I1.hok.fresh (Nat.le_refl _))
theorem jok_list {K : PySem.W.Frag} {H : Hp} {a : Addr} {vs : List V} {xs : List PyData} (f : FzL K H a vs) (r : Reps K H xs vs) : JOk K (Itl K a) H xs := by
  intro H2 p i
  have f2 : SqL K H2 a vs := (f.mono p).sq
  refine ⟨fun d hd => ?_, fun hi => ⟨vs, f2, by rw [r.length]; omega⟩⟩
  obtain ⟨v, hv, rv⟩ := r.get hd
  refine ⟨⟨vs, v, f2, hv⟩, fun x H3 hy => ?_⟩
  obtain ⟨rfl, hy⟩ := hy
  have := hy vs f2
  rw [hv] at this
  cases this
  exact ⟨Same.refl _, Rep.mono p _ _ rv⟩
theorem jok_tup {K : PySem.W.Frag} {H : Hp} {a : Addr} {vs : List V} {xs : List PyData} (f : TpT K H a vs) (r : Reps K H xs vs) : JOk K (Itt K a) H xs := by
  intro H2 p i
  have f2 : SqT K H2 a vs := (f.mono p).sq
  refine ⟨fun d hd => ?_, fun hi => ⟨vs, f2, by rw [r.length]; omega⟩⟩
  obtain ⟨v, hv, rv⟩ := r.get hd
  refine ⟨⟨vs, v, f2, hv⟩, fun x H3 hy => ?_⟩
  obtain ⟨rfl, hy⟩ := hy
  have := hy vs f2
  rw [hv] at this
  cases this
  exact ⟨Same.refl _, Rep.mono p _ _ rv⟩
theorem di_seq (he : PE X e (lE (cx X P H0) t)) : PI X tg e (lI (cx X P H0) (dIt t)) := by
  refine PI.weak (pi_seq he) ?_
  rintro τ H R ⟨σ, fps, Q, cf, h, k⟩
  refine ⟨σ, fps, _, cf, h, fun v H1 ⟨sx, σ1, fps1, f, st, cf1, vr, nf, h1⟩ => ?_⟩
  cases sx with
  | d x =>
    cases x with
    | list xs =>
      obtain ⟨_, z, a, vs, rfl, g, r⟩ := vr
      exact .inl ⟨a, rfl, ⟨vs, g.sq⟩, k _ _ _ _ xs st cf1 (jok_list g r) z h1⟩
    | tuple xs =>
      obtain ⟨_, z, a, vs, rfl, g, r⟩ := vr
      exact .inr ⟨a, rfl, ⟨vs, g.sq⟩, k _ _ _ _ xs st cf1 (jok_tup g r) z h1⟩
    | _ => exact h1.elim
  | _ => exact h1.elim
/-- a text's signs -/
def chars (x : Str) : List PyData := x.cps.toList.map fun c => .str ⟨#[c]⟩
def dItS (t : DE) : DI := fun σ Q => t σ fun s σ1 => match s with
  | .d (.str x) => Q (chars x) σ1
  | _ => False
theorem di_str (he : PE X e (lE (cx X P H0) t)) : PI X tg e (lI (cx X P H0) (dItS t)) := by
  refine PI.weak (pi_str he) ?_
  rintro τ H R ⟨σ, fps, Q, cf, h, k⟩
  refine ⟨σ, fps, _, cf, h, fun v H1 ⟨sx, σ1, fps1, f, st, cf1, vr, nf, h1⟩ => ?_⟩
  cases sx with
  | d x =>
    cases x with
    | str x =>
      obtain ⟨_, rfl, hz, hs⟩ := vr
      refine ⟨x, rfl, k _ _ _ _ (chars x) st cf1 (fun H2 p i => ⟨fun d hd => ?_, fun hi => ?_⟩) (by unfold chars; rw [List.length_map, Array.length_toList]; exact hz) h1⟩
      · unfold chars at hd
        rw [List.getElem?_map] at hd
        cases q : x.cps.toList[i]? with
        | none => rw [q] at hd; cases hd
        | some c =>
          rw [q] at hd
          have hd' : PyData.str ⟨#[c]⟩ = d := Option.some.inj hd
          subst hd'
          have hc : c ∈ x.cps.toList := List.mem_of_getElem? q
          have hi := (List.getElem?_eq_some_iff.mp q).1
          rw [Array.length_toList] at hi
          refine ⟨hi, fun y H3 ⟨e1, c', e2, e3⟩ => ?_⟩
          subst e1 e3
          rw [Array.getElem?_toList] at q
          rw [q] at e2
          cases e2
          exact ⟨Same.refl _, rfl, by show 1 ≤ sizeLine; decide, strOk_one hs hc⟩
      · show x.cps.size ≤ i
        rw [hi]
        unfold chars
        rw [List.length_map, Array.length_toList]
        exact Nat.le_refl _
    | _ => exact h1.elim
  | _ => exact h1.elim
/-- lo, lo + 1, .. -/
def rngD (lo : Int) (n : Nat) : List PyData := (List.range n).map fun (i : Nat) => .int (lo + (i : Int))
theorem rngD_get {lo : Int} {n i : Nat} : (rngD lo n)[i]? = if i < n then some (.int (lo + (i : Int))) else none := by
  unfold rngD
  rw [List.getElem?_map]
  by_cases h : i < n
  · rw [List.getElem?_range h, if_pos h]; rfl
  · rw [List.getElem?_eq_none (by rw [List.length_range]; omega), if_neg h]; rfl
theorem rngD_length (lo : Int) (n : Nat) : (rngD lo n).length = n := by unfold rngD; rw [List.length_map, List.length_range]
theorem jok_rng {K : PySem.W.Frag} {H : Hp} {lo : Int} {n : Nat} : JOk K (Itr lo n) H (rngD lo n) := by
  intro H2 p i
  refine ⟨fun d hd => ?_, fun hi => ?_⟩
  · rw [rngD_get] at hd
    by_cases h : i < n
    · rw [if_pos h] at hd
      cases hd
      exact ⟨h, fun x H3 ⟨e1, e2⟩ => by subst e1 e2; exact ⟨Same.refl _, rfl⟩⟩
    · rw [if_neg h] at hd; cases hd
  · show n ≤ i
    rw [hi, rngD_length]
    exact Nat.le_refl _
def argI1 : List S → Option Int
  | [.d (.int n)] => some n
  | _ => none
def argI2 : List S → Option (Int × Int)
  | [.d (.int m), .d (.int n)] => some (m, n)
  | _ => none
def argI3 : List S → Option (Int × Int × Int)
  | [.d (.int m), .d (.int n), .d (.int c)] => some (m, n, c)
  | _ => none
theorem argI1_eq {ss : List S} {n : Int} (h : argI1 ss = some n) : ss = [.d (.int n)] := by
  unfold argI1 at h
  split at h
  · cases h; rfl
  · cases h
theorem argI2_eq {ss : List S} {m n : Int} (h : argI2 ss = some (m, n)) : ss = [.d (.int m), .d (.int n)] := by
  unfold argI2 at h
  split at h
  · cases h; rfl
  · cases h
theorem argI3_eq {ss : List S} {m n c : Int} (h : argI3 ss = some (m, n, c)) : ss = [.d (.int m), .d (.int n), .d (.int c)] := by
  unfold argI3 at h
  split at h
  · cases h; rfl
  · cases h
def RngOk (m n : Int) : Prop := -4611686018427387904 ≤ m ∧ m < 4611686018427387904 ∧ -4611686018427387904 ≤ n ∧ n < 4611686018427387904 ∧ n - m ≤ 16777216
def dRng1 (t : DA) : DI := fun σ Q => t σ fun ss σ1 => match argI1 ss with
  | some n => RngOk 0 n ∧ Q (rngD 0 n.toNat) σ1
  | none => False
def dRng2 (t : DA) : DI := fun σ Q => t σ fun ss σ1 => match argI2 ss with
  | some (m, n) => RngOk m n ∧ Q (rngD m (n - m).toNat) σ1
  | none => False
/-- a, a + c, .. (n of them) -/
def stpD (lo c : Int) (n : Nat) : List PyData := (List.range n).map fun (i : Nat) => .int (lo + (i : Int) * c)
theorem stpD_length (lo c : Int) (n : Nat) : (stpD lo c n).length = n := by unfold stpD; rw [List.length_map, List.length_range]
theorem stpD_get {lo c : Int} {n i : Nat} : (stpD lo c n)[i]? = if i < n then some (.int (lo + (i : Int) * c)) else none := by
  unfold stpD
  rw [List.getElem?_map]
  by_cases h : i < n
  · rw [List.getElem?_range h, if_pos h]; rfl
  · rw [List.getElem?_eq_none (by rw [List.length_range]; omega), if_neg h]; rfl
theorem jok_stp {K : PySem.W.Frag} {H : Hp} {lo c : Int} {n : Nat} : JOk K (Itc lo c n) H (stpD lo c n) := by
  intro H2 p i
  refine ⟨fun d hd => ?_, fun hi => ?_⟩
  · rw [stpD_get] at hd
    by_cases h : i < n
    · rw [if_pos h] at hd
      cases hd
      exact ⟨h, fun x H3 ⟨e1, e2⟩ => by subst e1 e2; exact ⟨Same.refl _, rfl⟩⟩
    · rw [if_neg h] at hd; cases hd
  · show n ≤ i
    rw [hi, stpD_length]
    exact Nat.le_refl _
/-- range(a, b, -1) -/
def dRngDn (t : DA) : DI := fun σ Q => t σ fun ss σ1 => match argI3 ss with
  | some (m, n, c) => c = -1 ∧ RngOk n m ∧ Q (stpD m (-1) (m - n).toNat) σ1
  | none => False
theorem vrs1 {C : Ctx} {H : Hp} {τ : L2.St} {x : PyData} {vs : List V} {f : List Addr} (h : VRs C H τ [.d x] vs f) : ∃ v, vs = [v] ∧ Rep C.K H x v := by
  obtain ⟨v, r, g, k, rfl, _, h1, h2⟩ := h
  exact ⟨v, by rw [h2.1], h1.2⟩
theorem vrs2 {C : Ctx} {H : Hp} {τ : L2.St} {x y : PyData} {vs : List V} {f : List Addr} (h : VRs C H τ [.d x, .d y] vs f) : ∃ v w, vs = [v, w] ∧ Rep C.K H x v ∧ Rep C.K H y w := by
  obtain ⟨v, r, g, k, rfl, _, h1, h2⟩ := h
  obtain ⟨w, rfl, h3⟩ := vrs1 h2
  exact ⟨v, w, rfl, h1.2, h3⟩
theorem vrs3 {C : Ctx} {H : Hp} {τ : L2.St} {x y z : PyData} {vs : List V} {f : List Addr} (h : VRs C H τ [.d x, .d y, .d z] vs f) : ∃ v w u, vs = [v, w, u] ∧ Rep C.K H x v ∧ Rep C.K H y w ∧ Rep C.K H z u := by
  obtain ⟨v, r, g, k, rfl, _, h1, h2⟩ := h
  obtain ⟨w, u, rfl, h3, h4⟩ := vrs2 h2
  exact ⟨v, w, u, rfl, h1.2, h3, h4⟩
theorem di_rng1 {t : DA} {n : Nat} (hg : Gl X "range") (hm : X.mg "range" = none) (ha : PA X [a] (lAn (cx X P H0) n t)) (hs : starEach [a] X.env = [(false, eval a X.env)] := by rfl) : PI X tg (.Call (.Name "range" p) [a] [] pos) (lI (cx X P H0) (dRng1 t)) := by
  refine PI.weak (pi_range1 hg hm ha hs) ?_
  rintro τ H R ⟨σ, fps, Q, cf, h, k⟩
  refine ⟨σ, fps, _, cf, h, fun vs H1 ⟨ss, σ1, fps1, f, st, cf1, vr, nd, nf, hl, h1⟩ => ?_⟩
  have hz := sizeLine_eq
  cases q : argI1 ss with
  | none => simp only [q] at h1
  | some j =>
    simp only [q] at h1
    obtain ⟨⟨b1, b2, b3, b4, b5⟩, h2⟩ := h1
    rw [argI1_eq q] at vr
    obtain ⟨v, rfl, rv⟩ := vrs1 vr
    rw [show v = V.int j from rv]
    exact ⟨j, rfl, by omega, by omega, k _ _ _ _ _ st cf1 jok_rng (by rw [rngD_length]; omega) h2⟩
theorem di_rng2 {t : DA} {n : Nat} (hg : Gl X "range") (hm : X.mg "range" = none) (ha : PA X [a, b] (lAn (cx X P H0) n t)) (hs : starEach [a, b] X.env = [(false, eval a X.env), (false, eval b X.env)] := by rfl) (hs2 : starEach [b] X.env = [(false, eval b X.env)] := by rfl) : PI X tg (.Call (.Name "range" p) [a, b] [] pos) (lI (cx X P H0) (dRng2 t)) := by
  refine PI.weak (pi_range2 hg hm ha hs hs2) ?_
  rintro τ H R ⟨σ, fps, Q, cf, h, k⟩
  refine ⟨σ, fps, _, cf, h, fun vs H1 ⟨ss, σ1, fps1, f, st, cf1, vr, nd, nf, hl, h1⟩ => ?_⟩
  have hz := sizeLine_eq
  cases q : argI2 ss with
  | none => simp only [q] at h1
  | some mn =>
    obtain ⟨m, n⟩ := mn
    simp only [q] at h1
    obtain ⟨⟨b1, b2, b3, b4, b5⟩, h2⟩ := h1
    rw [argI2_eq q] at vr
    obtain ⟨v, w, rfl, rv, rw'⟩ := vrs2 vr
    rw [show v = V.int m from rv, show w = V.int n from rw']
    exact ⟨m, n, rfl, ⟨by omega, by omega, by omega, by omega⟩, k _ _ _ _ _ st cf1 jok_rng (by rw [rngD_length]; omega) h2⟩
theorem di_rngDn {t : DA} {n : Nat} (hg : Gl X "range") (hm : X.mg "range" = none) (ha : PA X [a, b, c] (lAn (cx X P H0) n t)) (h : PI X tg (.Call (.Name "range" p) [a, b, c] [] pos) (iRng3 (lAn (cx X P H0) n t))) : PI X tg (.Call (.Name "range" p) [a, b, c] [] pos) (lI (cx X P H0) (dRngDn t)) := by
  refine PI.weak h ?_
  rintro τ H R ⟨σ, fps, Q, cf, h, k⟩
  refine ⟨σ, fps, _, cf, h, fun vs H1 ⟨ss, σ1, fps1, f, st, cf1, vr, nd, nf, hl, h1⟩ => ?_⟩
  have hz := sizeLine_eq
  cases q : argI3 ss with
  | none => simp only [q] at h1
  | some mn =>
    obtain ⟨m, n, d⟩ := mn
    simp only [q] at h1
    obtain ⟨rfl, ⟨b1, b2, b3, b4, b5⟩, h2⟩ := h1
    rw [argI3_eq q] at vr
    obtain ⟨v, w, u, rfl, rv, rw', ru⟩ := vrs3 vr
    rw [show v = V.int m from rv, show w = V.int n from rw', show u = V.int (-1) from ru]
    exact ⟨m, n, -1, (m - n).toNat, rfl, RgC.neg (by omega) (by omega) (by omega) (by omega), k _ _ _ _ _ st cf1 jok_stp (by rw [stpD_length]; omega) h2⟩
/-- (0, x), (1, y), .. -/
def enumD (xs : List PyData) : List PyData := xs.mapIdx fun i x => .tuple [.int (i : Int), x]
theorem enumD_get {xs : List PyData} {i : Nat} : (enumD xs)[i]? = xs[i]?.map fun x => .tuple [.int (i : Int), x] := by
  unfold enumD
  rw [List.getElem?_mapIdx]
theorem enumD_length (xs : List PyData) : (enumD xs).length = xs.length := by unfold enumD; rw [List.length_mapIdx]
def argD1 : List S → Option PyData
  | [.d x] => some x
  | _ => none
theorem argD1_eq {ss : List S} {x : PyData} (h : argD1 ss = some x) : ss = [.d x] := by
  unfold argD1 at h
  split at h
  · cases h; rfl
  · cases h
def argD2 : List S → Option (PyData × PyData)
  | [.d x, .d y] => some (x, y)
  | _ => none
theorem argD2_eq {ss : List S} {x y : PyData} (h : argD2 ss = some (x, y)) : ss = [.d x, .d y] := by
  unfold argD2 at h
  split at h
  · cases h; rfl
  · cases h
def dEnum (t : DA) : DI := fun σ Q => t σ fun ss σ1 => match argD1 ss with
  | some (.list xs) => Q (enumD xs) σ1
  | some (.tuple xs) => Q (enumD xs) σ1
  | _ => False
theorem rep_pair {K : PySem.W.Frag} {H : Hp} {T : Addr} {x y : PyData} {v w : V} (n : H T = none) (h1 : Rep K H x v) (h2 : Rep K H y w) : Same H (upd H T (.tup [v, w])) ∧ Rep K (upd H T (.tup [v, w])) (.tuple [x, y]) (.ref T) := by
  have s := same_upd (o := .tup [v, w]) n
  exact ⟨s, by show 2 ≤ sizeLine; decide, T, [v, w], rfl, .inl upd_same, ⟨v, [w], rfl, Rep.mono (.of_same s) _ _ h1, w, [], rfl, Rep.mono (.of_same s) _ _ h2, rfl⟩⟩
theorem di_enum {t : DA} {n kk : Nat} {elts : List Expr} {tpos : Pos} (hg : Gl X "enumerate") (hm : X.mg "enumerate" = none) (ha : PA X [a] (lAn (cx X P H0) n t)) (hs : starEach [a] X.env = [(false, eval a X.env)] := by rfl) : PI X (.Tuple elts kk tpos) (.Call (.Name "enumerate" p) [a] [] pos) (lI (cx X P H0) (dEnum t)) := by
  refine PI.weak (pi_enumA hg hm ha hs) ?_
  rintro τ H R ⟨σ, fps, Q, cf, h, k⟩
  refine ⟨σ, fps, _, cf, h, fun vs H1 ⟨ss, σ1, fps1, f, st, cf1, vr, nd, nf, hl, h1⟩ => ?_⟩
  cases q : argD1 ss with
  | none => simp only [q] at h1
  | some x =>
    rw [argD1_eq q] at vr
    obtain ⟨v, rfl, rv⟩ := vrs1 vr
    cases x with
    | list xs =>
      simp only [q] at h1
      obtain ⟨z, l, us, rfl, g, r⟩ := rv
      refine .inl ⟨l, us, rfl, g.sq, k _ _ _ _ _ st cf1 (fun H2 pe i => ?_) (by rw [enumD_length]; exact z) h1⟩
      have f2 : SqL X.K H2 l us := (g.mono pe).sq
      refine ⟨fun d hd => ?_, fun hi => ⟨us, f2, by rw [r.length, ← enumD_length, hi]; exact Nat.le_refl _⟩⟩
      rw [enumD_get] at hd
      cases q2 : xs[i]? with
      | none => rw [q2] at hd; cases hd
      | some y =>
        rw [q2] at hd
        cases hd
        obtain ⟨w, hw, rw'⟩ := r.get q2
        refine ⟨⟨us, w, f2, hw⟩, fun x H3 ⟨T, x', e1, e2, e3, e4⟩ => ?_⟩
        have := e4 us f2
        rw [hw] at this
        cases this
        subst e1 e3
        exact rep_pair e2 (show Rep X.K H2 (.int (i : Int)) (.int (i : Nat)) from rfl) (Rep.mono pe _ _ rw')
    | tuple xs =>
      simp only [q] at h1
      obtain ⟨z, l, us, rfl, g, r⟩ := rv
      refine .inr ⟨l, us, rfl, g.sq, k _ _ _ _ _ st cf1 (fun H2 pe i => ?_) (by rw [enumD_length]; exact z) h1⟩
      have f2 : SqT X.K H2 l us := (g.mono pe).sq
      refine ⟨fun d hd => ?_, fun hi => ⟨us, f2, by rw [r.length, ← enumD_length, hi]⟩⟩
      rw [enumD_get] at hd
      cases q2 : xs[i]? with
      | none => rw [q2] at hd; cases hd
      | some y =>
        rw [q2] at hd
        cases hd
        obtain ⟨w, hw, rw'⟩ := r.get q2
        refine ⟨⟨us, w, f2, hw⟩, fun x H3 ⟨T, x', e1, e2, e3, e4⟩ => ?_⟩
        have := e4 us f2
        rw [hw] at this
        cases this
        subst e1 e3
        exact rep_pair e2 (show Rep X.K H2 (.int (i : Int)) (.int (i : Nat)) from rfl) (Rep.mono pe _ _ rw')
    | _ => simp only [q] at h1
/-- (a, x), (b, y), .. -/
def zipD (xs ys : List PyData) : List PyData := xs.zipWith (fun x y => .tuple [x, y]) ys
theorem zipD_length (xs ys : List PyData) : (zipD xs ys).length = min xs.length ys.length := by unfold zipD; rw [List.length_zipWith]
theorem zipD_get {xs ys : List PyData} {i : Nat} {d : PyData} (h : (zipD xs ys)[i]? = some d) : ∃ x y, xs[i]? = some x ∧ ys[i]? = some y ∧ d = .tuple [x, y] := by
  unfold zipD at h
  rw [List.getElem?_zipWith] at h
  cases q : xs[i]? with
  | none => simp [q] at h
  | some x =>
    cases q2 : ys[i]? with
    | none => simp [q, q2] at h
    | some y =>
      simp [q, q2] at h
      exact ⟨x, y, rfl, rfl, h.symm⟩
def dZip (t : DA) : DI := fun σ Q => t σ fun ss σ1 => match argD2 ss with
  | some (.list xs, .list ys) => Q (zipD xs ys) σ1
  | some (.tuple xs, .tuple ys) => Q (zipD xs ys) σ1
  | _ => False
theorem di_zip {t : DA} {n kk : Nat} {elts : List Expr} {tpos : Pos} (hg : Gl X "zip") (hm : X.mg "zip" = none) (ha : PA X [a, b] (lAn (cx X P H0) n t)) (hs : starEach [a, b] X.env = (false, eval a X.env) :: starEach [b] X.env := by rfl) (hpl : (backTo pos (starEach [b] X.env)).any (·.1) = false := by rfl) : PI X (.Tuple elts kk tpos) (.Call (.Name "zip" p) [a, b] [] pos) (lI (cx X P H0) (dZip t)) := by
  refine PI.weak (RZ.pi_zipA hg hm ha hs hpl) ?_
  rintro τ H R ⟨σ, fps, Q, cf, h, k⟩
  refine ⟨σ, fps, _, cf, h, fun vs H1 ⟨ss, σ1, fps1, f, st, cf1, vr, nd, nf, hl, h1⟩ => ?_⟩
  cases q : argD2 ss with
  | none => simp only [q] at h1
  | some xy =>
    obtain ⟨x, y⟩ := xy
    rw [argD2_eq q] at vr
    obtain ⟨v, w, rfl, rv, rw'⟩ := vrs2 vr
    cases x with
    | list xs =>
      cases y with
      | list ys =>
        simp only [q] at h1
        obtain ⟨z, l, us, rfl, g, r⟩ := rv
        obtain ⟨z2, l2, us2, rfl, g2, r2⟩ := rw'
        refine ⟨l, l2, us, us2, rfl, .inl ⟨g.sq, g2.sq, k _ _ _ _ _ st cf1 (fun H2 pe i => ?_) (by rw [zipD_length]; omega) h1⟩⟩
        have f1 : SqL X.K H2 l us := (g.mono pe).sq
        have f2 : SqL X.K H2 l2 us2 := (g2.mono pe).sq
        refine ⟨fun d hd => ?_, fun hi => ⟨us, us2, f1, f2, by rw [r.length, r2.length]; rw [zipD_length] at hi; omega⟩⟩
        obtain ⟨x, y, ex, ey, rfl⟩ := zipD_get hd
        obtain ⟨a1, ha1, ra1⟩ := r.get ex
        obtain ⟨b1, hb1, rb1⟩ := r2.get ey
        refine ⟨⟨us, us2, a1, b1, f1, f2, ha1, hb1⟩, fun v H3 ⟨T, x', y', e1, e2, e3, e4, e5⟩ => ?_⟩
        have h4 := e4 us f1
        have h5 := e5 us2 f2
        rw [ha1] at h4
        rw [hb1] at h5
        cases h4
        cases h5
        subst e1 e3
        exact rep_pair e2 (Rep.mono pe _ _ ra1) (Rep.mono pe _ _ rb1)
      | _ => simp only [q] at h1
    | tuple xs =>
      cases y with
      | tuple ys =>
        simp only [q] at h1
        obtain ⟨z, l, us, rfl, g, r⟩ := rv
        obtain ⟨z2, l2, us2, rfl, g2, r2⟩ := rw'
        refine ⟨l, l2, us, us2, rfl, .inr ⟨g.sq, g2.sq, k _ _ _ _ _ st cf1 (fun H2 pe i => ?_) (by rw [zipD_length]; omega) h1⟩⟩
        have f1 : SqT X.K H2 l us := (g.mono pe).sq
        have f2 : SqT X.K H2 l2 us2 := (g2.mono pe).sq
        refine ⟨fun d hd => ?_, fun hi => ⟨us, us2, f1, f2, by rw [r.length, r2.length]; rw [zipD_length] at hi; omega⟩⟩
        obtain ⟨x, y, ex, ey, rfl⟩ := zipD_get hd
        obtain ⟨a1, ha1, ra1⟩ := r.get ex
        obtain ⟨b1, hb1, rb1⟩ := r2.get ey
        refine ⟨⟨us, us2, a1, b1, f1, f2, ha1, hb1⟩, fun v H3 ⟨T, x', y', e1, e2, e3, e4, e5⟩ => ?_⟩
        have h4 := e4 us f1
        have h5 := e5 us2 f2
        rw [ha1] at h4
        rw [hb1] at h5
        cases h4
        cases h5
        subst e1 e3
        exact rep_pair e2 (Rep.mono pe _ _ ra1) (Rep.mono pe _ _ rb1)
      | _ => simp only [q] at h1
    | _ => simp only [q] at h1
end
end DL

set_option Elab.async false
set_option linter.all false
set_option maxRecDepth 100000
set_option maxHeartbeats 4000000
/-! DL6: for, while, list comprehensions over data. -/
namespace DL
open PySem PySem.Spec PyProof.Rows L2

/-! ### targets -/
abbrev DG := PyData → Sg → (Sg → Prop) → Prop
def lG (C : Ctx) (is : List Nat) (g : DG) : TG := fun v τ H QV => ∃ d σ fps Q, Rep C.K H d v ∧ Cfg C H σ τ fps ∧ g d σ Q ∧
  ∀ τ' σ' fps', (∀ {G : Hp} {gps : List (List Addr)}, Stp G gps H fps → Stp G gps H fps') → Cfg C H σ' τ' fps' → (τ'.length = τ.length ∧ ∀ j, j ∉ is → τ'[j]? = τ[j]?) → Q σ' → QV τ' H
def dgName (i : Nat) : DG := fun d σ Q => Q (σ.set i (some (.d d)))
def dgTup (is : List Nat) : DG := fun d σ Q => match d with
  | .tuple xs => match unp σ is xs with
    | some σ2 => Q σ2
    | none => False
  | _ => False
theorem setsV_length : ∀ {is : List Nat} {vs : List V} {τ : L2.St}, (setsV τ is vs).length = τ.length
  | [], _, _ => rfl
  | _ :: _, [], _ => rfl
  | i :: is, v :: vs, τ => by
    show (setsV (τ.set i (some v)) is vs).length = _
    rw [setsV_length, List.length_set]
theorem setsV_out : ∀ {is : List Nat} {vs : List V} {τ : L2.St} {j : Nat}, j ∉ is → (setsV τ is vs)[j]? = τ[j]?
  | [], _, _, _, _ => rfl
  | _ :: _, [], _, _, _ => rfl
  | i :: is, v :: vs, τ, j, h => by
    show (setsV (τ.set i (some v)) is vs)[j]? = _
    rw [setsV_out (fun z => h (List.mem_cons_of_mem _ z)), List.getElem?_set_ne (fun z => h (by rw [z]; exact List.mem_cons_self))]
section
variable {X : Cx} {P : Nat → Option Addr} {H0 : Hp} {a b c e iter tg : Expr} {st : Stmt} {rest body : List Stmt} {ta tb tc t : DE} {u w : DT} {r s : DS} {pos p : Pos}
theorem dg_name {i : Nat} {x : Str} (hN : X.N.Nodup) (hi : X.N[i]? = some x) (hx : Loc X.env.scope x) (hf : X.fn x = true ∨ X.env.scope.names.lookup x = some .local := by first | exact .inl rfl | exact .inr rfl | assumption) : PG X (.Name x pos) (lG (cx X P H0) [i] (dgName i)) := by
  refine ⟨fun pins s τ H v u Q I r ⟨d, σ, fps, Q', rp, cf, h, k⟩ => (pg_name hN hi hx hf).run pins s τ H v u Q I r ?_⟩
  show Q (τ.set i (some v)) H
  refine k _ _ (fps.set i []) (fun s => set_nil_stp s) (asg_ok (s := .d d) cf ⟨rfl, rp⟩ (fun a ha => (by cases ha)) rfl) ⟨List.length_set, fun j hj => ?_⟩ h
  exact List.getElem?_set_ne fun z => hj (by rw [z]; exact List.mem_singleton.mpr rfl)
theorem dg_tup {es : List Expr} {is : List Nat} {n kk : Nat} (hc : X.calm = true) (hg : PGs X es (gNames is)) (hn : (assignEach es X.env).length = n := by rfl) (hni : is.length = n := by rfl) (hst : (assignEach es X.env).findIdx? (·.1) = none := by rfl) : PG X (.Tuple es kk pos) (lG (cx X P H0) is (dgTup is)) := by
  refine ⟨fun pins s τ H v u Q I r ⟨d, σ, fps, Q', rp, cf, h, k⟩ => (pg_tup hc hg hn hst).run pins s τ H v u Q I r ?_⟩
  cases d with
  | tuple xs =>
    obtain ⟨z, a, vs, rfl, tp, rr⟩ := rp
    cases q : unp σ is xs with
    | none => simp only [dgTup, q] at h
    | some σ2 =>
      simp only [dgTup, q] at h
      obtain ⟨hl, fps', c2, kk⟩ := unp_ok cf rr q
      exact ⟨a, vs, rfl, tp.sq, by rw [hl, hni], gNames_ok hl (k _ _ fps' kk c2 ⟨setsV_length, fun j hj => setsV_out hj⟩ h)⟩
  | _ => exact h.elim

/-! ### for -/
def dFor (di : DI) (g : DG) (tb : DS) : DS := fun e σ => di σ fun items σ1 => ∃ W : Nat → Sg → Prop, W 0 σ1 ∧
  (∀ i d σ2, items[i]? = some d → W i σ2 → g d σ2 fun σ3 => tb { e with nx := W (i + 1), ct := W (i + 1), bk := e.nx } σ3) ∧ ∀ σ2, W items.length σ2 → e.nx σ2
theorem ds_for {di : DI} {is : List Nat} {g : DG} {tb : DS} (hp : PassesOwn (model X.prog X.w) X.A X.env X.xe) (hc : X.calm = true) (hi : PI X tg iter (lI (cx X P H0) di)) (hg : PG X tg (lG (cx X P H0) is g)) (hb : PSs X body (lS (cx X P H0) tb))
    (hs : ∀ x, foldedSetIterable iter X.env x = pure x := by intro _; rfl) : PS X (.For tg iter body [] pos) (lS (cx X P H0) (dFor di g tb)) := by
  refine PS.weak (ps_for hp hc hi hg hb hs) ?_
  rintro E τ H ⟨σ, fps, e, cf, h, k⟩
  refine ⟨σ, fps, _, cf, h, fun J H1 σ1 fps1 items st cf1 jok hz ⟨W, w0, wt, wd⟩ => ?_⟩
  refine ⟨fun i m τ2 H2 => m = items.length - i ∧ i ≤ items.length ∧ ∃ σ2 fps2, Stp H1 fps1 H2 fps2 ∧ Cfg (cx X P H0) H2 σ2 τ2 fps2 ∧ W i σ2, ⟨_, rfl, Nat.zero_le _, σ1, fps1, .refl _ _, cf1, w0⟩, ?_⟩
  rintro i m τ2 H2 ⟨rfl, hi, σ2, fps2, st2, cf2, w⟩
  obtain ⟨go, stop⟩ := jok H2 (cf1.pers st2) i
  by_cases hlt : i < items.length
  · have hd : items[i]? = some items[i] := List.getElem?_eq_getElem hlt
    obtain ⟨g1, g2⟩ := go _ hd
    refine .inr ⟨g1, fun τ' H' => ∃ σ' fps', Stp H1 fps1 H' fps' ∧ Cfg (cx X P H0) H' σ' τ' fps' ∧ W (i + 1) σ', fun τ' H' ⟨σ', fps', s1, c1, w1⟩ => ⟨items.length - (i + 1), by omega, rfl, hlt, σ', fps', s1, c1, w1⟩, fun x H3 y => ?_⟩
    obtain ⟨sm, rp⟩ := g2 x H3 y
    refine ⟨items[i], σ2, fps2, _, rp, cf2.same sm, wt i _ σ2 hd w, fun τ3 σ3 fps3 sk cf3 _ q => ?_⟩
    have st3 : Stp H1 fps1 H3 fps3 := sk (st2.trans (.same sm fps2))
    refine ⟨σ3, fps3, _, cf3, q, ⟨fun τ' H' σ' fps' s1 c1 w1 => ⟨σ', fps', st3.trans s1, c1, w1⟩, (k.go (st.trans st3)).rt, fun τ' H' σ' fps' s1 c1 w1 => k.nx _ _ _ _ (st.trans (st3.trans s1)) c1 w1, fun τ' H' σ' fps' s1 c1 w1 => ⟨σ', fps', st3.trans s1, c1, w1⟩⟩⟩
  · have e : i = items.length := by omega
    subst e
    exact .inl ⟨stop rfl, k.nx _ _ _ _ (st.trans st2) cf2 (wd σ2 w)⟩

/-! ### while -/
def dWhile (c : DT) (tb : DS) : DS := fun e σ => ∃ W : Nat → Sg → Prop, (∃ m, W m σ) ∧ ∀ m σ1, W m σ1 → c σ1 fun b σ2 => (b = true → tb { e with nx := fun σ' => ∃ m', m' < m ∧ W m' σ', ct := fun σ' => ∃ m', m' < m ∧ W m' σ', bk := e.nx } σ2) ∧ (b = false → e.nx σ2)
theorem ds_while {tb : DS} (hp : PassesOwn (model X.prog X.w) X.A X.env X.xe) (hc : PT X c (lT (cx X P H0) u)) (hb : PSs X body (lS (cx X P H0) tb)) : PS X (.While c body [] pos) (lS (cx X P H0) (dWhile u tb)) := by
  refine PS.weak (ps_while hp hc hb) ?_
  rintro E τ H ⟨σ, fps, e, cf, ⟨W, ⟨m0, w0⟩, turn⟩, k⟩
  refine ⟨fun m τ2 H2 => ∃ σ2 fps2, Stp H fps H2 fps2 ∧ Cfg (cx X P H0) H2 σ2 τ2 fps2 ∧ W m σ2, ⟨m0, σ, fps, .refl _ _, cf, w0⟩, ?_⟩
  rintro m τ2 H2 ⟨σ2, fps2, st2, cf2, w⟩
  refine ⟨σ2, fps2, _, cf2, turn m σ2 w, fun b H3 ⟨σ3, fps3, st3, cf3, h3⟩ => ?_⟩
  cases b with
  | false => exact iteF (k.nx _ _ _ _ (st2.trans st3) cf3 (h3.2 rfl))
  | true =>
    have s3 := st2.trans st3
    refine iteT ⟨fun τ' H' => ∃ m', m' < m ∧ ∃ σ' fps', Stp H fps H' fps' ∧ Cfg (cx X P H0) H' σ' τ' fps' ∧ W m' σ', fun τ' H' ⟨m', hm, r⟩ => ⟨m', hm, r⟩, σ3, fps3, _, cf3, h3.1 rfl, ⟨?_, (k.go s3).rt, fun τ' H' σ' fps' s1 c1 w1 => k.nx _ _ _ _ (s3.trans s1) c1 w1, ?_⟩⟩
    · rintro τ' H' σ' fps' s1 c1 ⟨m', hm, w1⟩
      exact ⟨m', hm, σ', fps', s3.trans s1, c1, w1⟩
    · rintro τ' H' σ' fps' s1 c1 ⟨m', hm, w1⟩
      exact ⟨m', hm, σ', fps', s3.trans s1, c1, w1⟩

/-! ### list comprehensions -/
def wipeS (σ : Sg) : List Nat → Sg
  | [] => σ
  | v :: vs => (wipeS σ vs).set v none
def wipeF (fps : List (List Addr)) : List Nat → List (List Addr)
  | [] => fps
  | v :: vs => (wipeF fps vs).set v []
theorem cfg_wipe {C : Ctx} {H : Hp} {σ : Sg} {τ : L2.St} {fps : List (List Addr)} (cf : Cfg C H σ τ fps) : ∀ vs : List Nat, Cfg C H (wipeS σ vs) (wipe τ vs) (wipeF fps vs)
  | [] => cf
  | v :: vs =>
    let c := cfg_wipe cf vs
    ⟨c.rel.set (o := none) (v := none) (f := []) v rfl, nodup_flat_set List.nodup_nil c.nd (fun a ha => (by cases ha)), c.dom⟩
theorem stp_wipe {G H : Hp} {gps fps : List (List Addr)} (s : Stp G gps H fps) : ∀ vs : List Nat, Stp G gps H (wipeF fps vs)
  | [] => s
  | v :: vs => set_nil_stp (stp_wipe s vs)
/-- the comprehension's own names stand as before -/
def mergeS (σ1 ρ : Sg) : List Nat → Sg
  | [] => ρ
  | v :: vs => (mergeS σ1 ρ vs).set v (slot σ1 v)
def mergeV (τ1 τw : L2.St) : List Nat → L2.St
  | [] => τw
  | v :: vs => (mergeV τ1 τw vs).set v (τ1[v]?).join
def plS : Option S → Bool
  | none => true
  | some (.d _) => true
  | _ => false
def pl (σ : Sg) : List Nat → Bool
  | [] => true
  | v :: vs => plS (slot σ v) && pl σ vs
theorem wipe_in {τ : L2.St} : ∀ {vs : List Nat} {j : Nat}, j ∈ vs → (wipe τ vs)[j]? = if j < τ.length then some none else none
  | v :: vs, j, h => by
    unfold wipe
    by_cases e : v = j
    · subst e
      by_cases hl : v < τ.length
      · rw [List.getElem?_set_self (by rw [wipe_length]; exact hl), if_pos hl]
      · rw [List.getElem?_eq_none (by rw [List.length_set, wipe_length]; omega), if_neg hl]
    · rw [List.getElem?_set_ne e]
      exact wipe_in ((List.mem_cons.mp h).resolve_left fun z => e z.symm)
theorem mergeV_length (τ1 τw : L2.St) : ∀ vs : List Nat, (mergeV τ1 τw vs).length = τw.length
  | [] => rfl
  | v :: vs => by unfold mergeV; rw [List.length_set, mergeV_length τ1 τw vs]
theorem mergeV_at {τ1 τw : L2.St} (hl : τw.length = τ1.length) : ∀ {vs : List Nat} {j : Nat}, (mergeV τ1 τw vs)[j]? = if j ∈ vs then τ1[j]? else τw[j]?
  | [], j => by simp [mergeV]
  | v :: vs, j => by
    unfold mergeV
    by_cases e : v = j
    · subst e
      rw [if_pos List.mem_cons_self]
      by_cases h : v < τ1.length
      · rw [List.getElem?_set_self (by rw [mergeV_length]; omega), List.getElem?_eq_getElem h]
        rfl
      · rw [List.getElem?_eq_none (by rw [List.length_set, mergeV_length]; omega), List.getElem?_eq_none (by omega)]
    · rw [List.getElem?_set_ne e, mergeV_at hl]
      by_cases h : j ∈ vs
      · rw [if_pos h, if_pos (List.mem_cons_of_mem _ h)]
      · rw [if_neg h, if_neg (fun z => (List.mem_cons.mp z).elim (fun q => e q.symm) h)]
theorem mergeV_wipe (τ : L2.St) (vs : List Nat) : mergeV τ (wipe τ vs) vs = τ := by
  refine List.ext_getElem? fun j => ?_
  rw [mergeV_at (wipe_length τ vs)]
  by_cases h : j ∈ vs
  · rw [if_pos h]
  · rw [if_neg h, wipe_out h]
theorem wipe_eq {τ τ' : L2.St} {is vs : List Nat} (hl : τ'.length = τ.length) (h : ∀ j, j ∉ is → τ'[j]? = τ[j]?) (hs : ∀ j ∈ is, j ∈ vs) : wipe τ' vs = wipe τ vs := by
  refine List.ext_getElem? fun j => ?_
  by_cases hj : j ∈ vs
  · rw [wipe_in hj, wipe_in hj, hl]
  · rw [wipe_out hj, wipe_out hj]
    exact h j fun z => hj (hs j z)
theorem wipe_wipe (τ : L2.St) (vs : List Nat) : wipe (wipe τ vs) vs = wipe τ vs := by
  refine List.ext_getElem? fun j => ?_
  by_cases hj : j ∈ vs
  · rw [wipe_in hj, wipe_in hj, wipe_length]
  · rw [wipe_out hj]
theorem or_pl {C : Ctx} {H H' : Hp} {σ : Sg} {τ : L2.St} {fps : List (List Addr)} {v : Nat} (cf : Cfg C H σ τ fps) (p : Pers H H') (h : plS (slot σ v) = true) : OR C H' (slot σ v) (τ[v]?).join [] := by
  cases q : slot σ v with
  | none => exact rfl
  | some s =>
    rw [q] at h
    cases s with
    | d x =>
      obtain ⟨u, f, e1, e2, e3⟩ := cf.rel.at (slot_eq q)
      rw [e1]
      exact ⟨rfl, Rep.mono p _ _ e3.2⟩
    | _ => cases h
theorem cfg_merge {C : Ctx} {H H' : Hp} {σ1 ρ : Sg} {τ1 τw : L2.St} {fps1 fps : List (List Addr)} (c1 : Cfg C H σ1 τ1 fps1) (p : Pers H H') (c : Cfg C H' ρ τw fps) : ∀ {vs : List Nat}, pl σ1 vs = true → ∃ fps', Cfg C H' (mergeS σ1 ρ vs) (mergeV τ1 τw vs) fps' ∧ ∀ {G : Hp} {gps : List (List Addr)}, Stp G gps H' fps → Stp G gps H' fps'
  | [], _ => ⟨fps, c, fun s => s⟩
  | v :: vs, h => by
    have h' : (plS (slot σ1 v) && pl σ1 vs) = true := h
    rw [Bool.and_eq_true] at h'
    obtain ⟨fps', c2, k⟩ := cfg_merge c1 p c (vs := vs) h'.2
    exact ⟨fps'.set v [], ⟨c2.rel.set v (or_pl c1 p h'.1), nodup_flat_set List.nodup_nil c2.nd (fun a ha => (by cases ha)), c2.dom⟩, fun s => set_nil_stp (k s)⟩

/-- a comprehension's tests: none, or one -/
def dYes : DT := fun σ Q => Q true σ
def dLc (di : DI) (g : DG) (tt : DT) (te : DE) (vs : List Nat) : DE := fun σ Q => di σ fun items σ1 => pl σ1 vs = true ∧ ∃ W : Nat → List PyData → Sg → Prop, W 0 [] (wipeS σ1 vs) ∧
  (∀ i d acc ρ, items[i]? = some d → W i acc ρ → g d ρ fun ρ2 => tt ρ2 fun b ρ3 => (b = true → te ρ3 fun s ρ4 => match s with
    | .d y => W (i + 1) (acc ++ [y]) (wipeS ρ4 vs)
    | _ => False) ∧ (b = false → W (i + 1) acc (wipeS ρ3 vs))) ∧ ∀ acc ρ, W items.length acc ρ → Q (.own acc) (mergeS σ1 ρ vs)
theorem lc_ok {C : Ctx} {di : DI} {is : List Nat} {g : DG} {tt : DT} {te : DE} {vs : List Nat} (hv : ∀ j ∈ is, j ∈ vs) (τ : L2.St) (H : Hp) (QV : VK) (h : lE C (dLc di g tt te vs) τ H QV) : tLc (lI C di) (lG C is g) (lT C tt) (lE C te) vs τ H QV := by
  obtain ⟨σ, fps, Q, cf, h, k⟩ := h
  refine ⟨σ, fps, _, cf, h, fun J H1 σ1 fps1 items st cf1 jok hz ⟨hpl, W, w0, wt, wd⟩ D nD => ?_⟩
  have s0 : Same H1 (upd H1 D (.lst [])) := same_upd nD
  refine ⟨fun i m H2 => m = items.length - i ∧ i ≤ items.length ∧ ∃ acc ρ fps2 av, (∀ a o, H1 a = some o → a ∉ (wipeF fps1 vs).flatten → H2 a = some o) ∧ (∀ a ∈ fps2.flatten, a ∈ (wipeF fps1 vs).flatten ∨ H1 a = none) ∧ (∀ a, H2 a = none → H1 a = none) ∧
    Cfg C H2 ρ (wipe τ vs) fps2 ∧ H2 D = some (.lst av) ∧ Reps C.K H2 acc av ∧ acc.length ≤ i ∧ D ∉ fps2.flatten ∧ W i acc ρ, ⟨_, rfl, Nat.zero_le _, [], wipeS σ1 vs, wipeF fps1 vs, [], fun a o e _ => s0 a o e, fun a h => .inl h, DL.Same.un s0, (cfg_wipe cf1 vs).same s0, upd_same, rfl, Nat.le_refl _, fun z => ?_, w0⟩, ?_⟩
  · obtain ⟨us, e⟩ := (cfg_wipe cf1 vs).rel.mut D z
    rw [nD] at e
    cases e
  rintro i m H2 ⟨rfl, hi, acc, ρ, fps2, av, fr, gr, un, cf2, eD, rD, hacc, oD, w⟩
  have stA : Stp H1 (wipeF fps1 vs) H2 fps2 := ⟨fr, gr, un⟩
  have p12 : Pers H1 H2 := (cfg_wipe cf1 vs).pers stA
  obtain ⟨go, stop⟩ := jok H2 p12 i
  by_cases hlt : i < items.length
  · have hd : items[i]? = some items[i] := List.getElem?_eq_getElem hlt
    obtain ⟨g1, g2⟩ := go _ hd
    refine .inr ⟨g1, fun H' => ∃ acc' ρ' fps' av', (∀ a o, H1 a = some o → a ∉ (wipeF fps1 vs).flatten → H' a = some o) ∧ (∀ a ∈ fps'.flatten, a ∈ (wipeF fps1 vs).flatten ∨ H1 a = none) ∧ (∀ a, H' a = none → H1 a = none) ∧
      Cfg C H' ρ' (wipe τ vs) fps' ∧ H' D = some (.lst av') ∧ Reps C.K H' acc' av' ∧ acc'.length ≤ i + 1 ∧ D ∉ fps'.flatten ∧ W (i + 1) acc' ρ',
      fun H' ⟨acc', ρ', fps', av', x⟩ => ⟨items.length - (i + 1), by omega, rfl, hlt, acc', ρ', fps', av', x⟩, fun x H3 y => ?_⟩
    obtain ⟨sm, rp⟩ := g2 x H3 y
    refine ⟨items[i], ρ, fps2, _, rp, cf2.same sm, wt i _ acc ρ hd w, fun τ3 ρ3 fps3 sk cf3 ⟨el, eo⟩ q => ?_⟩
    have ew : wipe τ3 vs = wipe τ vs := (wipe_eq el eo hv).trans (wipe_wipe τ vs)
    have st23 : Stp H2 fps2 H3 fps3 := sk (.same sm fps2)
    refine ⟨ew, ρ3, fps3, _, cf3, q, fun b H4 ⟨ρ4, fps4, st4, cf4, q4⟩ => ?_⟩
    have st24 := st23.trans st4
    have eD4 : H4 D = some (.lst av) := st24.fr D _ eD oD
    have oD4 : D ∉ fps4.flatten := fun z => (st24.gr D z).elim oD fun z => by rw [eD] at z; cases z
    have p24 : Pers H2 H4 := cf2.pers st24
    cases b with
    | false =>
      refine iteF ⟨acc, wipeS ρ4 vs, wipeF fps4 vs, av, (stA.trans (stp_wipe st24 vs)).fr, (stA.trans (stp_wipe st24 vs)).gr, (stA.trans st24).un, by rw [← ew]; exact cfg_wipe cf4 vs, eD4, Reps.mono p24 _ _ rD, by omega, fun z => ?_, q4.2 rfl⟩
      obtain ⟨us, e⟩ := (cfg_wipe cf4 vs).rel.mut D z
      exact ((stp_wipe (.refl H4 fps4) vs).gr D z).elim oD4 fun q => by rw [eD4] at q; cases q
    | true =>
      refine iteT ⟨ρ4, fps4, _, cf4, q4.1 rfl, fun yv H5 ⟨sy, ρ5, fps5, fy, st5, cf5, vy, ny, q5⟩ => ?_⟩
      cases sy with
      | d y =>
        have st25 := st24.trans st5
        have eD5 : H5 D = some (.lst av) := st25.fr D _ eD oD
        have oD5 : D ∉ fps5.flatten := fun z => (st25.gr D z).elim oD fun z => by rw [eD] at z; cases z
        have p25 : Pers H2 H5 := cf2.pers st25
        have rD5 := Reps.mono p25 _ _ rD
        have hlen := rD5.length
        refine ⟨av, eD5, by omega, acc ++ [y], wipeS ρ5 vs, wipeF fps5 vs, av ++ [yv], fun a o e n => ?_, (stA.trans (stp_wipe st25 vs)).gr, fun a h => ?_, ?_, upd_same, Reps.mono (pers_lst eD5) _ _ (rD5.append (.one vy.2)), by rw [List.length_append]; simp only [List.length_cons, List.length_nil]; omega, fun z => ?_, q5⟩
        · rw [upd_ne (fun z => by rw [z, nD] at e; cases e)]
          exact (stA.trans st25).fr a o e n
        · by_cases z : a = D
          · rw [z]; exact nD
          · rw [upd_ne z] at h; exact (stA.trans st25).un a h
        · have c6 := cfg_wipe cf5 vs
          rw [ew] at c6
          have oD6 : D ∉ (wipeF fps5 vs).flatten := fun z => ((stp_wipe (.refl H5 fps5) vs).gr D z).elim oD5 fun q => by rw [eD5] at q; cases q
          refine ⟨c6.rel.keep (pers_lst eD5) fun b hb => upd_ne (fun z => oD6 (by rw [← z]; exact hb)), c6.nd, fun a h => ?_⟩
          by_cases z : a = D
          · rw [z, upd_same] at h; cases h
          · rw [upd_ne z] at h; exact c6.dom a h
        · exact ((stp_wipe (.refl H5 fps5) vs).gr D z).elim oD5 fun q => by rw [eD5] at q; cases q
      | _ => exact q5.elim
  · have e : i = items.length := by omega
    subst e
    refine .inl ⟨stop rfl, ?_⟩
    obtain ⟨fps', c6, k6⟩ := cfg_merge cf1 p12 cf2 hpl
    rw [mergeV_wipe] at c6
    have stB : Stp H1 fps1 H2 fps' := k6 ((stp_wipe (.refl H1 fps1) vs).trans stA)
    refine k _ _ ⟨.own acc, mergeS σ1 ρ vs, fps', [D], st.trans stB, c6, ⟨by omega, D, av, rfl, rfl, cf1.dom D nD, eD, rD⟩, fun b hb => ?_, wd acc ρ w⟩
    rw [List.mem_singleton.mp hb]
    refine ⟨st.un D nD, fun z => ?_⟩
    have : Stp H2 fps2 H2 fps' := k6 (.refl _ _)
    exact (this.gr D z).elim oD fun q => by rw [eD] at q; cases q
theorem de_lc {elt : Expr} {ifs : List Expr} {scope : Scope} {own : List (Str × Nat)} {di : DI} {is : List Nat} {g : DG} {tt : DT} {te : DE} (hc : X.calm = true) (hN : X.N.Nodup) (hi : PI X tg iter (lI (cx X P H0) di)) (ok : BlkOk X.N X.env.scope scope own)
    (hg : ∀ (s : Shared) (H : Hp) (C : Addr) (cl : List (Str × Addr)) (fp : List Addr), PG (X.blk s H scope (compEnvC scope cl C X.env) fp) tg (lG (cx X P H0) is g)) (ht : ∀ (s : Shared) (H : Hp) (C : Addr) (cl : List (Str × Addr)) (fp : List Addr), PTs (X.blk s H scope (compEnvC scope cl C X.env) fp) ifs (lT (cx X P H0) tt))
    (he : ∀ (s : Shared) (H : Hp) (C : Addr) (cl : List (Str × Addr)) (fp : List Addr), PE (X.blk s H scope (compEnvC scope cl C X.env) fp) elt (lE (cx X P H0) te)) (hv : ∀ j ∈ is, j ∈ own.map (·.2)) (hs : ∀ x, foldedSetIterable iter X.env x = pure x := by intro _; rfl) :
    PE X (.ListComp elt [⟨tg, iter, ifs, 0⟩] scope pos) (lE (cx X P H0) (dLc di g tt te (own.map (·.2)))) := PE.weak (pe_lc hc hN hi ok hg ht he hs) (lc_ok hv)
theorem ds_setLc {i : Nat} {y : Str} {py spos : Pos} {elt : Expr} {ifs : List Expr} {scope : Scope} {own : List (Str × Nat)} {di : DI} {is : List Nat} {g : DG} {tt : DT} {te : DE} (hc : X.calm = true) (hN : X.N.Nodup) (hy : X.N[i]? = some y) (hyl : X.env.scope.names.lookup y = some .local)
    (hsw : swapsWith (.ListComp elt [⟨tg, iter, ifs, 0⟩] scope pos) (some (.Name y py)) spos.line X.env = pure true) (hi : PI X tg iter (lI (cx X P H0) di)) (ok : BlkOk X.N X.env.scope scope own)
    (hg : ∀ (s : Shared) (H : Hp) (C : Addr) (cl : List (Str × Addr)) (fp : List Addr), PG (X.blk s H scope (compEnvC scope cl C X.env) fp) tg (lG (cx X P H0) is g)) (ht : ∀ (s : Shared) (H : Hp) (C : Addr) (cl : List (Str × Addr)) (fp : List Addr), PTs (X.blk s H scope (compEnvC scope cl C X.env) fp) ifs (lT (cx X P H0) tt))
    (he : ∀ (s : Shared) (H : Hp) (C : Addr) (cl : List (Str × Addr)) (fp : List Addr), PE (X.blk s H scope (compEnvC scope cl C X.env) fp) elt (lE (cx X P H0) te)) (hv : ∀ j ∈ is, j ∈ own.map (·.2)) (hs : ∀ x, foldedSetIterable iter X.env x = pure x := by intro _; rfl) :
    PS X (.Assign [.Name y py] (.ListComp elt [⟨tg, iter, ifs, 0⟩] scope pos) spos) (lS (cx X P H0) (dSet i (dLc di g tt te (own.map (·.2))))) := by
  refine PS.weak (ps_setLc hc hN hy hyl hsw hi ok hg ht he hs) fun E τ H h => ?_
  obtain ⟨σ, fps, e, cf, h, k⟩ := h
  refine lc_ok hv τ H _ ⟨σ, fps, _, cf, h, fun v H1 ⟨sx, σ1, fps1, f, st, cf1, vr, nf, h1⟩ => ?_⟩
  cases q : asg σ1 i sx with
  | none => simp only [q] at h1
  | some σ2 =>
    simp only [q] at h1
    exact k.nx _ _ _ _ (stp_set st fun a ha => (nf a ha).1) (asg_ok cf1 vr (fun a ha => (nf a ha).2) q) h1
theorem dts_nil : PTs X [] (lT (cx X P H0) dYes) := ⟨fun pins s τ H Q I ⟨σ, fps, Q', cf, h, k⟩ => pts_nil.run pins s τ H Q I (k true H ⟨σ, fps, .refl _ _, cf, h⟩)⟩
theorem dts_one (h : PT X c (lT (cx X P H0) u)) : PTs X [c] (lT (cx X P H0) u) := pts_one h
end
end DL

set_option Elab.async false
set_option linter.all false
set_option maxRecDepth 100000
set_option maxHeartbeats 4000000
/-! DL7: defs over data: what a def promises, its call, its body. -/
namespace DL
open PySem PySem.Spec PyProof.Rows L2

/-- a promise: the arguments (data, or lists that are lent), what is wanted of the answer and of the arguments behind it -/
abbrev DSp := List S → (S → List S → Prop) → Prop
def AR (K : PySem.W.Frag) (H : Hp) : S → V → List Addr → Prop
  | .d x, v, f => f = [] ∧ Rep K H x v
  | .own xs, v, f => xs.length ≤ sizeLine ∧ ∃ a vs, v = .ref a ∧ f = [a] ∧ H a = some (.lst vs) ∧ Reps K H xs vs
  | _, _, _ => False
def ARs (K : PySem.W.Frag) (H : Hp) : List S → List V → List (List Addr) → Prop
  | [], [], [] => True
  | s :: ss, v :: vs, f :: fs => AR K H s v f ∧ ARs K H ss vs fs
  | _, _, _ => False
def ResR (K : PySem.W.Frag) (H H' : Hp) : S → V → Prop
  | .d x, v => Rep K H' x v
  | .own xs, v => xs.length ≤ sizeLine ∧ ∃ a us, v = .ref a ∧ H a = none ∧ H' a = some (.lst us) ∧ Reps K H' xs us
  | _, _ => False
def PostF (K : PySem.W.Frag) (H : Hp) (fps : List (List Addr)) (vs : List V) (R : S → List S → Prop) (v : V) (H' : Hp) : Prop :=
  ∃ s ss', (∀ a o, H a = some o → a ∉ fps.flatten → H' a = some o) ∧ (∀ a, H' a = none → H a = none) ∧ ARs K H' ss' vs fps ∧ ResR K H H' s v ∧ R s ss'
def lSp (K : PySem.W.Frag) (sp : DSp) : Sp := fun vs H Q _ => ∃ ss fps R, ARs K H ss vs fps ∧ fps.flatten.Nodup ∧ sp ss R ∧ ∀ v H', PostF K H fps vs R v H' → Q v H'
theorem ARs.len {K : PySem.W.Frag} {H : Hp} : ∀ {ss : List S} {vs : List V} {fps : List (List Addr)}, ARs K H ss vs fps → ss.length = vs.length ∧ fps.length = vs.length
  | [], [], [], _ => ⟨rfl, rfl⟩
  | s :: ss, v :: vs, f :: fs, h => by
    obtain ⟨a, b⟩ := ARs.len h.2
    simp only [List.length_cons]
    omega
  | [], [], _ :: _, h => (show False from h).elim
  | [], _ :: _, _, h => (show False from h).elim
  | _ :: _, [], _, h => (show False from h).elim
  | _ :: _, _ :: _, [], h => (show False from h).elim

/-! ### a call -/
def brws : List S → List Nat
  | [] => []
  | .brw i :: r => i :: brws r
  | _ :: r => brws r
def nodupB : List Nat → Bool
  | [] => true
  | x :: xs => !xs.contains x && nodupB xs
theorem vrs_nil {C : Ctx} {H : Hp} {τ : L2.St} {vs : List V} {f : List Addr} (h : VRs C H τ [] vs f) : vs = [] ∧ f = [] := h
theorem nodupB_iff : ∀ {xs : List Nat}, nodupB xs = true → xs.Nodup
  | [], _ => List.nodup_nil
  | x :: xs, h => by
    have h' : (!xs.contains x && nodupB xs) = true := h
    rw [Bool.and_eq_true] at h'
    exact List.nodup_cons.mpr ⟨fun z => by simp [z] at h', nodupB_iff h'.2⟩
def lend (σ : Sg) : List S → Option (List S)
  | [] => some []
  | .d x :: r => match lend σ r with
    | some ss => some (.d x :: ss)
    | none => none
  | .brw i :: r => match getL σ i with
    | some xs => match lend σ r with
      | some ss => some (.own xs :: ss)
      | none => none
    | none => none
  | _ => none
def back (σ : Sg) : List S → List S → Option Sg
  | [], [] => some σ
  | .d _ :: ss, _ :: as => back σ ss as
  | .brw i :: ss, .own ys :: as => match putL σ i ys with
    | some σ2 => back σ2 ss as
    | none => none
  | _, _ => none
def dCall (sp : DSp) (t : DA) : DE := fun σ Q => t σ fun ss σ1 => match lend σ1 ss with
  | some args => nodupB (brws ss) = true ∧ sp args fun r args' => match back σ1 ss args' with
    | some σ2 => Q r σ2
    | none => False
  | none => False
theorem flat_disj {f g : List Addr} {a : Addr} : ∀ {l : List (List Addr)} {i j : Nat}, l.flatten.Nodup → l[i]? = some f → l[j]? = some g → a ∈ f → a ∈ g → i = j
  | [], _, _, _, e, _, _, _ => by simp at e
  | x :: l, 0, 0, _, _, _, _, _ => rfl
  | x :: l, 0, j + 1, n, e1, e2, h1, h2 => by
    simp at e1
    subst e1
    rw [List.flatten_cons] at n
    exact ((List.nodup_append.mp n).2.2 a h1 a (mem_flat (by simpa using e2) a h2) rfl).elim
  | x :: l, i + 1, 0, n, e1, e2, h1, h2 => by
    simp at e2
    subst e2
    rw [List.flatten_cons] at n
    exact ((List.nodup_append.mp n).2.2 a h2 a (mem_flat (by simpa using e1) a h1) rfl).elim
  | x :: l, i + 1, j + 1, n, e1, e2, h1, h2 => by
    rw [List.flatten_cons] at n
    have := flat_disj (l := l) (i := i) (j := j) (List.nodup_append.mp n).2.1 (by simpa using e1) (by simpa using e2) h1 h2
    rw [this]
theorem lend_ok {C : Ctx} {H : Hp} {σ : Sg} {τ : L2.St} {fps : List (List Addr)} (cf : Cfg C H σ τ fps) : ∀ {ss args : List S} {vs : List V} {f : List Addr}, VRs C H τ ss vs f → lend σ ss = some args → (brws ss).Nodup →
    ∃ fa, ARs C.K H args vs fa ∧ fa.flatten.Nodup ∧ ∀ a ∈ fa.flatten, ∃ i ∈ brws ss, fps[i]? = some [a]
  | [], args, vs, f, h, e, _ => by
    cases e
    obtain ⟨rfl, _⟩ := vrs_nil h
    exact ⟨[], trivial, List.nodup_nil, fun a ha => by cases ha⟩
  | s :: ss, args, vs, f, h, e, n => by
    obtain ⟨v, r, g, k, rfl, rfl, h1, h2⟩ := h
    cases s with
    | d x =>
      cases q : lend σ ss with
      | none => simp only [lend, q] at e; cases e
      | some as =>
        simp only [lend, q] at e
        cases e
        obtain ⟨fa, a1, a2, a3⟩ := lend_ok cf h2 q n
        exact ⟨[] :: fa, ⟨⟨rfl, h1.2⟩, a1⟩, by rw [List.flatten_cons, List.nil_append]; exact a2, fun a ha => by rw [List.flatten_cons, List.nil_append] at ha; exact a3 a ha⟩
    | brw i =>
      cases q0 : getL σ i with
      | none => simp only [lend, q0] at e; cases e
      | some xs =>
        cases q : lend σ ss with
        | none => simp only [lend, q0, q] at e; cases e
        | some as =>
          simp only [lend, q0, q] at e
          cases e
          have n' : (i :: brws ss).Nodup := n
          obtain ⟨n1, n2⟩ := List.nodup_cons.mp n'
          obtain ⟨fa, a1, a2, a3⟩ := lend_ok cf h2 q n2
          obtain ⟨a0, us, e0, e1, e2, r', z⟩ := getL_at cf q0
          have hv := h1.2
          rw [e0] at hv
          cases hv
          refine ⟨[a0] :: fa, ⟨⟨z, a0, us, rfl, rfl, e2, r'⟩, a1⟩, ?_, fun a ha => ?_⟩
          · rw [List.flatten_cons, List.singleton_append]
            refine List.nodup_cons.mpr ⟨fun hm => ?_, a2⟩
            obtain ⟨j, hj, ej⟩ := a3 a0 hm
            have := flat_disj cf.nd e1 ej (List.mem_singleton.mpr rfl) (List.mem_singleton.mpr rfl)
            exact n1 (this ▸ hj)
          · rw [List.flatten_cons, List.singleton_append] at ha
            rcases List.mem_cons.mp ha with rfl | ha
            · exact ⟨i, List.mem_cons_self, e1⟩
            · obtain ⟨j, hj, ej⟩ := a3 a ha
              exact ⟨j, List.mem_cons_of_mem _ hj, ej⟩
    | own xs => simp only [lend] at e; cases e
    | par j xs => simp only [lend] at e; cases e
/-- the relation place by place -/
structure PtR (C : Ctx) (H H' : Hp) (σ : Sg) (τ : L2.St) (fps : List (List Addr)) (L : List Nat) : Prop where
  l1 : σ.length = τ.length
  l2 : fps.length = τ.length
  at_ : ∀ (i : Nat) o v f, σ[i]? = some o → τ[i]? = some v → fps[i]? = some f → (i ∈ L → OR C H o v f) ∧ (i ∉ L → OR C H' o v f)
theorem StR.pt {C : Ctx} {H : Hp} : ∀ {σ : Sg} {τ : L2.St} {fps : List (List Addr)}, StR C H σ τ fps → ∀ (i : Nat) o v f, σ[i]? = some o → τ[i]? = some v → fps[i]? = some f → OR C H o v f
  | [], [], [], _, i, _, _, _, e, _, _ => by simp at e
  | o :: os, v :: vs, f :: fs, h, 0, _, _, _, e1, e2, e3 => by
    simp at e1 e2 e3
    subst e1 e2 e3
    exact h.1
  | o :: os, v :: vs, f :: fs, h, i + 1, _, _, _, e1, e2, e3 => StR.pt h.2 i _ _ _ (by simpa using e1) (by simpa using e2) (by simpa using e3)
  | [], [], _ :: _, h, _, _, _, _, _, _, _ => (show False from h).elim
  | [], _ :: _, _, h, _, _, _, _, _, _, _ => (show False from h).elim
  | _ :: _, [], _, h, _, _, _, _, _, _, _ => (show False from h).elim
  | _ :: _, _ :: _, [], h, _, _, _, _, _, _, _ => (show False from h).elim
theorem StR.of_pt {C : Ctx} {H : Hp} : ∀ {σ : Sg} {τ : L2.St} {fps : List (List Addr)}, σ.length = τ.length → fps.length = τ.length → (∀ (i : Nat) o v f, σ[i]? = some o → τ[i]? = some v → fps[i]? = some f → OR C H o v f) → StR C H σ τ fps
  | [], [], [], _, _, _ => trivial
  | o :: os, v :: vs, f :: fs, h1, h2, h => ⟨h 0 o v f rfl rfl rfl, StR.of_pt (by simpa using h1) (by simpa using h2) fun i o v f e1 e2 e3 => h (i + 1) o v f (by simpa using e1) (by simpa using e2) (by simpa using e3)⟩
  | [], [], _ :: _, _, h, _ => by simp at h
  | [], _ :: _, _, h, _, _ => by simp at h
  | _ :: _, [], _, h, _, _ => by simp at h
  | _ :: _, _ :: _, [], _, h, _ => by simp at h
theorem back_ok {C : Ctx} {H H' : Hp} {τ : L2.St} {fps : List (List Addr)} {G : Hp} : ∀ {ss as : List S} {vs : List V} {f : List Addr} {fa : List (List Addr)} {σ σ2 : Sg}, VRs C G τ ss vs f → ARs C.K H' as vs fa → (brws ss).Nodup → back σ ss as = some σ2 →
    (∀ i ∈ brws ss, ∀ a v, τ[i]? = some (some v) → v = .ref a → ∀ g, g ∈ fa → True) → PtR C H H' σ τ fps (brws ss) → PtR C H H' σ2 τ fps []
  | [], [], _, _, _, σ, σ2, _, _, _, e, _, p => by
    cases e
    exact p
  | [], a :: as, _, _, _, _, _, _, _, _, e, _, _ => by simp only [back] at e; cases e
  | s :: ss, [], _, _, _, _, _, h, g, _, e, _, _ => by
    cases s with
    | brw i => simp only [back] at e; cases e
    | d x => simp only [back] at e; cases e
    | own x => simp only [back] at e; cases e
    | par j x => simp only [back] at e; cases e
  | s :: ss, a :: as, vs, f, fa, σ, σ2, h, g, n, e, _, p => by
    obtain ⟨v, r, gg, k, rfl, rfl, h1, h2⟩ := h
    cases fa with
    | nil => exact (show False from g).elim
    | cons f0 fs =>
      cases s with
      | d x =>
        simp only [back] at e
        exact back_ok h2 g.2 n e (fun _ _ _ _ _ _ _ _ => trivial) p
      | brw i =>
        cases a with
        | own ys =>
          cases q : putL σ i ys with
          | none => simp only [back, q] at e; cases e
          | some σ1 =>
            simp only [back, q] at e
            have n' : (i :: brws ss).Nodup := n
            obtain ⟨n1, n2⟩ := List.nodup_cons.mp n'
            refine back_ok h2 g.2 n2 e (fun _ _ _ _ _ _ _ _ => trivial) ?_
            have p' : PtR C H H' σ τ fps (i :: brws ss) := p
            have hv : τ[i]? = some (some v) := h1.2
            obtain ⟨z, a0, us, rfl, _, e2, r'⟩ := g.1
            -- what stood at the slot
            unfold putL at q
            cases qs : slot σ i with
            | none => rw [qs] at q; cases q
            | some s0 =>
              rw [qs] at q
              have hs := slot_eq qs
              have hi : i < σ.length := (List.getElem?_eq_some_iff.mp hs).1
              have hfi : ∃ f1, fps[i]? = some f1 := ⟨fps[i]'(by rw [p'.l2, ← p'.l1]; exact hi), List.getElem?_eq_getElem _⟩
              obtain ⟨f1, hf1⟩ := hfi
              have old := (p'.at_ i _ _ _ hs hv hf1).1 List.mem_cons_self
              have fin : ∀ s : S, σ1 = σ.set i (some s) → SR C H' s (.ref a0) f1 → PtR C H H' σ1 τ fps (brws ss) := fun s es hsr => by
                subst es
                refine ⟨by rw [List.length_set]; exact p'.l1, p'.l2, fun j o v f e1 e3 e4 => ?_⟩
                by_cases hj : i = j
                · subst hj
                  rw [List.getElem?_set_self hi] at e1
                  cases e1
                  rw [hv] at e3
                  cases e3
                  rw [hf1] at e4
                  cases e4
                  exact ⟨fun z => (n1 z).elim, fun _ => hsr⟩
                · rw [List.getElem?_set_ne hj] at e1
                  obtain ⟨b1, b2⟩ := p'.at_ j _ _ _ e1 e3 e4
                  exact ⟨fun z => b1 (List.mem_cons_of_mem _ z), fun z => b2 fun w => (List.mem_cons.mp w).elim (fun y => hj y.symm) z⟩
              cases s0 with
              | own xs =>
                obtain ⟨_, a1, us1, ea, ef, e5, _, _⟩ := (show SR C H (.own xs) (.ref a0) f1 from old)
                cases ea
                exact fin _ (Option.some.inj q).symm ⟨z, a0, us, rfl, ef, e5, e2, r'⟩
              | par j xs =>
                obtain ⟨_, a1, us1, ea, ef, e5, _, _⟩ := (show SR C H (.par j xs) (.ref a0) f1 from old)
                cases ea
                exact fin _ (Option.some.inj q).symm ⟨z, a0, us, rfl, ef, e5, e2, r'⟩
              | d y => cases q
              | brw j => cases q
        | _ => simp only [back] at e; cases e
      | _ => simp only [back] at e; cases e
theorem call_ok {C : Ctx} {n : Nat} {sp : DSp} {t : DA} {E : XK} (τ : L2.St) (H : Hp) (QV : VK) (h : lE C (dCall sp t) τ H QV) : tCall (lSp C.K sp) [] E (lAn C n t) τ H QV := by
  obtain ⟨σ, fps, Q, cf, h, k⟩ := h
  refine ⟨σ, fps, _, cf, h, fun vs H1 ⟨ss, σ1, fps1, f, st, cf1, vr, nd, nf, hl, h1⟩ => ?_⟩
  show lSp C.K sp (vs ++ []) H1 QV E
  rw [List.append_nil]
  cases q : lend σ1 ss with
  | none => simp only [q] at h1
  | some args =>
    simp only [q] at h1
    obtain ⟨hb, h2⟩ := h1
    have hn := nodupB_iff hb
    obtain ⟨fa, a1, a2, a3⟩ := lend_ok cf1 vr q hn
    refine ⟨args, fa, _, a1, a2, h2, fun v H2 ⟨s, ss', fr, un, ar, rr, hq⟩ => ?_⟩
    cases qb : back σ1 ss ss' with
    | none => simp only [qb] at hq
    | some σ2 =>
      simp only [qb] at hq
      have faf : ∀ a ∈ fa.flatten, a ∈ fps1.flatten := fun a ha => by
        obtain ⟨i, _, ei⟩ := a3 a ha
        exact mem_flat ei a (List.mem_singleton.mpr rfl)
      have s12 : Stp H1 fps1 H2 fps1 := ⟨fun a o e n => fr a o e fun z => n (faf a z), fun a h => .inl h, un⟩
      have p12 : Pers H1 H2 := cf1.pers s12
      obtain ⟨l1, l2⟩ := cf1.rel.len
      have pt : PtR C H1 H2 σ1 τ fps1 (brws ss) := by
        refine ⟨l1, l2, fun i o v f e1 e2 e3 => ?_⟩
        have o1 := StR.pt cf1.rel i o v f e1 e2 e3
        refine ⟨fun _ => o1, fun hi => o1.keep p12 fun a ha => ?_⟩
        obtain ⟨us, ea⟩ := o1.mut a ha
        rw [ea]
        refine fr a _ ea fun z => ?_
        obtain ⟨j, hj, ej⟩ := a3 a z
        have := flat_disj cf1.nd e3 ej ha (List.mem_singleton.mpr rfl)
        exact hi (this ▸ hj)
      have pt2 := back_ok vr ar hn qb (fun _ _ _ _ _ _ _ _ => trivial) pt
      have c2 : Cfg C H2 σ2 τ fps1 := ⟨StR.of_pt pt2.l1 pt2.l2 fun i o v f e1 e2 e3 => (pt2.at_ i o v f e1 e2 e3).2 (by simp), cf1.nd, fun a h => cf1.dom a (un a h)⟩
      cases s with
      | d x => exact k _ _ ⟨.d x, σ2, fps1, [], st.trans s12, c2, ⟨rfl, rr⟩, fun a ha => (by cases ha), hq⟩
      | own xs =>
        obtain ⟨z, a, us, rfl, na, ea, r⟩ := rr
        refine k _ _ ⟨.own xs, σ2, fps1, [a], st.trans s12, c2, ⟨z, a, us, rfl, rfl, cf1.dom a na, ea, r⟩, fun b hb => ?_, hq⟩
        rw [List.mem_singleton.mp hb]
        refine ⟨st.un a na, fun z => ?_⟩
        obtain ⟨ws, ew⟩ := cf1.rel.mut a z
        rw [na] at ew
        cases ew
      | _ => exact (show False from rr).elim
section
variable {X : Cx} {P : Nat → Option Addr} {H0 : Hp} {e : Expr} {es : List Expr} {t : DA} {pos p : Pos} {x : Str} {k n : Nat} {f : Addr} {fd : FuncData} {ps : List Str} {sp : DSp}
theorem de_call (F : FnOk X.prog X.w X.K X.mg X.base CX0 k f fd ps (lSp X.K sp)) (hr : Room k X.A) (hg : Gl X x) (hm : X.mg x = some (.ref f)) (hk : PySem.W.keepIn X.K (.ref f) = true) (hb : Binds X.K fd ps [])
    (ha : PA X (e :: es) (lAn (cx X P H0) n t)) (hdb : (x == ("__debug__" : Str)) = false := by decide) (he : starEach (e :: es) X.env = (false, eval e X.env) :: starEach es X.env := by rfl) (hpl : (backTo pos (starEach (e :: es) X.env)).any (·.1) = false := by rfl)
    (hpl2 : (backTo pos (starEach es X.env)).any (·.1) = false := by rfl) :
    PE X (.Call (.Name x p) (e :: es) [] pos) (lE (cx X P H0) (dCall sp t)) := PE.weak (pe_call F hr hg hm hk hb .nil pass0 ha hdb he hpl2) call_ok
theorem de_call0 (F : FnOk X.prog X.w X.K X.mg X.base CX0 k f fd ps (lSp X.K sp)) (hr : Room k X.A) (hg : Gl X x) (hm : X.mg x = some (.ref f)) (hk : PySem.W.keepIn X.K (.ref f) = true) (hb : Binds X.K fd ps [])
    (hdb : (x == ("__debug__" : Str)) = false := by decide) : PE X (.Call (.Name x p) [] [] pos) (lE (cx X P H0) (dCall sp dNil)) := by
  refine PE.weak (pe_call0 F hr hg hm hk hb .nil pass0 hdb) ?_
  rintro τ H QV h
  obtain ⟨σ, fps, Q, cf, h, k⟩ := h
  have h' : nodupB (brws []) = true ∧ sp [] fun r args' => match back σ [] args' with
    | some σ2 => Q r σ2
    | none => False := h
  refine ⟨[], [], _, trivial, List.nodup_nil, h'.2, fun v H2 ⟨s, ss', fr, un, ar, rr, hq⟩ => ?_⟩
  have ess : ss' = [] := by cases ss' with
    | nil => rfl
    | cons a b => exact (show False from ar).elim
  subst ess
  have sm : Same H H2 := fun a o e => fr a o e (by simp)
  have hq' : Q s σ := hq
  cases s with
  | d x => exact k _ _ ⟨.d x, σ, fps, [], .same sm fps, cf.same sm, ⟨rfl, rr⟩, fun a ha => (by cases ha), hq'⟩
  | own xs =>
    obtain ⟨z, a, us, rfl, na, ea, r⟩ := rr
    refine k _ _ ⟨.own xs, σ, fps, [a], .same sm fps, cf.same sm, ⟨z, a, us, rfl, rfl, cf.dom a na, ea, r⟩, fun b hb => ?_, hq'⟩
    rw [List.mem_singleton.mp hb]
    refine ⟨na, fun z => ?_⟩
    obtain ⟨ws, ew⟩ := cf.rel.mut a z
    rw [na] at ew
    cases ew
  | _ => exact (show False from rr).elim
end

/-! ### a def -/
def startS (j : Nat) : List S → Nat → Sg
  | [], k => List.replicate k none
  | .own xs :: r, k => some (.par j xs) :: startS (j + 1) r k
  | s :: r, k => some s :: startS (j + 1) r k
def adr (vs : List V) (j : Nat) : Option Addr := match vs[j]? with
  | some (.ref a) => some a
  | _ => none
def outS (σ : Sg) : S → Option S
  | .d x => some (.d x)
  | .own xs => some (.own xs)
  | .brw i => match slot σ i with
    | some (.own xs) => some (.own xs)
    | _ => none
  | .par _ _ => none
def outs (σ : Sg) (j : Nat) : List S → Option (List S)
  | [] => some []
  | .d x :: r => match outs σ (j + 1) r with
    | some ss => some (.d x :: ss)
    | none => none
  | .own _ :: r => match slot σ j with
    | some (.par k ys) => if k = j then match outs σ (j + 1) r with
        | some ss => some (.own ys :: ss)
        | none => none
      else none
    | _ => none
  | _ => none
def dEnd (ss : List S) (R : S → List S → Prop) : DEnds where
  nx := fun σ => match outs σ 0 ss with
    | some ss' => R (.d .none) ss'
    | none => False
  rt := fun s σ => match outS σ s, outs σ 0 ss with
    | some r, some ss' => R r ss'
    | _, _ => False
theorem start_rel {K : PySem.W.Frag} {H : Hp} {P : Nat → Option Addr} (kk : Nat) : ∀ {ss : List S} {vs : List V} {fps : List (List Addr)} (j : Nat), ARs K H ss vs fps → (∀ i a, vs[i]? = some (.ref a) → P (j + i) = some a) →
    StR ⟨K, P, H⟩ H (startS j ss kk) (vs.map some ++ List.replicate kk none) (fps ++ List.replicate kk [])
  | [], [], [], j, _, _ => by
    show StR ⟨K, P, H⟩ H (List.replicate kk none) ([] ++ List.replicate kk none) ([] ++ List.replicate kk [])
    rw [List.nil_append, List.nil_append]
    induction kk with
    | zero => trivial
    | succ n ih => exact ⟨rfl, ih⟩
  | s :: ss, v :: vs, f :: fs, j, h, hp => by
    have ih := start_rel kk (j + 1) h.2 (P := P) fun i a e => by
      have := hp (i + 1) a (by simpa using e)
      rw [show j + 1 + i = j + (i + 1) by omega]
      exact this
    cases s with
    | d x => exact ⟨h.1, ih⟩
    | own xs =>
      obtain ⟨z, a, us, rfl, rfl, e, r⟩ := h.1
      exact ⟨⟨z, a, us, rfl, rfl, by simpa using hp 0 a rfl, e, r⟩, ih⟩
    | par k xs => exact h.1.elim
    | brw k => exact h.1.elim
  | [], [], _ :: _, _, h, _ => (show False from h).elim
  | [], _ :: _, _, _, h, _ => (show False from h).elim
  | _ :: _, [], _, _, h, _ => (show False from h).elim
  | _ :: _, _ :: _, [], _, h, _ => (show False from h).elim
theorem flatten_nils : ∀ n : Nat, (List.replicate n ([] : List Addr)).flatten = []
  | 0 => rfl
  | n + 1 => by rw [List.replicate_succ, List.flatten_cons, flatten_nils n] <;> rfl
theorem outs_ok {K : PySem.W.Frag} {H H' : Hp} {P : Nat → Option Addr} {σ : Sg} {τ : L2.St} {gps : List (List Addr)} (cf : Cfg ⟨K, P, H⟩ H' σ τ gps) (p : Pers H H') : ∀ {ss ss' : List S} {vs : List V} {fps : List (List Addr)} (j : Nat), ARs K H ss vs fps → (∀ i a, vs[i]? = some (.ref a) → P (j + i) = some a) → outs σ j ss = some ss' → ARs K H' ss' vs fps
  | [], ss', [], [], j, _, _, e => by
    cases e
    trivial
  | s :: ss, ss', v :: vs, f :: fs, j, h, hp, e => by
    have hp' : ∀ i a, vs[i]? = some (.ref a) → P (j + 1 + i) = some a := fun i a e => by
      have := hp (i + 1) a (by simpa using e)
      rw [show j + 1 + i = j + (i + 1) by omega]
      exact this
    cases s with
    | d x =>
      cases q : outs σ (j + 1) ss with
      | none => simp only [outs, q] at e; cases e
      | some as =>
        simp only [outs, q] at e
        cases e
        exact ⟨⟨h.1.1, Rep.mono p _ _ h.1.2⟩, outs_ok cf p (j + 1) h.2 hp' q⟩
    | own xs =>
      cases qs : slot σ j with
      | none => simp only [outs, qs] at e; cases e
      | some s0 =>
        cases s0 with
        | par k ys =>
          by_cases hk : k = j
          · subst hk
            cases q : outs σ (k + 1) ss with
            | none => simp only [outs, qs, q] at e; simp at e
            | some as =>
              simp only [outs, qs, q, if_true] at e
              cases e
              refine ⟨?_, outs_ok cf p (k + 1) h.2 hp' q⟩
              obtain ⟨u, g, _, _, e3⟩ := cf.rel.at (slot_eq qs)
              obtain ⟨z, a, us, rfl, rfl, e4, e5, r⟩ := e3
              obtain ⟨_, a', us', rfl, rfl, _, _⟩ := h.1
              have e6 : P k = some a' := by simpa using hp 0 a' rfl
              have e4' : P k = some a := e4
              rw [e4'] at e6
              cases e6
              exact ⟨z, a, us, rfl, rfl, e5, r⟩
          · simp only [outs, qs, if_neg hk] at e; cases e
        | _ => simp only [outs, qs] at e; cases e
    | par k xs => exact h.1.elim
    | brw k => exact h.1.elim
  | [], _, [], _ :: _, _, h, _, _ => (show False from h).elim
  | [], _, _ :: _, _, _, h, _, _ => (show False from h).elim
  | _ :: _, _, [], _, _, h, _, _ => (show False from h).elim
  | _ :: _, _, _ :: _, [], _, h, _, _ => (show False from h).elim
section
variable {Pg : Program} {w : World} {K : PySem.W.Frag} {mg : Str → Option Value} {base : Heap}
/-- THE RULE for a def over data: its reading, and its body as a term of rules -/
theorem fn_d {x qual : Str} {st : Stmt} {f : Addr} {fd : FuncData} {N ps : List Str} {k : Nat} {sp : DSp} {dt : DS} (F : Fun K x qual st f fd) (S : FnScope N ps (defScope st)) (len : ∀ ss R, sp ss R → ss.length = ps.length)
    (read : ∀ ss R, sp ss R → dt (dEnd ss R) (startS 0 ss (N.length - ps.length)))
    (hbody : ∀ (cdv : Value) (A : Around) (outer : List Env) (s : Shared) (H : Hp) (E : XK) (Pp : Nat → Option Addr), Room k (A.deeper (envOfC qual (defScope st) s.heap.objs.size f cdv)) →
      PSs (cxOf CX0 Pg w K mg base N qual (defScope st) f cdv A outer s H E).nox (defBody st) (lS (cx (cxOf CX0 Pg w K mg base N qual (defScope st) f cdv A outer s H E).nox Pp H) dt)) : FnOk Pg w K mg base CX0 (k + 1) f fd ps (lSp K sp) := by
  refine F.ok S (fun vs H Q E h => ?_) (fun cdv A outer s H vs Q E hr h => ?_)
  · obtain ⟨ss, fps, R, ar, nd, hs, _⟩ := h
    rw [← ar.len.1]
    exact len ss R hs
  · obtain ⟨ss, fps, R, ar, nd, hs, kq⟩ := h
    have hlen : vs.length = ps.length := by rw [← ar.len.1]; exact len ss R hs
    have hp : ∀ i a, vs[i]? = some (.ref a) → adr vs (0 + i) = some a := fun i a e => by
      unfold adr
      rw [Nat.zero_add, e]
    refine ⟨_, hbody cdv A outer s H E (adr vs) hr, ?_⟩
    have ef : (fps ++ List.replicate (N.length - ps.length) []).flatten = fps.flatten := by rw [List.flatten_append, flatten_nils, List.append_nil]
    have cf : Cfg ⟨K, adr vs, H⟩ H (startS 0 ss (N.length - ps.length)) (L2.start N vs) (fps ++ List.replicate (N.length - ps.length) []) := by
      refine ⟨?_, by rw [ef]; exact nd, fun a h => h⟩
      have := start_rel (K := K) (H := H) (P := adr vs) (N.length - ps.length) 0 ar hp
      unfold L2.start
      rw [hlen]
      exact this
    refine ⟨_, _, _, cf, read ss R hs, ?_⟩
    have fin : ∀ (v : V) (H' : Hp) (σ' : Sg) (τ' : L2.St) (fps' : List (List Addr)) (r : DL.S) (ss' : List DL.S), Stp H (fps ++ List.replicate (N.length - ps.length) []) H' fps' → Cfg ⟨K, adr vs, H⟩ H' σ' τ' fps' → outs σ' 0 ss = some ss' → ResR K H H' r v → R r ss' → Q v H' :=
      fun v H' σ' τ' fps' r ss' st' c ho hr hR => kq v H' ⟨r, ss', fun a o e n => st'.fr a o e (by rw [ef]; exact n), st'.un, outs_ok c (cf.pers st') 0 ar hp ho, hr, hR⟩
    refine ⟨fun τ' H' σ' fps' st' c q => ?_, fun v τ' H' s σ' fps' g st' c vr nf q => ?_, fun _ _ _ _ _ _ q => q.elim, fun _ _ _ _ _ _ q => q.elim⟩
    · cases qo : outs σ' 0 ss with
      | none => simp only [dEnd, qo] at q
      | some ss' =>
        simp only [dEnd, qo] at q
        exact fin _ _ _ _ _ (.d .none) ss' st' c qo rfl q
    · cases qo : outs σ' 0 ss with
      | none =>
        cases q1 : outS σ' s with
        | none => simp only [dEnd, qo, q1] at q
        | some r => simp only [dEnd, qo, q1] at q
      | some ss' =>
        cases q1 : outS σ' s with
        | none => simp only [dEnd, qo, q1] at q
        | some r =>
          simp only [dEnd, qo, q1] at q
          refine fin _ _ _ _ _ r ss' st' c qo ?_ q
          cases s with
          | d x =>
            cases q1
            exact vr.2
          | own xs =>
            cases q1
            obtain ⟨z, a, us, rfl, _, e1, e2, r⟩ := vr
            exact ⟨z, a, us, rfl, e1, e2, r⟩
          | par j xs => cases q1
          | brw i =>
            cases qs : slot σ' i with
            | none => simp only [outS, qs] at q1; cases q1
            | some s0 =>
              cases s0 with
              | own xs =>
                simp only [outS, qs] at q1
                cases q1
                obtain ⟨u, g', h1, h2, h3⟩ := c.rel.at (slot_eq qs)
                have hv := vr.2
                rw [h1] at hv
                cases hv
                obtain ⟨z, a, us, rfl, _, e1, e2, r⟩ := h3
                exact ⟨z, a, us, rfl, e1, e2, r⟩
              | _ => simp only [outS, qs] at q1; cases q1
end
/-- the law's own promise: for every script it hands back True -/
def spLaw : DSp := fun ss R => ∃ ns : List Int, ss = [.d (.list (ns.map .int))] ∧ ns.length ≤ 63 ∧ ∀ ss', R (.d (.bool true)) ss'
theorem law_sp {K : PySem.W.Frag} {H : Hp} {a : Addr} {ns : List Int} (hl : ns.length ≤ 63) (ho : Only H) (hS : SqL K H a (ns.map V.int)) : lSp K spLaw [.ref a] H (fun v _ => v = .bl true) fun _ _ _ => False := by
  refine ⟨[.d (.list (ns.map .int))], [[]], fun s _ => s = .d (.bool true), ⟨⟨rfl, by rw [List.length_map, sizeLine_eq]; omega, a, ns.map V.int, rfl, ?_, reps_ints ns⟩, trivial⟩, by simp, ⟨ns, rfl, hl, fun _ => rfl⟩, fun v H' ⟨s, ss', _, _, _, rr, e⟩ => ?_⟩
  · rcases hS with (h | h) | h
    · rcases ho a with z | ⟨o, xs, z⟩
      · rw [h] at z; cases z
      · rw [h] at z; cases z
    · exact .inl h
    · exact .inr h
  · subst e
    exact rr
end DL

set_option Elab.async false
set_option linter.all false
set_option maxRecDepth 100000
set_option maxHeartbeats 4000000
/-! DL8: ranges made lists and tuples; += . -/
namespace DL
open PySem PySem.Spec PyProof.Rows L2

def iAdd : O2 := fun x y Q => match x, y with
    | .int i, .int j => Q (.d (.int (i + j)))
    | .str a, .str b => a.length + b.length ≤ sizeLine ∧ Q (.d (.str (a ++ b)))
    | _, _ => False
def spD (f : List PyData → (PyData → Prop) → Prop) : DSp := fun ss R => ∃ xs, ss = xs.map .d ∧ f xs fun r => R (.d r) ss

theorem fn_no {Pg : Program} {w : World} {K : PySem.W.Frag} {mg : Str → Option Value} {base : Heap} {x qual : Str} {st : Stmt} {f : Addr} {fd : FuncData} {N ps : List Str} {k : Nat} {sp : DSp} (F : Fun K x qual st f fd) (S : FnScope N ps (defScope st)) (no : ∀ ss R, ¬ sp ss R) : FnOk Pg w K mg base CX0 (k + 1) f fd ps (lSp K sp) :=
  F.ok S (fun vs H Q E h => by obtain ⟨ss, fps, R, _, _, hs, _⟩ := h; exact (no ss R hs).elim) (fun cdv A outer s H vs Q E hr h => by obtain ⟨ss, fps, R, _, _, hs, _⟩ := h; exact (no ss R hs).elim)
theorem reps_rg {K : PySem.W.Frag} {H : Hp} (a b : Int) : Reps K H (rngD a (b - a).toNat) (rgV a b) := by
  have e1 : rngD a (b - a).toNat = ((List.range (b - a).toNat).map fun i : Nat => a + (i : Int)).map .int := by unfold rngD; rw [List.map_map]; rfl
  have e2 : rgV a b = ((List.range (b - a).toNat).map fun i : Nat => a + (i : Int)).map V.int := by unfold rgV; rw [List.map_map]; rfl
  rw [e1, e2]
  exact reps_ints _
def dRgQ (mk : List PyData → S) (m n : Int) (Q : S → Sg → Prop) (σ : Sg) : Prop := RngOk m n ∧ Q (mk (rngD m (n - m).toNat)) σ
def rg1 (t : DE) (k : Int → Sg → Prop) (σ : Sg) : Prop := t σ fun s σ1 => match s with
  | .d (.int n) => k n σ1
  | _ => False
def dTupRg1 (t : DE) : DE := fun σ Q => rg1 t (fun n σ1 => dRgQ (fun xs => .d (.tuple xs)) 0 n Q σ1) σ
def dLstRg1 (t : DE) : DE := fun σ Q => rg1 t (fun n σ1 => dRgQ .own 0 n Q σ1) σ
def dTupRg2 (t u : DE) : DE := fun σ Q => rg1 t (fun m σ1 => rg1 u (fun n σ2 => dRgQ (fun xs => .d (.tuple xs)) m n Q σ2) σ1) σ
def dLstRg2 (t u : DE) : DE := fun σ Q => rg1 t (fun m σ1 => rg1 u (fun n σ2 => dRgQ .own m n Q σ2) σ1) σ
theorem rg1_ok {C : Ctx} {t : DE} {k : Int → Sg → Prop} {τ : L2.St} {H : Hp} {σ : Sg} {fps : List (List Addr)} {kk : Int → Hp → Prop} (cf : Cfg C H σ τ fps) (h : rg1 t k σ)
    (kn : ∀ n H' σ' fps', Stp H fps H' fps' → Cfg C H' σ' τ fps' → k n σ' → kk n H') : lE C t τ H fun x H1 => ∃ n, x = .int n ∧ kk n H1 := by
  refine ⟨σ, fps, _, cf, h, fun v H1 ⟨s, σ1, fps1, f, st, c1, vr, nf, q⟩ => ?_⟩
  cases s with
  | d x =>
    cases x with
    | int n => exact ⟨n, vr.2, kn _ _ _ _ st c1 q⟩
    | _ => exact q.elim
  | _ => exact q.elim
theorem RngOk.rg {m n : Int} (h : RngOk m n) : RgOk m n := by
  obtain ⟨b1, b2, b3, b4, b5⟩ := h
  exact ⟨by omega, by omega, by omega, by omega, by omega⟩
section
variable {X : Cx} {P : Nat → Option Addr} {H0 : Hp} {a b : Expr} {ta tb : DE} {p1 p2 p3 p4 : Pos}
theorem tup_end {C : Ctx} {H H1 : Hp} {τ : L2.St} {σ1 : Sg} {fps fps1 : List (List Addr)} {Q : S → Sg → Prop} {QV : VK} {m n : Int} (st : Stp H fps H1 fps1) (c1 : Cfg C H1 σ1 τ fps1) (h : dRgQ (fun xs => .d (.tuple xs)) m n Q σ1)
    (k : ∀ v H', PostE C H fps τ Q v H' → QV v H') : RgOk m n ∧ ∀ q, H1 q = none → QV (.ref q) (upd H1 q (.tup (rgV m n))) := by
  refine ⟨h.1.rg, fun q hq => k _ _ (post_pv st c1 (PV.tup hq (reps_rg m n) ?_ h.2))⟩
  obtain ⟨b1, b2, b3, b4, b5⟩ := h.1
  rw [rngD_length, sizeLine_eq]
  omega
theorem lst_end {C : Ctx} {H H1 : Hp} {τ : L2.St} {σ1 : Sg} {fps fps1 : List (List Addr)} {Q : S → Sg → Prop} {QV : VK} {m n : Int} (st : Stp H fps H1 fps1) (c1 : Cfg C H1 σ1 τ fps1) (h : dRgQ .own m n Q σ1)
    (k : ∀ v H', PostE C H fps τ Q v H' → QV v H') : RgOk m n ∧ ∀ q, H1 q = none → QV (.ref q) (upd H1 q (.lst (rgV m n))) := by
  refine ⟨h.1.rg, fun q hq => k _ _ (post_pv st c1 (PV.lst c1.dom hq (reps_rg m n) ?_ h.2))⟩
  obtain ⟨b1, b2, b3, b4, b5⟩ := h.1
  rw [rngD_length, sizeLine_eq]
  omega
theorem de_TupRg1 (hc : X.calm = true) (hg : Gl X "tuple") (hm : X.mg "tuple" = none) (hg2 : Gl X "range") (hm2 : X.mg "range" = none) (ha : PE X a (lE (cx X P H0) ta)) (na : starEach [a] X.env = (false, eval a X.env) :: starEach [] X.env := by rfl)
    (ne : starEach [Expr.Call (.Name "range" p1) [a] [] p2] X.env = (false, eval (.Call (.Name "range" p1) [a] [] p2) X.env) :: starEach [] X.env := by rfl) : PE X (.Call (.Name "tuple" p3) [.Call (.Name "range" p1) [a] [] p2] [] p4) (lE (cx X P H0) (dTupRg1 ta)) := by
  refine PE.weak (pe_tupRg hc hg hm (prg_1 hg2 hm2 ha na) ne) ?_
  rintro τ H QV ⟨σ, fps, Q, cf, h, k⟩
  exact rg1_ok cf h fun n H1 σ1 fps1 st c1 q => tup_end st c1 q k
theorem de_TupRg2 (hc : X.calm = true) (hg : Gl X "tuple") (hm : X.mg "tuple" = none) (hg2 : Gl X "range") (hm2 : X.mg "range" = none) (ha : PE X a (lE (cx X P H0) ta)) (hb : PE X b (lE (cx X P H0) tb))
    (na : starEach [a, b] X.env = (false, eval a X.env) :: starEach [b] X.env := by rfl) (nb : starEach [b] X.env = (false, eval b X.env) :: starEach [] X.env := by rfl) (hp : (backTo p2 (starEach [b] X.env)).any (·.1) = false := by rfl)
    (ne : starEach [Expr.Call (.Name "range" p1) [a, b] [] p2] X.env = (false, eval (.Call (.Name "range" p1) [a, b] [] p2) X.env) :: starEach [] X.env := by rfl) : PE X (.Call (.Name "tuple" p3) [.Call (.Name "range" p1) [a, b] [] p2] [] p4) (lE (cx X P H0) (dTupRg2 ta tb)) := by
  refine PE.weak (pe_tupRg hc hg hm (prg_2 hg2 hm2 ha hb na nb hp) ne) ?_
  rintro τ H QV ⟨σ, fps, Q, cf, h, k⟩
  refine ⟨σ, fps, _, cf, h, fun v H1 ⟨s, σ1, fps1, f, st, c1, vr, nf, q⟩ => ?_⟩
  cases s with
  | d x =>
    cases x with
    | int m =>
      refine ⟨σ1, fps1, _, c1, q, fun w H2 ⟨s2, σ2, fps2, f2, st2, c2, vr2, nf2, q2⟩ => ?_⟩
      cases s2 with
      | d y =>
        cases y with
        | int n => exact ⟨m, n, vr.2, vr2.2, tup_end (st.trans st2) c2 q2 k⟩
        | _ => exact q2.elim
      | _ => exact q2.elim
    | _ => exact q.elim
  | _ => exact q.elim
theorem de_LstRg1 (hc : X.calm = true) (hg : Gl X "list") (hm : X.mg "list" = none) (hg2 : Gl X "range") (hm2 : X.mg "range" = none) (ha : PE X a (lE (cx X P H0) ta)) (na : starEach [a] X.env = (false, eval a X.env) :: starEach [] X.env := by rfl)
    (ne : starEach [Expr.Call (.Name "range" p1) [a] [] p2] X.env = (false, eval (.Call (.Name "range" p1) [a] [] p2) X.env) :: starEach [] X.env := by rfl) : PE X (.Call (.Name "list" p3) [.Call (.Name "range" p1) [a] [] p2] [] p4) (lE (cx X P H0) (dLstRg1 ta)) := by
  refine PE.weak (pe_listRg hc hg hm (prg_1 hg2 hm2 ha na) ne) ?_
  rintro τ H QV ⟨σ, fps, Q, cf, h, k⟩
  exact rg1_ok cf h fun n H1 σ1 fps1 st c1 q => lst_end st c1 q k
theorem de_LstRg2 (hc : X.calm = true) (hg : Gl X "list") (hm : X.mg "list" = none) (hg2 : Gl X "range") (hm2 : X.mg "range" = none) (ha : PE X a (lE (cx X P H0) ta)) (hb : PE X b (lE (cx X P H0) tb))
    (na : starEach [a, b] X.env = (false, eval a X.env) :: starEach [b] X.env := by rfl) (nb : starEach [b] X.env = (false, eval b X.env) :: starEach [] X.env := by rfl) (hp : (backTo p2 (starEach [b] X.env)).any (·.1) = false := by rfl)
    (ne : starEach [Expr.Call (.Name "range" p1) [a, b] [] p2] X.env = (false, eval (.Call (.Name "range" p1) [a, b] [] p2) X.env) :: starEach [] X.env := by rfl) : PE X (.Call (.Name "list" p3) [.Call (.Name "range" p1) [a, b] [] p2] [] p4) (lE (cx X P H0) (dLstRg2 ta tb)) := by
  refine PE.weak (pe_listRg hc hg hm (prg_2 hg2 hm2 ha hb na nb hp) ne) ?_
  rintro τ H QV ⟨σ, fps, Q, cf, h, k⟩
  refine ⟨σ, fps, _, cf, h, fun v H1 ⟨s, σ1, fps1, f, st, c1, vr, nf, q⟩ => ?_⟩
  cases s with
  | d x =>
    cases x with
    | int m =>
      refine ⟨σ1, fps1, _, c1, q, fun w H2 ⟨s2, σ2, fps2, f2, st2, c2, vr2, nf2, q2⟩ => ?_⟩
      cases s2 with
      | d y =>
        cases y with
        | int n => exact ⟨m, n, vr.2, vr2.2, lst_end (st.trans st2) c2 q2 k⟩
        | _ => exact q2.elim
      | _ => exact q2.elim
    | _ => exact q.elim
  | _ => exact q.elim
end
end DL

set_option Elab.async false
set_option linter.all false
set_option maxRecDepth 100000
set_option maxHeartbeats 4000000
namespace DL
open PySem PySem.Spec PyProof.Rows L2
abbrev dI (xs : List Int) : PyData := .list (xs.map .int)
theorem ixN_0 {n : Nat} : ixN (n + 1) 0 = some 0 := by unfold ixN; rw [if_pos (by omega), if_pos (by omega)]; rfl
theorem ixN_1 {n : Nat} : ixN (n + 2) 1 = some 1 := by unfold ixN; rw [if_pos (by omega), if_pos (by omega)]; rfl
theorem ixN_2 {n : Nat} : ixN (n + 3) 2 = some 2 := by unfold ixN; rw [if_pos (by omega), if_pos (by omega)]; rfl
theorem ixN_3 {n : Nat} : ixN (n + 4) 3 = some 3 := by unfold ixN; rw [if_pos (by omega), if_pos (by omega)]; rfl
theorem ixN_4 {n : Nat} : ixN (n + 5) 4 = some 4 := by unfold ixN; rw [if_pos (by omega), if_pos (by omega)]; rfl
theorem ixN_5 {n : Nat} : ixN (n + 6) 5 = some 5 := by unfold ixN; rw [if_pos (by omega), if_pos (by omega)]; rfl
section
variable {α : Type} {a b c d e f : α} {xs : List α}
theorem atI_0 : atI (a :: xs) 0 = some a := by unfold atI; rw [List.length_cons, ixN_0]; rfl
theorem atI_1 : atI (a :: b :: xs) 1 = some b := by unfold atI; rw [List.length_cons, List.length_cons, ixN_1]; rfl
theorem atI_2 : atI (a :: b :: c :: xs) 2 = some c := by unfold atI; simp only [List.length_cons]; rw [ixN_2]; rfl
theorem atI_3 : atI (a :: b :: c :: d :: xs) 3 = some d := by unfold atI; simp only [List.length_cons]; rw [ixN_3]; rfl
theorem atI_4 : atI (a :: b :: c :: d :: e :: xs) 4 = some e := by unfold atI; simp only [List.length_cons]; rw [ixN_4]; rfl
theorem atI_5 : atI (a :: b :: c :: d :: e :: f :: xs) 5 = some f := by unfold atI; simp only [List.length_cons]; rw [ixN_5]; rfl
end
theorem ixN_nat {n k : Nat} (h : k < n) : ixN n (k : Int) = some k := by unfold ixN; rw [if_pos (by omega), if_pos (by omega)]; rfl
theorem atI_nat {α : Type} {xs : List α} {k : Nat} {x : α} (h : xs[k]? = some x) : atI xs (k : Int) = some x := by
  have := (List.getElem?_eq_some_iff.mp h).1
  unfold atI
  rw [ixN_nat this]
  exact h
theorem atI_of {α : Type} {xs : List α} {i : Int} {x : α} (h0 : 0 ≤ i) (h : xs[i.toNat]? = some x) : atI xs i = some x := by
  have := atI_nat h
  rwa [Int.toNat_of_nonneg h0] at this
theorem atI_lt {α : Type} {xs : List α} {i : Int} (h0 : 0 ≤ i) (h1 : i < xs.length) : ∃ x, xs[i.toNat]? = some x ∧ atI xs i = some x ∧ x ∈ xs := by
  have h2 : i.toNat < xs.length := by omega
  have e : xs[i.toNat]? = some xs[i.toNat] := List.getElem?_eq_getElem h2
  exact ⟨xs[i.toNat], e, atI_of h0 e, List.getElem_mem h2⟩
theorem getD_mem {α : Type} {xs : List α} {i : Nat} {x : α} (h : xs[i]? = some x) : x ∈ xs := List.mem_of_getElem? h
theorem map_get {α β : Type} {f : α → β} {xs : List α} {i : Nat} {y : β} (h : (xs.map f)[i]? = some y) : ∃ x, xs[i]? = some x ∧ y = f x := by
  rw [List.getElem?_map] at h
  cases q : xs[i]? with
  | none => rw [q] at h; cases h
  | some x => rw [q] at h; exact ⟨x, rfl, (Option.some.inj h).symm⟩
theorem rng_ok {n : Nat} (h : n ≤ 16777216) : RngOk 0 n := ⟨by omega, by omega, by omega, by omega, by omega⟩
theorem rng_okI {n : Int} (h0 : 0 ≤ n) (h : n ≤ 16777216) : RngOk 0 n := ⟨by omega, by omega, by omega, by omega, by omega⟩
theorem small_mul {i j : Int} (h1 : 0 ≤ i) (h2 : i < 18446744073709551616) : MulOk i j := MulOk.left (by omega) (by omega)
theorem mul_small {i j : Int} (h1 : 0 ≤ j) (h2 : j < 18446744073709551616) : MulOk i j := MulOk.right (by omega) (by omega)
theorem rngD_at {lo : Int} {n i : Nat} {d : PyData} (h : (rngD lo n)[i]? = some d) : i < n ∧ d = .int (lo + i) := by
  rw [rngD_get] at h
  split at h
  · exact ⟨by assumption, (Option.some.inj h).symm⟩
  · cases h
theorem enumD_at {xs : List PyData} {i : Nat} {d : PyData} (h : (enumD xs)[i]? = some d) : ∃ x, xs[i]? = some x ∧ d = .tuple [.int (i : Int), x] := by
  rw [enumD_get] at h
  cases q : xs[i]? with
  | none => rw [q] at h; cases h
  | some x => rw [q] at h; exact ⟨x, rfl, (Option.some.inj h).symm⟩
section
variable {i : Int} {x : PyData} {s : Str} {b : Bool}
theorem flI : Flat (.int i) x := Nat.le_trans (Nat.min_le_left _ _) (Nat.zero_le _)
theorem flI' : Flat x (.int i) := Nat.le_trans (Nat.min_le_right _ _) (Nat.zero_le _)
theorem flS : Flat (.str s) x := Nat.le_trans (Nat.min_le_left _ _) (Nat.zero_le _)
theorem flS' : Flat x (.str s) := Nat.le_trans (Nat.min_le_right _ _) (Nat.zero_le _)
theorem flB : Flat (.bool b) x := Nat.le_trans (Nat.min_le_left _ _) (Nat.zero_le _)
theorem flB' : Flat x (.bool b) := Nat.le_trans (Nat.min_le_right _ _) (Nat.zero_le _)
theorem flN : Flat .none x := Nat.le_trans (Nat.min_le_left _ _) (Nat.zero_le _)
theorem flN' : Flat x .none := Nat.le_trans (Nat.min_le_right _ _) (Nat.zero_le _)
end
theorem dI_dep {i : Int} : (PyData.int i).depth ≤ 64 := Nat.zero_le _
theorem dS_dep {s : Str} : (PyData.str s).depth ≤ 64 := Nat.zero_le _
theorem dB_dep {b : Bool} : (PyData.bool b).depth ≤ 64 := Nat.zero_le _
theorem dN_dep : PyData.none.depth ≤ 64 := Nat.zero_le _
theorem and_r {p q : Prop} (h : p) (k : q) : p ∧ q := ⟨h, k⟩
theorem ex_r {α : Type} {p : α → Prop} (a : α) (h : p a) : ∃ x, p x := ⟨a, h⟩
theorem and_t {k : Bool} {p q : Prop} (e : k = true) (h : p) : (k = true → p) ∧ (k = false → q) := ⟨fun _ => h, fun z => (by rw [e] at z; cases z)⟩
theorem and_f {k : Bool} {p q : Prop} (e : k = false) (h : q) : (k = true → p) ∧ (k = false → q) := ⟨fun z => (by rw [e] at z; cases z), fun _ => h⟩
theorem eqv_int {i : Int} : PyData.eqv (.int i) (.int i) = true := by
  show decide (i = i) = true
  simp
theorem eqv_int_d {i j : Int} : PyData.eqv (.int i) (.int j) = decide (i = j) := rfl
theorem drop_get {α : Type} {xs : List α} {i : Nat} {x : α} (h : xs[i]? = some x) : xs.drop i = x :: xs.drop (i + 1) := by
  obtain ⟨h1, h2⟩ := List.getElem?_eq_some_iff.mp h
  rw [List.drop_eq_getElem_cons h1, h2]
theorem drop_len {α : Type} {xs : List α} : xs.drop xs.length = [] := List.drop_eq_nil_of_le (Nat.le_refl _)
theorem cut_to {xs : List PyData} {p : Int} (h : 0 ≤ p) : cutD xs none (some p) = xs.take p.toNat := by
  unfold cutD HT.sIx
  simp only
  rw [List.drop_zero, if_neg (by omega), Nat.sub_zero]
  rw [List.take_eq_take_iff]
  omega
theorem cut_from {xs : List PyData} {p : Int} (h : 0 ≤ p) : cutD xs (some p) none = xs.drop p.toNat := by
  unfold cutD HT.sIx
  simp only
  rw [if_neg (by omega)]
  rw [List.take_of_length_le (by rw [List.length_drop]; omega)]
  by_cases hp : p.toNat ≤ xs.length
  · rw [Nat.min_eq_left hp]
  · rw [Nat.min_eq_right (by omega), List.drop_eq_nil_of_le (Nat.le_refl _), List.drop_eq_nil_of_le (by omega)]
theorem decLe {a b : Nat} : decide ((a : Int) ≤ b) = decide (a ≤ b) := by simp
theorem all_id {α : Type} {f : α → Bool} {xs : List α} : (xs.map f).all id = xs.all f := by rw [List.all_map]; rfl
theorem any_id {α : Type} {f : α → Bool} {xs : List α} : (xs.map f).any id = xs.any f := by rw [List.any_map]; rfl
theorem atI_ints {xs : List Int} {i : Int} (h0 : 0 ≤ i) (h1 : i < xs.length) : ∃ g, g ∈ xs ∧ atI (xs.map PyData.int) i = some (.int g) := by
  obtain ⟨x, e, _, m⟩ := atI_lt h0 h1
  exact ⟨x, m, atI_of h0 (by rw [List.getElem?_map, e]; rfl)⟩

--! uses: base
def TapeAt (tp : List PyData) : Prop := ∃ (ns : List Int) (i h t : Int), tp = [dI ns, .int i, .int h, .int t] ∧ ns.length ≤ 63 ∧ 0 ≤ i ∧ 0 ≤ h ∧ 0 ≤ t ∧ t < 2147483647
theorem cdivw {i j : Int} (h0 : 0 < j) (h1 : j < 1152921504606846976) : CDivW i j := by
  refine ⟨h0, ?_⟩
  have h2 : j.natAbs ≠ 0 := by omega
  have : j.natAbs.log2 < 60 := (Nat.log2_lt h2).mpr (by omega)
  omega
theorem pow18 : (10 : Int) ^ (18 : Int).toNat = 1000000000000000000 := by decide
theorem mod_lo {a b : Int} (h : 0 < b) : 0 ≤ a % b := Int.emod_nonneg _ (by omega)
theorem mod_hi {a b : Int} (h : 0 < b) : a % b < b := Int.emod_lt_of_pos _ h
def sp_law_draw : DSp := fun ss R => ∃ tp n, ss = [.own tp, .d (.int n)] ∧ TapeAt tp ∧ n < 1152921504606846976 ∧ ∀ tp' r, TapeAt tp' → 0 ≤ r → r < n ∨ r = 0 → R (.d (.int r)) [.own tp', .d (.int n)]
theorem len_law_draw : ∀ ss R, sp_law_draw ss R → ss.length = 2 := by
  rintro ss R ⟨tp, n, rfl, h⟩; rfl
def rowsOf : S → Option (List PyData)
  | .own xs => some xs
  | .d (.tuple xs) => some xs
  | .d (.list xs) => some xs
  | _ => none
def sp_law_pick : DSp := fun ss R => ∃ tp s xs, ss = [.own tp, s] ∧ rowsOf s = some xs ∧ TapeAt tp ∧ xs ≠ [] ∧ xs.length ≤ 16777216 ∧ ∀ tp' x, TapeAt tp' → x ∈ xs → R (.d x) [.own tp', s]
theorem len_law_pick : ∀ ss R, sp_law_pick ss R → ss.length = 2 := by
  rintro ss R ⟨tp, s, xs, rfl, h⟩; rfl

--! uses: base
def Pl : Nat → PyData → Prop
  | _, .none => True
  | _, .int _ => True
  | _, .bool _ => True
  | _, .str _ => True
  | n + 1, .tuple xs => xs.length ≤ 16777216 ∧ ∀ x ∈ xs, Pl n x
  | _, _ => False
def sp_law_same : Nat → DSp
  | 0 => fun _ _ => False
  | n + 1 => fun ss R => ∃ x, ss = [.d x, .d x] ∧ Pl n x ∧ R (.d (.bool true)) ss
theorem len_law_same (n : Nat) : ∀ ss R, sp_law_same n ss R → ss.length = 2 := by
  cases n with
  | zero => intro ss R h; exact h.elim
  | succ n => rintro ss R ⟨x, rfl, h⟩; rfl
theorem eqv_str (s : Str) : PyData.eqv (.str s) (.str s) = true := by
  show (s == s) = true
  simp
theorem Pl_str {n : Nat} {s : Str} : Pl n (.str s) := by cases n <;> trivial

--! uses: tape same
inductive Mk where
  | run (n : Int) | wide (n : Int) | nob (n : Int) | bye (n : Int) | out | ro (n : Int) (s : Bool)
  deriving DecidableEq
def Mk.enc : Mk → PyData
  | .run n => .tuple [.str "run", .int n]
  | .wide n => .tuple [.str "wide", .int n]
  | .nob n => .tuple [.str "noball", .int n]
  | .bye n => .tuple [.str "bye", .int n]
  | .out => .tuple [.str "out"]
  | .ro n true => .tuple [.str "runout", .int n, .str "striker"]
  | .ro n false => .tuple [.str "runout", .int n, .str "other"]
def allMks : List Mk := [.run 0, .run 1, .run 2, .run 3, .run 4, .run 5, .run 6, .wide 0, .wide 1, .wide 2, .wide 3, .wide 4, .nob 0, .nob 1, .nob 2, .nob 3, .nob 4, .nob 5, .nob 6, .bye 1, .bye 2, .bye 3, .bye 4, .out, .ro 0 true, .ro 0 false, .ro 1 true, .ro 1 false, .ro 2 true, .ro 2 false, .ro 3 true, .ro 3 false]
abbrev T3 := Int × Int × Int
def e3 (p : T3) : PyData := .tuple [.int p.1, .int p.2.1, .int p.2.2]
def stepM : Mk → T3
  | .run n => (n, 0, 1)
  | .wide n => (n + 1, 0, 0)
  | .nob n => (n + 1, 0, 0)
  | .bye n => (n, 0, 1)
  | .out => (0, 1, 1)
  | .ro n _ => (n, 1, 1)
def ranM : Mk → Int
  | .run n => n
  | .wide n => n
  | .nob n => n
  | .bye n => n
  | .out => 0
  | .ro n _ => n
def wktM : Mk → Bool
  | .out => true
  | .ro _ _ => true
  | _ => false
def ballM : Mk → Bool
  | .wide _ => false
  | .nob _ => false
  | _ => true
inductive En where
  | bowl (b : Int) | rain (a b c : Int) | lot (f : Bool) | mark (m : Mk)
def En.enc : En → PyData
  | .bowl b => .tuple [.str "bowl", .int b]
  | .rain a b c => .tuple [.str "rain", .int a, .int b, .int c]
  | .lot true => .tuple [.str "lot", .str "first"]
  | .lot false => .tuple [.str "lot", .str "second"]
  | .mark m => m.enc
def EnOk : En → Prop
  | .mark m => m ∈ allMks
  | _ => True
def isM : En → Bool
  | .mark _ => true
  | _ => false
def bookD (es : List En) : PyData := .tuple (es.map En.enc)
theorem pl_list {n : Nat} {xs : List PyData} (h : ∀ x ∈ xs, Pl n x) (hl : xs.length ≤ 16777216) : Pl (n + 1) (.tuple xs) := ⟨hl, h⟩
theorem pl_two {n : Nat} {a b : PyData} (h1 : Pl n a) (h2 : Pl n b) : Pl (n + 1) (.tuple [a, b]) := ⟨Nat.le_of_ble_eq_true rfl, fun x m => by
  rcases List.mem_cons.mp m with rfl | m
  · exact h1
  · rw [List.mem_singleton.mp m]; exact h2⟩
theorem pl_three {n : Nat} {a b c : PyData} (h1 : Pl n a) (h2 : Pl n b) (h3 : Pl n c) : Pl (n + 1) (.tuple [a, b, c]) := ⟨Nat.le_of_ble_eq_true rfl, fun x m => by
  rcases List.mem_cons.mp m with rfl | m
  · exact h1
  rcases List.mem_cons.mp m with rfl | m
  · exact h2
  · rw [List.mem_singleton.mp m]; exact h3⟩
theorem pl_four {n : Nat} {a b c d : PyData} (h1 : Pl n a) (h2 : Pl n b) (h3 : Pl n c) (h4 : Pl n d) : Pl (n + 1) (.tuple [a, b, c, d]) := ⟨Nat.le_of_ble_eq_true rfl, fun x m => by
  rcases List.mem_cons.mp m with rfl | m
  · exact h1
  rcases List.mem_cons.mp m with rfl | m
  · exact h2
  rcases List.mem_cons.mp m with rfl | m
  · exact h3
  · rw [List.mem_singleton.mp m]; exact h4⟩
theorem pl_one {n : Nat} {a : PyData} (h1 : Pl n a) : Pl (n + 1) (.tuple [a]) := ⟨Nat.le_of_ble_eq_true rfl, fun x m => by
  rw [List.mem_singleton.mp m]; exact h1⟩
theorem Pl_int {n : Nat} {i : Int} : Pl n (.int i) := by cases n <;> trivial
theorem Pl_bl {n : Nat} {i : Bool} : Pl n (.bool i) := by cases n <;> trivial
theorem Pl_non {n : Nat} : Pl n .none := by cases n <;> trivial
theorem pl_mk (m : Mk) : Pl 1 m.enc := by
  cases m with
  | out => exact pl_one Pl_str
  | ro n s => cases s <;> exact pl_three Pl_str Pl_int Pl_str
  | _ => exact pl_two Pl_str Pl_int
theorem pl_en (e : En) : Pl 1 e.enc := by
  cases e with
  | bowl b => exact pl_two Pl_str Pl_int
  | rain a b c => exact pl_four Pl_str Pl_int Pl_int Pl_int
  | lot f => cases f <;> exact pl_two Pl_str Pl_str
  | mark m => exact pl_mk m
theorem Pl_up : ∀ {n : Nat} {x : PyData}, Pl n x → Pl (n + 1) x
  | 0, .none, _ => trivial
  | 0, .int _, _ => trivial
  | 0, .bool _, _ => trivial
  | 0, .str _, _ => trivial
  | n + 1, .none, _ => trivial
  | n + 1, .int _, _ => trivial
  | n + 1, .bool _, _ => trivial
  | n + 1, .str _, _ => trivial
  | n + 1, .tuple xs, h => ⟨h.1, fun x m => Pl_up (h.2 x m)⟩
theorem Pl_le {n m : Nat} {x : PyData} (h : Pl n x) (l : n ≤ m) : Pl m x := by
  induction l with
  | refl => exact h
  | step _ ih => exact Pl_up ih
theorem depthAll_le {n : Nat} : ∀ {xs : List PyData}, (∀ x ∈ xs, x.depth ≤ n) → PyData.depthAll xs ≤ n
  | [], _ => Nat.zero_le _
  | x :: xs, h => Nat.max_le.mpr ⟨h x List.mem_cons_self, depthAll_le fun y m => h y (List.mem_cons_of_mem _ m)⟩
theorem Pl_depth : ∀ {n : Nat} {x : PyData}, Pl n x → x.depth ≤ n
  | 0, .none, _ => Nat.zero_le _
  | 0, .int _, _ => Nat.zero_le _
  | 0, .bool _, _ => Nat.zero_le _
  | 0, .str _, _ => Nat.zero_le _
  | n + 1, .none, _ => Nat.zero_le _
  | n + 1, .int _, _ => Nat.zero_le _
  | n + 1, .bool _, _ => Nat.zero_le _
  | n + 1, .str _, _ => Nat.zero_le _
  | n + 1, .tuple xs, h => Nat.succ_le_succ (depthAll_le fun x m => Pl_depth (h.2 x m))
theorem Pl_flat {n : Nat} {x y : PyData} (h : Pl n x) (l : n ≤ 64) : Flat x y := Nat.le_trans (Nat.min_le_left _ _) (Nat.le_trans (Pl_depth h) l)
theorem pl_book {es : List En} (h : es.length ≤ 16777216) : Pl 2 (bookD es) := by
  refine ⟨by rw [List.length_map]; exact h, fun x m => ?_⟩
  obtain ⟨e, _, rfl⟩ := List.mem_map.mp m
  exact pl_en e
theorem ints_mem {is : List Int} {x : PyData} (h : x ∈ is.map PyData.int) : ∃ i, i ∈ is ∧ x = .int i := by
  obtain ⟨i, m, rfl⟩ := List.mem_map.mp h
  exact ⟨i, m, rfl⟩

--! uses: tape
def sp_law_a_shuffled : DSp := fun ss R => ∃ tp s xs, ss = [.own tp, s] ∧ rowsOf s = some xs ∧ TapeAt tp ∧ xs.length ≤ 1000000 ∧ ∀ tp' ys, TapeAt tp' → ys.length = xs.length → (∀ y ∈ ys, y ∈ xs) → R (.own ys) [.own tp', s]
theorem len_law_a_shuffled : ∀ ss R, sp_law_a_shuffled ss R → ss.length = 2 := by
  rintro ss R ⟨tp, s, xs, rfl, h⟩; rfl
theorem ixN_lt {n : Nat} {r : Int} (h0 : 0 ≤ r) (h1 : r < n) : ixN n r = some r.toNat := by
  have := ixN_nat (n := n) (k := r.toNat) (by omega)
  rwa [Int.toNat_of_nonneg h0] at this

--! uses: marks shuf
def oI : Option Int → PyData
  | none => .none
  | some i => .int i
def eqO : Option Int → Option Int → Bool
  | none, none => true
  | some i, some j => decide (i = j)
  | _, _ => false
theorem eqv_oI (a b : Option Int) : PyData.eqv (oI a) (oI b) = eqO a b := by cases a <;> cases b <;> rfl
theorem oI_flat {a : Option Int} {x : PyData} : Flat (oI a) x := by cases a; exact flN; exact flI
theorem pl_oI {n : Nat} {o : Option Int} : Pl n (oI o) := by cases o; exact Pl_non; exact Pl_int
structure Ru where
  ov : Int
  os : Int
  wk : Int
  me : Int
  e : Int
  f : Int
def Ru.enc (r : Ru) : PyData := .tuple [.int r.ov, .int r.os, .int r.wk, .int r.me, .int r.e, .int r.f]
structure Cr where
  st : Option Int
  ot : Option Int
  bw : Option Int
  bd : Int
  la : Option Int
  bg : List Int
  fa : Int
def Cr.enc (c : Cr) : PyData := .tuple [oI c.st, oI c.ot, oI c.bw, .int c.bd, oI c.la, .tuple (c.bg.map .int), .int c.fa]
def gone (c : Cr) : Mk → Option Int
  | .ro _ false => c.ot
  | _ => c.st
def run1 (c : Cr) (m : Mk) : Cr := if ranM m % 2 = 1 then { c with st := c.ot, ot := c.st } else c
def wk1 (wk : Int) (c : Cr) (g : Option Int) : Cr :=
  if eqO c.st g then { c with st := if c.fa + 1 < wk then some (c.fa + 2) else none, fa := c.fa + 1 }
  else { c with ot := if c.fa + 1 < wk then some (c.fa + 2) else none, fa := c.fa + 1 }
def ball1 (ov : Int) (c : Cr) : Cr := if c.bd + 1 = ov then { c with st := c.ot, ot := c.st, bw := none, bd := 0, la := c.bw } else { c with bd := c.bd + 1 }
def afterM (r : Ru) (c : Cr) (m : Mk) : Cr :=
  let c1 := run1 c m
  let c2 := if wktM m then wk1 r.wk c1 (gone c m) else c1
  if ballM m then ball1 r.ov c2 else c2
def bowled (c : Cr) (b : Int) (x : Int) : Cr := { c with bw := some b, bd := 0, bg := c.bg.set b.toNat (x + 1) }
def RuOk (r : Ru) : Prop := 1 ≤ r.ov ∧ 1 ≤ r.wk
def CrOk (r : Ru) (c : Cr) : Prop := 0 ≤ c.bd ∧ c.bd + 1 ≤ r.ov ∧ c.fa ≤ r.wk ∧ c.bg.length = 6
theorem run1_same (c : Cr) (m : Mk) : (run1 c m).bd = c.bd ∧ (run1 c m).fa = c.fa ∧ (run1 c m).bg = c.bg := by
  unfold run1
  split <;> exact ⟨rfl, rfl, rfl⟩
theorem wk1_same (wk : Int) (c : Cr) (g : Option Int) : (wk1 wk c g).bd = c.bd ∧ (wk1 wk c g).fa = c.fa + 1 ∧ (wk1 wk c g).bg = c.bg := by
  unfold wk1
  split <;> exact ⟨rfl, rfl, rfl⟩
theorem afterM_ok {r : Ru} {c : Cr} {m : Mk} (hr : RuOk r) (h : CrOk r c) (hl : c.fa < r.wk) : CrOk r (afterM r c m) := by
  obtain ⟨h1, h2, h3, h4⟩ := h
  obtain ⟨a1, a2, a3⟩ := run1_same c m
  have key : ∀ d : Cr, d.bd = c.bd → d.fa ≤ r.wk → d.bg = c.bg → CrOk r (if ballM m then ball1 r.ov d else d) := by
    intro d e1 e2 e3
    split
    · unfold ball1
      split
      · exact ⟨by simp, by simp only; omega, e2, by simp only; rw [e3]; exact h4⟩
      · rename_i hb
        exact ⟨by simp only; omega, by simp only; omega, e2, by simp only; rw [e3]; exact h4⟩
    · exact ⟨by omega, by omega, e2, by rw [e3]; exact h4⟩
  unfold afterM
  simp only
  apply key
  · split
    · rw [(wk1_same _ _ _).1, a1]
    · exact a1
  · split
    · rw [(wk1_same _ _ _).2.1, a2]; omega
    · rw [a2]; exact h3
  · split
    · rw [(wk1_same _ _ _).2.2, a3]
    · exact a3
theorem bowled_ok {r : Ru} {c : Cr} {b x : Int} (hr : RuOk r) (h : CrOk r c) : CrOk r (bowled c b x) := by
  obtain ⟨h1, h2, h3, h4⟩ := h
  exact ⟨by simp [bowled], by simp only [bowled]; have := hr.1; omega, h3, by simp only [bowled]; rw [List.length_set]; exact h4⟩
theorem pl_cr {c : Cr} (h : c.bg.length = 6) : Pl 2 c.enc := by
  refine pl_list (fun x m => ?_) (Nat.le_of_ble_eq_true rfl)
  rcases List.mem_cons.mp m with rfl | m
  · exact pl_oI
  rcases List.mem_cons.mp m with rfl | m
  · exact pl_oI
  rcases List.mem_cons.mp m with rfl | m
  · exact pl_oI
  rcases List.mem_cons.mp m with rfl | m
  · exact Pl_int
  rcases List.mem_cons.mp m with rfl | m
  · exact pl_oI
  rcases List.mem_cons.mp m with rfl | m
  · refine pl_list (fun x m => ?_) (by rw [List.length_map]; omega)
    obtain ⟨i, _, rfl⟩ := List.mem_map.mp m
    exact Pl_int
  · rw [List.mem_singleton.mp m]; exact Pl_int
inductive Dd where
  | bowl (b : Int) | mark (m : Mk)
def Dd.enc : Dd → PyData
  | .bowl b => .tuple [.str "bowl", .int b]
  | .mark m => m.enc
def DdOk : Dd → Prop
  | .bowl b => 0 ≤ b ∧ b < 6
  | .mark m => m ∈ allMks
def bgAt (c : Cr) (b : Int) : Int := (c.bg[b.toNat]?).getD 0
def dueC (r : Ru) (c : Cr) : Dd → Cr
  | .bowl b => bowled c b (bgAt c b)
  | .mark m => afterM r c m
theorem dueC_ok {r : Ru} {c : Cr} {d : Dd} (hr : RuOk r) (h : CrOk r c) (hl : c.fa < r.wk) : CrOk r (dueC r c d) := by
  cases d with
  | bowl b => exact bowled_ok hr h
  | mark m => exact afterM_ok hr h hl
theorem bg_at {c : Cr} {b : Int} (h : c.bg.length = 6) (h0 : 0 ≤ b) (h1 : b < 6) : atI (c.bg.map PyData.int) b = some (.int (bgAt c b)) ∧ c.bg[b.toNat]? = some (bgAt c b) := by
  have hb : b.toNat < c.bg.length := by omega
  have e : c.bg[b.toNat]? = some c.bg[b.toNat] := List.getElem?_eq_getElem hb
  have e2 : bgAt c b = c.bg[b.toNat] := by unfold bgAt; rw [e]; rfl
  rw [e2]
  exact ⟨atI_of h0 (by rw [List.getElem?_map, e]; rfl), e⟩
theorem bg_set {xs : List Int} {b : Int} {x : Int} (h0 : 0 ≤ b) (h : b.toNat < xs.length) : (cutD (xs.map PyData.int) none (some b) ++ [.int x]) ++ cutD (xs.map PyData.int) (some (b + 1)) none = (xs.set b.toNat x).map .int := by
  rw [cut_to h0, cut_from (by omega), List.map_set, List.set_eq_take_append_cons_drop, if_pos (by rw [List.length_map]; exact h), List.append_assoc, List.singleton_append, show (b + 1).toNat = b.toNat + 1 by omega]
theorem atI_l1 {a : PyData} : atI [a] (-1) = some a := rfl
theorem atI_l2 {a b : PyData} : atI [a, b] (-1) = some b := rfl
theorem atI_l3 {a b c : PyData} : atI [a, b, c] (-1) = some c := rfl
theorem atI_6 {α : Type} {a b c d e f g : α} {xs : List α} : atI (a :: b :: c :: d :: e :: f :: g :: xs) 6 = some g := by
  unfold atI
  simp only [List.length_cons]
  have : ixN (xs.length + 1 + 1 + 1 + 1 + 1 + 1 + 1) 6 = some 6 := by unfold ixN; rw [if_pos (by omega), if_pos (by omega)]; rfl
  rw [this]
  rfl

--! uses: crease
def RuFull (r : Ru) (most : Int) : Prop := (1 ≤ r.ov ∧ r.ov ≤ 6) ∧ (1 ≤ r.os ∧ r.os ≤ 6) ∧ (1 ≤ r.wk ∧ r.wk ≤ 4) ∧ (1 ≤ r.me ∧ r.me ≤ 40) ∧ (0 ≤ r.e ∧ r.e ≤ 2) ∧ (1 ≤ r.f ∧ r.f ≤ 6) ∧ r.ov * r.os ≤ most
theorem RuFull.ok {r : Ru} {most : Int} (h : RuFull r most) : RuOk r := ⟨h.1.1, h.2.2.1.1⟩

def t_ran_of : DS :=
  (dSeq (dIfS (dTst (d2 opEq (d2 opIx (dVar 0) (dC (.int 0))) (dC (.str "out")))) (dRet (dC (.int 0))) dNext)
    (dRet (d2 opIx (dVar 0) (dC (.int 1)))))
--! uses: marks
def sp_ran_of : DSp := fun ss R => ∃ m, ss = [.d (Mk.enc m)] ∧ R (.d (.int (ranM m))) ss
theorem len_ran_of : ∀ ss R, sp_ran_of ss R → ss.length = 1 := by
  rintro ss R ⟨x, rfl, h⟩; rfl
theorem rd_ran_of : ∀ ss R, sp_ran_of ss R → t_ran_of (dEnd ss R) (startS 0 ss 0) := by
  rintro ss R ⟨m, rfl, k⟩
  cases m with
  | ro n s => cases s <;> ((repeat ((conv => whnf); first | refine and_t rfl ?_ | refine and_f rfl ?_ | refine ⟨_, atI_0, ?_⟩ | refine ⟨_, atI_1, ?_⟩ | refine ⟨_, atI_2, ?_⟩ | refine ⟨_, atI_3, ?_⟩ | refine ⟨_, atI_4, ?_⟩ | refine ⟨_, atI_5, ?_⟩ | refine ⟨flI, ?_⟩ | refine ⟨flI', ?_⟩ | refine ⟨flN, ?_⟩ | refine ⟨flN', ?_⟩ | refine ⟨flS, ?_⟩ | refine ⟨flS', ?_⟩ | refine ⟨flB, ?_⟩ | refine ⟨flB', ?_⟩ | refine ⟨dI_dep, ?_⟩ | refine ⟨dS_dep, ?_⟩ | refine ⟨dB_dep, ?_⟩ | refine ⟨dN_dep, ?_⟩ | refine ⟨_, ixN_0, ?_⟩ | refine ⟨_, ixN_1, ?_⟩ | refine ⟨_, ixN_2, ?_⟩ | refine ⟨_, ixN_3, ?_⟩ | refine ⟨_, ixN_4, ?_⟩); try (conv => whnf)); exact k)
  | _ => (repeat ((conv => whnf); first | refine and_t rfl ?_ | refine and_f rfl ?_ | refine ⟨_, atI_0, ?_⟩ | refine ⟨_, atI_1, ?_⟩ | refine ⟨_, atI_2, ?_⟩ | refine ⟨_, atI_3, ?_⟩ | refine ⟨_, atI_4, ?_⟩ | refine ⟨_, atI_5, ?_⟩ | refine ⟨flI, ?_⟩ | refine ⟨flI', ?_⟩ | refine ⟨flN, ?_⟩ | refine ⟨flN', ?_⟩ | refine ⟨flS, ?_⟩ | refine ⟨flS', ?_⟩ | refine ⟨flB, ?_⟩ | refine ⟨flB', ?_⟩ | refine ⟨dI_dep, ?_⟩ | refine ⟨dS_dep, ?_⟩ | refine ⟨dB_dep, ?_⟩ | refine ⟨dN_dep, ?_⟩ | refine ⟨_, ixN_0, ?_⟩ | refine ⟨_, ixN_1, ?_⟩ | refine ⟨_, ixN_2, ?_⟩ | refine ⟨_, ixN_3, ?_⟩ | refine ⟨_, ixN_4, ?_⟩); try (conv => whnf)); exact k

def t_takes_wicket : DS :=
  (dRet (d2 (opIn false) (d2 opIx (dVar 0) (dC (.int 0))) (dTup (dCons (dC (.str "out")) (dCons (dC (.str "runout")) dNil)))))
--! uses: marks
def sp_takes_wicket : DSp := fun ss R => ∃ m, ss = [.d (Mk.enc m)] ∧ R (.d (.bool (wktM m))) ss
theorem len_takes_wicket : ∀ ss R, sp_takes_wicket ss R → ss.length = 1 := by
  rintro ss R ⟨x, rfl, h⟩; rfl
theorem rd_takes_wicket : ∀ ss R, sp_takes_wicket ss R → t_takes_wicket (dEnd ss R) (startS 0 ss 0) := by
  rintro ss R ⟨m, rfl, k⟩
  cases m with
  | ro n s => cases s <;> ((repeat ((conv => whnf); first | refine and_t rfl ?_ | refine and_f rfl ?_ | refine ⟨_, atI_0, ?_⟩ | refine ⟨_, atI_1, ?_⟩ | refine ⟨_, atI_2, ?_⟩ | refine ⟨_, atI_3, ?_⟩ | refine ⟨_, atI_4, ?_⟩ | refine ⟨_, atI_5, ?_⟩ | refine ⟨flI, ?_⟩ | refine ⟨flI', ?_⟩ | refine ⟨flN, ?_⟩ | refine ⟨flN', ?_⟩ | refine ⟨flS, ?_⟩ | refine ⟨flS', ?_⟩ | refine ⟨flB, ?_⟩ | refine ⟨flB', ?_⟩ | refine ⟨dI_dep, ?_⟩ | refine ⟨dS_dep, ?_⟩ | refine ⟨dB_dep, ?_⟩ | refine ⟨dN_dep, ?_⟩ | refine ⟨_, ixN_0, ?_⟩ | refine ⟨_, ixN_1, ?_⟩ | refine ⟨_, ixN_2, ?_⟩ | refine ⟨_, ixN_3, ?_⟩ | refine ⟨_, ixN_4, ?_⟩); try (conv => whnf)); exact k)
  | _ => (repeat ((conv => whnf); first | refine and_t rfl ?_ | refine and_f rfl ?_ | refine ⟨_, atI_0, ?_⟩ | refine ⟨_, atI_1, ?_⟩ | refine ⟨_, atI_2, ?_⟩ | refine ⟨_, atI_3, ?_⟩ | refine ⟨_, atI_4, ?_⟩ | refine ⟨_, atI_5, ?_⟩ | refine ⟨flI, ?_⟩ | refine ⟨flI', ?_⟩ | refine ⟨flN, ?_⟩ | refine ⟨flN', ?_⟩ | refine ⟨flS, ?_⟩ | refine ⟨flS', ?_⟩ | refine ⟨flB, ?_⟩ | refine ⟨flB', ?_⟩ | refine ⟨dI_dep, ?_⟩ | refine ⟨dS_dep, ?_⟩ | refine ⟨dB_dep, ?_⟩ | refine ⟨dN_dep, ?_⟩ | refine ⟨_, ixN_0, ?_⟩ | refine ⟨_, ixN_1, ?_⟩ | refine ⟨_, ixN_2, ?_⟩ | refine ⟨_, ixN_3, ?_⟩ | refine ⟨_, ixN_4, ?_⟩); try (conv => whnf)); exact k

def t_uses_ball : DS :=
  (dRet (d2 (opIn true) (d2 opIx (dVar 0) (dC (.int 0))) (dTup (dCons (dC (.str "wide")) (dCons (dC (.str "noball")) dNil)))))
--! uses: marks
def sp_uses_ball : DSp := fun ss R => ∃ m, ss = [.d (Mk.enc m)] ∧ R (.d (.bool (ballM m))) ss
theorem len_uses_ball : ∀ ss R, sp_uses_ball ss R → ss.length = 1 := by
  rintro ss R ⟨x, rfl, h⟩; rfl
theorem rd_uses_ball : ∀ ss R, sp_uses_ball ss R → t_uses_ball (dEnd ss R) (startS 0 ss 0) := by
  rintro ss R ⟨m, rfl, k⟩
  cases m with
  | ro n s => cases s <;> ((repeat ((conv => whnf); first | refine and_t rfl ?_ | refine and_f rfl ?_ | refine ⟨_, atI_0, ?_⟩ | refine ⟨_, atI_1, ?_⟩ | refine ⟨_, atI_2, ?_⟩ | refine ⟨_, atI_3, ?_⟩ | refine ⟨_, atI_4, ?_⟩ | refine ⟨_, atI_5, ?_⟩ | refine ⟨flI, ?_⟩ | refine ⟨flI', ?_⟩ | refine ⟨flN, ?_⟩ | refine ⟨flN', ?_⟩ | refine ⟨flS, ?_⟩ | refine ⟨flS', ?_⟩ | refine ⟨flB, ?_⟩ | refine ⟨flB', ?_⟩ | refine ⟨dI_dep, ?_⟩ | refine ⟨dS_dep, ?_⟩ | refine ⟨dB_dep, ?_⟩ | refine ⟨dN_dep, ?_⟩ | refine ⟨_, ixN_0, ?_⟩ | refine ⟨_, ixN_1, ?_⟩ | refine ⟨_, ixN_2, ?_⟩ | refine ⟨_, ixN_3, ?_⟩ | refine ⟨_, ixN_4, ?_⟩); try (conv => whnf)); exact k)
  | _ => (repeat ((conv => whnf); first | refine and_t rfl ?_ | refine and_f rfl ?_ | refine ⟨_, atI_0, ?_⟩ | refine ⟨_, atI_1, ?_⟩ | refine ⟨_, atI_2, ?_⟩ | refine ⟨_, atI_3, ?_⟩ | refine ⟨_, atI_4, ?_⟩ | refine ⟨_, atI_5, ?_⟩ | refine ⟨flI, ?_⟩ | refine ⟨flI', ?_⟩ | refine ⟨flN, ?_⟩ | refine ⟨flN', ?_⟩ | refine ⟨flS, ?_⟩ | refine ⟨flS', ?_⟩ | refine ⟨flB, ?_⟩ | refine ⟨flB', ?_⟩ | refine ⟨dI_dep, ?_⟩ | refine ⟨dS_dep, ?_⟩ | refine ⟨dB_dep, ?_⟩ | refine ⟨dN_dep, ?_⟩ | refine ⟨_, ixN_0, ?_⟩ | refine ⟨_, ixN_1, ?_⟩ | refine ⟨_, ixN_2, ?_⟩ | refine ⟨_, ixN_3, ?_⟩ | refine ⟨_, ixN_4, ?_⟩); try (conv => whnf)); exact k

def t_over_of : DS :=
  (dRet (d2 opIx (dVar 0) (dC (.int 0))))
--! uses: crease
def sp_over_of : DSp := fun ss R => ∃ r, ss = [.d (Ru.enc r)] ∧ R (.d (.int r.ov)) ss
theorem len_over_of : ∀ ss R, sp_over_of ss R → ss.length = 1 := by
  rintro ss R ⟨x, rfl, h⟩; rfl
theorem rd_over_of : ∀ ss R, sp_over_of ss R → t_over_of (dEnd ss R) (startS 0 ss 0) := by
  rintro ss R ⟨r, rfl, k⟩
  (repeat ((conv => whnf); first | refine and_t rfl ?_ | refine and_f rfl ?_ | refine ⟨_, atI_0, ?_⟩ | refine ⟨_, atI_1, ?_⟩ | refine ⟨_, atI_2, ?_⟩ | refine ⟨_, atI_3, ?_⟩ | refine ⟨_, atI_4, ?_⟩ | refine ⟨_, atI_5, ?_⟩ | refine ⟨flI, ?_⟩ | refine ⟨flI', ?_⟩ | refine ⟨flN, ?_⟩ | refine ⟨flN', ?_⟩ | refine ⟨flS, ?_⟩ | refine ⟨flS', ?_⟩ | refine ⟨flB, ?_⟩ | refine ⟨flB', ?_⟩ | refine ⟨dI_dep, ?_⟩ | refine ⟨dS_dep, ?_⟩ | refine ⟨dB_dep, ?_⟩ | refine ⟨dN_dep, ?_⟩ | refine ⟨_, ixN_0, ?_⟩ | refine ⟨_, ixN_1, ?_⟩ | refine ⟨_, ixN_2, ?_⟩ | refine ⟨_, ixN_3, ?_⟩ | refine ⟨_, ixN_4, ?_⟩); try (conv => whnf))
  exact k

def t_wickets_of : DS :=
  (dRet (d2 opIx (dVar 0) (dC (.int 2))))
--! uses: crease
def sp_wickets_of : DSp := fun ss R => ∃ r, ss = [.d (Ru.enc r)] ∧ R (.d (.int r.wk)) ss
theorem len_wickets_of : ∀ ss R, sp_wickets_of ss R → ss.length = 1 := by
  rintro ss R ⟨x, rfl, h⟩; rfl
theorem rd_wickets_of : ∀ ss R, sp_wickets_of ss R → t_wickets_of (dEnd ss R) (startS 0 ss 0) := by
  rintro ss R ⟨r, rfl, k⟩
  (repeat ((conv => whnf); first | refine and_t rfl ?_ | refine and_f rfl ?_ | refine ⟨_, atI_0, ?_⟩ | refine ⟨_, atI_1, ?_⟩ | refine ⟨_, atI_2, ?_⟩ | refine ⟨_, atI_3, ?_⟩ | refine ⟨_, atI_4, ?_⟩ | refine ⟨_, atI_5, ?_⟩ | refine ⟨flI, ?_⟩ | refine ⟨flI', ?_⟩ | refine ⟨flN, ?_⟩ | refine ⟨flN', ?_⟩ | refine ⟨flS, ?_⟩ | refine ⟨flS', ?_⟩ | refine ⟨flB, ?_⟩ | refine ⟨flB', ?_⟩ | refine ⟨dI_dep, ?_⟩ | refine ⟨dS_dep, ?_⟩ | refine ⟨dB_dep, ?_⟩ | refine ⟨dN_dep, ?_⟩ | refine ⟨_, ixN_0, ?_⟩ | refine ⟨_, ixN_1, ?_⟩ | refine ⟨_, ixN_2, ?_⟩ | refine ⟨_, ixN_3, ?_⟩ | refine ⟨_, ixN_4, ?_⟩); try (conv => whnf))
  exact k

def t_new_crease : DS :=
  (dRet (dTup (dCons (dC (.int 0)) (dCons (dC (.int 1)) (dCons (dC .none) (dCons (dC (.int 0)) (dCons (dC .none) (dCons (dTup (dCons (dC (.int 0)) (dCons (dC (.int 0)) (dCons (dC (.int 0)) (dCons (dC (.int 0)) (dCons (dC (.int 0)) (dCons (dC (.int 0)) dNil))))))) (dCons (dC (.int 0)) dNil)))))))))
--! uses: crease
def fresh0 : Cr := ⟨some 0, some 1, none, 0, none, [0, 0, 0, 0, 0, 0], 0⟩
def sp_new_crease : DSp := fun ss R => ss = [] ∧ R (.d fresh0.enc) ss
theorem len_new_crease : ∀ ss R, sp_new_crease ss R → ss.length = 0 := by
  rintro ss R ⟨rfl, h⟩; rfl
theorem rd_new_crease : ∀ ss R, sp_new_crease ss R → t_new_crease (dEnd ss R) (startS 0 ss 0) := by
  rintro ss R ⟨rfl, k⟩
  exact k

def t_after_bowl : DS :=
  (dSeq (dUnp [2, 3, 4, 4, 5, 6, 7] (dFz (dVar 0)))
    (dSeq (dSet 8 (d2 opAdd (d2 opAdd (dSl (dVar 6) dNoP (dPt (dVar 1))) (dTup (dCons (dFz (d2 opAdd (d2 opIx (dVar 6) (dVar 1)) (dC (.int 1)))) dNil))) (dSl (dVar 6) (dPt (d2 opAdd (dVar 1) (dC (.int 1)))) dNoP)))
    (dRet (dTup (dCons (dFz (dVar 2)) (dCons (dFz (dVar 3)) (dCons (dFz (dVar 1)) (dCons (dC (.int 0)) (dCons (dFz (dVar 5)) (dCons (dFz (dVar 8)) (dCons (dFz (dVar 7)) dNil)))))))))))
--! uses: crease
def sp_after_bowl : DSp := fun ss R => ∃ c b, ss = [.d (Cr.enc c), .d (.int b)] ∧ c.bg.length = 6 ∧ 0 ≤ b ∧ b < 6 ∧ R (.d (bowled c b (bgAt c b)).enc) ss
theorem len_after_bowl : ∀ ss R, sp_after_bowl ss R → ss.length = 2 := by
  rintro ss R ⟨x, y, rfl, h⟩; rfl
theorem rd_after_bowl : ∀ ss R, sp_after_bowl ss R → t_after_bowl (dEnd ss R) (startS 0 ss 7) := by
  rintro ss R ⟨c, b, rfl, hl, h0, h1, k⟩
  obtain ⟨e1, e2⟩ := bg_at hl h0 h1
  (conv => whnf)
  refine ⟨_, e1, ?_⟩
  (conv => whnf)
  refine ⟨?_, ?_⟩
  · rw [cut_to h0, sizeLine_eq, List.length_take, List.length_map]
    show _ + 1 ≤ _
    omega
  (conv => whnf)
  refine ⟨?_, ?_⟩
  · rw [cut_to h0, cut_from (by omega), sizeLine_eq, List.length_append, List.length_take, List.length_drop, List.length_map]
    show _ + 1 + _ ≤ _
    omega
  have := bg_set (xs := c.bg) (b := b) (x := bgAt c b + 1) h0 (by omega)
  rw [this]
  exact k

def t_batter_out : DS :=
  (dSeq (dIfS (dTAnd (dTst (d2 opEq (d2 opIx (dVar 1) (dC (.int 0))) (dC (.str "runout")))) (dTst (d2 opEq (d2 opIx (dVar 1) (dC (.int 2))) (dC (.str "other"))))) (dRet (d2 opIx (dVar 0) (dC (.int 1)))) dNext)
    (dRet (d2 opIx (dVar 0) (dC (.int 0)))))
--! uses: crease
def sp_batter_out : DSp := fun ss R => ∃ c m, ss = [.d (Cr.enc c), .d (Mk.enc m)] ∧ R (.d (oI (gone c m))) ss
theorem len_batter_out : ∀ ss R, sp_batter_out ss R → ss.length = 2 := by
  rintro ss R ⟨x, y, rfl, h⟩; rfl
theorem rd_batter_out : ∀ ss R, sp_batter_out ss R → t_batter_out (dEnd ss R) (startS 0 ss 0) := by
  rintro ss R ⟨c, m, rfl, k⟩
  cases m with
  | ro n s => cases s <;> ((repeat ((conv => whnf); first | refine and_t rfl ?_ | refine and_f rfl ?_ | refine ⟨_, atI_0, ?_⟩ | refine ⟨_, atI_1, ?_⟩ | refine ⟨_, atI_2, ?_⟩ | refine ⟨_, atI_3, ?_⟩ | refine ⟨_, atI_4, ?_⟩ | refine ⟨_, atI_5, ?_⟩ | refine ⟨flI, ?_⟩ | refine ⟨flI', ?_⟩ | refine ⟨flN, ?_⟩ | refine ⟨flN', ?_⟩ | refine ⟨flS, ?_⟩ | refine ⟨flS', ?_⟩ | refine ⟨flB, ?_⟩ | refine ⟨flB', ?_⟩ | refine ⟨dI_dep, ?_⟩ | refine ⟨dS_dep, ?_⟩ | refine ⟨dB_dep, ?_⟩ | refine ⟨dN_dep, ?_⟩ | refine ⟨_, ixN_0, ?_⟩ | refine ⟨_, ixN_1, ?_⟩ | refine ⟨_, ixN_2, ?_⟩ | refine ⟨_, ixN_3, ?_⟩ | refine ⟨_, ixN_4, ?_⟩); try (conv => whnf)); exact k)
  | _ => (repeat ((conv => whnf); first | refine and_t rfl ?_ | refine and_f rfl ?_ | refine ⟨_, atI_0, ?_⟩ | refine ⟨_, atI_1, ?_⟩ | refine ⟨_, atI_2, ?_⟩ | refine ⟨_, atI_3, ?_⟩ | refine ⟨_, atI_4, ?_⟩ | refine ⟨_, atI_5, ?_⟩ | refine ⟨flI, ?_⟩ | refine ⟨flI', ?_⟩ | refine ⟨flN, ?_⟩ | refine ⟨flN', ?_⟩ | refine ⟨flS, ?_⟩ | refine ⟨flS', ?_⟩ | refine ⟨flB, ?_⟩ | refine ⟨flB', ?_⟩ | refine ⟨dI_dep, ?_⟩ | refine ⟨dS_dep, ?_⟩ | refine ⟨dB_dep, ?_⟩ | refine ⟨dN_dep, ?_⟩ | refine ⟨_, ixN_0, ?_⟩ | refine ⟨_, ixN_1, ?_⟩ | refine ⟨_, ixN_2, ?_⟩ | refine ⟨_, ixN_3, ?_⟩ | refine ⟨_, ixN_4, ?_⟩); try (conv => whnf)); exact k

def t_after_running : DS :=
  (dSeq (dUnp [2, 3, 4, 5, 6, 7, 8] (dFz (dVar 0)))
    (dSeq (dIfS (dTst (d2 opEq (d2 opMul (d2 opFdiv (dCall sp_ran_of (dCons (dVar 1) dNil)) (dC (.int 2))) (dC (.int 2))) (dCall sp_ran_of (dCons (dVar 1) dNil)))) (dRet (dVar 0)) dNext)
    (dRet (dTup (dCons (dFz (dVar 3)) (dCons (dFz (dVar 2)) (dCons (dFz (dVar 4)) (dCons (dFz (dVar 5)) (dCons (dFz (dVar 6)) (dCons (dFz (dVar 7)) (dCons (dFz (dVar 8)) dNil)))))))))))
--! uses: crease
def sp_after_running : DSp := fun ss R => ∃ c m, ss = [.d (Cr.enc c), .d (Mk.enc m)] ∧ R (.d (run1 c m).enc) ss
theorem len_after_running : ∀ ss R, sp_after_running ss R → ss.length = 2 := by
  rintro ss R ⟨x, y, rfl, h⟩; rfl
theorem rd_after_running : ∀ ss R, sp_after_running ss R → t_after_running (dEnd ss R) (startS 0 ss 7) := by
  rintro ss R ⟨c, m, rfl, k⟩
  unfold run1 at k
  (conv => whnf)
  refine ⟨rfl, m, rfl, ?_⟩
  (conv => whnf)
  refine ⟨cdivw (by decide) (by decide), ?_⟩
  (conv => whnf)
  refine ⟨mul_small (by decide) (by decide), ?_⟩
  (conv => whnf)
  refine ⟨rfl, m, rfl, ?_⟩
  (conv => whnf)
  refine ⟨flI, ?_⟩
  refine ⟨fun hk => ?_, fun hk => ?_⟩
  · have hk : ranM m / 2 * 2 = ranM m := of_decide_eq_true hk
    rw [if_neg (by omega)] at k
    exact k
  · have hk : ¬ ranM m / 2 * 2 = ranM m := of_decide_eq_false hk
    rw [if_pos (by omega)] at k
    exact k

def t_next_batter : DS :=
  (dSeq (dIfS (dTst (d2 opEq (dVar 1) (dCall sp_wickets_of (dCons (dVar 0) dNil)))) (dRet (dC .none)) dNext)
    (dRet (d2 opAdd (dVar 1) (dC (.int 1)))))
--! uses: crease
def sp_next_batter : DSp := fun ss R => ∃ r f, ss = [.d (Ru.enc r), .d (.int f)] ∧ f ≤ r.wk ∧ R (.d (oI (if f < r.wk then some (f + 1) else none))) ss
theorem len_next_batter : ∀ ss R, sp_next_batter ss R → ss.length = 2 := by
  rintro ss R ⟨x, y, rfl, h⟩; rfl
theorem rd_next_batter : ∀ ss R, sp_next_batter ss R → t_next_batter (dEnd ss R) (startS 0 ss 0) := by
  rintro ss R ⟨r, f, rfl, hf, k⟩
  (conv => whnf)
  refine ⟨rfl, r, rfl, ?_⟩
  (conv => whnf)
  refine ⟨flI, ?_⟩
  refine ⟨fun hk => ?_, fun hk => ?_⟩
  · have hk : f = r.wk := of_decide_eq_true hk
    rw [if_neg (by omega)] at k
    exact k
  · have hk : ¬ f = r.wk := of_decide_eq_false hk
    rw [if_pos (by omega)] at k
    exact k

def t_after_wicket : DS :=
  (dSeq (dUnp [3, 4, 5, 6, 7, 8, 9] (dFz (dVar 1)))
    (dSeq (dSet 10 (dCall sp_next_batter (dCons (dVar 0) (dCons (dAr (d2 opAdd (dVar 9) (dC (.int 1)))) dNil))))
    (dSeq (dIfS (dTst (d2 opEq (dVar 3) (dVar 2))) (dSet 3 (dVar 10)) (dSet 4 (dVar 10)))
    (dRet (dTup (dCons (dFz (dVar 3)) (dCons (dFz (dVar 4)) (dCons (dFz (dVar 5)) (dCons (dFz (dVar 6)) (dCons (dFz (dVar 7)) (dCons (dFz (dVar 8)) (dCons (dFz (d2 opAdd (dVar 9) (dC (.int 1)))) dNil))))))))))))
--! uses: crease
def sp_after_wicket : DSp := fun ss R => ∃ r c g, ss = [.d (Ru.enc r), .d (Cr.enc c), .d (oI g)] ∧ c.fa < r.wk ∧ R (.d (wk1 r.wk c g).enc) ss
theorem len_after_wicket : ∀ ss R, sp_after_wicket ss R → ss.length = 3 := by
  rintro ss R ⟨x, y, z, rfl, h⟩; rfl
theorem rd_after_wicket : ∀ ss R, sp_after_wicket ss R → t_after_wicket (dEnd ss R) (startS 0 ss 8) := by
  rintro ss R ⟨r, c, g, rfl, hf, k⟩
  unfold wk1 at k
  (conv => whnf)
  refine ⟨rfl, r, c.fa + 1, rfl, by omega, ?_⟩
  rw [Int.add_assoc]
  (conv => whnf)
  refine ⟨oI_flat, ?_⟩
  rw [eqv_oI]
  refine ⟨fun hk => ?_, fun hk => ?_⟩
  · rw [if_pos hk] at k
    exact k
  · rw [if_neg (by rw [hk]; decide)] at k
    exact k

def t_after_ball : DS :=
  (dSeq (dUnp [2, 3, 4, 5, 6, 7, 8] (dFz (dVar 1)))
    (dSeq (dIfS (dTst (d2 opLt (d2 opAdd (dVar 5) (dC (.int 1))) (dCall sp_over_of (dCons (dVar 0) dNil)))) (dRet (dTup (dCons (dFz (dVar 2)) (dCons (dFz (dVar 3)) (dCons (dFz (dVar 4)) (dCons (dFz (d2 opAdd (dVar 5) (dC (.int 1)))) (dCons (dFz (dVar 6)) (dCons (dFz (dVar 7)) (dCons (dFz (dVar 8)) dNil))))))))) dNext)
    (dRet (dTup (dCons (dFz (dVar 3)) (dCons (dFz (dVar 2)) (dCons (dC .none) (dCons (dC (.int 0)) (dCons (dFz (dVar 4)) (dCons (dFz (dVar 7)) (dCons (dFz (dVar 8)) dNil)))))))))))
--! uses: crease
def sp_after_ball : DSp := fun ss R => ∃ r c, ss = [.d (Ru.enc r), .d (Cr.enc c)] ∧ c.bd + 1 ≤ r.ov ∧ R (.d (ball1 r.ov c).enc) ss
theorem len_after_ball : ∀ ss R, sp_after_ball ss R → ss.length = 2 := by
  rintro ss R ⟨x, y, rfl, h⟩; rfl
theorem rd_after_ball : ∀ ss R, sp_after_ball ss R → t_after_ball (dEnd ss R) (startS 0 ss 7) := by
  rintro ss R ⟨r, c, rfl, hf, k⟩
  unfold ball1 at k
  (conv => whnf)
  refine ⟨rfl, r, rfl, ?_⟩
  (conv => whnf)
  refine ⟨fun hk => ?_, fun hk => ?_⟩
  · have hk : c.bd + 1 < r.ov := of_decide_eq_true hk
    rw [if_neg (by omega)] at k
    exact k
  · have hk : ¬ c.bd + 1 < r.ov := of_decide_eq_false hk
    rw [if_pos (by omega)] at k
    exact k

def t_after_mark : DS :=
  (dSeq (dSet 3 (dCall sp_batter_out (dCons (dVar 1) (dCons (dVar 2) dNil))))
    (dSeq (dSet 1 (dCall sp_after_running (dCons (dVar 1) (dCons (dVar 2) dNil))))
    (dSeqC (dIfS (dTru (dCall sp_takes_wicket (dCons (dVar 2) dNil))) (dSet 1 (dCall sp_after_wicket (dCons (dVar 0) (dCons (dVar 1) (dCons (dVar 3) dNil))))) dNext)
    (dSeq (dIfS (dTru (dCall sp_uses_ball (dCons (dVar 2) dNil))) (dSet 1 (dCall sp_after_ball (dCons (dVar 0) (dCons (dVar 1) dNil)))) dNext)
    (dRet (dVar 1))))))
--! uses: crease
--! cuts: 3
def sp_after_mark : DSp := fun ss R => ∃ r c m, ss = [.d (Ru.enc r), .d (Cr.enc c), .d (Mk.enc m)] ∧ CrOk r c ∧ c.fa < r.wk ∧ R (.d (afterM r c m).enc) ss
theorem len_after_mark : ∀ ss R, sp_after_mark ss R → ss.length = 3 := by
  rintro ss R ⟨x, y, z, rfl, h⟩; rfl
theorem rd_after_mark : ∀ ss R, sp_after_mark ss R → t_after_mark (dEnd ss R) (startS 0 ss 1) := by
  rintro ss R ⟨r, c, m, rfl, hc, hf, k⟩
  obtain ⟨a1, a2, a3⟩ := run1_same c m
  (conv => whnf)
  refine ⟨rfl, c, m, rfl, ?_⟩
  (conv => whnf)
  refine ⟨rfl, c, m, rfl, ?_⟩
  (conv => whnf)
  refine ⟨fun σ => ∃ o, σ = [some (.d (Ru.enc r)), some (.d (Cr.enc (if wktM m then wk1 r.wk (run1 c m) (gone c m) else run1 c m))), some (.d (Mk.enc m)), o], ?_, ?_⟩
  · (conv => whnf)
    refine ⟨rfl, m, rfl, ?_⟩
    refine ⟨fun hk => ?_, fun hk => ?_⟩
    · have hk : wktM m = true := hk
      rw [if_pos hk]
      (conv => whnf)
      refine ⟨rfl, r, run1 c m, gone c m, rfl, by omega, ?_⟩
      exact ⟨_, rfl⟩
    · have hk : wktM m = false := hk
      rw [if_neg (by rw [hk]; decide)]
      exact ⟨_, rfl⟩
  · rintro σ ⟨o, rfl⟩
    have hb : (if wktM m then wk1 r.wk (run1 c m) (gone c m) else run1 c m).bd = c.bd := by
      split
      · rw [(wk1_same _ _ _).1, a1]
      · exact a1
    unfold afterM at k
    simp only at k
    generalize (if wktM m then wk1 r.wk (run1 c m) (gone c m) else run1 c m) = c2 at *
    (conv => whnf)
    refine ⟨rfl, m, rfl, ?_⟩
    refine ⟨fun hk => ?_, fun hk => ?_⟩
    · have hk : ballM m = true := hk
      rw [if_pos hk] at k
      (conv => whnf)
      refine ⟨rfl, r, c2, rfl, by rw [hb]; exact hc.2.1, ?_⟩
      exact k
    · have hk : ballM m = false := hk
      rw [if_neg (by rw [hk]; decide)] at k
      exact k

def t_law_tape : DS :=
  (dSeq (dSet 1 (dC (.int 7)))
    (dSeq (dFor (dIt (dFz (dVar 0))) (dgName 2) (dSet 1 (d2 opMod (dCB bInt (dCons (d2 opAdd (d2 opMul (dVar 1) (dC (.int 31))) (dCB bAbs (dCons (dCB bInt (dCons (dVar 2) dNil)) dNil))) dNil)) (dC (.int 2147483647)))))
    (dRet (dLst (dCons (dFz (dCB bList (dCons (dVar 0) dNil))) (dCons (dC (.int 0)) (dCons (dC (.int 0)) (dCons (dFz (dVar 1)) dNil))))))))
--! uses: tape
def sp_law_tape : DSp := fun ss R => ∃ ns : List Int, ss = [.d (dI ns)] ∧ ns.length ≤ 63 ∧ ∀ tp, TapeAt tp → R (.own tp) ss
theorem len_law_tape : ∀ ss R, sp_law_tape ss R → ss.length = 1 := by
  rintro ss R ⟨ns, rfl, h⟩; rfl
theorem rd_law_tape : ∀ ss R, sp_law_tape ss R → t_law_tape (dEnd ss R) (startS 0 ss 2) := by
  rintro ss R ⟨ns, rfl, hn, k⟩
  unfold t_law_tape
  simp only [dSeq, dNext, dBreak, dCont, dExpr, dRet, dRetN, dIfS, dSet, dPar, dPar3, dUnp, dAug, dVar, dC, d2, d1, dFz, dAr, dNil, dCons, dats, dTup, dLst, rds, rd, dCB, dTst, dIsN, isNone, dTru, tru, dTAnd, dTOr, dTNot, dAnd, dOr, dNot, dIf, dIs, isTup, isLst, isBool, isStr, isInt, dNoP, dPt, dSl, opSl, dRevL, dChain, asg, unp, putL, getL, mtEnd, dMt, dSub, mAppend, mPop, mPopAt, mReverse, seqD, dIt, dItS, argI1, argI2, argI3, dRng1, dRng2, dRngDn, argD1, argD2, dEnum, dZip, dgName, dgTup, dYes, pl, plS, slot, nth, wipeS, mergeS, frzAt, dCall, lend, back, brws, nodupB, dEnd, outS, outs, startS, opAdd, opSub, opI2, opMul, opFdiv, opMod, opPow, opCmpI, opLt, opLe, opGt, opGe, opEq, opNe, opIn, opIx, opNeg, bLen, bAbs, bInt, bMax2, bMin2, bList, bTuple, bSum, bMax1, bMin1, bAll, bAny, bGcd, iAdd, dTupRg1, dTupRg2, dLstRg1, dLstRg2, dRgQ, rg1, List.set_cons_zero, List.set_cons_succ, List.set_nil, Option.join_some, Option.join_none, List.replicate, List.length_cons, List.length_nil, Nat.sub_self, if_true, if_false, true_and, and_true, forall_const, reduceCtorEq, false_implies, implies_true, Nat.reduceSub, Nat.reduceAdd, Nat.reduceLeDiff, List.contains_nil, Bool.not_false, Bool.and_self, Bool.and_true, Bool.true_and, Bool.false_eq_true, ite_true, ite_false, Bool.xor_false, Bool.false_xor, Bool.true_xor, List.contains_cons, Bool.or_false, Bool.false_or, eq_self, Nat.reduceBEq, Nat.reduceSucc, Option.some.injEq, List.append_nil, List.nil_append, List.cons_append, dFor, dI]
  refine ⟨fun _ σ => ∃ (t : Int) (o : Option S), σ = [some (.d (dI ns)), some (.d (.int t)), o] ∧ 0 ≤ t ∧ t < 2147483647, ⟨7, none, rfl, by omega, by omega⟩, ?_, ?_⟩
  · rintro i d σ e ⟨t, o, rfl, h0, h1⟩
    obtain ⟨c, e, rfl⟩ := map_get e
    simp only [dSeq, dNext, dBreak, dCont, dExpr, dRet, dRetN, dIfS, dSet, dPar, dPar3, dUnp, dAug, dVar, dC, d2, d1, dFz, dAr, dNil, dCons, dats, dTup, dLst, rds, rd, dCB, dTst, dIsN, isNone, dTru, tru, dTAnd, dTOr, dTNot, dAnd, dOr, dNot, dIf, dIs, isTup, isLst, isBool, isStr, isInt, dNoP, dPt, dSl, opSl, dRevL, dChain, asg, unp, putL, getL, mtEnd, dMt, dSub, mAppend, mPop, mPopAt, mReverse, seqD, dIt, dItS, argI1, argI2, argI3, dRng1, dRng2, dRngDn, argD1, argD2, dEnum, dZip, dgName, dgTup, dYes, pl, plS, slot, nth, wipeS, mergeS, frzAt, dCall, lend, back, brws, nodupB, dEnd, outS, outs, startS, opAdd, opSub, opI2, opMul, opFdiv, opMod, opPow, opCmpI, opLt, opLe, opGt, opGe, opEq, opNe, opIn, opIx, opNeg, bLen, bAbs, bInt, bMax2, bMin2, bList, bTuple, bSum, bMax1, bMin1, bAll, bAny, bGcd, iAdd, dTupRg1, dTupRg2, dLstRg1, dLstRg2, dRgQ, rg1, List.set_cons_zero, List.set_cons_succ, List.set_nil, Option.join_some, Option.join_none, List.replicate, List.length_cons, List.length_nil, Nat.sub_self, if_true, if_false, true_and, and_true, forall_const, reduceCtorEq, false_implies, implies_true, Nat.reduceSub, Nat.reduceAdd, Nat.reduceLeDiff, List.contains_nil, Bool.not_false, Bool.and_self, Bool.and_true, Bool.true_and, Bool.false_eq_true, ite_true, ite_false, Bool.xor_false, Bool.false_xor, Bool.true_xor, List.contains_cons, Bool.or_false, Bool.false_or, eq_self, Nat.reduceBEq, Nat.reduceSucc, Option.some.injEq, List.append_nil, List.nil_append, List.cons_append]
    refine ⟨small_mul h0 (by omega), by omega, _, _, rfl, ?_, ?_⟩
    · omega
    · omega
  · rintro σ ⟨t, o, rfl, h0, h1⟩
    simp only [dSeq, dNext, dBreak, dCont, dExpr, dRet, dRetN, dIfS, dSet, dPar, dPar3, dUnp, dAug, dVar, dC, d2, d1, dFz, dAr, dNil, dCons, dats, dTup, dLst, rds, rd, dCB, dTst, dIsN, isNone, dTru, tru, dTAnd, dTOr, dTNot, dAnd, dOr, dNot, dIf, dIs, isTup, isLst, isBool, isStr, isInt, dNoP, dPt, dSl, opSl, dRevL, dChain, asg, unp, putL, getL, mtEnd, dMt, dSub, mAppend, mPop, mPopAt, mReverse, seqD, dIt, dItS, argI1, argI2, argI3, dRng1, dRng2, dRngDn, argD1, argD2, dEnum, dZip, dgName, dgTup, dYes, pl, plS, slot, nth, wipeS, mergeS, frzAt, dCall, lend, back, brws, nodupB, dEnd, outS, outs, startS, opAdd, opSub, opI2, opMul, opFdiv, opMod, opPow, opCmpI, opLt, opLe, opGt, opGe, opEq, opNe, opIn, opIx, opNeg, bLen, bAbs, bInt, bMax2, bMin2, bList, bTuple, bSum, bMax1, bMin1, bAll, bAny, bGcd, iAdd, dTupRg1, dTupRg2, dLstRg1, dLstRg2, dRgQ, rg1, List.set_cons_zero, List.set_cons_succ, List.set_nil, Option.join_some, Option.join_none, List.replicate, List.length_cons, List.length_nil, Nat.sub_self, if_true, if_false, true_and, and_true, forall_const, reduceCtorEq, false_implies, implies_true, Nat.reduceSub, Nat.reduceAdd, Nat.reduceLeDiff, List.contains_nil, Bool.not_false, Bool.and_self, Bool.and_true, Bool.true_and, Bool.false_eq_true, ite_true, ite_false, Bool.xor_false, Bool.false_xor, Bool.true_xor, List.contains_cons, Bool.or_false, Bool.false_or, eq_self, Nat.reduceBEq, Nat.reduceSucc, Option.some.injEq, List.append_nil, List.nil_append, List.cons_append, dI]
    exact k _ ⟨ns, 0, 0, t, rfl, hn, by omega, by omega, h0, h1⟩

def t_law_draw : DS :=
  (dSeq (dIfS (dTst (d2 opEq (d2 opIx (dVar 0) (dC (.int 2))) (dC (.int 0)))) (dSeq (dSet 2 (d2 opIx (dVar 0) (dC (.int 1))))
    (dSeq (dSet 3 (dC (.int 0)))
    (dSeqC (dIfS (dTst (d2 opLt (dVar 2) (dCB bLen (dCons (d2 opIx (dVar 0) (dC (.int 0))) dNil)))) (dSet 3 (dCB bAbs (dCons (dCB bInt (dCons (d2 opIx (d2 opIx (dVar 0) (dC (.int 0))) (dVar 2)) dNil)) dNil))) (dSeq (dSub (d2 opMod (dCB bInt (dCons (d2 opAdd (d2 opAdd (d2 opMul (d2 opIx (dVar 0) (dC (.int 3))) (dC (.int 48271))) (dVar 2)) (dC (.int 1))) dNil)) (dC (.int 2147483647))) (dVar 0) (dC (.int 3)))
    (dSet 3 (d2 opIx (dVar 0) (dC (.int 3))))))
    (dSeq (dSub (dFz (d2 opAdd (dVar 2) (dC (.int 1)))) (dVar 0) (dC (.int 1)))
    (dSeq (dIfS (dTst (d2 opLt (dVar 3) (d2 opPow (dC (.int 10)) (dC (.int 18))))) (dSeq (dSet 3 (d2 opMod (dCB bInt (dCons (d2 opAdd (d2 opAdd (d2 opMul (dVar 3) (dC (.int 48271))) (d2 opMul (dVar 2) (dC (.int 69621)))) (dC (.int 5))) dNil)) (dC (.int 2147483647))))
    (dSeq (dSet 3 (d2 opMod (dCB bInt (dCons (d2 opMul (dVar 3) (dC (.int 69621))) dNil)) (dC (.int 2147483629))))
    (dRet (d2 opMod (dCB bInt (dCons (dVar 3) dNil)) (dCB bMax2 (dCons (dVar 1) (dCons (dC (.int 1)) dNil))))))) dNext)
    (dSub (dFz (dVar 3)) (dVar 0) (dC (.int 2)))))))) dNext)
    (dSeq (dSet 3 (d2 opIx (dVar 0) (dC (.int 2))))
    (dSeq (dSub (d2 opFdiv (dVar 3) (dCB bMax2 (dCons (dVar 1) (dCons (dC (.int 2)) dNil)))) (dVar 0) (dC (.int 2)))
    (dRet (d2 opMod (dCB bInt (dCons (dVar 3) dNil)) (dCB bMax2 (dCons (dVar 1) (dCons (dC (.int 1)) dNil))))))))
--! uses: tape
--! cuts: 4
theorem rd_law_draw : ∀ ss R, sp_law_draw ss R → t_law_draw (dEnd ss R) (startS 0 ss 2) := by
  rintro ss R ⟨tp, n, rfl, ⟨ns, i, h, t, rfl, hn, hi, hh, h0, h1⟩, hz, k⟩
  have big : ∀ m : Int, 0 ≤ m → CDivW m (if 2 > n then 2 else n) ∧ 0 < (if 1 > n then 1 else n) ∧ 0 ≤ m / (if 2 > n then 2 else n) := by
    intro m hm
    refine ⟨cdivw ?_ ?_, ?_, ?_⟩
    · split <;> omega
    · split <;> omega
    · split <;> omega
    · exact Int.ediv_nonneg hm (by split <;> omega)
  have fin : ∀ m : Int, 0 ≤ m % (if 1 > n then 1 else n) ∧ (m % (if 1 > n then 1 else n) < n ∨ m % (if 1 > n then 1 else n) = 0) := by
    intro m
    split
    · exact ⟨by omega, .inr (by omega)⟩
    · exact ⟨mod_lo (by omega), .inl (mod_hi (by omega))⟩
  have done : ∀ (i h t m : Int), 0 ≤ i → 0 ≤ h → 0 ≤ t → t < 2147483647 → R (.d (.int (m % (if 1 > n then 1 else n)))) [.own [dI ns, .int i, .int h, .int t], .d (.int n)] := fun i h t m a b c d => k _ _ ⟨ns, i, h, t, rfl, hn, a, b, c, d⟩ (fin m).1 (fin m).2
  (repeat ((conv => whnf); first | refine and_t rfl ?_ | refine and_f rfl ?_ | refine ⟨_, atI_0, ?_⟩ | refine ⟨_, atI_1, ?_⟩ | refine ⟨_, atI_2, ?_⟩ | refine ⟨_, atI_3, ?_⟩ | refine ⟨_, atI_4, ?_⟩ | refine ⟨_, atI_5, ?_⟩ | refine ⟨flI, ?_⟩ | refine ⟨flI', ?_⟩ | refine ⟨flN, ?_⟩ | refine ⟨flN', ?_⟩ | refine ⟨flS, ?_⟩ | refine ⟨flS', ?_⟩ | refine ⟨flB, ?_⟩ | refine ⟨flB', ?_⟩ | refine ⟨dI_dep, ?_⟩ | refine ⟨dS_dep, ?_⟩ | refine ⟨dB_dep, ?_⟩ | refine ⟨dN_dep, ?_⟩ | refine ⟨_, ixN_0, ?_⟩ | refine ⟨_, ixN_1, ?_⟩ | refine ⟨_, ixN_2, ?_⟩ | refine ⟨_, ixN_3, ?_⟩ | refine ⟨_, ixN_4, ?_⟩); try (conv => whnf))
  refine ⟨fun hk => ?_, fun hk => ?_⟩
  · (repeat ((conv => whnf); first | refine and_t rfl ?_ | refine and_f rfl ?_ | refine ⟨_, atI_0, ?_⟩ | refine ⟨_, atI_1, ?_⟩ | refine ⟨_, atI_2, ?_⟩ | refine ⟨_, atI_3, ?_⟩ | refine ⟨_, atI_4, ?_⟩ | refine ⟨_, atI_5, ?_⟩ | refine ⟨flI, ?_⟩ | refine ⟨flI', ?_⟩ | refine ⟨flN, ?_⟩ | refine ⟨flN', ?_⟩ | refine ⟨flS, ?_⟩ | refine ⟨flS', ?_⟩ | refine ⟨flB, ?_⟩ | refine ⟨flB', ?_⟩ | refine ⟨dI_dep, ?_⟩ | refine ⟨dS_dep, ?_⟩ | refine ⟨dB_dep, ?_⟩ | refine ⟨dN_dep, ?_⟩ | refine ⟨_, ixN_0, ?_⟩ | refine ⟨_, ixN_1, ?_⟩ | refine ⟨_, ixN_2, ?_⟩ | refine ⟨_, ixN_3, ?_⟩ | refine ⟨_, ixN_4, ?_⟩); try (conv => whnf))
    refine ⟨fun σ => ∃ (m t : Int), σ = [some (.par 0 [dI ns, .int i, .int h, .int t]), some (.d (.int n)), some (.d (.int i)), some (.d (.int m))] ∧ 0 ≤ m ∧ 0 ≤ t ∧ t < 2147483647, ?_, ?_⟩
    · (repeat ((conv => whnf); first | refine and_t rfl ?_ | refine and_f rfl ?_ | refine ⟨_, atI_0, ?_⟩ | refine ⟨_, atI_1, ?_⟩ | refine ⟨_, atI_2, ?_⟩ | refine ⟨_, atI_3, ?_⟩ | refine ⟨_, atI_4, ?_⟩ | refine ⟨_, atI_5, ?_⟩ | refine ⟨flI, ?_⟩ | refine ⟨flI', ?_⟩ | refine ⟨flN, ?_⟩ | refine ⟨flN', ?_⟩ | refine ⟨flS, ?_⟩ | refine ⟨flS', ?_⟩ | refine ⟨flB, ?_⟩ | refine ⟨flB', ?_⟩ | refine ⟨dI_dep, ?_⟩ | refine ⟨dS_dep, ?_⟩ | refine ⟨dB_dep, ?_⟩ | refine ⟨dN_dep, ?_⟩ | refine ⟨_, ixN_0, ?_⟩ | refine ⟨_, ixN_1, ?_⟩ | refine ⟨_, ixN_2, ?_⟩ | refine ⟨_, ixN_3, ?_⟩ | refine ⟨_, ixN_4, ?_⟩); try (conv => whnf))
      refine ⟨fun hl => ?_, fun hl => ?_⟩
      · have hl := of_decide_eq_true hl
        obtain ⟨c, e1, e2, e3⟩ := atI_lt (xs := ns.map PyData.int) hi hl
        (repeat ((conv => whnf); first | refine and_t rfl ?_ | refine and_f rfl ?_ | refine ⟨_, atI_0, ?_⟩ | refine ⟨_, atI_1, ?_⟩ | refine ⟨_, atI_2, ?_⟩ | refine ⟨_, atI_3, ?_⟩ | refine ⟨_, atI_4, ?_⟩ | refine ⟨_, atI_5, ?_⟩ | refine ⟨flI, ?_⟩ | refine ⟨flI', ?_⟩ | refine ⟨flN, ?_⟩ | refine ⟨flN', ?_⟩ | refine ⟨flS, ?_⟩ | refine ⟨flS', ?_⟩ | refine ⟨flB, ?_⟩ | refine ⟨flB', ?_⟩ | refine ⟨dI_dep, ?_⟩ | refine ⟨dS_dep, ?_⟩ | refine ⟨dB_dep, ?_⟩ | refine ⟨dN_dep, ?_⟩ | refine ⟨_, ixN_0, ?_⟩ | refine ⟨_, ixN_1, ?_⟩ | refine ⟨_, ixN_2, ?_⟩ | refine ⟨_, ixN_3, ?_⟩ | refine ⟨_, ixN_4, ?_⟩); try (conv => whnf))
        refine ⟨c, e2, ?_⟩
        obtain ⟨z, _, rfl⟩ := List.mem_map.mp e3
        (conv => whnf)
        exact ⟨_, t, rfl, by split <;> omega, h0, h1⟩
      · (repeat ((conv => whnf); first | refine and_t rfl ?_ | refine and_f rfl ?_ | refine ⟨_, atI_0, ?_⟩ | refine ⟨_, atI_1, ?_⟩ | refine ⟨_, atI_2, ?_⟩ | refine ⟨_, atI_3, ?_⟩ | refine ⟨_, atI_4, ?_⟩ | refine ⟨_, atI_5, ?_⟩ | refine ⟨flI, ?_⟩ | refine ⟨flI', ?_⟩ | refine ⟨flN, ?_⟩ | refine ⟨flN', ?_⟩ | refine ⟨flS, ?_⟩ | refine ⟨flS', ?_⟩ | refine ⟨flB, ?_⟩ | refine ⟨flB', ?_⟩ | refine ⟨dI_dep, ?_⟩ | refine ⟨dS_dep, ?_⟩ | refine ⟨dB_dep, ?_⟩ | refine ⟨dN_dep, ?_⟩ | refine ⟨_, ixN_0, ?_⟩ | refine ⟨_, ixN_1, ?_⟩ | refine ⟨_, ixN_2, ?_⟩ | refine ⟨_, ixN_3, ?_⟩ | refine ⟨_, ixN_4, ?_⟩); try (conv => whnf))
        refine ⟨small_mul h0 (by omega), ?_⟩
        (repeat ((conv => whnf); first | refine and_t rfl ?_ | refine and_f rfl ?_ | refine ⟨_, atI_0, ?_⟩ | refine ⟨_, atI_1, ?_⟩ | refine ⟨_, atI_2, ?_⟩ | refine ⟨_, atI_3, ?_⟩ | refine ⟨_, atI_4, ?_⟩ | refine ⟨_, atI_5, ?_⟩ | refine ⟨flI, ?_⟩ | refine ⟨flI', ?_⟩ | refine ⟨flN, ?_⟩ | refine ⟨flN', ?_⟩ | refine ⟨flS, ?_⟩ | refine ⟨flS', ?_⟩ | refine ⟨flB, ?_⟩ | refine ⟨flB', ?_⟩ | refine ⟨dI_dep, ?_⟩ | refine ⟨dS_dep, ?_⟩ | refine ⟨dB_dep, ?_⟩ | refine ⟨dN_dep, ?_⟩ | refine ⟨_, ixN_0, ?_⟩ | refine ⟨_, ixN_1, ?_⟩ | refine ⟨_, ixN_2, ?_⟩ | refine ⟨_, ixN_3, ?_⟩ | refine ⟨_, ixN_4, ?_⟩); try (conv => whnf))
        refine ⟨by omega, ?_⟩
        (repeat ((conv => whnf); first | refine and_t rfl ?_ | refine and_f rfl ?_ | refine ⟨_, atI_0, ?_⟩ | refine ⟨_, atI_1, ?_⟩ | refine ⟨_, atI_2, ?_⟩ | refine ⟨_, atI_3, ?_⟩ | refine ⟨_, atI_4, ?_⟩ | refine ⟨_, atI_5, ?_⟩ | refine ⟨flI, ?_⟩ | refine ⟨flI', ?_⟩ | refine ⟨flN, ?_⟩ | refine ⟨flN', ?_⟩ | refine ⟨flS, ?_⟩ | refine ⟨flS', ?_⟩ | refine ⟨flB, ?_⟩ | refine ⟨flB', ?_⟩ | refine ⟨dI_dep, ?_⟩ | refine ⟨dS_dep, ?_⟩ | refine ⟨dB_dep, ?_⟩ | refine ⟨dN_dep, ?_⟩ | refine ⟨_, ixN_0, ?_⟩ | refine ⟨_, ixN_1, ?_⟩ | refine ⟨_, ixN_2, ?_⟩ | refine ⟨_, ixN_3, ?_⟩ | refine ⟨_, ixN_4, ?_⟩); try (conv => whnf))
        exact ⟨_, _, rfl, mod_lo (by omega), mod_lo (by omega), mod_hi (by omega)⟩
    · rintro σ ⟨m, t, rfl, hm, h0, h1⟩
      (repeat ((conv => whnf); first | refine and_t rfl ?_ | refine and_f rfl ?_ | refine ⟨_, atI_0, ?_⟩ | refine ⟨_, atI_1, ?_⟩ | refine ⟨_, atI_2, ?_⟩ | refine ⟨_, atI_3, ?_⟩ | refine ⟨_, atI_4, ?_⟩ | refine ⟨_, atI_5, ?_⟩ | refine ⟨flI, ?_⟩ | refine ⟨flI', ?_⟩ | refine ⟨flN, ?_⟩ | refine ⟨flN', ?_⟩ | refine ⟨flS, ?_⟩ | refine ⟨flS', ?_⟩ | refine ⟨flB, ?_⟩ | refine ⟨flB', ?_⟩ | refine ⟨dI_dep, ?_⟩ | refine ⟨dS_dep, ?_⟩ | refine ⟨dB_dep, ?_⟩ | refine ⟨dN_dep, ?_⟩ | refine ⟨_, ixN_0, ?_⟩ | refine ⟨_, ixN_1, ?_⟩ | refine ⟨_, ixN_2, ?_⟩ | refine ⟨_, ixN_3, ?_⟩ | refine ⟨_, ixN_4, ?_⟩); try (conv => whnf))
      refine ⟨⟨by omega, by omega, by decide⟩, ?_⟩
      (repeat ((conv => whnf); first | refine and_t rfl ?_ | refine and_f rfl ?_ | refine ⟨_, atI_0, ?_⟩ | refine ⟨_, atI_1, ?_⟩ | refine ⟨_, atI_2, ?_⟩ | refine ⟨_, atI_3, ?_⟩ | refine ⟨_, atI_4, ?_⟩ | refine ⟨_, atI_5, ?_⟩ | refine ⟨flI, ?_⟩ | refine ⟨flI', ?_⟩ | refine ⟨flN, ?_⟩ | refine ⟨flN', ?_⟩ | refine ⟨flS, ?_⟩ | refine ⟨flS', ?_⟩ | refine ⟨flB, ?_⟩ | refine ⟨flB', ?_⟩ | refine ⟨dI_dep, ?_⟩ | refine ⟨dS_dep, ?_⟩ | refine ⟨dB_dep, ?_⟩ | refine ⟨dN_dep, ?_⟩ | refine ⟨_, ixN_0, ?_⟩ | refine ⟨_, ixN_1, ?_⟩ | refine ⟨_, ixN_2, ?_⟩ | refine ⟨_, ixN_3, ?_⟩ | refine ⟨_, ixN_4, ?_⟩); try (conv => whnf))
      refine ⟨fun hl => ?_, fun hl => ?_⟩
      · have hl : m < 1000000000000000000 := of_decide_eq_true hl
        (repeat ((conv => whnf); first | refine and_t rfl ?_ | refine and_f rfl ?_ | refine ⟨_, atI_0, ?_⟩ | refine ⟨_, atI_1, ?_⟩ | refine ⟨_, atI_2, ?_⟩ | refine ⟨_, atI_3, ?_⟩ | refine ⟨_, atI_4, ?_⟩ | refine ⟨_, atI_5, ?_⟩ | refine ⟨flI, ?_⟩ | refine ⟨flI', ?_⟩ | refine ⟨flN, ?_⟩ | refine ⟨flN', ?_⟩ | refine ⟨flS, ?_⟩ | refine ⟨flS', ?_⟩ | refine ⟨flB, ?_⟩ | refine ⟨flB', ?_⟩ | refine ⟨dI_dep, ?_⟩ | refine ⟨dS_dep, ?_⟩ | refine ⟨dB_dep, ?_⟩ | refine ⟨dN_dep, ?_⟩ | refine ⟨_, ixN_0, ?_⟩ | refine ⟨_, ixN_1, ?_⟩ | refine ⟨_, ixN_2, ?_⟩ | refine ⟨_, ixN_3, ?_⟩ | refine ⟨_, ixN_4, ?_⟩); try (conv => whnf))
        refine ⟨small_mul hm (by omega), ?_⟩
        (repeat ((conv => whnf); first | refine and_t rfl ?_ | refine and_f rfl ?_ | refine ⟨_, atI_0, ?_⟩ | refine ⟨_, atI_1, ?_⟩ | refine ⟨_, atI_2, ?_⟩ | refine ⟨_, atI_3, ?_⟩ | refine ⟨_, atI_4, ?_⟩ | refine ⟨_, atI_5, ?_⟩ | refine ⟨flI, ?_⟩ | refine ⟨flI', ?_⟩ | refine ⟨flN, ?_⟩ | refine ⟨flN', ?_⟩ | refine ⟨flS, ?_⟩ | refine ⟨flS', ?_⟩ | refine ⟨flB, ?_⟩ | refine ⟨flB', ?_⟩ | refine ⟨dI_dep, ?_⟩ | refine ⟨dS_dep, ?_⟩ | refine ⟨dB_dep, ?_⟩ | refine ⟨dN_dep, ?_⟩ | refine ⟨_, ixN_0, ?_⟩ | refine ⟨_, ixN_1, ?_⟩ | refine ⟨_, ixN_2, ?_⟩ | refine ⟨_, ixN_3, ?_⟩ | refine ⟨_, ixN_4, ?_⟩); try (conv => whnf))
        refine ⟨mul_small (by omega) (by omega), ?_⟩
        (repeat ((conv => whnf); first | refine and_t rfl ?_ | refine and_f rfl ?_ | refine ⟨_, atI_0, ?_⟩ | refine ⟨_, atI_1, ?_⟩ | refine ⟨_, atI_2, ?_⟩ | refine ⟨_, atI_3, ?_⟩ | refine ⟨_, atI_4, ?_⟩ | refine ⟨_, atI_5, ?_⟩ | refine ⟨flI, ?_⟩ | refine ⟨flI', ?_⟩ | refine ⟨flN, ?_⟩ | refine ⟨flN', ?_⟩ | refine ⟨flS, ?_⟩ | refine ⟨flS', ?_⟩ | refine ⟨flB, ?_⟩ | refine ⟨flB', ?_⟩ | refine ⟨dI_dep, ?_⟩ | refine ⟨dS_dep, ?_⟩ | refine ⟨dB_dep, ?_⟩ | refine ⟨dN_dep, ?_⟩ | refine ⟨_, ixN_0, ?_⟩ | refine ⟨_, ixN_1, ?_⟩ | refine ⟨_, ixN_2, ?_⟩ | refine ⟨_, ixN_3, ?_⟩ | refine ⟨_, ixN_4, ?_⟩); try (conv => whnf))
        refine ⟨by omega, ?_⟩
        (repeat ((conv => whnf); first | refine and_t rfl ?_ | refine and_f rfl ?_ | refine ⟨_, atI_0, ?_⟩ | refine ⟨_, atI_1, ?_⟩ | refine ⟨_, atI_2, ?_⟩ | refine ⟨_, atI_3, ?_⟩ | refine ⟨_, atI_4, ?_⟩ | refine ⟨_, atI_5, ?_⟩ | refine ⟨flI, ?_⟩ | refine ⟨flI', ?_⟩ | refine ⟨flN, ?_⟩ | refine ⟨flN', ?_⟩ | refine ⟨flS, ?_⟩ | refine ⟨flS', ?_⟩ | refine ⟨flB, ?_⟩ | refine ⟨flB', ?_⟩ | refine ⟨dI_dep, ?_⟩ | refine ⟨dS_dep, ?_⟩ | refine ⟨dB_dep, ?_⟩ | refine ⟨dN_dep, ?_⟩ | refine ⟨_, ixN_0, ?_⟩ | refine ⟨_, ixN_1, ?_⟩ | refine ⟨_, ixN_2, ?_⟩ | refine ⟨_, ixN_3, ?_⟩ | refine ⟨_, ixN_4, ?_⟩); try (conv => whnf))
        refine ⟨mul_small (by omega) (by omega), ?_⟩
        (repeat ((conv => whnf); first | refine and_t rfl ?_ | refine and_f rfl ?_ | refine ⟨_, atI_0, ?_⟩ | refine ⟨_, atI_1, ?_⟩ | refine ⟨_, atI_2, ?_⟩ | refine ⟨_, atI_3, ?_⟩ | refine ⟨_, atI_4, ?_⟩ | refine ⟨_, atI_5, ?_⟩ | refine ⟨flI, ?_⟩ | refine ⟨flI', ?_⟩ | refine ⟨flN, ?_⟩ | refine ⟨flN', ?_⟩ | refine ⟨flS, ?_⟩ | refine ⟨flS', ?_⟩ | refine ⟨flB, ?_⟩ | refine ⟨flB', ?_⟩ | refine ⟨dI_dep, ?_⟩ | refine ⟨dS_dep, ?_⟩ | refine ⟨dB_dep, ?_⟩ | refine ⟨dN_dep, ?_⟩ | refine ⟨_, ixN_0, ?_⟩ | refine ⟨_, ixN_1, ?_⟩ | refine ⟨_, ixN_2, ?_⟩ | refine ⟨_, ixN_3, ?_⟩ | refine ⟨_, ixN_4, ?_⟩); try (conv => whnf))
        refine ⟨by omega, ?_⟩
        (repeat ((conv => whnf); first | refine and_t rfl ?_ | refine and_f rfl ?_ | refine ⟨_, atI_0, ?_⟩ | refine ⟨_, atI_1, ?_⟩ | refine ⟨_, atI_2, ?_⟩ | refine ⟨_, atI_3, ?_⟩ | refine ⟨_, atI_4, ?_⟩ | refine ⟨_, atI_5, ?_⟩ | refine ⟨flI, ?_⟩ | refine ⟨flI', ?_⟩ | refine ⟨flN, ?_⟩ | refine ⟨flN', ?_⟩ | refine ⟨flS, ?_⟩ | refine ⟨flS', ?_⟩ | refine ⟨flB, ?_⟩ | refine ⟨flB', ?_⟩ | refine ⟨dI_dep, ?_⟩ | refine ⟨dS_dep, ?_⟩ | refine ⟨dB_dep, ?_⟩ | refine ⟨dN_dep, ?_⟩ | refine ⟨_, ixN_0, ?_⟩ | refine ⟨_, ixN_1, ?_⟩ | refine ⟨_, ixN_2, ?_⟩ | refine ⟨_, ixN_3, ?_⟩ | refine ⟨_, ixN_4, ?_⟩); try (conv => whnf))
        refine ⟨(big 0 (by omega)).2.1, ?_⟩
        exact done _ _ _ _ (by omega) hh h0 h1
      · (repeat ((conv => whnf); first | refine and_t rfl ?_ | refine and_f rfl ?_ | refine ⟨_, atI_0, ?_⟩ | refine ⟨_, atI_1, ?_⟩ | refine ⟨_, atI_2, ?_⟩ | refine ⟨_, atI_3, ?_⟩ | refine ⟨_, atI_4, ?_⟩ | refine ⟨_, atI_5, ?_⟩ | refine ⟨flI, ?_⟩ | refine ⟨flI', ?_⟩ | refine ⟨flN, ?_⟩ | refine ⟨flN', ?_⟩ | refine ⟨flS, ?_⟩ | refine ⟨flS', ?_⟩ | refine ⟨flB, ?_⟩ | refine ⟨flB', ?_⟩ | refine ⟨dI_dep, ?_⟩ | refine ⟨dS_dep, ?_⟩ | refine ⟨dB_dep, ?_⟩ | refine ⟨dN_dep, ?_⟩ | refine ⟨_, ixN_0, ?_⟩ | refine ⟨_, ixN_1, ?_⟩ | refine ⟨_, ixN_2, ?_⟩ | refine ⟨_, ixN_3, ?_⟩ | refine ⟨_, ixN_4, ?_⟩); try (conv => whnf))
        refine ⟨(big m hm).1, ?_⟩
        (repeat ((conv => whnf); first | refine and_t rfl ?_ | refine and_f rfl ?_ | refine ⟨_, atI_0, ?_⟩ | refine ⟨_, atI_1, ?_⟩ | refine ⟨_, atI_2, ?_⟩ | refine ⟨_, atI_3, ?_⟩ | refine ⟨_, atI_4, ?_⟩ | refine ⟨_, atI_5, ?_⟩ | refine ⟨flI, ?_⟩ | refine ⟨flI', ?_⟩ | refine ⟨flN, ?_⟩ | refine ⟨flN', ?_⟩ | refine ⟨flS, ?_⟩ | refine ⟨flS', ?_⟩ | refine ⟨flB, ?_⟩ | refine ⟨flB', ?_⟩ | refine ⟨dI_dep, ?_⟩ | refine ⟨dS_dep, ?_⟩ | refine ⟨dB_dep, ?_⟩ | refine ⟨dN_dep, ?_⟩ | refine ⟨_, ixN_0, ?_⟩ | refine ⟨_, ixN_1, ?_⟩ | refine ⟨_, ixN_2, ?_⟩ | refine ⟨_, ixN_3, ?_⟩ | refine ⟨_, ixN_4, ?_⟩); try (conv => whnf))
        refine ⟨(big 0 (by omega)).2.1, ?_⟩
        exact done _ _ _ _ (by omega) (big m hm).2.2 h0 h1
  · (repeat ((conv => whnf); first | refine and_t rfl ?_ | refine and_f rfl ?_ | refine ⟨_, atI_0, ?_⟩ | refine ⟨_, atI_1, ?_⟩ | refine ⟨_, atI_2, ?_⟩ | refine ⟨_, atI_3, ?_⟩ | refine ⟨_, atI_4, ?_⟩ | refine ⟨_, atI_5, ?_⟩ | refine ⟨flI, ?_⟩ | refine ⟨flI', ?_⟩ | refine ⟨flN, ?_⟩ | refine ⟨flN', ?_⟩ | refine ⟨flS, ?_⟩ | refine ⟨flS', ?_⟩ | refine ⟨flB, ?_⟩ | refine ⟨flB', ?_⟩ | refine ⟨dI_dep, ?_⟩ | refine ⟨dS_dep, ?_⟩ | refine ⟨dB_dep, ?_⟩ | refine ⟨dN_dep, ?_⟩ | refine ⟨_, ixN_0, ?_⟩ | refine ⟨_, ixN_1, ?_⟩ | refine ⟨_, ixN_2, ?_⟩ | refine ⟨_, ixN_3, ?_⟩ | refine ⟨_, ixN_4, ?_⟩); try (conv => whnf))
    refine ⟨(big h hh).1, ?_⟩
    (repeat ((conv => whnf); first | refine and_t rfl ?_ | refine and_f rfl ?_ | refine ⟨_, atI_0, ?_⟩ | refine ⟨_, atI_1, ?_⟩ | refine ⟨_, atI_2, ?_⟩ | refine ⟨_, atI_3, ?_⟩ | refine ⟨_, atI_4, ?_⟩ | refine ⟨_, atI_5, ?_⟩ | refine ⟨flI, ?_⟩ | refine ⟨flI', ?_⟩ | refine ⟨flN, ?_⟩ | refine ⟨flN', ?_⟩ | refine ⟨flS, ?_⟩ | refine ⟨flS', ?_⟩ | refine ⟨flB, ?_⟩ | refine ⟨flB', ?_⟩ | refine ⟨dI_dep, ?_⟩ | refine ⟨dS_dep, ?_⟩ | refine ⟨dB_dep, ?_⟩ | refine ⟨dN_dep, ?_⟩ | refine ⟨_, ixN_0, ?_⟩ | refine ⟨_, ixN_1, ?_⟩ | refine ⟨_, ixN_2, ?_⟩ | refine ⟨_, ixN_3, ?_⟩ | refine ⟨_, ixN_4, ?_⟩); try (conv => whnf))
    refine ⟨(big 0 (by omega)).2.1, ?_⟩
    exact done _ _ _ _ hi (big h hh).2.2 h0 h1

def t_law_pick : DS :=
  (dRet (d2 opIx (dVar 1) (dCall sp_law_draw (dCons (dVar 0) (dCons (dAr (dCB bLen (dCons (dVar 1) dNil))) dNil)))))
--! uses: tape
theorem rd_law_pick : ∀ ss R, sp_law_pick ss R → t_law_pick (dEnd ss R) (startS 0 ss 0) := by
  rintro ss R ⟨tp, s, xs, rfl, hs, ht, hx, hl, k⟩
  have key : ∀ r : Int, 0 ≤ r → r < (xs.length : Int) ∨ r = 0 → ∃ x, atI xs r = some x ∧ x ∈ xs := by
    intro r h0 h1
    have : 0 < xs.length := List.length_pos_iff.mpr hx
    obtain ⟨x, _, e, m⟩ := atI_lt (xs := xs) (i := r) h0 (by omega)
    exact ⟨x, e, m⟩
  cases s with
  | own ys =>
    cases hs
    (conv => whnf)
    refine ⟨rfl, tp, _, rfl, ht, ?_, fun tp' r h' h0 h1 => ?_⟩
    · show (xs.length : Int) < 1152921504606846976
      omega
    · obtain ⟨x, e, m⟩ := key r h0 h1
      (conv => whnf)
      exact ⟨x, e, k _ _ h' m⟩
  | d y =>
    cases y with
    | tuple ys =>
      cases hs
      (conv => whnf)
      refine ⟨rfl, tp, _, rfl, ht, ?_, fun tp' r h' h0 h1 => ?_⟩
      · show (xs.length : Int) < 1152921504606846976
        omega
      · obtain ⟨x, e, m⟩ := key r h0 h1
        (conv => whnf)
        exact ⟨x, e, k _ _ h' m⟩
    | list ys =>
      cases hs
      (conv => whnf)
      refine ⟨rfl, tp, _, rfl, ht, ?_, fun tp' r h' h0 h1 => ?_⟩
      · show (xs.length : Int) < 1152921504606846976
        omega
      · obtain ⟨x, e, m⟩ := key r h0 h1
        (conv => whnf)
        exact ⟨x, e, k _ _ h' m⟩
    | _ => cases hs
  | _ => cases hs

--! uses: same

def t_law_same (n : Nat) : DS :=
  (dSeq (dIfS (dTru (dIs isTup (dVar 1))) (dSeq (dIfS (dTOr (dTNot (dTru (dIs isTup (dVar 0)))) (dTst (d2 opNe (dCB bLen (dCons (dVar 0) dNil)) (dCB bLen (dCons (dVar 1) dNil))))) (dRet (dC (.bool false))) dNext)
    (dRet (d2 (opIn true) (dC (.bool false)) (dLc (dRng1 (dCons (dCB bLen (dCons (dVar 1) dNil)) dNil)) (dgName 2) dYes (dFz (dCall (sp_law_same n) (dCons (dAr (d2 opIx (dVar 0) (dVar 2))) (dCons (dAr (d2 opIx (dVar 1) (dVar 2))) dNil)))) [2])))) dNext)
    (dSeq (dIfS (dTOr (dTst (dIsN false (dVar 1))) (dTst (dIsN false (dVar 0)))) (dRet (dAnd (dIsN false (dVar 1)) (dIsN false (dVar 0)))) dNext)
    (dSeq (dIfS (dTOr (dTst (d2 opNe (dIs isBool (dVar 0)) (dIs isBool (dVar 1)))) (dTst (d2 opNe (dIs isStr (dVar 0)) (dIs isStr (dVar 1))))) (dRet (dC (.bool false))) dNext)
    (dRet (dAnd (d2 opEq (dIs isInt (dVar 0)) (dIs isInt (dVar 1))) (d2 opEq (dVar 0) (dVar 1)))))))

theorem rd_law_same (n : Nat) : ∀ ss R, sp_law_same (n + 1) ss R → t_law_same n (dEnd ss R) (startS 0 ss 1) := by
  rintro ss R ⟨x, rfl, hp, k⟩
  cases x with
  | tuple xs =>
    cases n with
    | zero => exact hp.elim
    | succ n =>
      obtain ⟨hl, hx⟩ := hp
      (repeat ((conv => whnf); first | refine and_t rfl ?_ | refine and_f rfl ?_ | refine ⟨_, atI_0, ?_⟩ | refine ⟨_, atI_1, ?_⟩ | refine ⟨_, atI_2, ?_⟩ | refine ⟨_, atI_3, ?_⟩ | refine ⟨_, atI_4, ?_⟩ | refine ⟨_, atI_5, ?_⟩ | refine ⟨flI, ?_⟩ | refine ⟨flI', ?_⟩ | refine ⟨flN, ?_⟩ | refine ⟨flN', ?_⟩ | refine ⟨flS, ?_⟩ | refine ⟨flS', ?_⟩ | refine ⟨flB, ?_⟩ | refine ⟨flB', ?_⟩ | refine ⟨dI_dep, ?_⟩ | refine ⟨dS_dep, ?_⟩ | refine ⟨dB_dep, ?_⟩ | refine ⟨dN_dep, ?_⟩ | refine ⟨_, ixN_0, ?_⟩ | refine ⟨_, ixN_1, ?_⟩ | refine ⟨_, ixN_2, ?_⟩ | refine ⟨_, ixN_3, ?_⟩ | refine ⟨_, ixN_4, ?_⟩); try (conv => whnf))
      refine and_f (by rw [eqv_int]; rfl) ?_
      (repeat ((conv => whnf); first | refine and_t rfl ?_ | refine and_f rfl ?_ | refine ⟨_, atI_0, ?_⟩ | refine ⟨_, atI_1, ?_⟩ | refine ⟨_, atI_2, ?_⟩ | refine ⟨_, atI_3, ?_⟩ | refine ⟨_, atI_4, ?_⟩ | refine ⟨_, atI_5, ?_⟩ | refine ⟨flI, ?_⟩ | refine ⟨flI', ?_⟩ | refine ⟨flN, ?_⟩ | refine ⟨flN', ?_⟩ | refine ⟨flS, ?_⟩ | refine ⟨flS', ?_⟩ | refine ⟨flB, ?_⟩ | refine ⟨flB', ?_⟩ | refine ⟨dI_dep, ?_⟩ | refine ⟨dS_dep, ?_⟩ | refine ⟨dB_dep, ?_⟩ | refine ⟨dN_dep, ?_⟩ | refine ⟨_, ixN_0, ?_⟩ | refine ⟨_, ixN_1, ?_⟩ | refine ⟨_, ixN_2, ?_⟩ | refine ⟨_, ixN_3, ?_⟩ | refine ⟨_, ixN_4, ?_⟩); try (conv => whnf))
      refine ⟨rng_ok hl, rfl, ?_⟩
      refine ⟨fun i acc ρ => acc = List.replicate i (.bool true) ∧ ρ = [some (.d (.tuple xs)), some (.d (.tuple xs)), none], ⟨rfl, rfl⟩, ?_, ?_⟩
      · rintro i d acc ρ e ⟨rfl, rfl⟩
        obtain ⟨hi, rfl⟩ := rngD_at e
        have hi' : i < xs.length := hi
        have e1 : xs[i]? = some xs[i] := List.getElem?_eq_getElem hi'
        have e2 : atI xs (0 + (i : Int)) = some xs[i] := by rw [Int.zero_add]; exact atI_nat e1
        (repeat ((conv => whnf); first | refine and_t rfl ?_ | refine and_f rfl ?_ | refine ⟨_, atI_0, ?_⟩ | refine ⟨_, atI_1, ?_⟩ | refine ⟨_, atI_2, ?_⟩ | refine ⟨_, atI_3, ?_⟩ | refine ⟨_, atI_4, ?_⟩ | refine ⟨_, atI_5, ?_⟩ | refine ⟨flI, ?_⟩ | refine ⟨flI', ?_⟩ | refine ⟨flN, ?_⟩ | refine ⟨flN', ?_⟩ | refine ⟨flS, ?_⟩ | refine ⟨flS', ?_⟩ | refine ⟨flB, ?_⟩ | refine ⟨flB', ?_⟩ | refine ⟨dI_dep, ?_⟩ | refine ⟨dS_dep, ?_⟩ | refine ⟨dB_dep, ?_⟩ | refine ⟨dN_dep, ?_⟩ | refine ⟨_, ixN_0, ?_⟩ | refine ⟨_, ixN_1, ?_⟩ | refine ⟨_, ixN_2, ?_⟩ | refine ⟨_, ixN_3, ?_⟩ | refine ⟨_, ixN_4, ?_⟩); try (conv => whnf))
        refine ⟨_, e2, ?_⟩
        (repeat ((conv => whnf); first | refine and_t rfl ?_ | refine and_f rfl ?_ | refine ⟨_, atI_0, ?_⟩ | refine ⟨_, atI_1, ?_⟩ | refine ⟨_, atI_2, ?_⟩ | refine ⟨_, atI_3, ?_⟩ | refine ⟨_, atI_4, ?_⟩ | refine ⟨_, atI_5, ?_⟩ | refine ⟨flI, ?_⟩ | refine ⟨flI', ?_⟩ | refine ⟨flN, ?_⟩ | refine ⟨flN', ?_⟩ | refine ⟨flS, ?_⟩ | refine ⟨flS', ?_⟩ | refine ⟨flB, ?_⟩ | refine ⟨flB', ?_⟩ | refine ⟨dI_dep, ?_⟩ | refine ⟨dS_dep, ?_⟩ | refine ⟨dB_dep, ?_⟩ | refine ⟨dN_dep, ?_⟩ | refine ⟨_, ixN_0, ?_⟩ | refine ⟨_, ixN_1, ?_⟩ | refine ⟨_, ixN_2, ?_⟩ | refine ⟨_, ixN_3, ?_⟩ | refine ⟨_, ixN_4, ?_⟩); try (conv => whnf))
        refine ⟨_, e2, ?_⟩
        (conv => whnf)
        refine ⟨rfl, ?_⟩
        refine ⟨_, rfl, hx _ (List.getElem_mem hi'), ?_⟩
        exact ⟨(List.replicate_succ' (n := i)).symm, rfl⟩
      · rintro acc ρ ⟨rfl, rfl⟩
        (repeat ((conv => whnf); first | refine and_t rfl ?_ | refine and_f rfl ?_ | refine ⟨_, atI_0, ?_⟩ | refine ⟨_, atI_1, ?_⟩ | refine ⟨_, atI_2, ?_⟩ | refine ⟨_, atI_3, ?_⟩ | refine ⟨_, atI_4, ?_⟩ | refine ⟨_, atI_5, ?_⟩ | refine ⟨flI, ?_⟩ | refine ⟨flI', ?_⟩ | refine ⟨flN, ?_⟩ | refine ⟨flN', ?_⟩ | refine ⟨flS, ?_⟩ | refine ⟨flS', ?_⟩ | refine ⟨flB, ?_⟩ | refine ⟨flB', ?_⟩ | refine ⟨dI_dep, ?_⟩ | refine ⟨dS_dep, ?_⟩ | refine ⟨dB_dep, ?_⟩ | refine ⟨dN_dep, ?_⟩ | refine ⟨_, ixN_0, ?_⟩ | refine ⟨_, ixN_1, ?_⟩ | refine ⟨_, ixN_2, ?_⟩ | refine ⟨_, ixN_3, ?_⟩ | refine ⟨_, ixN_4, ?_⟩); try (conv => whnf))
        have : ∀ m : Nat, (List.replicate m (PyData.bool true)).any (fun y => PyData.eqv y (.bool false)) = false := by
          intro m
          rw [List.any_eq_false]
          intro x hx
          rw [List.eq_of_mem_replicate hx]
          decide
        rw [this]
        exact k
  | none => (repeat ((conv => whnf); first | refine and_t rfl ?_ | refine and_f rfl ?_ | refine ⟨_, atI_0, ?_⟩ | refine ⟨_, atI_1, ?_⟩ | refine ⟨_, atI_2, ?_⟩ | refine ⟨_, atI_3, ?_⟩ | refine ⟨_, atI_4, ?_⟩ | refine ⟨_, atI_5, ?_⟩ | refine ⟨flI, ?_⟩ | refine ⟨flI', ?_⟩ | refine ⟨flN, ?_⟩ | refine ⟨flN', ?_⟩ | refine ⟨flS, ?_⟩ | refine ⟨flS', ?_⟩ | refine ⟨flB, ?_⟩ | refine ⟨flB', ?_⟩ | refine ⟨dI_dep, ?_⟩ | refine ⟨dS_dep, ?_⟩ | refine ⟨dB_dep, ?_⟩ | refine ⟨dN_dep, ?_⟩ | refine ⟨_, ixN_0, ?_⟩ | refine ⟨_, ixN_1, ?_⟩ | refine ⟨_, ixN_2, ?_⟩ | refine ⟨_, ixN_3, ?_⟩ | refine ⟨_, ixN_4, ?_⟩); try (conv => whnf)); exact k
  | int i =>
    (repeat ((conv => whnf); first | refine and_t rfl ?_ | refine and_f rfl ?_ | refine ⟨_, atI_0, ?_⟩ | refine ⟨_, atI_1, ?_⟩ | refine ⟨_, atI_2, ?_⟩ | refine ⟨_, atI_3, ?_⟩ | refine ⟨_, atI_4, ?_⟩ | refine ⟨_, atI_5, ?_⟩ | refine ⟨flI, ?_⟩ | refine ⟨flI', ?_⟩ | refine ⟨flN, ?_⟩ | refine ⟨flN', ?_⟩ | refine ⟨flS, ?_⟩ | refine ⟨flS', ?_⟩ | refine ⟨flB, ?_⟩ | refine ⟨flB', ?_⟩ | refine ⟨dI_dep, ?_⟩ | refine ⟨dS_dep, ?_⟩ | refine ⟨dB_dep, ?_⟩ | refine ⟨dN_dep, ?_⟩ | refine ⟨_, ixN_0, ?_⟩ | refine ⟨_, ixN_1, ?_⟩ | refine ⟨_, ixN_2, ?_⟩ | refine ⟨_, ixN_3, ?_⟩ | refine ⟨_, ixN_4, ?_⟩); try (conv => whnf))
    have : PyData.eqv (.int i) (.int i) = true := by show decide (i = i) = true; simp
    rw [this]
    exact k
  | bool b =>
    (repeat ((conv => whnf); first | refine and_t rfl ?_ | refine and_f rfl ?_ | refine ⟨_, atI_0, ?_⟩ | refine ⟨_, atI_1, ?_⟩ | refine ⟨_, atI_2, ?_⟩ | refine ⟨_, atI_3, ?_⟩ | refine ⟨_, atI_4, ?_⟩ | refine ⟨_, atI_5, ?_⟩ | refine ⟨flI, ?_⟩ | refine ⟨flI', ?_⟩ | refine ⟨flN, ?_⟩ | refine ⟨flN', ?_⟩ | refine ⟨flS, ?_⟩ | refine ⟨flS', ?_⟩ | refine ⟨flB, ?_⟩ | refine ⟨flB', ?_⟩ | refine ⟨dI_dep, ?_⟩ | refine ⟨dS_dep, ?_⟩ | refine ⟨dB_dep, ?_⟩ | refine ⟨dN_dep, ?_⟩ | refine ⟨_, ixN_0, ?_⟩ | refine ⟨_, ixN_1, ?_⟩ | refine ⟨_, ixN_2, ?_⟩ | refine ⟨_, ixN_3, ?_⟩ | refine ⟨_, ixN_4, ?_⟩); try (conv => whnf))
    have : PyData.eqv (.bool b) (.bool b) = true := by cases b <;> decide
    rw [this]
    exact k
  | str s =>
    (repeat ((conv => whnf); first | refine and_t rfl ?_ | refine and_f rfl ?_ | refine ⟨_, atI_0, ?_⟩ | refine ⟨_, atI_1, ?_⟩ | refine ⟨_, atI_2, ?_⟩ | refine ⟨_, atI_3, ?_⟩ | refine ⟨_, atI_4, ?_⟩ | refine ⟨_, atI_5, ?_⟩ | refine ⟨flI, ?_⟩ | refine ⟨flI', ?_⟩ | refine ⟨flN, ?_⟩ | refine ⟨flN', ?_⟩ | refine ⟨flS, ?_⟩ | refine ⟨flS', ?_⟩ | refine ⟨flB, ?_⟩ | refine ⟨flB', ?_⟩ | refine ⟨dI_dep, ?_⟩ | refine ⟨dS_dep, ?_⟩ | refine ⟨dB_dep, ?_⟩ | refine ⟨dN_dep, ?_⟩ | refine ⟨_, ixN_0, ?_⟩ | refine ⟨_, ixN_1, ?_⟩ | refine ⟨_, ixN_2, ?_⟩ | refine ⟨_, ixN_3, ?_⟩ | refine ⟨_, ixN_4, ?_⟩); try (conv => whnf))
    rw [eqv_str]
    exact k
  | list xs => cases n <;> exact hp.elim
  | dict xs => cases n <;> exact hp.elim

def t_law_a_marks : DS :=
  (dSeq (dSet 0 (d2 opAdd (d2 opAdd (dLc (dRng1 (dCons (dC (.int 7)) dNil)) (dgName 1) dYes (dTup (dCons (dC (.str "run")) (dCons (dFz (dVar 1)) dNil))) [1]) (dLc (dRng1 (dCons (dC (.int 5)) dNil)) (dgName 1) dYes (dTup (dCons (dC (.str "wide")) (dCons (dFz (dVar 1)) dNil))) [1])) (dLc (dRng1 (dCons (dC (.int 7)) dNil)) (dgName 1) dYes (dTup (dCons (dC (.str "noball")) (dCons (dFz (dVar 1)) dNil))) [1])))
    (dSeq (dSet 0 (d2 opAdd (d2 opAdd (dVar 0) (dLc (dRng2 (dCons (dC (.int 1)) (dCons (dC (.int 5)) dNil))) (dgName 1) dYes (dTup (dCons (dC (.str "bye")) (dCons (dFz (dVar 1)) dNil))) [1])) (dLst (dCons (dTup (dCons (dC (.str "out")) dNil)) dNil))))
    (dSeq (dFor (dRng1 (dCons (dC (.int 4)) dNil)) (dgName 1) (dSet 0 (d2 opAdd (dVar 0) (dLst (dCons (dTup (dCons (dC (.str "runout")) (dCons (dFz (dVar 1)) (dCons (dC (.str "striker")) dNil)))) (dCons (dTup (dCons (dC (.str "runout")) (dCons (dFz (dVar 1)) (dCons (dC (.str "other")) dNil)))) dNil))))))
    (dRet (dVar 0)))))
--! uses: marks
def sp_law_a_marks : DSp := fun ss R => ss = [] ∧ R (.own (allMks.map Mk.enc)) ss
theorem len_law_a_marks : ∀ ss R, sp_law_a_marks ss R → ss.length = 0 := by
  rintro ss R ⟨rfl, h⟩; rfl
theorem rd_law_a_marks : ∀ ss R, sp_law_a_marks ss R → t_law_a_marks (dEnd ss R) (startS 0 ss 2) := by
  rintro ss R ⟨rfl, k⟩
  have st : ∀ (f : Nat → PyData) (i : Nat), (List.range i).map f ++ [f i] = (List.range (i + 1)).map f := fun f i => by rw [List.range_succ, List.map_append]; rfl
  (conv => whnf)
  refine ⟨rng_okI (by decide) (by decide), rfl, fun i acc ρ => acc = ((List.range i).map fun n : Nat => Mk.enc (.run (0 + n))) ∧ ρ = [none, none], ⟨rfl, rfl⟩, ?_, ?_⟩
  · rintro i d acc ρ e ⟨rfl, rfl⟩
    obtain ⟨hi, rfl⟩ := rngD_at e
    (repeat ((conv => whnf); first | refine and_t rfl ?_ | refine and_f rfl ?_ | refine ⟨_, atI_0, ?_⟩ | refine ⟨_, atI_1, ?_⟩ | refine ⟨_, atI_2, ?_⟩ | refine ⟨_, atI_3, ?_⟩ | refine ⟨_, atI_4, ?_⟩ | refine ⟨_, atI_5, ?_⟩ | refine ⟨flI, ?_⟩ | refine ⟨flI', ?_⟩ | refine ⟨flN, ?_⟩ | refine ⟨flN', ?_⟩ | refine ⟨flS, ?_⟩ | refine ⟨flS', ?_⟩ | refine ⟨flB, ?_⟩ | refine ⟨flB', ?_⟩ | refine ⟨dI_dep, ?_⟩ | refine ⟨dS_dep, ?_⟩ | refine ⟨dB_dep, ?_⟩ | refine ⟨dN_dep, ?_⟩ | refine ⟨_, ixN_0, ?_⟩ | refine ⟨_, ixN_1, ?_⟩ | refine ⟨_, ixN_2, ?_⟩ | refine ⟨_, ixN_3, ?_⟩ | refine ⟨_, ixN_4, ?_⟩); try (conv => whnf))
    exact ⟨st _ i, rfl⟩
  rintro acc ρ ⟨rfl, rfl⟩
  (conv => whnf)
  refine ⟨rng_okI (by decide) (by decide), rfl, fun i acc ρ => acc = ((List.range i).map fun n : Nat => Mk.enc (.wide (0 + n))) ∧ ρ = [none, none], ⟨rfl, rfl⟩, ?_, ?_⟩
  · rintro i d acc ρ e ⟨rfl, rfl⟩
    obtain ⟨hi, rfl⟩ := rngD_at e
    (repeat ((conv => whnf); first | refine and_t rfl ?_ | refine and_f rfl ?_ | refine ⟨_, atI_0, ?_⟩ | refine ⟨_, atI_1, ?_⟩ | refine ⟨_, atI_2, ?_⟩ | refine ⟨_, atI_3, ?_⟩ | refine ⟨_, atI_4, ?_⟩ | refine ⟨_, atI_5, ?_⟩ | refine ⟨flI, ?_⟩ | refine ⟨flI', ?_⟩ | refine ⟨flN, ?_⟩ | refine ⟨flN', ?_⟩ | refine ⟨flS, ?_⟩ | refine ⟨flS', ?_⟩ | refine ⟨flB, ?_⟩ | refine ⟨flB', ?_⟩ | refine ⟨dI_dep, ?_⟩ | refine ⟨dS_dep, ?_⟩ | refine ⟨dB_dep, ?_⟩ | refine ⟨dN_dep, ?_⟩ | refine ⟨_, ixN_0, ?_⟩ | refine ⟨_, ixN_1, ?_⟩ | refine ⟨_, ixN_2, ?_⟩ | refine ⟨_, ixN_3, ?_⟩ | refine ⟨_, ixN_4, ?_⟩); try (conv => whnf))
    exact ⟨st _ i, rfl⟩
  rintro acc ρ ⟨rfl, rfl⟩
  (conv => whnf)
  refine ⟨Nat.le_of_ble_eq_true rfl, ?_⟩
  (conv => whnf)
  refine ⟨rng_okI (by decide) (by decide), rfl, fun i acc ρ => acc = ((List.range i).map fun n : Nat => Mk.enc (.nob (0 + n))) ∧ ρ = [none, none], ⟨rfl, rfl⟩, ?_, ?_⟩
  · rintro i d acc ρ e ⟨rfl, rfl⟩
    obtain ⟨hi, rfl⟩ := rngD_at e
    (repeat ((conv => whnf); first | refine and_t rfl ?_ | refine and_f rfl ?_ | refine ⟨_, atI_0, ?_⟩ | refine ⟨_, atI_1, ?_⟩ | refine ⟨_, atI_2, ?_⟩ | refine ⟨_, atI_3, ?_⟩ | refine ⟨_, atI_4, ?_⟩ | refine ⟨_, atI_5, ?_⟩ | refine ⟨flI, ?_⟩ | refine ⟨flI', ?_⟩ | refine ⟨flN, ?_⟩ | refine ⟨flN', ?_⟩ | refine ⟨flS, ?_⟩ | refine ⟨flS', ?_⟩ | refine ⟨flB, ?_⟩ | refine ⟨flB', ?_⟩ | refine ⟨dI_dep, ?_⟩ | refine ⟨dS_dep, ?_⟩ | refine ⟨dB_dep, ?_⟩ | refine ⟨dN_dep, ?_⟩ | refine ⟨_, ixN_0, ?_⟩ | refine ⟨_, ixN_1, ?_⟩ | refine ⟨_, ixN_2, ?_⟩ | refine ⟨_, ixN_3, ?_⟩ | refine ⟨_, ixN_4, ?_⟩); try (conv => whnf))
    exact ⟨st _ i, rfl⟩
  rintro acc ρ ⟨rfl, rfl⟩
  (conv => whnf)
  refine ⟨Nat.le_of_ble_eq_true rfl, ?_⟩
  (conv => whnf)
  refine ⟨⟨by decide, by decide, by decide, by decide, by decide⟩, rfl, fun i acc ρ => acc = ((List.range i).map fun n : Nat => Mk.enc (.bye (1 + n))) ∧ ρ = [some (.own (allMks.take 19 |>.map Mk.enc)), none], ⟨rfl, rfl⟩, ?_, ?_⟩
  · rintro i d acc ρ e ⟨rfl, rfl⟩
    obtain ⟨hi, rfl⟩ := rngD_at e
    (repeat ((conv => whnf); first | refine and_t rfl ?_ | refine and_f rfl ?_ | refine ⟨_, atI_0, ?_⟩ | refine ⟨_, atI_1, ?_⟩ | refine ⟨_, atI_2, ?_⟩ | refine ⟨_, atI_3, ?_⟩ | refine ⟨_, atI_4, ?_⟩ | refine ⟨_, atI_5, ?_⟩ | refine ⟨flI, ?_⟩ | refine ⟨flI', ?_⟩ | refine ⟨flN, ?_⟩ | refine ⟨flN', ?_⟩ | refine ⟨flS, ?_⟩ | refine ⟨flS', ?_⟩ | refine ⟨flB, ?_⟩ | refine ⟨flB', ?_⟩ | refine ⟨dI_dep, ?_⟩ | refine ⟨dS_dep, ?_⟩ | refine ⟨dB_dep, ?_⟩ | refine ⟨dN_dep, ?_⟩ | refine ⟨_, ixN_0, ?_⟩ | refine ⟨_, ixN_1, ?_⟩ | refine ⟨_, ixN_2, ?_⟩ | refine ⟨_, ixN_3, ?_⟩ | refine ⟨_, ixN_4, ?_⟩); try (conv => whnf))
    exact ⟨st _ i, rfl⟩
  rintro acc ρ ⟨rfl, rfl⟩
  (conv => whnf)
  refine ⟨Nat.le_of_ble_eq_true rfl, ?_⟩
  (repeat ((conv => whnf); first | refine and_t rfl ?_ | refine and_f rfl ?_ | refine ⟨_, atI_0, ?_⟩ | refine ⟨_, atI_1, ?_⟩ | refine ⟨_, atI_2, ?_⟩ | refine ⟨_, atI_3, ?_⟩ | refine ⟨_, atI_4, ?_⟩ | refine ⟨_, atI_5, ?_⟩ | refine ⟨flI, ?_⟩ | refine ⟨flI', ?_⟩ | refine ⟨flN, ?_⟩ | refine ⟨flN', ?_⟩ | refine ⟨flS, ?_⟩ | refine ⟨flS', ?_⟩ | refine ⟨flB, ?_⟩ | refine ⟨flB', ?_⟩ | refine ⟨dI_dep, ?_⟩ | refine ⟨dS_dep, ?_⟩ | refine ⟨dB_dep, ?_⟩ | refine ⟨dN_dep, ?_⟩ | refine ⟨_, ixN_0, ?_⟩ | refine ⟨_, ixN_1, ?_⟩ | refine ⟨_, ixN_2, ?_⟩ | refine ⟨_, ixN_3, ?_⟩ | refine ⟨_, ixN_4, ?_⟩); try (conv => whnf))
  refine ⟨Nat.le_of_ble_eq_true rfl, ?_⟩
  (conv => whnf)
  refine ⟨rng_okI (by decide) (by decide), fun i σ => ∃ o, σ = [some (.own ((allMks.take (24 + 2 * i)).map Mk.enc)), o], ⟨none, rfl⟩, ?_, ?_⟩
  · rintro i d σ e ⟨o, rfl⟩
    obtain ⟨hi, rfl⟩ := rngD_at e
    match i, hi with
    | 0, _ => (repeat ((conv => whnf); first | refine and_t rfl ?_ | refine and_f rfl ?_ | refine ⟨_, atI_0, ?_⟩ | refine ⟨_, atI_1, ?_⟩ | refine ⟨_, atI_2, ?_⟩ | refine ⟨_, atI_3, ?_⟩ | refine ⟨_, atI_4, ?_⟩ | refine ⟨_, atI_5, ?_⟩ | refine ⟨flI, ?_⟩ | refine ⟨flI', ?_⟩ | refine ⟨flN, ?_⟩ | refine ⟨flN', ?_⟩ | refine ⟨flS, ?_⟩ | refine ⟨flS', ?_⟩ | refine ⟨flB, ?_⟩ | refine ⟨flB', ?_⟩ | refine ⟨dI_dep, ?_⟩ | refine ⟨dS_dep, ?_⟩ | refine ⟨dB_dep, ?_⟩ | refine ⟨dN_dep, ?_⟩ | refine ⟨_, ixN_0, ?_⟩ | refine ⟨_, ixN_1, ?_⟩ | refine ⟨_, ixN_2, ?_⟩ | refine ⟨_, ixN_3, ?_⟩ | refine ⟨_, ixN_4, ?_⟩); try (conv => whnf)); exact ⟨Nat.le_of_ble_eq_true rfl, _, rfl⟩
    | 1, _ => (repeat ((conv => whnf); first | refine and_t rfl ?_ | refine and_f rfl ?_ | refine ⟨_, atI_0, ?_⟩ | refine ⟨_, atI_1, ?_⟩ | refine ⟨_, atI_2, ?_⟩ | refine ⟨_, atI_3, ?_⟩ | refine ⟨_, atI_4, ?_⟩ | refine ⟨_, atI_5, ?_⟩ | refine ⟨flI, ?_⟩ | refine ⟨flI', ?_⟩ | refine ⟨flN, ?_⟩ | refine ⟨flN', ?_⟩ | refine ⟨flS, ?_⟩ | refine ⟨flS', ?_⟩ | refine ⟨flB, ?_⟩ | refine ⟨flB', ?_⟩ | refine ⟨dI_dep, ?_⟩ | refine ⟨dS_dep, ?_⟩ | refine ⟨dB_dep, ?_⟩ | refine ⟨dN_dep, ?_⟩ | refine ⟨_, ixN_0, ?_⟩ | refine ⟨_, ixN_1, ?_⟩ | refine ⟨_, ixN_2, ?_⟩ | refine ⟨_, ixN_3, ?_⟩ | refine ⟨_, ixN_4, ?_⟩); try (conv => whnf)); exact ⟨Nat.le_of_ble_eq_true rfl, _, rfl⟩
    | 2, _ => (repeat ((conv => whnf); first | refine and_t rfl ?_ | refine and_f rfl ?_ | refine ⟨_, atI_0, ?_⟩ | refine ⟨_, atI_1, ?_⟩ | refine ⟨_, atI_2, ?_⟩ | refine ⟨_, atI_3, ?_⟩ | refine ⟨_, atI_4, ?_⟩ | refine ⟨_, atI_5, ?_⟩ | refine ⟨flI, ?_⟩ | refine ⟨flI', ?_⟩ | refine ⟨flN, ?_⟩ | refine ⟨flN', ?_⟩ | refine ⟨flS, ?_⟩ | refine ⟨flS', ?_⟩ | refine ⟨flB, ?_⟩ | refine ⟨flB', ?_⟩ | refine ⟨dI_dep, ?_⟩ | refine ⟨dS_dep, ?_⟩ | refine ⟨dB_dep, ?_⟩ | refine ⟨dN_dep, ?_⟩ | refine ⟨_, ixN_0, ?_⟩ | refine ⟨_, ixN_1, ?_⟩ | refine ⟨_, ixN_2, ?_⟩ | refine ⟨_, ixN_3, ?_⟩ | refine ⟨_, ixN_4, ?_⟩); try (conv => whnf)); exact ⟨Nat.le_of_ble_eq_true rfl, _, rfl⟩
    | 3, _ => (repeat ((conv => whnf); first | refine and_t rfl ?_ | refine and_f rfl ?_ | refine ⟨_, atI_0, ?_⟩ | refine ⟨_, atI_1, ?_⟩ | refine ⟨_, atI_2, ?_⟩ | refine ⟨_, atI_3, ?_⟩ | refine ⟨_, atI_4, ?_⟩ | refine ⟨_, atI_5, ?_⟩ | refine ⟨flI, ?_⟩ | refine ⟨flI', ?_⟩ | refine ⟨flN, ?_⟩ | refine ⟨flN', ?_⟩ | refine ⟨flS, ?_⟩ | refine ⟨flS', ?_⟩ | refine ⟨flB, ?_⟩ | refine ⟨flB', ?_⟩ | refine ⟨dI_dep, ?_⟩ | refine ⟨dS_dep, ?_⟩ | refine ⟨dB_dep, ?_⟩ | refine ⟨dN_dep, ?_⟩ | refine ⟨_, ixN_0, ?_⟩ | refine ⟨_, ixN_1, ?_⟩ | refine ⟨_, ixN_2, ?_⟩ | refine ⟨_, ixN_3, ?_⟩ | refine ⟨_, ixN_4, ?_⟩); try (conv => whnf)); exact ⟨Nat.le_of_ble_eq_true rfl, _, rfl⟩
    | n + 4, h => exact absurd (show n + 4 < 4 from h) (by omega)
  · rintro σ ⟨o, rfl⟩
    exact k

def t_law_a_step : DS :=
  (dSeq (dSet 1 (d2 opIx (dVar 0) (dC (.int 0))))
    (dSeq (dIfS (dTst (d2 opEq (dVar 1) (dC (.str "out")))) (dRet (dTup (dCons (dC (.int 0)) (dCons (dC (.int 1)) (dCons (dC (.int 1)) dNil))))) dNext)
    (dSeq (dIfS (dTOr (dTst (d2 opEq (dVar 1) (dC (.str "wide")))) (dTst (d2 opEq (dVar 1) (dC (.str "noball"))))) (dRet (dTup (dCons (dFz (d2 opAdd (d2 opIx (dVar 0) (dC (.int 1))) (dC (.int 1)))) (dCons (dC (.int 0)) (dCons (dC (.int 0)) dNil))))) dNext)
    (dRet (dTup (dCons (dFz (d2 opIx (dVar 0) (dC (.int 1)))) (dCons (dFz (dCB bInt (dCons (d2 opEq (dVar 1) (dC (.str "runout"))) dNil))) (dCons (dC (.int 1)) dNil))))))))
--! uses: marks
def sp_law_a_step : DSp := fun ss R => ∃ m, ss = [.d (Mk.enc m)] ∧ R (.d (e3 (stepM m))) ss
theorem len_law_a_step : ∀ ss R, sp_law_a_step ss R → ss.length = 1 := by
  rintro ss R ⟨x, rfl, h⟩; rfl
theorem rd_law_a_step : ∀ ss R, sp_law_a_step ss R → t_law_a_step (dEnd ss R) (startS 0 ss 1) := by
  rintro ss R ⟨m, rfl, k⟩
  cases m with
  | ro n s => cases s <;> ((repeat ((conv => whnf); first | refine and_t rfl ?_ | refine and_f rfl ?_ | refine ⟨_, atI_0, ?_⟩ | refine ⟨_, atI_1, ?_⟩ | refine ⟨_, atI_2, ?_⟩ | refine ⟨_, atI_3, ?_⟩ | refine ⟨_, atI_4, ?_⟩ | refine ⟨_, atI_5, ?_⟩ | refine ⟨flI, ?_⟩ | refine ⟨flI', ?_⟩ | refine ⟨flN, ?_⟩ | refine ⟨flN', ?_⟩ | refine ⟨flS, ?_⟩ | refine ⟨flS', ?_⟩ | refine ⟨flB, ?_⟩ | refine ⟨flB', ?_⟩ | refine ⟨dI_dep, ?_⟩ | refine ⟨dS_dep, ?_⟩ | refine ⟨dB_dep, ?_⟩ | refine ⟨dN_dep, ?_⟩ | refine ⟨_, ixN_0, ?_⟩ | refine ⟨_, ixN_1, ?_⟩ | refine ⟨_, ixN_2, ?_⟩ | refine ⟨_, ixN_3, ?_⟩ | refine ⟨_, ixN_4, ?_⟩); try (conv => whnf)); exact k)
  | _ => (repeat ((conv => whnf); first | refine and_t rfl ?_ | refine and_f rfl ?_ | refine ⟨_, atI_0, ?_⟩ | refine ⟨_, atI_1, ?_⟩ | refine ⟨_, atI_2, ?_⟩ | refine ⟨_, atI_3, ?_⟩ | refine ⟨_, atI_4, ?_⟩ | refine ⟨_, atI_5, ?_⟩ | refine ⟨flI, ?_⟩ | refine ⟨flI', ?_⟩ | refine ⟨flN, ?_⟩ | refine ⟨flN', ?_⟩ | refine ⟨flS, ?_⟩ | refine ⟨flS', ?_⟩ | refine ⟨flB, ?_⟩ | refine ⟨flB', ?_⟩ | refine ⟨dI_dep, ?_⟩ | refine ⟨dS_dep, ?_⟩ | refine ⟨dB_dep, ?_⟩ | refine ⟨dN_dep, ?_⟩ | refine ⟨_, ixN_0, ?_⟩ | refine ⟨_, ixN_1, ?_⟩ | refine ⟨_, ixN_2, ?_⟩ | refine ⟨_, ixN_3, ?_⟩ | refine ⟨_, ixN_4, ?_⟩); try (conv => whnf)); exact k

def t_law_a_ran : DS :=
  (dRet (dIf (dTst (d2 opEq (dCB bLen (dCons (dVar 0) dNil)) (dC (.int 1)))) (dC (.int 0)) (d2 opIx (dVar 0) (dC (.int 1)))))
--! uses: crease
def sp_law_a_ran : DSp := fun ss R => ∃ m, ss = [.d (Mk.enc m)] ∧ R (.d (.int (ranM m))) ss
theorem len_law_a_ran : ∀ ss R, sp_law_a_ran ss R → ss.length = 1 := by
  rintro ss R ⟨x, rfl, h⟩; rfl
theorem rd_law_a_ran : ∀ ss R, sp_law_a_ran ss R → t_law_a_ran (dEnd ss R) (startS 0 ss 0) := by
  rintro ss R ⟨m, rfl, k⟩
  cases m with
  | ro n s => cases s <;> ((repeat ((conv => whnf); first | refine and_t rfl ?_ | refine and_f rfl ?_ | refine ⟨_, atI_0, ?_⟩ | refine ⟨_, atI_1, ?_⟩ | refine ⟨_, atI_2, ?_⟩ | refine ⟨_, atI_3, ?_⟩ | refine ⟨_, atI_4, ?_⟩ | refine ⟨_, atI_5, ?_⟩ | refine ⟨flI, ?_⟩ | refine ⟨flI', ?_⟩ | refine ⟨flN, ?_⟩ | refine ⟨flN', ?_⟩ | refine ⟨flS, ?_⟩ | refine ⟨flS', ?_⟩ | refine ⟨flB, ?_⟩ | refine ⟨flB', ?_⟩ | refine ⟨dI_dep, ?_⟩ | refine ⟨dS_dep, ?_⟩ | refine ⟨dB_dep, ?_⟩ | refine ⟨dN_dep, ?_⟩ | refine ⟨_, ixN_0, ?_⟩ | refine ⟨_, ixN_1, ?_⟩ | refine ⟨_, ixN_2, ?_⟩ | refine ⟨_, ixN_3, ?_⟩ | refine ⟨_, ixN_4, ?_⟩); try (conv => whnf)); exact k)
  | _ => (repeat ((conv => whnf); first | refine and_t rfl ?_ | refine and_f rfl ?_ | refine ⟨_, atI_0, ?_⟩ | refine ⟨_, atI_1, ?_⟩ | refine ⟨_, atI_2, ?_⟩ | refine ⟨_, atI_3, ?_⟩ | refine ⟨_, atI_4, ?_⟩ | refine ⟨_, atI_5, ?_⟩ | refine ⟨flI, ?_⟩ | refine ⟨flI', ?_⟩ | refine ⟨flN, ?_⟩ | refine ⟨flN', ?_⟩ | refine ⟨flS, ?_⟩ | refine ⟨flS', ?_⟩ | refine ⟨flB, ?_⟩ | refine ⟨flB', ?_⟩ | refine ⟨dI_dep, ?_⟩ | refine ⟨dS_dep, ?_⟩ | refine ⟨dB_dep, ?_⟩ | refine ⟨dN_dep, ?_⟩ | refine ⟨_, ixN_0, ?_⟩ | refine ⟨_, ixN_1, ?_⟩ | refine ⟨_, ixN_2, ?_⟩ | refine ⟨_, ixN_3, ?_⟩ | refine ⟨_, ixN_4, ?_⟩); try (conv => whnf)); exact k

def t_law_a_bowled : DS :=
  (dSeq (dSet 2 (dCB bList (dCons (d2 opIx (dVar 0) (dC (.int 5))) dNil)))
    (dSeq (dSub (dFz (d2 opAdd (d2 opIx (dVar 2) (dVar 1)) (dC (.int 1)))) (dVar 2) (dVar 1))
    (dRet (d2 opAdd (dSl (dVar 0) dNoP (dPt (dC (.int 2)))) (dTup (dCons (dFz (dVar 1)) (dCons (dC (.int 0)) (dCons (dFz (d2 opIx (dVar 0) (dC (.int 4)))) (dCons (dFz (dCB bTuple (dCons (dVar 2) dNil))) (dCons (dFz (d2 opIx (dVar 0) (dC (.int 6)))) dNil))))))))))
--! uses: crease
def sp_law_a_bowled : DSp := fun ss R => ∃ c b, ss = [.d (Cr.enc c), .d (.int b)] ∧ c.bg.length = 6 ∧ 0 ≤ b ∧ b < 6 ∧ R (.d (bowled c b (bgAt c b)).enc) ss
theorem len_law_a_bowled : ∀ ss R, sp_law_a_bowled ss R → ss.length = 2 := by
  rintro ss R ⟨x, y, rfl, h⟩; rfl
theorem rd_law_a_bowled : ∀ ss R, sp_law_a_bowled ss R → t_law_a_bowled (dEnd ss R) (startS 0 ss 1) := by
  rintro ss R ⟨c, b, rfl, hl, h0, h1, k⟩
  obtain ⟨e1, e2⟩ := bg_at hl h0 h1
  (repeat ((conv => whnf); first | refine and_t rfl ?_ | refine and_f rfl ?_ | refine ⟨_, atI_0, ?_⟩ | refine ⟨_, atI_1, ?_⟩ | refine ⟨_, atI_2, ?_⟩ | refine ⟨_, atI_3, ?_⟩ | refine ⟨_, atI_4, ?_⟩ | refine ⟨_, atI_5, ?_⟩ | refine ⟨flI, ?_⟩ | refine ⟨flI', ?_⟩ | refine ⟨flN, ?_⟩ | refine ⟨flN', ?_⟩ | refine ⟨flS, ?_⟩ | refine ⟨flS', ?_⟩ | refine ⟨flB, ?_⟩ | refine ⟨flB', ?_⟩ | refine ⟨dI_dep, ?_⟩ | refine ⟨dS_dep, ?_⟩ | refine ⟨dB_dep, ?_⟩ | refine ⟨dN_dep, ?_⟩ | refine ⟨_, ixN_0, ?_⟩ | refine ⟨_, ixN_1, ?_⟩ | refine ⟨_, ixN_2, ?_⟩ | refine ⟨_, ixN_3, ?_⟩ | refine ⟨_, ixN_4, ?_⟩); try (conv => whnf))
  refine ⟨_, e1, ?_⟩
  (conv => whnf)
  refine ⟨b.toNat, ixN_lt h0 (by rw [List.length_map]; omega), ?_⟩
  (repeat ((conv => whnf); first | refine and_t rfl ?_ | refine and_f rfl ?_ | refine ⟨_, atI_0, ?_⟩ | refine ⟨_, atI_1, ?_⟩ | refine ⟨_, atI_2, ?_⟩ | refine ⟨_, atI_3, ?_⟩ | refine ⟨_, atI_4, ?_⟩ | refine ⟨_, atI_5, ?_⟩ | refine ⟨flI, ?_⟩ | refine ⟨flI', ?_⟩ | refine ⟨flN, ?_⟩ | refine ⟨flN', ?_⟩ | refine ⟨flS, ?_⟩ | refine ⟨flS', ?_⟩ | refine ⟨flB, ?_⟩ | refine ⟨flB', ?_⟩ | refine ⟨dI_dep, ?_⟩ | refine ⟨dS_dep, ?_⟩ | refine ⟨dB_dep, ?_⟩ | refine ⟨dN_dep, ?_⟩ | refine ⟨_, ixN_0, ?_⟩ | refine ⟨_, ixN_1, ?_⟩ | refine ⟨_, ixN_2, ?_⟩ | refine ⟨_, ixN_3, ?_⟩ | refine ⟨_, ixN_4, ?_⟩); try (conv => whnf))
  refine ⟨_, atI_6, ?_⟩
  (conv => whnf)
  refine ⟨Nat.le_of_ble_eq_true rfl, ?_⟩
  have e : (c.bg.map PyData.int).set b.toNat (.int (bgAt c b + 1)) = (c.bg.set b.toNat (bgAt c b + 1)).map .int := by rw [List.map_set]
  rw [e]
  exact k

def t_law_a_marked : DS :=
  (dSeq (dUnp [3, 4, 5, 6, 7, 8, 9] (dFz (dVar 1)))
    (dSeq (dSet 10 (dCall sp_law_a_step (dCons (dVar 2) dNil)))
    (dSeq (dSet 11 (dCut (dIf (dTst (d2 opEq (d2 opIx (dVar 2) (d1 opNeg (dC (.int 1)))) (dC (.str "other")))) (dVar 4) (dVar 3))))
    (dSeqC (dIfS (dTst (d2 opEq (d2 opMod (dCB bInt (dCons (dCall sp_law_a_ran (dCons (dVar 2) dNil)) dNil)) (dC (.int 2))) (dC (.int 1)))) (dPar 3 4 (dCons (dVar 4) (dCons (dVar 3) dNil))) dNext)
    (dSeqC (dIfS (dTst (d2 opEq (d2 opIx (dVar 10) (dC (.int 1))) (dC (.int 1)))) (dSeq (dSet 9 (d2 opAdd (dVar 9) (dC (.int 1))))
    (dSeq (dSet 12 (dCut (dIf (dTst (d2 opLt (dVar 9) (d2 opIx (dVar 0) (dC (.int 2))))) (d2 opAdd (dVar 9) (dC (.int 1))) (dC .none))))
    (dIfS (dTst (d2 opEq (dVar 3) (dVar 11))) (dSet 3 (dVar 12)) (dSet 4 (dVar 12))))) dNext)
    (dSeq (dIfS (dTst (d2 opEq (d2 opIx (dVar 10) (dC (.int 2))) (dC (.int 1)))) (dSeq (dSet 6 (d2 opAdd (dVar 6) (dC (.int 1))))
    (dIfS (dTst (d2 opEq (dVar 6) (d2 opIx (dVar 0) (dC (.int 0))))) (dUnp [3, 4, 7, 5, 6] (dTup (dCons (dFz (dVar 4)) (dCons (dFz (dVar 3)) (dCons (dFz (dVar 5)) (dCons (dC .none) (dCons (dC (.int 0)) dNil))))))) dNext)) dNext)
    (dRet (dTup (dCons (dFz (dVar 3)) (dCons (dFz (dVar 4)) (dCons (dFz (dVar 5)) (dCons (dFz (dVar 6)) (dCons (dFz (dVar 7)) (dCons (dFz (dVar 8)) (dCons (dFz (dVar 9)) dNil)))))))))))))))
--! uses: crease
--! cuts: 4 6
--! ifcut: 1
def sp_law_a_marked : DSp := fun ss R => ∃ r c m, ss = [.d (Ru.enc r), .d (Cr.enc c), .d (Mk.enc m)] ∧ R (.d (afterM r c m).enc) ss
theorem len_law_a_marked : ∀ ss R, sp_law_a_marked ss R → ss.length = 3 := by
  rintro ss R ⟨x, y, z, rfl, h⟩; rfl
theorem step_w (m : Mk) : (stepM m).2.1 = if wktM m then 1 else 0 := by cases m <;> rfl
theorem step_b (m : Mk) : (stepM m).2.2 = if ballM m then 1 else 0 := by cases m <;> rfl
theorem rd_law_a_marked : ∀ ss R, sp_law_a_marked ss R → t_law_a_marked (dEnd ss R) (startS 0 ss 10) := by
  rintro ss R ⟨r, c, m, rfl, k⟩
  obtain ⟨a1, a2, a3⟩ := run1_same c m
  (conv => whnf)
  refine ⟨rfl, m, rfl, ?_⟩
  (conv => whnf)
  refine ⟨fun s σ => s = .d (oI (gone c m)) ∧ σ = [some (.d (Ru.enc r)), some (.d (Cr.enc c)), some (.d (Mk.enc m)), some (.d (oI c.st)), some (.d (oI c.ot)), some (.d (oI c.bw)), some (.d (.int c.bd)), some (.d (oI c.la)), some (.d (.tuple (c.bg.map .int))), some (.d (.int c.fa)), some (.d (e3 (stepM m))), none, none], ?_, ?_⟩
  · cases m with
    | out => (conv => whnf); refine ⟨_, atI_l1, ?_⟩; (repeat ((conv => whnf); first | refine and_t rfl ?_ | refine and_f rfl ?_ | refine ⟨_, atI_0, ?_⟩ | refine ⟨_, atI_1, ?_⟩ | refine ⟨_, atI_2, ?_⟩ | refine ⟨_, atI_3, ?_⟩ | refine ⟨_, atI_4, ?_⟩ | refine ⟨_, atI_5, ?_⟩ | refine ⟨flI, ?_⟩ | refine ⟨flI', ?_⟩ | refine ⟨flN, ?_⟩ | refine ⟨flN', ?_⟩ | refine ⟨flS, ?_⟩ | refine ⟨flS', ?_⟩ | refine ⟨flB, ?_⟩ | refine ⟨flB', ?_⟩ | refine ⟨dI_dep, ?_⟩ | refine ⟨dS_dep, ?_⟩ | refine ⟨dB_dep, ?_⟩ | refine ⟨dN_dep, ?_⟩ | refine ⟨_, ixN_0, ?_⟩ | refine ⟨_, ixN_1, ?_⟩ | refine ⟨_, ixN_2, ?_⟩ | refine ⟨_, ixN_3, ?_⟩ | refine ⟨_, ixN_4, ?_⟩); try (conv => whnf)); exact ⟨rfl, rfl⟩
    | ro n s => cases s <;> ((conv => whnf); refine ⟨_, atI_l3, ?_⟩; (repeat ((conv => whnf); first | refine and_t rfl ?_ | refine and_f rfl ?_ | refine ⟨_, atI_0, ?_⟩ | refine ⟨_, atI_1, ?_⟩ | refine ⟨_, atI_2, ?_⟩ | refine ⟨_, atI_3, ?_⟩ | refine ⟨_, atI_4, ?_⟩ | refine ⟨_, atI_5, ?_⟩ | refine ⟨flI, ?_⟩ | refine ⟨flI', ?_⟩ | refine ⟨flN, ?_⟩ | refine ⟨flN', ?_⟩ | refine ⟨flS, ?_⟩ | refine ⟨flS', ?_⟩ | refine ⟨flB, ?_⟩ | refine ⟨flB', ?_⟩ | refine ⟨dI_dep, ?_⟩ | refine ⟨dS_dep, ?_⟩ | refine ⟨dB_dep, ?_⟩ | refine ⟨dN_dep, ?_⟩ | refine ⟨_, ixN_0, ?_⟩ | refine ⟨_, ixN_1, ?_⟩ | refine ⟨_, ixN_2, ?_⟩ | refine ⟨_, ixN_3, ?_⟩ | refine ⟨_, ixN_4, ?_⟩); try (conv => whnf)); exact ⟨rfl, rfl⟩)
    | _ => (conv => whnf); refine ⟨_, atI_l2, ?_⟩; (repeat ((conv => whnf); first | refine and_t rfl ?_ | refine and_f rfl ?_ | refine ⟨_, atI_0, ?_⟩ | refine ⟨_, atI_1, ?_⟩ | refine ⟨_, atI_2, ?_⟩ | refine ⟨_, atI_3, ?_⟩ | refine ⟨_, atI_4, ?_⟩ | refine ⟨_, atI_5, ?_⟩ | refine ⟨flI, ?_⟩ | refine ⟨flI', ?_⟩ | refine ⟨flN, ?_⟩ | refine ⟨flN', ?_⟩ | refine ⟨flS, ?_⟩ | refine ⟨flS', ?_⟩ | refine ⟨flB, ?_⟩ | refine ⟨flB', ?_⟩ | refine ⟨dI_dep, ?_⟩ | refine ⟨dS_dep, ?_⟩ | refine ⟨dB_dep, ?_⟩ | refine ⟨dN_dep, ?_⟩ | refine ⟨_, ixN_0, ?_⟩ | refine ⟨_, ixN_1, ?_⟩ | refine ⟨_, ixN_2, ?_⟩ | refine ⟨_, ixN_3, ?_⟩ | refine ⟨_, ixN_4, ?_⟩); try (conv => whnf)); exact ⟨rfl, rfl⟩
  rintro s σ ⟨rfl, rfl⟩
  (conv => whnf)
  refine ⟨fun σ => σ = [some (.d (Ru.enc r)), some (.d (Cr.enc c)), some (.d (Mk.enc m)), some (.d (oI (run1 c m).st)), some (.d (oI (run1 c m).ot)), some (.d (oI (run1 c m).bw)), some (.d (.int (run1 c m).bd)), some (.d (oI (run1 c m).la)), some (.d (.tuple ((run1 c m).bg.map .int))), some (.d (.int (run1 c m).fa)), some (.d (e3 (stepM m))), some (.d (oI (gone c m))), none], ?_, ?_⟩
  · (conv => whnf)
    refine ⟨rfl, m, rfl, ?_⟩
    (conv => whnf)
    refine ⟨show (0 : Int) < 2 by decide, ?_⟩
    (conv => whnf)
    refine ⟨flI, ?_⟩
    unfold run1
    refine ⟨fun hk => ?_, fun hk => ?_⟩
    · have hk : ranM m % 2 = 1 := of_decide_eq_true hk
      rw [if_pos hk]
      rfl
    · have hk : ¬ ranM m % 2 = 1 := of_decide_eq_false hk
      rw [if_neg hk]
      rfl
  rintro σ rfl
  unfold afterM at k
  simp only at k
  generalize run1 c m = c1 at *
  generalize gone c m = g at *
  (conv => whnf)
  refine ⟨fun σ => ∃ o, σ = [some (.d (Ru.enc r)), some (.d (Cr.enc c)), some (.d (Mk.enc m)), some (.d (oI (if wktM m then wk1 r.wk c1 g else c1).st)), some (.d (oI (if wktM m then wk1 r.wk c1 g else c1).ot)), some (.d (oI (if wktM m then wk1 r.wk c1 g else c1).bw)), some (.d (.int (if wktM m then wk1 r.wk c1 g else c1).bd)), some (.d (oI (if wktM m then wk1 r.wk c1 g else c1).la)), some (.d (.tuple ((if wktM m then wk1 r.wk c1 g else c1).bg.map .int))), some (.d (.int (if wktM m then wk1 r.wk c1 g else c1).fa)), some (.d (e3 (stepM m))), some (.d (oI g)), o], ?_, ?_⟩
  · (repeat ((conv => whnf); first | refine and_t rfl ?_ | refine and_f rfl ?_ | refine ⟨_, atI_0, ?_⟩ | refine ⟨_, atI_1, ?_⟩ | refine ⟨_, atI_2, ?_⟩ | refine ⟨_, atI_3, ?_⟩ | refine ⟨_, atI_4, ?_⟩ | refine ⟨_, atI_5, ?_⟩ | refine ⟨flI, ?_⟩ | refine ⟨flI', ?_⟩ | refine ⟨flN, ?_⟩ | refine ⟨flN', ?_⟩ | refine ⟨flS, ?_⟩ | refine ⟨flS', ?_⟩ | refine ⟨flB, ?_⟩ | refine ⟨flB', ?_⟩ | refine ⟨dI_dep, ?_⟩ | refine ⟨dS_dep, ?_⟩ | refine ⟨dB_dep, ?_⟩ | refine ⟨dN_dep, ?_⟩ | refine ⟨_, ixN_0, ?_⟩ | refine ⟨_, ixN_1, ?_⟩ | refine ⟨_, ixN_2, ?_⟩ | refine ⟨_, ixN_3, ?_⟩ | refine ⟨_, ixN_4, ?_⟩); try (conv => whnf))
    rw [step_w]
    cases hw : wktM m with
    | false =>
      (repeat ((conv => whnf); first | refine and_t rfl ?_ | refine and_f rfl ?_ | refine ⟨_, atI_0, ?_⟩ | refine ⟨_, atI_1, ?_⟩ | refine ⟨_, atI_2, ?_⟩ | refine ⟨_, atI_3, ?_⟩ | refine ⟨_, atI_4, ?_⟩ | refine ⟨_, atI_5, ?_⟩ | refine ⟨flI, ?_⟩ | refine ⟨flI', ?_⟩ | refine ⟨flN, ?_⟩ | refine ⟨flN', ?_⟩ | refine ⟨flS, ?_⟩ | refine ⟨flS', ?_⟩ | refine ⟨flB, ?_⟩ | refine ⟨flB', ?_⟩ | refine ⟨dI_dep, ?_⟩ | refine ⟨dS_dep, ?_⟩ | refine ⟨dB_dep, ?_⟩ | refine ⟨dN_dep, ?_⟩ | refine ⟨_, ixN_0, ?_⟩ | refine ⟨_, ixN_1, ?_⟩ | refine ⟨_, ixN_2, ?_⟩ | refine ⟨_, ixN_3, ?_⟩ | refine ⟨_, ixN_4, ?_⟩); try (conv => whnf))
      exact ⟨_, rfl⟩
    | true =>
      (repeat ((conv => whnf); first | refine and_t rfl ?_ | refine and_f rfl ?_ | refine ⟨_, atI_0, ?_⟩ | refine ⟨_, atI_1, ?_⟩ | refine ⟨_, atI_2, ?_⟩ | refine ⟨_, atI_3, ?_⟩ | refine ⟨_, atI_4, ?_⟩ | refine ⟨_, atI_5, ?_⟩ | refine ⟨flI, ?_⟩ | refine ⟨flI', ?_⟩ | refine ⟨flN, ?_⟩ | refine ⟨flN', ?_⟩ | refine ⟨flS, ?_⟩ | refine ⟨flS', ?_⟩ | refine ⟨flB, ?_⟩ | refine ⟨flB', ?_⟩ | refine ⟨dI_dep, ?_⟩ | refine ⟨dS_dep, ?_⟩ | refine ⟨dB_dep, ?_⟩ | refine ⟨dN_dep, ?_⟩ | refine ⟨_, ixN_0, ?_⟩ | refine ⟨_, ixN_1, ?_⟩ | refine ⟨_, ixN_2, ?_⟩ | refine ⟨_, ixN_3, ?_⟩ | refine ⟨_, ixN_4, ?_⟩); try (conv => whnf))
      refine ⟨fun s σ => s = .d (oI (if c1.fa + 1 < r.wk then some (c1.fa + 2) else none)) ∧ σ = [some (.d (Ru.enc r)), some (.d (Cr.enc c)), some (.d (Mk.enc m)), some (.d (oI c1.st)), some (.d (oI c1.ot)), some (.d (oI c1.bw)), some (.d (.int c1.bd)), some (.d (oI c1.la)), some (.d (.tuple (c1.bg.map .int))), some (.d (.int (c1.fa + 1))), some (.d (e3 (stepM m))), some (.d (oI g)), none], ?_, ?_⟩
      · (repeat ((conv => whnf); first | refine and_t rfl ?_ | refine and_f rfl ?_ | refine ⟨_, atI_0, ?_⟩ | refine ⟨_, atI_1, ?_⟩ | refine ⟨_, atI_2, ?_⟩ | refine ⟨_, atI_3, ?_⟩ | refine ⟨_, atI_4, ?_⟩ | refine ⟨_, atI_5, ?_⟩ | refine ⟨flI, ?_⟩ | refine ⟨flI', ?_⟩ | refine ⟨flN, ?_⟩ | refine ⟨flN', ?_⟩ | refine ⟨flS, ?_⟩ | refine ⟨flS', ?_⟩ | refine ⟨flB, ?_⟩ | refine ⟨flB', ?_⟩ | refine ⟨dI_dep, ?_⟩ | refine ⟨dS_dep, ?_⟩ | refine ⟨dB_dep, ?_⟩ | refine ⟨dN_dep, ?_⟩ | refine ⟨_, ixN_0, ?_⟩ | refine ⟨_, ixN_1, ?_⟩ | refine ⟨_, ixN_2, ?_⟩ | refine ⟨_, ixN_3, ?_⟩ | refine ⟨_, ixN_4, ?_⟩); try (conv => whnf))
        refine ⟨fun hk => ?_, fun hk => ?_⟩
        · have hk : c1.fa + 1 < r.wk := of_decide_eq_true hk
          rw [if_pos hk]
          refine ⟨?_, rfl⟩
          show S.d (.int (c1.fa + 1 + 1)) = _
          rw [Int.add_assoc]
          rfl
        · have hk : ¬ c1.fa + 1 < r.wk := of_decide_eq_false hk
          rw [if_neg hk]
          exact ⟨rfl, rfl⟩
      · rintro s σ ⟨rfl, rfl⟩
        (conv => whnf)
        refine ⟨oI_flat, ?_⟩
        rw [eqv_oI]
        unfold wk1
        refine ⟨fun hk => ?_, fun hk => ?_⟩
        · rw [if_pos hk]
          exact ⟨_, rfl⟩
        · rw [if_neg (show ¬ eqO c1.st g = true by rw [hk]; decide)]
          exact ⟨_, rfl⟩
  rintro σ ⟨o, rfl⟩
  generalize (if wktM m then wk1 r.wk c1 g else c1) = c2 at *
  (repeat ((conv => whnf); first | refine and_t rfl ?_ | refine and_f rfl ?_ | refine ⟨_, atI_0, ?_⟩ | refine ⟨_, atI_1, ?_⟩ | refine ⟨_, atI_2, ?_⟩ | refine ⟨_, atI_3, ?_⟩ | refine ⟨_, atI_4, ?_⟩ | refine ⟨_, atI_5, ?_⟩ | refine ⟨flI, ?_⟩ | refine ⟨flI', ?_⟩ | refine ⟨flN, ?_⟩ | refine ⟨flN', ?_⟩ | refine ⟨flS, ?_⟩ | refine ⟨flS', ?_⟩ | refine ⟨flB, ?_⟩ | refine ⟨flB', ?_⟩ | refine ⟨dI_dep, ?_⟩ | refine ⟨dS_dep, ?_⟩ | refine ⟨dB_dep, ?_⟩ | refine ⟨dN_dep, ?_⟩ | refine ⟨_, ixN_0, ?_⟩ | refine ⟨_, ixN_1, ?_⟩ | refine ⟨_, ixN_2, ?_⟩ | refine ⟨_, ixN_3, ?_⟩ | refine ⟨_, ixN_4, ?_⟩); try (conv => whnf))
  rw [step_b]
  unfold ball1 at k
  cases hb : ballM m with
  | false =>
    rw [hb] at k
    (repeat ((conv => whnf); first | refine and_t rfl ?_ | refine and_f rfl ?_ | refine ⟨_, atI_0, ?_⟩ | refine ⟨_, atI_1, ?_⟩ | refine ⟨_, atI_2, ?_⟩ | refine ⟨_, atI_3, ?_⟩ | refine ⟨_, atI_4, ?_⟩ | refine ⟨_, atI_5, ?_⟩ | refine ⟨flI, ?_⟩ | refine ⟨flI', ?_⟩ | refine ⟨flN, ?_⟩ | refine ⟨flN', ?_⟩ | refine ⟨flS, ?_⟩ | refine ⟨flS', ?_⟩ | refine ⟨flB, ?_⟩ | refine ⟨flB', ?_⟩ | refine ⟨dI_dep, ?_⟩ | refine ⟨dS_dep, ?_⟩ | refine ⟨dB_dep, ?_⟩ | refine ⟨dN_dep, ?_⟩ | refine ⟨_, ixN_0, ?_⟩ | refine ⟨_, ixN_1, ?_⟩ | refine ⟨_, ixN_2, ?_⟩ | refine ⟨_, ixN_3, ?_⟩ | refine ⟨_, ixN_4, ?_⟩); try (conv => whnf))
    exact k
  | true =>
    rw [hb] at k
    simp only [if_true] at k
    (repeat ((conv => whnf); first | refine and_t rfl ?_ | refine and_f rfl ?_ | refine ⟨_, atI_0, ?_⟩ | refine ⟨_, atI_1, ?_⟩ | refine ⟨_, atI_2, ?_⟩ | refine ⟨_, atI_3, ?_⟩ | refine ⟨_, atI_4, ?_⟩ | refine ⟨_, atI_5, ?_⟩ | refine ⟨flI, ?_⟩ | refine ⟨flI', ?_⟩ | refine ⟨flN, ?_⟩ | refine ⟨flN', ?_⟩ | refine ⟨flS, ?_⟩ | refine ⟨flS', ?_⟩ | refine ⟨flB, ?_⟩ | refine ⟨flB', ?_⟩ | refine ⟨dI_dep, ?_⟩ | refine ⟨dS_dep, ?_⟩ | refine ⟨dB_dep, ?_⟩ | refine ⟨dN_dep, ?_⟩ | refine ⟨_, ixN_0, ?_⟩ | refine ⟨_, ixN_1, ?_⟩ | refine ⟨_, ixN_2, ?_⟩ | refine ⟨_, ixN_3, ?_⟩ | refine ⟨_, ixN_4, ?_⟩); try (conv => whnf))
    refine ⟨fun hk => ?_, fun hk => ?_⟩
    · have hk : c2.bd + 1 = r.ov := of_decide_eq_true hk
      rw [if_pos hk] at k
      exact k
    · have hk : ¬ c2.bd + 1 = r.ov := of_decide_eq_false hk
      rw [if_neg hk] at k
      exact k

def t_law_a_rules : DS :=
  (dSeq (dSet 2 (d2 opAdd (dC (.int 1)) (dCall sp_law_draw (dCons (dVar 0) (dCons (dC (.int 6)) dNil)))))
    (dSeq (dSet 3 (dCall sp_law_pick (dCons (dVar 0) (dCons (dAr (dLst (dCons (dC (.int 1)) (dCons (dC (.int 2)) (dCons (dC (.int 3)) (dCons (dC (.int 6)) (dCons (dFz (d2 opAdd (dC (.int 1)) (dCall sp_law_draw (dCons (dVar 0) (dCons (dC (.int 6)) dNil))))) (dCons (dC (.int 2)) dNil)))))))) dNil))))
    (dSeqC (dIfS (dTst (d2 opGt (d2 opMul (dVar 2) (dVar 3)) (dVar 1))) (dSeq (dUnp [2, 3] (dFz (dCall sp_law_pick (dCons (dVar 0) (dCons (dAr (dLst (dCons (dTup (dCons (dFz (dVar 1)) (dCons (dC (.int 1)) dNil))) (dCons (dTup (dCons (dC (.int 1)) (dCons (dFz (dVar 1)) dNil))) (dCons (dTup (dCons (dC (.int 2)) (dCons (d2 opFdiv (dVar 1) (dC (.int 2))) dNil))) (dCons (dTup (dCons (dC (.int 3)) (dCons (d2 opFdiv (dVar 1) (dC (.int 3))) dNil))) dNil)))))) dNil)))))
    (dPar 2 3 (dCons (dCB bMin2 (dCons (dVar 2) (dCons (dC (.int 6)) dNil))) (dCons (dCB bMin2 (dCons (dCB bMax2 (dCons (dVar 3) (dCons (dC (.int 1)) dNil))) (dCons (dC (.int 6)) dNil))) dNil)))) dNext)
    (dSeq (dSet 4 (dCall sp_law_pick (dCons (dVar 0) (dCons (dAr (dLst (dCons (dC (.int 40)) (dCons (dC (.int 20)) (dCons (dC (.int 12)) (dCons (dC (.int 7)) (dCons (dC (.int 30)) (dCons (dC (.int 3)) (dCons (dC (.int 39)) (dCons (dC (.int 1)) (dCons (dC (.int 25)) (dCons (dC (.int 15)) dNil)))))))))))) dNil))))
    (dRet (dTup (dCons (dFz (dVar 2)) (dCons (dFz (dVar 3)) (dCons (dFz (d2 opAdd (dC (.int 1)) (dCall sp_law_draw (dCons (dVar 0) (dCons (dC (.int 4)) dNil))))) (dCons (dFz (dVar 4)) (dCons (dFz (dCall sp_law_draw (dCons (dVar 0) (dCons (dC (.int 3)) dNil)))) (dCons (dFz (dCall sp_law_pick (dCons (dVar 0) (dCons (dAr (dLst (dCons (dC (.int 1)) (dCons (dC (.int 2)) (dCons (dC (.int 6)) (dCons (dC (.int 1)) (dCons (dC (.int 2)) (dCons (dC (.int 3)) dNil)))))))) dNil)))) dNil))))))))))))
--! uses: rules
--! cuts: 3
def sp_law_a_rules : DSp := fun ss R => ∃ tp most, ss = [.own tp, .d (.int most)] ∧ TapeAt tp ∧ 6 ≤ most ∧ most ≤ 1000 ∧ ∀ tp' r, TapeAt tp' → RuFull r most → R (.d (Ru.enc r)) [.own tp', .d (.int most)]
theorem len_law_a_rules : ∀ ss R, sp_law_a_rules ss R → ss.length = 2 := by
  rintro ss R ⟨x, y, rfl, h⟩; rfl
theorem rd_law_a_rules : ∀ ss R, sp_law_a_rules ss R → t_law_a_rules (dEnd ss R) (startS 0 ss 3) := by
  rintro ss R ⟨tp, most, rfl, ht, h0, h1, k⟩
  (conv => whnf)
  refine ⟨rfl, tp, 6, rfl, ht, by decide, fun tp1 p t1 a1 b1 => ?_⟩
  (conv => whnf)
  refine ⟨rfl, tp1, 6, rfl, t1, by decide, fun tp2 q t2 a2 b2 => ?_⟩
  (conv => whnf)
  refine ⟨rfl, tp2, _, _, rfl, rfl, t2, (by intro h; cases h), Nat.le_of_ble_eq_true rfl, fun tp3 x t3 hx => ?_⟩
  obtain ⟨os, mo, rfl⟩ := ints_mem (is := [1, 2, 3, 6, 1 + q, 2]) hx
  have hos : 1 ≤ os ∧ os ≤ 6 := by simp at mo; omega
  obtain ⟨ov, hov⟩ : ∃ x, x = 1 + p := ⟨_, rfl⟩
  have ho1 : 1 ≤ ov ∧ ov ≤ 6 := by omega
  (conv => whnf)
  refine ⟨fun σ => ∃ tp ov os, TapeAt tp ∧ (1 ≤ ov ∧ ov ≤ 6) ∧ (1 ≤ os ∧ os ≤ 6) ∧ ov * os ≤ most ∧ σ = [some (.par 0 tp), some (.d (.int most)), some (.d (.int ov)), some (.d (.int os)), none], ?_, ?_⟩
  · rw [← hov]
    (conv => whnf)
    refine ⟨small_mul (by omega) (by omega), ?_⟩
    (conv => whnf)
    refine ⟨fun hk => ?_, fun hk => ?_⟩
    · (conv => whnf)
      refine ⟨cdivw (by decide) (by decide), ?_⟩
      (conv => whnf)
      refine ⟨cdivw (by decide) (by decide), ?_⟩
      (conv => whnf)
      refine ⟨rfl, tp3, _, _, rfl, rfl, t3, (by intro h; cases h), Nat.le_of_ble_eq_true rfl, fun tp4 x t4 hx => ?_⟩
      have pair : ∃ a b : Int, x = .tuple [.int a, .int b] ∧ (1 ≤ (if 6 < a then 6 else a) ∧ (if 6 < a then 6 else a) ≤ 6) ∧ (1 ≤ (if 6 < (if 1 > b then 1 else b) then 6 else (if 1 > b then 1 else b)) ∧ (if 6 < (if 1 > b then 1 else b) then 6 else (if 1 > b then 1 else b)) ≤ 6) ∧ (if 6 < a then 6 else a) * (if 6 < (if 1 > b then 1 else b) then 6 else (if 1 > b then 1 else b)) ≤ most := by
        rcases List.mem_cons.mp hx with rfl | hx
        · refine ⟨most, 1, rfl, by split <;> omega, by decide, ?_⟩
          rw [if_neg (show ¬ (1 : Int) > 1 by decide), if_neg (show ¬ (6 : Int) < 1 by decide)]
          split <;> omega
        rcases List.mem_cons.mp hx with rfl | hx
        · refine ⟨1, most, rfl, by decide, by split <;> split <;> omega, ?_⟩
          rw [if_neg (show ¬ (6 : Int) < 1 by decide)]
          split <;> split <;> omega
        rcases List.mem_cons.mp hx with rfl | hx
        · refine ⟨2, most / 2, rfl, by decide, by split <;> split <;> omega, ?_⟩
          rw [if_neg (show ¬ (6 : Int) < 2 by decide)]
          split <;> split <;> omega
        · rw [List.mem_singleton.mp hx]
          refine ⟨3, most / 3, rfl, by decide, by split <;> split <;> omega, ?_⟩
          rw [if_neg (show ¬ (6 : Int) < 3 by decide)]
          split <;> split <;> omega
      obtain ⟨a, b, rfl, p1, p2, p3⟩ := pair
      (conv => whnf)
      exact ⟨tp4, _, _, t4, p1, p2, p3, rfl⟩
    · have hk : ¬ most < ov * os := of_decide_eq_false hk
      exact ⟨tp3, ov, os, t3, ho1, hos, by omega, rfl⟩
  · rintro σ ⟨tp, ov, os, t0, q1, q2, q3, rfl⟩
    (conv => whnf)
    refine ⟨rfl, tp, _, _, rfl, rfl, t0, (by intro h; cases h), Nat.le_of_ble_eq_true rfl, fun tp4 x t4 hx => ?_⟩
    obtain ⟨me, mm, rfl⟩ := ints_mem (is := [40, 20, 12, 7, 30, 3, 39, 1, 25, 15]) hx
    have hme : 1 ≤ me ∧ me ≤ 40 := by simp at mm; omega
    (conv => whnf)
    refine ⟨rfl, tp4, 4, rfl, t4, by decide, fun tp5 w t5 a5 b5 => ?_⟩
    (conv => whnf)
    refine ⟨rfl, tp5, 3, rfl, t5, by decide, fun tp6 e t6 a6 b6 => ?_⟩
    (conv => whnf)
    refine ⟨rfl, tp6, _, _, rfl, rfl, t6, (by intro h; cases h), Nat.le_of_ble_eq_true rfl, fun tp7 x t7 hx => ?_⟩
    obtain ⟨f, mf, rfl⟩ := ints_mem (is := [1, 2, 6, 1, 2, 3]) hx
    have hf : 1 ≤ f ∧ f ≤ 6 := by simp at mf; omega
    exact k _ ⟨ov, os, 1 + w, me, e, f⟩ t7 ⟨q1, q2, by simp only; omega, hme, by simp only; omega, hf, q3⟩

def t_law_a_mark : DS :=
  (dSeq (dIfS (dTst (d2 opEq (dCall sp_law_draw (dCons (dVar 0) (dCons (dC (.int 3)) dNil))) (dC (.int 0)))) (dRet (dCall sp_law_pick (dCons (dVar 0) (dCons (dAr (dCall sp_law_a_marks dNil)) dNil)))) dNext)
    (dSeq (dSet 1 (dLst (dCons (dTup (dCons (dC (.str "run")) (dCons (dC (.int 1)) dNil))) (dCons (dTup (dCons (dC (.str "out")) dNil)) (dCons (dTup (dCons (dC (.str "run")) (dCons (dC (.int 0)) dNil))) (dCons (dTup (dCons (dC (.str "wide")) (dCons (dC (.int 0)) dNil))) (dCons (dTup (dCons (dC (.str "run")) (dCons (dC (.int 0)) dNil))) (dCons (dTup (dCons (dC (.str "runout")) (dCons (dC (.int 1)) (dCons (dC (.str "other")) dNil)))) (dCons (dTup (dCons (dC (.str "run")) (dCons (dC (.int 2)) dNil))) (dCons (dTup (dCons (dC (.str "bye")) (dCons (dC (.int 1)) dNil))) (dCons (dTup (dCons (dC (.str "run")) (dCons (dC (.int 0)) dNil))) dNil)))))))))))
    (dRet (dCall sp_law_pick (dCons (dVar 0) (dCons (dAr (d2 opAdd (dVar 1) (dLst (dCons (dTup (dCons (dC (.str "noball")) (dCons (dC (.int 0)) dNil))) (dCons (dTup (dCons (dC (.str "run")) (dCons (dC (.int 1)) dNil))) (dCons (dTup (dCons (dC (.str "runout")) (dCons (dC (.int 0)) (dCons (dC (.str "striker")) dNil)))) (dCons (dTup (dCons (dC (.str "run")) (dCons (dC (.int 0)) dNil))) (dCons (dTup (dCons (dC (.str "wide")) (dCons (dC (.int 1)) dNil))) (dCons (dTup (dCons (dC (.str "run")) (dCons (dC (.int 0)) dNil))) (dCons (dTup (dCons (dC (.str "run")) (dCons (dC (.int 3)) dNil))) dNil)))))))))) dNil))))))
--! uses: marks
def sp_law_a_mark : DSp := fun ss R => ∃ tp, ss = [.own tp] ∧ TapeAt tp ∧ ∀ tp' m, TapeAt tp' → m ∈ allMks → R (.d (Mk.enc m)) [.own tp']
theorem len_law_a_mark : ∀ ss R, sp_law_a_mark ss R → ss.length = 1 := by
  rintro ss R ⟨x, rfl, h⟩; rfl
def plainMks : List Mk := [.run 1, .out, .run 0, .wide 0, .run 0, .ro 1 false, .run 2, .bye 1, .run 0, .nob 0, .run 1, .ro 0 true, .run 0, .wide 1, .run 0, .run 3]
theorem plain_all : ∀ m ∈ plainMks, m ∈ allMks := by decide
theorem rd_law_a_mark : ∀ ss R, sp_law_a_mark ss R → t_law_a_mark (dEnd ss R) (startS 0 ss 1) := by
  rintro ss R ⟨tp, rfl, ht, k⟩
  (conv => whnf)
  refine ⟨rfl, tp, 3, rfl, ht, by decide, fun tp1 r t1 a1 b1 => ?_⟩
  (conv => whnf)
  refine ⟨flI, ?_⟩
  refine ⟨fun hk => ?_, fun hk => ?_⟩
  · (conv => whnf)
    refine ⟨rfl, rfl, ?_⟩
    (conv => whnf)
    refine ⟨rfl, tp1, _, _, rfl, rfl, t1, ?_, Nat.le_of_ble_eq_true rfl, fun tp2 x t2 hx => ?_⟩
    · intro h; cases h
    · obtain ⟨m, hm, rfl⟩ := List.mem_map.mp hx
      exact k _ _ t2 hm
  · (conv => whnf)
    refine ⟨Nat.le_of_ble_eq_true rfl, ?_⟩
    (conv => whnf)
    refine ⟨rfl, tp1, _, plainMks.map Mk.enc, rfl, rfl, t1, ?_, Nat.le_of_ble_eq_true rfl, fun tp2 x t2 hx => ?_⟩
    · intro h; cases h
    · obtain ⟨m, hm, rfl⟩ := List.mem_map.mp hx
      exact k _ _ t2 (plain_all m hm)

def t_law_a_crease_deed : DS :=
  (dSeq (dIfS (dTst (dIsN false (d2 opIx (dVar 2) (dC (.int 2))))) (dRet (dTup (dCons (dC (.str "bowl")) (dCons (dFz (dCall sp_law_pick (dCons (dVar 0) (dCons (dAr (dLst (dCons (dC (.int 0)) (dCons (dC (.int 5)) (dCons (dFz (dCall sp_law_draw (dCons (dVar 0) (dCons (dC (.int 6)) dNil)))) dNil))))) dNil)))) dNil)))) dNext)
    (dRet (dCall sp_law_a_mark (dCons (dVar 0) dNil))))
--! uses: rules
def sp_law_a_crease_deed : DSp := fun ss R => ∃ tp r c, ss = [.own tp, .d (Ru.enc r), .d (Cr.enc c)] ∧ TapeAt tp ∧ ∀ tp' dd, TapeAt tp' → DdOk dd → R (.d (Dd.enc dd)) [.own tp', .d (Ru.enc r), .d (Cr.enc c)]
theorem len_law_a_crease_deed : ∀ ss R, sp_law_a_crease_deed ss R → ss.length = 3 := by
  rintro ss R ⟨x, y, z, rfl, h⟩; rfl
theorem rd_law_a_crease_deed : ∀ ss R, sp_law_a_crease_deed ss R → t_law_a_crease_deed (dEnd ss R) (startS 0 ss 0) := by
  rintro ss R ⟨tp, r, ⟨st, ot, bw, bd, la, bg, fa⟩, rfl, ht, k⟩
  cases bw with
  | none =>
    (repeat ((conv => whnf); first | refine and_t rfl ?_ | refine and_f rfl ?_ | refine ⟨_, atI_0, ?_⟩ | refine ⟨_, atI_1, ?_⟩ | refine ⟨_, atI_2, ?_⟩ | refine ⟨_, atI_3, ?_⟩ | refine ⟨_, atI_4, ?_⟩ | refine ⟨_, atI_5, ?_⟩ | refine ⟨flI, ?_⟩ | refine ⟨flI', ?_⟩ | refine ⟨flN, ?_⟩ | refine ⟨flN', ?_⟩ | refine ⟨flS, ?_⟩ | refine ⟨flS', ?_⟩ | refine ⟨flB, ?_⟩ | refine ⟨flB', ?_⟩ | refine ⟨dI_dep, ?_⟩ | refine ⟨dS_dep, ?_⟩ | refine ⟨dB_dep, ?_⟩ | refine ⟨dN_dep, ?_⟩ | refine ⟨_, ixN_0, ?_⟩ | refine ⟨_, ixN_1, ?_⟩ | refine ⟨_, ixN_2, ?_⟩ | refine ⟨_, ixN_3, ?_⟩ | refine ⟨_, ixN_4, ?_⟩); try (conv => whnf))
    refine ⟨rfl, tp, 6, rfl, ht, by decide, fun tp1 b t1 a1 b1 => ?_⟩
    (conv => whnf)
    refine ⟨rfl, tp1, _, _, rfl, rfl, t1, (by intro h; cases h), Nat.le_of_ble_eq_true rfl, fun tp2 x t2 hx => ?_⟩
    obtain ⟨j, mj, rfl⟩ := ints_mem (is := [0, 5, b]) hx
    exact k _ (.bowl j) t2 (by simp at mj; show 0 ≤ j ∧ j < 6; omega)
  | some b =>
    (repeat ((conv => whnf); first | refine and_t rfl ?_ | refine and_f rfl ?_ | refine ⟨_, atI_0, ?_⟩ | refine ⟨_, atI_1, ?_⟩ | refine ⟨_, atI_2, ?_⟩ | refine ⟨_, atI_3, ?_⟩ | refine ⟨_, atI_4, ?_⟩ | refine ⟨_, atI_5, ?_⟩ | refine ⟨flI, ?_⟩ | refine ⟨flI', ?_⟩ | refine ⟨flN, ?_⟩ | refine ⟨flN', ?_⟩ | refine ⟨flS, ?_⟩ | refine ⟨flS', ?_⟩ | refine ⟨flB, ?_⟩ | refine ⟨flB', ?_⟩ | refine ⟨dI_dep, ?_⟩ | refine ⟨dS_dep, ?_⟩ | refine ⟨dB_dep, ?_⟩ | refine ⟨dN_dep, ?_⟩ | refine ⟨_, ixN_0, ?_⟩ | refine ⟨_, ixN_1, ?_⟩ | refine ⟨_, ixN_2, ?_⟩ | refine ⟨_, ixN_3, ?_⟩ | refine ⟨_, ixN_4, ?_⟩); try (conv => whnf))
    refine ⟨rfl, tp, rfl, ht, fun tp1 m t1 hm => ?_⟩
    exact k _ (.mark m) t1 hm

def t_law_a_done : DS :=
  (dSeq (dIfS (dTst (d2 opEq (d2 opIx (dVar 2) (dC (.int 0))) (dC (.str "bowl")))) (dRet (dCall sp_after_bowl (dCons (dVar 1) (dCons (dAr (d2 opIx (dVar 2) (dC (.int 1)))) dNil)))) dNext)
    (dRet (dCall sp_after_mark (dCons (dVar 0) (dCons (dVar 1) (dCons (dVar 2) dNil))))))
--! uses: rules
def sp_law_a_done : DSp := fun ss R => ∃ r c dd, ss = [.d (Ru.enc r), .d (Cr.enc c), .d (Dd.enc dd)] ∧ CrOk r c ∧ c.fa < r.wk ∧ DdOk dd ∧ R (.d (dueC r c dd).enc) ss
theorem len_law_a_done : ∀ ss R, sp_law_a_done ss R → ss.length = 3 := by
  rintro ss R ⟨x, y, z, rfl, h⟩; rfl
theorem rd_law_a_done : ∀ ss R, sp_law_a_done ss R → t_law_a_done (dEnd ss R) (startS 0 ss 0) := by
  rintro ss R ⟨r, c, dd, rfl, hc, hf, hd, k⟩
  cases dd with
  | bowl b =>
    (repeat ((conv => whnf); first | refine and_t rfl ?_ | refine and_f rfl ?_ | refine ⟨_, atI_0, ?_⟩ | refine ⟨_, atI_1, ?_⟩ | refine ⟨_, atI_2, ?_⟩ | refine ⟨_, atI_3, ?_⟩ | refine ⟨_, atI_4, ?_⟩ | refine ⟨_, atI_5, ?_⟩ | refine ⟨flI, ?_⟩ | refine ⟨flI', ?_⟩ | refine ⟨flN, ?_⟩ | refine ⟨flN', ?_⟩ | refine ⟨flS, ?_⟩ | refine ⟨flS', ?_⟩ | refine ⟨flB, ?_⟩ | refine ⟨flB', ?_⟩ | refine ⟨dI_dep, ?_⟩ | refine ⟨dS_dep, ?_⟩ | refine ⟨dB_dep, ?_⟩ | refine ⟨dN_dep, ?_⟩ | refine ⟨_, ixN_0, ?_⟩ | refine ⟨_, ixN_1, ?_⟩ | refine ⟨_, ixN_2, ?_⟩ | refine ⟨_, ixN_3, ?_⟩ | refine ⟨_, ixN_4, ?_⟩); try (conv => whnf))
    exact ⟨rfl, c, b, rfl, hc.2.2.2, hd.1, hd.2, k⟩
  | mark m =>
    cases m with
    | ro n s => cases s <;> ((repeat ((conv => whnf); first | refine and_t rfl ?_ | refine and_f rfl ?_ | refine ⟨_, atI_0, ?_⟩ | refine ⟨_, atI_1, ?_⟩ | refine ⟨_, atI_2, ?_⟩ | refine ⟨_, atI_3, ?_⟩ | refine ⟨_, atI_4, ?_⟩ | refine ⟨_, atI_5, ?_⟩ | refine ⟨flI, ?_⟩ | refine ⟨flI', ?_⟩ | refine ⟨flN, ?_⟩ | refine ⟨flN', ?_⟩ | refine ⟨flS, ?_⟩ | refine ⟨flS', ?_⟩ | refine ⟨flB, ?_⟩ | refine ⟨flB', ?_⟩ | refine ⟨dI_dep, ?_⟩ | refine ⟨dS_dep, ?_⟩ | refine ⟨dB_dep, ?_⟩ | refine ⟨dN_dep, ?_⟩ | refine ⟨_, ixN_0, ?_⟩ | refine ⟨_, ixN_1, ?_⟩ | refine ⟨_, ixN_2, ?_⟩ | refine ⟨_, ixN_3, ?_⟩ | refine ⟨_, ixN_4, ?_⟩); try (conv => whnf)); exact ⟨rfl, r, c, _, rfl, hc, hf, k⟩)
    | run n => (repeat ((conv => whnf); first | refine and_t rfl ?_ | refine and_f rfl ?_ | refine ⟨_, atI_0, ?_⟩ | refine ⟨_, atI_1, ?_⟩ | refine ⟨_, atI_2, ?_⟩ | refine ⟨_, atI_3, ?_⟩ | refine ⟨_, atI_4, ?_⟩ | refine ⟨_, atI_5, ?_⟩ | refine ⟨flI, ?_⟩ | refine ⟨flI', ?_⟩ | refine ⟨flN, ?_⟩ | refine ⟨flN', ?_⟩ | refine ⟨flS, ?_⟩ | refine ⟨flS', ?_⟩ | refine ⟨flB, ?_⟩ | refine ⟨flB', ?_⟩ | refine ⟨dI_dep, ?_⟩ | refine ⟨dS_dep, ?_⟩ | refine ⟨dB_dep, ?_⟩ | refine ⟨dN_dep, ?_⟩ | refine ⟨_, ixN_0, ?_⟩ | refine ⟨_, ixN_1, ?_⟩ | refine ⟨_, ixN_2, ?_⟩ | refine ⟨_, ixN_3, ?_⟩ | refine ⟨_, ixN_4, ?_⟩); try (conv => whnf)); exact ⟨rfl, r, c, .run n, rfl, hc, hf, k⟩
    | wide n => (repeat ((conv => whnf); first | refine and_t rfl ?_ | refine and_f rfl ?_ | refine ⟨_, atI_0, ?_⟩ | refine ⟨_, atI_1, ?_⟩ | refine ⟨_, atI_2, ?_⟩ | refine ⟨_, atI_3, ?_⟩ | refine ⟨_, atI_4, ?_⟩ | refine ⟨_, atI_5, ?_⟩ | refine ⟨flI, ?_⟩ | refine ⟨flI', ?_⟩ | refine ⟨flN, ?_⟩ | refine ⟨flN', ?_⟩ | refine ⟨flS, ?_⟩ | refine ⟨flS', ?_⟩ | refine ⟨flB, ?_⟩ | refine ⟨flB', ?_⟩ | refine ⟨dI_dep, ?_⟩ | refine ⟨dS_dep, ?_⟩ | refine ⟨dB_dep, ?_⟩ | refine ⟨dN_dep, ?_⟩ | refine ⟨_, ixN_0, ?_⟩ | refine ⟨_, ixN_1, ?_⟩ | refine ⟨_, ixN_2, ?_⟩ | refine ⟨_, ixN_3, ?_⟩ | refine ⟨_, ixN_4, ?_⟩); try (conv => whnf)); exact ⟨rfl, r, c, .wide n, rfl, hc, hf, k⟩
    | nob n => (repeat ((conv => whnf); first | refine and_t rfl ?_ | refine and_f rfl ?_ | refine ⟨_, atI_0, ?_⟩ | refine ⟨_, atI_1, ?_⟩ | refine ⟨_, atI_2, ?_⟩ | refine ⟨_, atI_3, ?_⟩ | refine ⟨_, atI_4, ?_⟩ | refine ⟨_, atI_5, ?_⟩ | refine ⟨flI, ?_⟩ | refine ⟨flI', ?_⟩ | refine ⟨flN, ?_⟩ | refine ⟨flN', ?_⟩ | refine ⟨flS, ?_⟩ | refine ⟨flS', ?_⟩ | refine ⟨flB, ?_⟩ | refine ⟨flB', ?_⟩ | refine ⟨dI_dep, ?_⟩ | refine ⟨dS_dep, ?_⟩ | refine ⟨dB_dep, ?_⟩ | refine ⟨dN_dep, ?_⟩ | refine ⟨_, ixN_0, ?_⟩ | refine ⟨_, ixN_1, ?_⟩ | refine ⟨_, ixN_2, ?_⟩ | refine ⟨_, ixN_3, ?_⟩ | refine ⟨_, ixN_4, ?_⟩); try (conv => whnf)); exact ⟨rfl, r, c, .nob n, rfl, hc, hf, k⟩
    | bye n => (repeat ((conv => whnf); first | refine and_t rfl ?_ | refine and_f rfl ?_ | refine ⟨_, atI_0, ?_⟩ | refine ⟨_, atI_1, ?_⟩ | refine ⟨_, atI_2, ?_⟩ | refine ⟨_, atI_3, ?_⟩ | refine ⟨_, atI_4, ?_⟩ | refine ⟨_, atI_5, ?_⟩ | refine ⟨flI, ?_⟩ | refine ⟨flI', ?_⟩ | refine ⟨flN, ?_⟩ | refine ⟨flN', ?_⟩ | refine ⟨flS, ?_⟩ | refine ⟨flS', ?_⟩ | refine ⟨flB, ?_⟩ | refine ⟨flB', ?_⟩ | refine ⟨dI_dep, ?_⟩ | refine ⟨dS_dep, ?_⟩ | refine ⟨dB_dep, ?_⟩ | refine ⟨dN_dep, ?_⟩ | refine ⟨_, ixN_0, ?_⟩ | refine ⟨_, ixN_1, ?_⟩ | refine ⟨_, ixN_2, ?_⟩ | refine ⟨_, ixN_3, ?_⟩ | refine ⟨_, ixN_4, ?_⟩); try (conv => whnf)); exact ⟨rfl, r, c, .bye n, rfl, hc, hf, k⟩
    | out => (repeat ((conv => whnf); first | refine and_t rfl ?_ | refine and_f rfl ?_ | refine ⟨_, atI_0, ?_⟩ | refine ⟨_, atI_1, ?_⟩ | refine ⟨_, atI_2, ?_⟩ | refine ⟨_, atI_3, ?_⟩ | refine ⟨_, atI_4, ?_⟩ | refine ⟨_, atI_5, ?_⟩ | refine ⟨flI, ?_⟩ | refine ⟨flI', ?_⟩ | refine ⟨flN, ?_⟩ | refine ⟨flN', ?_⟩ | refine ⟨flS, ?_⟩ | refine ⟨flS', ?_⟩ | refine ⟨flB, ?_⟩ | refine ⟨flB', ?_⟩ | refine ⟨dI_dep, ?_⟩ | refine ⟨dS_dep, ?_⟩ | refine ⟨dB_dep, ?_⟩ | refine ⟨dN_dep, ?_⟩ | refine ⟨_, ixN_0, ?_⟩ | refine ⟨_, ixN_1, ?_⟩ | refine ⟨_, ixN_2, ?_⟩ | refine ⟨_, ixN_3, ?_⟩ | refine ⟨_, ixN_4, ?_⟩); try (conv => whnf)); exact ⟨rfl, r, c, .out, rfl, hc, hf, k⟩

def t_law_a_due : DS :=
  (dSeq (dIfS (dTst (d2 opEq (d2 opIx (dVar 2) (dC (.int 0))) (dC (.str "bowl")))) (dRet (dCall sp_law_a_bowled (dCons (dVar 1) (dCons (dAr (d2 opIx (dVar 2) (dC (.int 1)))) dNil)))) dNext)
    (dRet (dCall sp_law_a_marked (dCons (dVar 0) (dCons (dVar 1) (dCons (dVar 2) dNil))))))
--! uses: rules
def sp_law_a_due : DSp := fun ss R => ∃ r c dd, ss = [.d (Ru.enc r), .d (Cr.enc c), .d (Dd.enc dd)] ∧ CrOk r c ∧ DdOk dd ∧ R (.d (dueC r c dd).enc) ss
theorem len_law_a_due : ∀ ss R, sp_law_a_due ss R → ss.length = 3 := by
  rintro ss R ⟨x, y, z, rfl, h⟩; rfl
theorem rd_law_a_due : ∀ ss R, sp_law_a_due ss R → t_law_a_due (dEnd ss R) (startS 0 ss 0) := by
  rintro ss R ⟨r, c, dd, rfl, hc, hd, k⟩
  cases dd with
  | bowl b =>
    (repeat ((conv => whnf); first | refine and_t rfl ?_ | refine and_f rfl ?_ | refine ⟨_, atI_0, ?_⟩ | refine ⟨_, atI_1, ?_⟩ | refine ⟨_, atI_2, ?_⟩ | refine ⟨_, atI_3, ?_⟩ | refine ⟨_, atI_4, ?_⟩ | refine ⟨_, atI_5, ?_⟩ | refine ⟨flI, ?_⟩ | refine ⟨flI', ?_⟩ | refine ⟨flN, ?_⟩ | refine ⟨flN', ?_⟩ | refine ⟨flS, ?_⟩ | refine ⟨flS', ?_⟩ | refine ⟨flB, ?_⟩ | refine ⟨flB', ?_⟩ | refine ⟨dI_dep, ?_⟩ | refine ⟨dS_dep, ?_⟩ | refine ⟨dB_dep, ?_⟩ | refine ⟨dN_dep, ?_⟩ | refine ⟨_, ixN_0, ?_⟩ | refine ⟨_, ixN_1, ?_⟩ | refine ⟨_, ixN_2, ?_⟩ | refine ⟨_, ixN_3, ?_⟩ | refine ⟨_, ixN_4, ?_⟩); try (conv => whnf))
    exact ⟨rfl, c, b, rfl, hc.2.2.2, hd.1, hd.2, k⟩
  | mark m =>
    cases m with
    | ro n s => cases s <;> ((repeat ((conv => whnf); first | refine and_t rfl ?_ | refine and_f rfl ?_ | refine ⟨_, atI_0, ?_⟩ | refine ⟨_, atI_1, ?_⟩ | refine ⟨_, atI_2, ?_⟩ | refine ⟨_, atI_3, ?_⟩ | refine ⟨_, atI_4, ?_⟩ | refine ⟨_, atI_5, ?_⟩ | refine ⟨flI, ?_⟩ | refine ⟨flI', ?_⟩ | refine ⟨flN, ?_⟩ | refine ⟨flN', ?_⟩ | refine ⟨flS, ?_⟩ | refine ⟨flS', ?_⟩ | refine ⟨flB, ?_⟩ | refine ⟨flB', ?_⟩ | refine ⟨dI_dep, ?_⟩ | refine ⟨dS_dep, ?_⟩ | refine ⟨dB_dep, ?_⟩ | refine ⟨dN_dep, ?_⟩ | refine ⟨_, ixN_0, ?_⟩ | refine ⟨_, ixN_1, ?_⟩ | refine ⟨_, ixN_2, ?_⟩ | refine ⟨_, ixN_3, ?_⟩ | refine ⟨_, ixN_4, ?_⟩); try (conv => whnf)); exact ⟨rfl, r, c, _, rfl, k⟩)
    | run n => (repeat ((conv => whnf); first | refine and_t rfl ?_ | refine and_f rfl ?_ | refine ⟨_, atI_0, ?_⟩ | refine ⟨_, atI_1, ?_⟩ | refine ⟨_, atI_2, ?_⟩ | refine ⟨_, atI_3, ?_⟩ | refine ⟨_, atI_4, ?_⟩ | refine ⟨_, atI_5, ?_⟩ | refine ⟨flI, ?_⟩ | refine ⟨flI', ?_⟩ | refine ⟨flN, ?_⟩ | refine ⟨flN', ?_⟩ | refine ⟨flS, ?_⟩ | refine ⟨flS', ?_⟩ | refine ⟨flB, ?_⟩ | refine ⟨flB', ?_⟩ | refine ⟨dI_dep, ?_⟩ | refine ⟨dS_dep, ?_⟩ | refine ⟨dB_dep, ?_⟩ | refine ⟨dN_dep, ?_⟩ | refine ⟨_, ixN_0, ?_⟩ | refine ⟨_, ixN_1, ?_⟩ | refine ⟨_, ixN_2, ?_⟩ | refine ⟨_, ixN_3, ?_⟩ | refine ⟨_, ixN_4, ?_⟩); try (conv => whnf)); exact ⟨rfl, r, c, .run n, rfl, k⟩
    | wide n => (repeat ((conv => whnf); first | refine and_t rfl ?_ | refine and_f rfl ?_ | refine ⟨_, atI_0, ?_⟩ | refine ⟨_, atI_1, ?_⟩ | refine ⟨_, atI_2, ?_⟩ | refine ⟨_, atI_3, ?_⟩ | refine ⟨_, atI_4, ?_⟩ | refine ⟨_, atI_5, ?_⟩ | refine ⟨flI, ?_⟩ | refine ⟨flI', ?_⟩ | refine ⟨flN, ?_⟩ | refine ⟨flN', ?_⟩ | refine ⟨flS, ?_⟩ | refine ⟨flS', ?_⟩ | refine ⟨flB, ?_⟩ | refine ⟨flB', ?_⟩ | refine ⟨dI_dep, ?_⟩ | refine ⟨dS_dep, ?_⟩ | refine ⟨dB_dep, ?_⟩ | refine ⟨dN_dep, ?_⟩ | refine ⟨_, ixN_0, ?_⟩ | refine ⟨_, ixN_1, ?_⟩ | refine ⟨_, ixN_2, ?_⟩ | refine ⟨_, ixN_3, ?_⟩ | refine ⟨_, ixN_4, ?_⟩); try (conv => whnf)); exact ⟨rfl, r, c, .wide n, rfl, k⟩
    | nob n => (repeat ((conv => whnf); first | refine and_t rfl ?_ | refine and_f rfl ?_ | refine ⟨_, atI_0, ?_⟩ | refine ⟨_, atI_1, ?_⟩ | refine ⟨_, atI_2, ?_⟩ | refine ⟨_, atI_3, ?_⟩ | refine ⟨_, atI_4, ?_⟩ | refine ⟨_, atI_5, ?_⟩ | refine ⟨flI, ?_⟩ | refine ⟨flI', ?_⟩ | refine ⟨flN, ?_⟩ | refine ⟨flN', ?_⟩ | refine ⟨flS, ?_⟩ | refine ⟨flS', ?_⟩ | refine ⟨flB, ?_⟩ | refine ⟨flB', ?_⟩ | refine ⟨dI_dep, ?_⟩ | refine ⟨dS_dep, ?_⟩ | refine ⟨dB_dep, ?_⟩ | refine ⟨dN_dep, ?_⟩ | refine ⟨_, ixN_0, ?_⟩ | refine ⟨_, ixN_1, ?_⟩ | refine ⟨_, ixN_2, ?_⟩ | refine ⟨_, ixN_3, ?_⟩ | refine ⟨_, ixN_4, ?_⟩); try (conv => whnf)); exact ⟨rfl, r, c, .nob n, rfl, k⟩
    | bye n => (repeat ((conv => whnf); first | refine and_t rfl ?_ | refine and_f rfl ?_ | refine ⟨_, atI_0, ?_⟩ | refine ⟨_, atI_1, ?_⟩ | refine ⟨_, atI_2, ?_⟩ | refine ⟨_, atI_3, ?_⟩ | refine ⟨_, atI_4, ?_⟩ | refine ⟨_, atI_5, ?_⟩ | refine ⟨flI, ?_⟩ | refine ⟨flI', ?_⟩ | refine ⟨flN, ?_⟩ | refine ⟨flN', ?_⟩ | refine ⟨flS, ?_⟩ | refine ⟨flS', ?_⟩ | refine ⟨flB, ?_⟩ | refine ⟨flB', ?_⟩ | refine ⟨dI_dep, ?_⟩ | refine ⟨dS_dep, ?_⟩ | refine ⟨dB_dep, ?_⟩ | refine ⟨dN_dep, ?_⟩ | refine ⟨_, ixN_0, ?_⟩ | refine ⟨_, ixN_1, ?_⟩ | refine ⟨_, ixN_2, ?_⟩ | refine ⟨_, ixN_3, ?_⟩ | refine ⟨_, ixN_4, ?_⟩); try (conv => whnf)); exact ⟨rfl, r, c, .bye n, rfl, k⟩
    | out => (repeat ((conv => whnf); first | refine and_t rfl ?_ | refine and_f rfl ?_ | refine ⟨_, atI_0, ?_⟩ | refine ⟨_, atI_1, ?_⟩ | refine ⟨_, atI_2, ?_⟩ | refine ⟨_, atI_3, ?_⟩ | refine ⟨_, atI_4, ?_⟩ | refine ⟨_, atI_5, ?_⟩ | refine ⟨flI, ?_⟩ | refine ⟨flI', ?_⟩ | refine ⟨flN, ?_⟩ | refine ⟨flN', ?_⟩ | refine ⟨flS, ?_⟩ | refine ⟨flS', ?_⟩ | refine ⟨flB, ?_⟩ | refine ⟨flB', ?_⟩ | refine ⟨dI_dep, ?_⟩ | refine ⟨dS_dep, ?_⟩ | refine ⟨dB_dep, ?_⟩ | refine ⟨dN_dep, ?_⟩ | refine ⟨_, ixN_0, ?_⟩ | refine ⟨_, ixN_1, ?_⟩ | refine ⟨_, ixN_2, ?_⟩ | refine ⟨_, ixN_3, ?_⟩ | refine ⟨_, ixN_4, ?_⟩); try (conv => whnf)); exact ⟨rfl, r, c, .out, rfl, k⟩

def t_law : DS :=
  (dSeq (dSet 1 (dCall sp_law_tape (dCons (dVar 0) dNil)))
    (dSeq (dSet 2 (dLst (dCons (dFz (dCall sp_law_a_rules (dCons (dVar 1) (dCons (dC (.int 18)) dNil)))) (dCons (dFz (dCall sp_law_a_rules (dCons (dVar 1) (dCons (dC (.int 18)) dNil)))) dNil))))
    (dSeq (dSub (dFz (dCall sp_law_pick (dCons (dVar 1) (dCons (dVar 2) dNil)))) (dVar 2) (dC (.int 1)))
    (dSeq (dSet 3 (dTup (dCons (dC (.int 0)) (dCons (dC (.int 1)) (dCons (dC .none) (dCons (dC (.int 0)) (dCons (dC .none) (dCons (dTup (dCons (dC (.int 0)) (dCons (dC (.int 0)) (dCons (dC (.int 0)) (dCons (dC (.int 0)) (dCons (dC (.int 0)) (dCons (dC (.int 0)) dNil))))))) (dCons (dC (.int 0)) dNil)))))))))
    (dSeq (dIfS (dTNot (dTru (dCall (sp_law_same 12) (dCons (dAr (dCall sp_new_crease dNil)) (dCons (dVar 3) dNil))))) (dRet (dC (.bool false))) dNext)
    (dSeq (dSet 4 (dLst (dCons (dFz (dVar 3)) (dCons (dFz (dVar 3)) dNil))))
    (dSeq (dSet 5 (dLst dNil))
    (dSeqC (dFor (dRng1 (dCons (d2 opAdd (dC (.int 10)) (dCall sp_law_draw (dCons (dVar 1) (dCons (dC (.int 15)) dNil)))) dNil)) (dgName 6) (dSeq (dSet 7 (dCall sp_law_draw (dCons (dVar 1) (dCons (dC (.int 2)) dNil))))
    (dSeqC (dIfS (dTst (d2 opEq (d2 opIx (d2 opIx (dVar 4) (dVar 7)) (dC (.int 6))) (d2 opIx (d2 opIx (dVar 2) (dVar 7)) (dC (.int 2))))) (dSet 7 (d2 opSub (dC (.int 1)) (dVar 7))) dNext)
    (dSeq (dIfS (dTst (d2 opEq (d2 opIx (d2 opIx (dVar 4) (dVar 7)) (dC (.int 6))) (d2 opIx (d2 opIx (dVar 2) (dVar 7)) (dC (.int 2))))) dBreak dNext)
    (dSeq (dSet 8 (dCall sp_law_a_crease_deed (dCons (dVar 1) (dCons (dAr (d2 opIx (dVar 2) (dVar 7))) (dCons (dAr (d2 opIx (dVar 4) (dVar 7))) dNil)))))
    (dSeq (dSet 9 (dCall sp_law_a_due (dCons (dAr (d2 opIx (dVar 2) (dVar 7))) (dCons (dAr (d2 opIx (dVar 4) (dVar 7))) (dCons (dVar 8) dNil)))))
    (dSeq (dIfS (dTNot (dTru (dCall (sp_law_same 12) (dCons (dAr (dCall sp_law_a_done (dCons (dAr (d2 opIx (dVar 2) (dVar 7))) (dCons (dAr (d2 opIx (dVar 4) (dVar 7))) (dCons (dVar 8) dNil))))) (dCons (dVar 9) dNil))))) (dRet (dC (.bool false))) dNext)
    (dSeq (dExpr (dMt mAppend (dVar 5) (dCons (dTup (dCons (dFz (d2 opIx (dVar 2) (dVar 7))) (dCons (dFz (d2 opIx (dVar 4) (dVar 7))) (dCons (dFz (dVar 8)) (dCons (dFz (dVar 9)) dNil))))) dNil)))
    (dSub (dFz (dVar 9)) (dVar 4) (dVar 7))))))))))
    (dSeq (dFor (dIt (dFz (dSl (dVar 5) dNoP (dPt (dC (.int 3)))))) (dgName 10) (dIfS (dTNot (dTru (dCall (sp_law_same 12) (dCons (dAr (dCall sp_law_a_done (dCons (dAr (d2 opIx (dVar 10) (dC (.int 0)))) (dCons (dAr (d2 opIx (dVar 10) (dC (.int 1)))) (dCons (dAr (d2 opIx (dVar 10) (dC (.int 2)))) dNil))))) (dCons (dAr (d2 opIx (dVar 10) (dC (.int 3)))) dNil))))) (dRet (dC (.bool false))) dNext))
    (dSeq (dSet 11 (dTup (dCons (dC (.int 2)) (dCons (dC (.int 2)) (dCons (dC (.int 2)) (dCons (dC (.int 9)) (dCons (dC (.int 1)) (dCons (dC (.int 6)) dNil))))))))
    (dSeq (dSet 12 (dTup (dCons (dC (.int 0)) (dCons (dC (.int 1)) (dCons (dC (.int 3)) (dCons (dC (.int 1)) (dCons (dC .none) (dCons (dTup (dCons (dC (.int 0)) (dCons (dC (.int 0)) (dCons (dC (.int 0)) (dCons (dC (.int 1)) (dCons (dC (.int 0)) (dCons (dC (.int 0)) dNil))))))) (dCons (dC (.int 0)) dNil)))))))))
    (dSeq (dSet 13 (dLst (dCons (dTup (dCons (dTup (dCons (dC (.str "run")) (dCons (dC (.int 1)) dNil))) (dCons (dTup (dCons (dC (.int 0)) (dCons (dC (.int 1)) (dCons (dC .none) (dCons (dC (.int 0)) (dCons (dC (.int 3)) (dCons (dTup (dCons (dC (.int 0)) (dCons (dC (.int 0)) (dCons (dC (.int 0)) (dCons (dC (.int 1)) (dCons (dC (.int 0)) (dCons (dC (.int 0)) dNil))))))) (dCons (dC (.int 0)) dNil)))))))) dNil))) (dCons (dTup (dCons (dTup (dCons (dC (.str "wide")) (dCons (dC (.int 3)) dNil))) (dCons (dTup (dCons (dC (.int 1)) (dCons (dC (.int 0)) (dCons (dC (.int 3)) (dCons (dC (.int 1)) (dCons (dC .none) (dCons (dTup (dCons (dC (.int 0)) (dCons (dC (.int 0)) (dCons (dC (.int 0)) (dCons (dC (.int 1)) (dCons (dC (.int 0)) (dCons (dC (.int 0)) dNil))))))) (dCons (dC (.int 0)) dNil)))))))) dNil))) dNil))))
    (dSeq (dSet 13 (d2 opAdd (dVar 13) (dLst (dCons (dTup (dCons (dTup (dCons (dC (.str "runout")) (dCons (dC (.int 1)) (dCons (dC (.str "other")) dNil)))) (dCons (dTup (dCons (dC (.int 0)) (dCons (dC (.int 2)) (dCons (dC .none) (dCons (dC (.int 0)) (dCons (dC (.int 3)) (dCons (dTup (dCons (dC (.int 0)) (dCons (dC (.int 0)) (dCons (dC (.int 0)) (dCons (dC (.int 1)) (dCons (dC (.int 0)) (dCons (dC (.int 0)) dNil))))))) (dCons (dC (.int 1)) dNil)))))))) dNil))) dNil))))
    (dSeq (dSet 13 (d2 opAdd (dVar 13) (dLst (dCons (dTup (dCons (dTup (dCons (dC (.str "runout")) (dCons (dC (.int 0)) (dCons (dC (.str "striker")) dNil)))) (dCons (dTup (dCons (dC (.int 1)) (dCons (dC (.int 2)) (dCons (dC .none) (dCons (dC (.int 0)) (dCons (dC (.int 3)) (dCons (dTup (dCons (dC (.int 0)) (dCons (dC (.int 0)) (dCons (dC (.int 0)) (dCons (dC (.int 1)) (dCons (dC (.int 0)) (dCons (dC (.int 0)) dNil))))))) (dCons (dC (.int 1)) dNil)))))))) dNil))) (dCons (dTup (dCons (dTup (dCons (dC (.str "noball")) (dCons (dC (.int 2)) dNil))) (dCons (dFz (dVar 12)) dNil))) dNil)))))
    (dSeq (dSet 13 (d2 opAdd (dVar 13) (dLst (dCons (dTup (dCons (dTup (dCons (dC (.str "runout")) (dCons (dC (.int 0)) (dCons (dC (.str "other")) dNil)))) (dCons (dTup (dCons (dC (.int 2)) (dCons (dC (.int 0)) (dCons (dC .none) (dCons (dC (.int 0)) (dCons (dC (.int 3)) (dCons (dTup (dCons (dC (.int 0)) (dCons (dC (.int 0)) (dCons (dC (.int 0)) (dCons (dC (.int 1)) (dCons (dC (.int 0)) (dCons (dC (.int 0)) dNil))))))) (dCons (dC (.int 1)) dNil)))))))) dNil))) (dCons (dTup (dCons (dTup (dCons (dC (.str "out")) dNil)) (dCons (dTup (dCons (dC (.int 1)) (dCons (dC (.int 2)) (dCons (dC .none) (dCons (dC (.int 0)) (dCons (dC (.int 3)) (dCons (dTup (dCons (dC (.int 0)) (dCons (dC (.int 0)) (dCons (dC (.int 0)) (dCons (dC (.int 1)) (dCons (dC (.int 0)) (dCons (dC (.int 0)) dNil))))))) (dCons (dC (.int 1)) dNil)))))))) dNil))) dNil)))))
    (dSeq (dIfS (dTNot (dTru (dCall (sp_law_same 12) (dCons (dAr (dCall sp_after_bowl (dCons (dAr (d2 opIx (d2 opIx (dVar 13) (dC (.int 0))) (dC (.int 1)))) (dCons (dC (.int 3)) dNil)))) (dCons (dTup (dCons (dC (.int 0)) (dCons (dC (.int 1)) (dCons (dC (.int 3)) (dCons (dC (.int 0)) (dCons (dC (.int 3)) (dCons (dTup (dCons (dC (.int 0)) (dCons (dC (.int 0)) (dCons (dC (.int 0)) (dCons (dC (.int 2)) (dCons (dC (.int 0)) (dCons (dC (.int 0)) dNil))))))) (dCons (dC (.int 0)) dNil)))))))) dNil))))) (dRet (dC (.bool false))) dNext)
    (dSeq (dSet 14 (dCall sp_after_mark (dCons (dVar 11) (dCons (dAr (dCall sp_after_bowl (dCons (dVar 3) (dCons (dC (.int 3)) dNil)))) (dCons (dTup (dCons (dC (.str "run")) (dCons (dC (.int 2)) dNil))) dNil)))))
    (dSeq (dIfS (dTNot (dTru (dCall (sp_law_same 12) (dCons (dVar 14) (dCons (dVar 12) dNil))))) (dRet (dC (.bool false))) dNext)
    (dSeq (dFor (dIt (dFz (dVar 13))) (dgName 15) (dIfS (dTNot (dTru (dCall (sp_law_same 12) (dCons (dAr (dCall sp_after_mark (dCons (dVar 11) (dCons (dVar 12) (dCons (dAr (d2 opIx (dVar 15) (dC (.int 0)))) dNil))))) (dCons (dAr (d2 opIx (dVar 15) (dC (.int 1)))) dNil))))) (dRet (dC (.bool false))) dNext))
    (dRet (dCall (sp_law_same 12) (dCons (dAr (dCall sp_new_crease dNil)) (dCons (dVar 3) dNil)))))))))))))))))))))))
--! uses: rules
--! cuts: 9 11
def sp_law : DSp := spLaw
theorem len_law : ∀ ss R, sp_law ss R → ss.length = 1 := by
  rintro ss R ⟨ns, rfl, h⟩; rfl
def RowOk (x : PyData) : Prop := ∃ r c dd, x = .tuple [Ru.enc r, Cr.enc c, Dd.enc dd, (dueC r c dd).enc] ∧ RuOk r ∧ CrOk r c ∧ c.fa < r.wk ∧ DdOk dd
theorem two_at {r0 r1 : Ru} {c0 c1 : Cr} {j : Int} (h0 : 0 ≤ j) (h1 : j < 2) (p0 : RuOk r0) (p1 : RuOk r1) (q0 : CrOk r0 c0) (q1 : CrOk r1 c1) :
    ∃ r c, atI [r0.enc, r1.enc] j = some r.enc ∧ atI [c0.enc, c1.enc] j = some c.enc ∧ RuOk r ∧ CrOk r c ∧ ixN 2 j = some j.toNat ∧ ∀ c', CrOk r c' → ∃ d0 d1, [c0.enc, c1.enc].set j.toNat c'.enc = [Cr.enc d0, Cr.enc d1] ∧ CrOk r0 d0 ∧ CrOk r1 d1 := by
  have : j = 0 ∨ j = 1 := by omega
  rcases this with rfl | rfl
  · exact ⟨r0, c0, atI_0, atI_0, p0, q0, ixN_0, fun c' h => ⟨c', c1, rfl, h, q1⟩⟩
  · exact ⟨r1, c1, atI_1, atI_1, p1, q1, ixN_1, fun c' h => ⟨c0, c', rfl, q0, h⟩⟩
def ru0 : Ru := ⟨2, 2, 2, 9, 1, 6⟩
def cr0 : Cr := ⟨some 0, some 1, some 3, 1, none, [0, 0, 0, 1, 0, 0], 0⟩
def typedL : List (Mk × Cr) := [(.run 1, ⟨some 0, some 1, none, 0, some 3, [0, 0, 0, 1, 0, 0], 0⟩), (.wide 3, ⟨some 1, some 0, some 3, 1, none, [0, 0, 0, 1, 0, 0], 0⟩), (.ro 1 false, ⟨some 0, some 2, none, 0, some 3, [0, 0, 0, 1, 0, 0], 1⟩),
  (.ro 0 true, ⟨some 1, some 2, none, 0, some 3, [0, 0, 0, 1, 0, 0], 1⟩), (.nob 2, cr0), (.ro 0 false, ⟨some 2, some 0, none, 0, some 3, [0, 0, 0, 1, 0, 0], 1⟩), (.out, ⟨some 1, some 2, none, 0, some 3, [0, 0, 0, 1, 0, 0], 1⟩)]
theorem typed_ok : ∀ p ∈ typedL, afterM ru0 cr0 p.1 = p.2 ∧ p.2.bg.length = 6 := by
  intro p hp
  simp only [typedL, List.mem_cons, List.not_mem_nil, or_false] at hp
  rcases hp with rfl | rfl | rfl | rfl | rfl | rfl | rfl <;> exact ⟨rfl, rfl⟩
theorem rd_law : ∀ ss R, sp_law ss R → t_law (dEnd ss R) (startS 0 ss 15) := by
  rintro ss R ⟨ns, rfl, hn, k⟩
  have same : ∀ c : Cr, c.bg.length = 6 → Pl 11 c.enc := fun c h => Pl_le (pl_cr h) (by decide)
  (conv => whnf)
  refine ⟨rfl, ns, rfl, hn, fun tp t0 => ?_⟩
  (conv => whnf)
  refine ⟨rfl, tp, 18, rfl, t0, by decide, by decide, fun tp1 r0 t1 h0 => ?_⟩
  (conv => whnf)
  refine ⟨rfl, tp1, 18, rfl, t1, by decide, by decide, fun tp2 r1 t2 h1 => ?_⟩
  (conv => whnf)
  refine ⟨rfl, tp2, _, _, rfl, rfl, t2, (by intro h; cases h), Nat.le_of_ble_eq_true rfl, fun tp3 x t3 hx => ?_⟩
  have hx : ∃ r2 : Ru, x = r2.enc ∧ RuOk r2 := by
    rcases List.mem_cons.mp hx with rfl | hx
    · exact ⟨r0, rfl, h0.ok⟩
    · exact ⟨r1, List.mem_singleton.mp hx, h1.ok⟩
  obtain ⟨r2, rfl, h2⟩ := hx
  have h0 := h0.ok
  (repeat ((conv => whnf); first | refine and_t rfl ?_ | refine and_f rfl ?_ | refine ⟨_, atI_0, ?_⟩ | refine ⟨_, atI_1, ?_⟩ | refine ⟨_, atI_2, ?_⟩ | refine ⟨_, atI_3, ?_⟩ | refine ⟨_, atI_4, ?_⟩ | refine ⟨_, atI_5, ?_⟩ | refine ⟨flI, ?_⟩ | refine ⟨flI', ?_⟩ | refine ⟨flN, ?_⟩ | refine ⟨flN', ?_⟩ | refine ⟨flS, ?_⟩ | refine ⟨flS', ?_⟩ | refine ⟨flB, ?_⟩ | refine ⟨flB', ?_⟩ | refine ⟨dI_dep, ?_⟩ | refine ⟨dS_dep, ?_⟩ | refine ⟨dB_dep, ?_⟩ | refine ⟨dN_dep, ?_⟩ | refine ⟨_, ixN_0, ?_⟩ | refine ⟨_, ixN_1, ?_⟩ | refine ⟨_, ixN_2, ?_⟩ | refine ⟨_, ixN_3, ?_⟩ | refine ⟨_, ixN_4, ?_⟩); try (conv => whnf))
  refine ⟨rfl, rfl, ?_⟩
  (conv => whnf)
  refine ⟨rfl, fresh0.enc, rfl, same _ rfl, ?_⟩
  (conv => whnf)
  refine and_f rfl ?_
  (conv => whnf)
  refine ⟨fun σ => ∃ i tp r0 r1 c0 c1 rows o6 o7 o8 o9, i ≤ 25 ∧ TapeAt tp ∧ RuOk r0 ∧ RuOk r1 ∧ CrOk r0 c0 ∧ CrOk r1 c1 ∧ rows.length ≤ i ∧ (∀ x ∈ rows, RowOk x) ∧ σ = [some (.d (dI ns)), some (.own tp), some (.own [Ru.enc r0, Ru.enc r1]), some (.d fresh0.enc), some (.own [Cr.enc c0, Cr.enc c1]), some (.own rows), o6, o7, o8, o9, none, none, none, none, none, none], ?_, ?_⟩
  · (conv => whnf)
    refine ⟨rfl, tp3, 15, rfl, t3, by decide, fun tp4 mn t4 a4 b4 => ?_⟩
    have hr : (rngD 0 (10 + mn).toNat).length = (10 + mn).toNat := rngD_length _ _
    (conv => whnf)
    refine ⟨rng_okI (by omega) (by omega), fun i σ => ∃ tp r0 r1 c0 c1 rows o6 o7 o8 o9, i ≤ 25 ∧ TapeAt tp ∧ RuOk r0 ∧ RuOk r1 ∧ CrOk r0 c0 ∧ CrOk r1 c1 ∧ rows.length ≤ i ∧ (∀ x ∈ rows, RowOk x) ∧ σ = [some (.d (dI ns)), some (.own tp), some (.own [Ru.enc r0, Ru.enc r1]), some (.d fresh0.enc), some (.own [Cr.enc c0, Cr.enc c1]), some (.own rows), o6, o7, o8, o9, none, none, none, none, none, none], ?_, ?_, ?_⟩
    · have fo : ∀ r : Ru, RuOk r → CrOk r fresh0 := fun r h => ⟨by decide, by show (0 : Int) + 1 ≤ r.ov; have := h.1; omega, by show (0 : Int) ≤ r.wk; have := h.2; omega, rfl⟩
      exact ⟨tp4, r0, r2, fresh0, fresh0, [], none, none, none, none, by decide, t4, h0, h2, fo _ h0, fo _ h2, Nat.le_refl _, fun _ h => (by cases h), rfl⟩
    · rintro i d σ e ⟨tp, r0, r1, c0, c1, rows, o6, o7, o8, o9, hi, t0, p0, p1, q0, q1, hl, hrows, rfl⟩
      obtain ⟨hi2, rfl⟩ := rngD_at e
      have hi2 : i < (10 + mn).toNat := hi2
      (conv => whnf)
      refine ⟨rfl, tp, 2, rfl, t0, by decide, fun tp1 j t1 a1 b1 => ?_⟩
      (conv => whnf)
      refine ⟨fun σ => ∃ j : Int, 0 ≤ j ∧ j < 2 ∧ σ = [some (.d (dI ns)), some (.own tp1), some (.own [Ru.enc r0, Ru.enc r1]), some (.d fresh0.enc), some (.own [Cr.enc c0, Cr.enc c1]), some (.own rows), some (.d (.int (0 + (i : Int)))), some (.d (.int j)), o8, o9, none, none, none, none, none, none], ?_, ?_⟩
      · obtain ⟨r, c, e1, e2, _⟩ := two_at (j := j) a1 (by omega) p0 p1 q0 q1
        (conv => whnf)
        refine ⟨_, e2, ?_⟩
        (conv => whnf)
        refine ⟨_, atI_6, ?_⟩
        (conv => whnf)
        refine ⟨_, e1, ?_⟩
        (repeat ((conv => whnf); first | refine and_t rfl ?_ | refine and_f rfl ?_ | refine ⟨_, atI_0, ?_⟩ | refine ⟨_, atI_1, ?_⟩ | refine ⟨_, atI_2, ?_⟩ | refine ⟨_, atI_3, ?_⟩ | refine ⟨_, atI_4, ?_⟩ | refine ⟨_, atI_5, ?_⟩ | refine ⟨flI, ?_⟩ | refine ⟨flI', ?_⟩ | refine ⟨flN, ?_⟩ | refine ⟨flN', ?_⟩ | refine ⟨flS, ?_⟩ | refine ⟨flS', ?_⟩ | refine ⟨flB, ?_⟩ | refine ⟨flB', ?_⟩ | refine ⟨dI_dep, ?_⟩ | refine ⟨dS_dep, ?_⟩ | refine ⟨dB_dep, ?_⟩ | refine ⟨dN_dep, ?_⟩ | refine ⟨_, ixN_0, ?_⟩ | refine ⟨_, ixN_1, ?_⟩ | refine ⟨_, ixN_2, ?_⟩ | refine ⟨_, ixN_3, ?_⟩ | refine ⟨_, ixN_4, ?_⟩); try (conv => whnf))
        refine ⟨fun hk => ?_, fun hk => ?_⟩
        · exact ⟨1 - j, by omega, by omega, rfl⟩
        · exact ⟨j, by omega, by omega, rfl⟩
      · rintro σ ⟨j, a1, b1, rfl⟩
        obtain ⟨r, c, e1, e2, hr1, hc, ej, upd⟩ := two_at (j := j) a1 b1 p0 p1 q0 q1
        (conv => whnf)
        refine ⟨_, e2, ?_⟩
        (conv => whnf)
        refine ⟨_, atI_6, ?_⟩
        (conv => whnf)
        refine ⟨_, e1, ?_⟩
        (repeat ((conv => whnf); first | refine and_t rfl ?_ | refine and_f rfl ?_ | refine ⟨_, atI_0, ?_⟩ | refine ⟨_, atI_1, ?_⟩ | refine ⟨_, atI_2, ?_⟩ | refine ⟨_, atI_3, ?_⟩ | refine ⟨_, atI_4, ?_⟩ | refine ⟨_, atI_5, ?_⟩ | refine ⟨flI, ?_⟩ | refine ⟨flI', ?_⟩ | refine ⟨flN, ?_⟩ | refine ⟨flN', ?_⟩ | refine ⟨flS, ?_⟩ | refine ⟨flS', ?_⟩ | refine ⟨flB, ?_⟩ | refine ⟨flB', ?_⟩ | refine ⟨dI_dep, ?_⟩ | refine ⟨dS_dep, ?_⟩ | refine ⟨dB_dep, ?_⟩ | refine ⟨dN_dep, ?_⟩ | refine ⟨_, ixN_0, ?_⟩ | refine ⟨_, ixN_1, ?_⟩ | refine ⟨_, ixN_2, ?_⟩ | refine ⟨_, ixN_3, ?_⟩ | refine ⟨_, ixN_4, ?_⟩); try (conv => whnf))
        refine ⟨fun hk => ?_, fun hk => ?_⟩
        · exact ⟨i, tp1, r0, r1, c0, c1, rows, _, _, _, _, hi, t1, p0, p1, q0, q1, hl, hrows, rfl⟩
        · have hk : c.fa ≠ r.wk := of_decide_eq_false hk
          have hlive : c.fa < r.wk := by have := hc.2.2.1; omega
          (conv => whnf)
          refine ⟨_, e1, ?_⟩
          (conv => whnf)
          refine ⟨_, e2, ?_⟩
          (conv => whnf)
          refine ⟨rfl, tp1, r, c, rfl, t1, fun tp2 dd t2 hd => ?_⟩
          (conv => whnf)
          refine ⟨_, e1, ?_⟩
          (conv => whnf)
          refine ⟨_, e2, ?_⟩
          (conv => whnf)
          refine ⟨rfl, r, c, dd, rfl, hc, hd, ?_⟩
          have hc' := dueC_ok (d := dd) hr1 hc hlive
          (conv => whnf)
          refine ⟨_, e1, ?_⟩
          (conv => whnf)
          refine ⟨_, e2, ?_⟩
          (conv => whnf)
          refine ⟨rfl, r, c, dd, rfl, hc, hlive, hd, ?_⟩
          (conv => whnf)
          refine ⟨rfl, _, rfl, same _ hc'.2.2.2, ?_⟩
          (conv => whnf)
          refine and_f rfl ?_
          (conv => whnf)
          refine ⟨_, e1, ?_⟩
          (conv => whnf)
          refine ⟨_, e2, ?_⟩
          (conv => whnf)
          refine ⟨by rw [sizeLine_eq]; omega, ?_⟩
          obtain ⟨d0, d1, es, o0, o1⟩ := upd _ hc'
          (conv => whnf)
          refine ⟨_, ej, ?_⟩
          rw [es]
          refine ⟨tp2, r0, r1, d0, d1, rows ++ [.tuple [r.enc, c.enc, dd.enc, (dueC r c dd).enc]], _, _, _, _, by omega, t2, p0, p1, o0, o1, by rw [List.length_append, List.length_singleton]; omega, fun x hx => ?_, rfl⟩
          rcases List.mem_append.mp hx with hx | hx
          · exact hrows x hx
          · rw [List.mem_singleton.mp hx]; exact ⟨r, c, dd, rfl, hr1, hc, hlive, hd⟩
    · rintro σ ⟨tp, r0, r1, c0, c1, rows, o6, o7, o8, o9, hi, t0, p0, p1, q0, q1, hl, hrows, rfl⟩
      exact ⟨_, tp, r0, r1, c0, c1, rows, o6, o7, o8, o9, hi, t0, p0, p1, q0, q1, hl, hrows, rfl⟩
  · rintro σ ⟨i, tp, r0, r1, c0, c1, rows, o6, o7, o8, o9, hi, t0, p0, p1, q0, q1, hl, hrows, rfl⟩
    (conv => whnf)
    refine ⟨fun i σ => ∃ o, σ = [some (.d (dI ns)), some (.own tp), some (.own [Ru.enc r0, Ru.enc r1]), some (.d fresh0.enc), some (.own [Cr.enc c0, Cr.enc c1]), some (.own rows), o6, o7, o8, o9, o, none, none, none, none, none], ⟨none, rfl⟩, ?_, ?_⟩
    · rintro l d σ e ⟨o, rfl⟩
      rw [cut_to (by decide)] at e
      obtain ⟨r, c, dd, rfl, g1, g2, g3, g4⟩ := hrows d (List.mem_of_mem_take (getD_mem e))
      have hc' := dueC_ok (d := dd) g1 g2 g3
      (repeat ((conv => whnf); first | refine and_t rfl ?_ | refine and_f rfl ?_ | refine ⟨_, atI_0, ?_⟩ | refine ⟨_, atI_1, ?_⟩ | refine ⟨_, atI_2, ?_⟩ | refine ⟨_, atI_3, ?_⟩ | refine ⟨_, atI_4, ?_⟩ | refine ⟨_, atI_5, ?_⟩ | refine ⟨flI, ?_⟩ | refine ⟨flI', ?_⟩ | refine ⟨flN, ?_⟩ | refine ⟨flN', ?_⟩ | refine ⟨flS, ?_⟩ | refine ⟨flS', ?_⟩ | refine ⟨flB, ?_⟩ | refine ⟨flB', ?_⟩ | refine ⟨dI_dep, ?_⟩ | refine ⟨dS_dep, ?_⟩ | refine ⟨dB_dep, ?_⟩ | refine ⟨dN_dep, ?_⟩ | refine ⟨_, ixN_0, ?_⟩ | refine ⟨_, ixN_1, ?_⟩ | refine ⟨_, ixN_2, ?_⟩ | refine ⟨_, ixN_3, ?_⟩ | refine ⟨_, ixN_4, ?_⟩); try (conv => whnf))
      refine ⟨rfl, r, c, dd, rfl, g2, g3, g4, ?_⟩
      (repeat ((conv => whnf); first | refine and_t rfl ?_ | refine and_f rfl ?_ | refine ⟨_, atI_0, ?_⟩ | refine ⟨_, atI_1, ?_⟩ | refine ⟨_, atI_2, ?_⟩ | refine ⟨_, atI_3, ?_⟩ | refine ⟨_, atI_4, ?_⟩ | refine ⟨_, atI_5, ?_⟩ | refine ⟨flI, ?_⟩ | refine ⟨flI', ?_⟩ | refine ⟨flN, ?_⟩ | refine ⟨flN', ?_⟩ | refine ⟨flS, ?_⟩ | refine ⟨flS', ?_⟩ | refine ⟨flB, ?_⟩ | refine ⟨flB', ?_⟩ | refine ⟨dI_dep, ?_⟩ | refine ⟨dS_dep, ?_⟩ | refine ⟨dB_dep, ?_⟩ | refine ⟨dN_dep, ?_⟩ | refine ⟨_, ixN_0, ?_⟩ | refine ⟨_, ixN_1, ?_⟩ | refine ⟨_, ixN_2, ?_⟩ | refine ⟨_, ixN_3, ?_⟩ | refine ⟨_, ixN_4, ?_⟩); try (conv => whnf))
      refine ⟨rfl, _, rfl, same _ hc'.2.2.2, ?_⟩
      (conv => whnf)
      refine and_f rfl ?_
      exact ⟨_, rfl⟩
    · rintro σ ⟨o, rfl⟩
      have okc : CrOk ru0 cr0 := ⟨by decide, by decide, by decide, rfl⟩
      (conv => whnf)
      refine ⟨Nat.le_of_ble_eq_true rfl, ?_⟩
      (conv => whnf)
      refine ⟨Nat.le_of_ble_eq_true rfl, ?_⟩
      (conv => whnf)
      refine ⟨Nat.le_of_ble_eq_true rfl, ?_⟩
      (repeat ((conv => whnf); first | refine and_t rfl ?_ | refine and_f rfl ?_ | refine ⟨_, atI_0, ?_⟩ | refine ⟨_, atI_1, ?_⟩ | refine ⟨_, atI_2, ?_⟩ | refine ⟨_, atI_3, ?_⟩ | refine ⟨_, atI_4, ?_⟩ | refine ⟨_, atI_5, ?_⟩ | refine ⟨flI, ?_⟩ | refine ⟨flI', ?_⟩ | refine ⟨flN, ?_⟩ | refine ⟨flN', ?_⟩ | refine ⟨flS, ?_⟩ | refine ⟨flS', ?_⟩ | refine ⟨flB, ?_⟩ | refine ⟨flB', ?_⟩ | refine ⟨dI_dep, ?_⟩ | refine ⟨dS_dep, ?_⟩ | refine ⟨dB_dep, ?_⟩ | refine ⟨dN_dep, ?_⟩ | refine ⟨_, ixN_0, ?_⟩ | refine ⟨_, ixN_1, ?_⟩ | refine ⟨_, ixN_2, ?_⟩ | refine ⟨_, ixN_3, ?_⟩ | refine ⟨_, ixN_4, ?_⟩); try (conv => whnf))
      refine ⟨rfl, ⟨some 0, some 1, none, 0, some 3, [0, 0, 0, 1, 0, 0], 0⟩, 3, rfl, rfl, by decide, by decide, ?_⟩
      (conv => whnf)
      refine ⟨rfl, Cr.enc ⟨some 0, some 1, some 3, 0, some 3, [0, 0, 0, 2, 0, 0], 0⟩, rfl, same _ rfl, ?_⟩
      (conv => whnf)
      refine and_f rfl ?_
      (conv => whnf)
      refine ⟨rfl, fresh0, 3, rfl, rfl, by decide, by decide, ?_⟩
      (conv => whnf)
      refine ⟨rfl, ru0, ⟨some 0, some 1, some 3, 0, none, [0, 0, 0, 1, 0, 0], 0⟩, .run 2, rfl, ⟨by decide, by decide, by decide, rfl⟩, by decide, ?_⟩
      (conv => whnf)
      refine ⟨rfl, cr0.enc, rfl, same _ rfl, ?_⟩
      (conv => whnf)
      refine and_f rfl ?_
      (conv => whnf)
      refine ⟨fun i σ => ∃ o13 o14 o15, σ = [some (.d (dI ns)), some (.own tp), some (.own [Ru.enc r0, Ru.enc r1]), some (.d fresh0.enc), some (.own [Cr.enc c0, Cr.enc c1]), some (.own rows), o6, o7, o8, o9, o, some (.d ru0.enc), some (.d cr0.enc), o13, o14, o15], ⟨_, _, _, rfl⟩, ?_, ?_⟩
      · rintro l d σ e ⟨o13, o14, o15, rfl⟩
        obtain ⟨p, e', rfl⟩ := map_get (show (typedL.map fun p : Mk × Cr => PyData.tuple [p.1.enc, p.2.enc])[l]? = some d from e)
        obtain ⟨g1, g2⟩ := typed_ok p (getD_mem e')
        obtain ⟨m, c⟩ := p
        (repeat ((conv => whnf); first | refine and_t rfl ?_ | refine and_f rfl ?_ | refine ⟨_, atI_0, ?_⟩ | refine ⟨_, atI_1, ?_⟩ | refine ⟨_, atI_2, ?_⟩ | refine ⟨_, atI_3, ?_⟩ | refine ⟨_, atI_4, ?_⟩ | refine ⟨_, atI_5, ?_⟩ | refine ⟨flI, ?_⟩ | refine ⟨flI', ?_⟩ | refine ⟨flN, ?_⟩ | refine ⟨flN', ?_⟩ | refine ⟨flS, ?_⟩ | refine ⟨flS', ?_⟩ | refine ⟨flB, ?_⟩ | refine ⟨flB', ?_⟩ | refine ⟨dI_dep, ?_⟩ | refine ⟨dS_dep, ?_⟩ | refine ⟨dB_dep, ?_⟩ | refine ⟨dN_dep, ?_⟩ | refine ⟨_, ixN_0, ?_⟩ | refine ⟨_, ixN_1, ?_⟩ | refine ⟨_, ixN_2, ?_⟩ | refine ⟨_, ixN_3, ?_⟩ | refine ⟨_, ixN_4, ?_⟩); try (conv => whnf))
        refine ⟨rfl, ru0, cr0, m, rfl, okc, by decide, ?_⟩
        have g1 : afterM ru0 cr0 m = c := g1
        rw [g1]
        (repeat ((conv => whnf); first | refine and_t rfl ?_ | refine and_f rfl ?_ | refine ⟨_, atI_0, ?_⟩ | refine ⟨_, atI_1, ?_⟩ | refine ⟨_, atI_2, ?_⟩ | refine ⟨_, atI_3, ?_⟩ | refine ⟨_, atI_4, ?_⟩ | refine ⟨_, atI_5, ?_⟩ | refine ⟨flI, ?_⟩ | refine ⟨flI', ?_⟩ | refine ⟨flN, ?_⟩ | refine ⟨flN', ?_⟩ | refine ⟨flS, ?_⟩ | refine ⟨flS', ?_⟩ | refine ⟨flB, ?_⟩ | refine ⟨flB', ?_⟩ | refine ⟨dI_dep, ?_⟩ | refine ⟨dS_dep, ?_⟩ | refine ⟨dB_dep, ?_⟩ | refine ⟨dN_dep, ?_⟩ | refine ⟨_, ixN_0, ?_⟩ | refine ⟨_, ixN_1, ?_⟩ | refine ⟨_, ixN_2, ?_⟩ | refine ⟨_, ixN_3, ?_⟩ | refine ⟨_, ixN_4, ?_⟩); try (conv => whnf))
        refine ⟨rfl, _, rfl, same _ g2, ?_⟩
        (conv => whnf)
        refine and_f rfl ?_
        exact ⟨_, _, _, rfl⟩
      · rintro σ ⟨o13, o14, o15, rfl⟩
        (conv => whnf)
        refine ⟨rfl, rfl, ?_⟩
        (conv => whnf)
        refine ⟨rfl, fresh0.enc, rfl, same _ rfl, ?_⟩
        exact k _

end DL

set_option Elab.async false
set_option linter.all false
set_option maxRecDepth 100000
set_option maxHeartbeats 4000000
namespace DL
open PySem PySem.Spec PyProof.Rows L2
def top (i : Nat) : Stmt := PySem.Challenge.pw_rainovers_k05_creases_along_an_innings.main.body.getD i (.Pass ⟨0, 0, 0, 0⟩)
def s_ran_of : Stmt := top 1
def s_takes_wicket : Stmt := top 2
def s_uses_ball : Stmt := top 3
def s_over_of : Stmt := top 5
def s_wickets_of : Stmt := top 6
def s_new_crease : Stmt := top 8
def s_after_bowl : Stmt := top 9
def s_batter_out : Stmt := top 10
def s_after_running : Stmt := top 11
def s_next_batter : Stmt := top 12
def s_after_wicket : Stmt := top 13
def s_after_ball : Stmt := top 14
def s_after_mark : Stmt := top 15
def s_law_tape : Stmt := top 17
def s_law_draw : Stmt := top 18
def s_law_pick : Stmt := top 19
def s_law_same : Stmt := top 20
def s_law_a_marks : Stmt := top 21
def s_law_a_step : Stmt := top 22
def s_law_a_ran : Stmt := top 23
def s_law_a_bowled : Stmt := top 24
def s_law_a_marked : Stmt := top 25
def s_law_a_rules : Stmt := top 26
def s_law_a_mark : Stmt := top 27
def s_law_a_crease_deed : Stmt := top 28
def s_law_a_done : Stmt := top 29
def s_law_a_due : Stmt := top 30
def s_law : Stmt := top 31
structure Env (K : PySem.W.Frag) (mg : Str → Option Value) where
  f_ran_of : Addr
  fd_ran_of : FuncData
  F_ran_of : Fun K "ran_of" "ran_of" s_ran_of f_ran_of fd_ran_of
  m_ran_of : mg "ran_of" = some (.ref f_ran_of)
  b_ran_of : Binds K fd_ran_of ["mark"] []
  f_takes_wicket : Addr
  fd_takes_wicket : FuncData
  F_takes_wicket : Fun K "takes_wicket" "takes_wicket" s_takes_wicket f_takes_wicket fd_takes_wicket
  m_takes_wicket : mg "takes_wicket" = some (.ref f_takes_wicket)
  b_takes_wicket : Binds K fd_takes_wicket ["mark"] []
  f_uses_ball : Addr
  fd_uses_ball : FuncData
  F_uses_ball : Fun K "uses_ball" "uses_ball" s_uses_ball f_uses_ball fd_uses_ball
  m_uses_ball : mg "uses_ball" = some (.ref f_uses_ball)
  b_uses_ball : Binds K fd_uses_ball ["mark"] []
  f_over_of : Addr
  fd_over_of : FuncData
  F_over_of : Fun K "over_of" "over_of" s_over_of f_over_of fd_over_of
  m_over_of : mg "over_of" = some (.ref f_over_of)
  b_over_of : Binds K fd_over_of ["rules"] []
  f_wickets_of : Addr
  fd_wickets_of : FuncData
  F_wickets_of : Fun K "wickets_of" "wickets_of" s_wickets_of f_wickets_of fd_wickets_of
  m_wickets_of : mg "wickets_of" = some (.ref f_wickets_of)
  b_wickets_of : Binds K fd_wickets_of ["rules"] []
  f_new_crease : Addr
  fd_new_crease : FuncData
  F_new_crease : Fun K "new_crease" "new_crease" s_new_crease f_new_crease fd_new_crease
  m_new_crease : mg "new_crease" = some (.ref f_new_crease)
  b_new_crease : Binds K fd_new_crease [] []
  f_after_bowl : Addr
  fd_after_bowl : FuncData
  F_after_bowl : Fun K "after_bowl" "after_bowl" s_after_bowl f_after_bowl fd_after_bowl
  m_after_bowl : mg "after_bowl" = some (.ref f_after_bowl)
  b_after_bowl : Binds K fd_after_bowl ["crease", "bowler"] []
  f_batter_out : Addr
  fd_batter_out : FuncData
  F_batter_out : Fun K "batter_out" "batter_out" s_batter_out f_batter_out fd_batter_out
  m_batter_out : mg "batter_out" = some (.ref f_batter_out)
  b_batter_out : Binds K fd_batter_out ["crease", "mark"] []
  f_after_running : Addr
  fd_after_running : FuncData
  F_after_running : Fun K "after_running" "after_running" s_after_running f_after_running fd_after_running
  m_after_running : mg "after_running" = some (.ref f_after_running)
  b_after_running : Binds K fd_after_running ["crease", "mark"] []
  f_next_batter : Addr
  fd_next_batter : FuncData
  F_next_batter : Fun K "next_batter" "next_batter" s_next_batter f_next_batter fd_next_batter
  m_next_batter : mg "next_batter" = some (.ref f_next_batter)
  b_next_batter : Binds K fd_next_batter ["rules", "fallen"] []
  f_after_wicket : Addr
  fd_after_wicket : FuncData
  F_after_wicket : Fun K "after_wicket" "after_wicket" s_after_wicket f_after_wicket fd_after_wicket
  m_after_wicket : mg "after_wicket" = some (.ref f_after_wicket)
  b_after_wicket : Binds K fd_after_wicket ["rules", "crease", "out"] []
  f_after_ball : Addr
  fd_after_ball : FuncData
  F_after_ball : Fun K "after_ball" "after_ball" s_after_ball f_after_ball fd_after_ball
  m_after_ball : mg "after_ball" = some (.ref f_after_ball)
  b_after_ball : Binds K fd_after_ball ["rules", "crease"] []
  f_after_mark : Addr
  fd_after_mark : FuncData
  F_after_mark : Fun K "after_mark" "after_mark" s_after_mark f_after_mark fd_after_mark
  m_after_mark : mg "after_mark" = some (.ref f_after_mark)
  b_after_mark : Binds K fd_after_mark ["rules", "crease", "mark"] []
  f_law_tape : Addr
  fd_law_tape : FuncData
  F_law_tape : Fun K "_law_tape" "_law_tape" s_law_tape f_law_tape fd_law_tape
  m_law_tape : mg "_law_tape" = some (.ref f_law_tape)
  b_law_tape : Binds K fd_law_tape ["script"] []
  f_law_draw : Addr
  fd_law_draw : FuncData
  F_law_draw : Fun K "_law_draw" "_law_draw" s_law_draw f_law_draw fd_law_draw
  m_law_draw : mg "_law_draw" = some (.ref f_law_draw)
  b_law_draw : Binds K fd_law_draw ["tape", "many"] []
  f_law_pick : Addr
  fd_law_pick : FuncData
  F_law_pick : Fun K "_law_pick" "_law_pick" s_law_pick f_law_pick fd_law_pick
  m_law_pick : mg "_law_pick" = some (.ref f_law_pick)
  b_law_pick : Binds K fd_law_pick ["tape", "rows"] []
  f_law_same : Addr
  fd_law_same : FuncData
  F_law_same : Fun K "_law_same" "_law_same" s_law_same f_law_same fd_law_same
  m_law_same : mg "_law_same" = some (.ref f_law_same)
  b_law_same : Binds K fd_law_same ["told", "due"] []
  f_law_a_marks : Addr
  fd_law_a_marks : FuncData
  F_law_a_marks : Fun K "_law_a_marks" "_law_a_marks" s_law_a_marks f_law_a_marks fd_law_a_marks
  m_law_a_marks : mg "_law_a_marks" = some (.ref f_law_a_marks)
  b_law_a_marks : Binds K fd_law_a_marks [] []
  f_law_a_step : Addr
  fd_law_a_step : FuncData
  F_law_a_step : Fun K "_law_a_step" "_law_a_step" s_law_a_step f_law_a_step fd_law_a_step
  m_law_a_step : mg "_law_a_step" = some (.ref f_law_a_step)
  b_law_a_step : Binds K fd_law_a_step ["mark"] []
  f_law_a_ran : Addr
  fd_law_a_ran : FuncData
  F_law_a_ran : Fun K "_law_a_ran" "_law_a_ran" s_law_a_ran f_law_a_ran fd_law_a_ran
  m_law_a_ran : mg "_law_a_ran" = some (.ref f_law_a_ran)
  b_law_a_ran : Binds K fd_law_a_ran ["mark"] []
  f_law_a_bowled : Addr
  fd_law_a_bowled : FuncData
  F_law_a_bowled : Fun K "_law_a_bowled" "_law_a_bowled" s_law_a_bowled f_law_a_bowled fd_law_a_bowled
  m_law_a_bowled : mg "_law_a_bowled" = some (.ref f_law_a_bowled)
  b_law_a_bowled : Binds K fd_law_a_bowled ["crease", "bowler"] []
  f_law_a_marked : Addr
  fd_law_a_marked : FuncData
  F_law_a_marked : Fun K "_law_a_marked" "_law_a_marked" s_law_a_marked f_law_a_marked fd_law_a_marked
  m_law_a_marked : mg "_law_a_marked" = some (.ref f_law_a_marked)
  b_law_a_marked : Binds K fd_law_a_marked ["rules", "crease", "mark"] []
  f_law_a_rules : Addr
  fd_law_a_rules : FuncData
  F_law_a_rules : Fun K "_law_a_rules" "_law_a_rules" s_law_a_rules f_law_a_rules fd_law_a_rules
  m_law_a_rules : mg "_law_a_rules" = some (.ref f_law_a_rules)
  b_law_a_rules : Binds K fd_law_a_rules ["tape", "most"] []
  f_law_a_mark : Addr
  fd_law_a_mark : FuncData
  F_law_a_mark : Fun K "_law_a_mark" "_law_a_mark" s_law_a_mark f_law_a_mark fd_law_a_mark
  m_law_a_mark : mg "_law_a_mark" = some (.ref f_law_a_mark)
  b_law_a_mark : Binds K fd_law_a_mark ["tape"] []
  f_law_a_crease_deed : Addr
  fd_law_a_crease_deed : FuncData
  F_law_a_crease_deed : Fun K "_law_a_crease_deed" "_law_a_crease_deed" s_law_a_crease_deed f_law_a_crease_deed fd_law_a_crease_deed
  m_law_a_crease_deed : mg "_law_a_crease_deed" = some (.ref f_law_a_crease_deed)
  b_law_a_crease_deed : Binds K fd_law_a_crease_deed ["tape", "rules", "crease"] []
  f_law_a_done : Addr
  fd_law_a_done : FuncData
  F_law_a_done : Fun K "_law_a_done" "_law_a_done" s_law_a_done f_law_a_done fd_law_a_done
  m_law_a_done : mg "_law_a_done" = some (.ref f_law_a_done)
  b_law_a_done : Binds K fd_law_a_done ["rules", "crease", "deed"] []
  f_law_a_due : Addr
  fd_law_a_due : FuncData
  F_law_a_due : Fun K "_law_a_due" "_law_a_due" s_law_a_due f_law_a_due fd_law_a_due
  m_law_a_due : mg "_law_a_due" = some (.ref f_law_a_due)
  b_law_a_due : Binds K fd_law_a_due ["rules", "crease", "deed"] []
  f_law : Addr
  fd_law : FuncData
  F_law : Fun K "law" "law" s_law f_law fd_law
  m_law : mg "law" = some (.ref f_law)
  b_law : Binds K fd_law ["script"] []
  z_abs : mg "abs" = none
  z_bool : mg "bool" = none
  z_int : mg "int" = none
  z_isinstance : mg "isinstance" = none
  z_len : mg "len" = none
  z_list : mg "list" = none
  z_max : mg "max" = none
  z_min : mg "min" = none
  z_range : mg "range" = none
  z_str : mg "str" = none
  z_tuple : mg "tuple" = none
theorem sc_ran_of : FnScope ["mark"] ["mark"] (defScope s_ran_of) := ⟨rfl, rfl, rfl, by decide +kernel, rfl, by decide +kernel, by decide +kernel⟩
theorem sc_takes_wicket : FnScope ["mark"] ["mark"] (defScope s_takes_wicket) := ⟨rfl, rfl, rfl, by decide +kernel, rfl, by decide +kernel, by decide +kernel⟩
theorem sc_uses_ball : FnScope ["mark"] ["mark"] (defScope s_uses_ball) := ⟨rfl, rfl, rfl, by decide +kernel, rfl, by decide +kernel, by decide +kernel⟩
theorem sc_over_of : FnScope ["rules"] ["rules"] (defScope s_over_of) := ⟨rfl, rfl, rfl, by decide +kernel, rfl, by decide +kernel, by decide +kernel⟩
theorem sc_wickets_of : FnScope ["rules"] ["rules"] (defScope s_wickets_of) := ⟨rfl, rfl, rfl, by decide +kernel, rfl, by decide +kernel, by decide +kernel⟩
theorem sc_new_crease : FnScope [] [] (defScope s_new_crease) := ⟨rfl, rfl, rfl, by decide +kernel, rfl, by decide +kernel, by decide +kernel⟩
theorem sc_after_bowl : FnScope ["crease", "bowler", "striker", "other", "_", "last", "begun", "fallen", "more"] ["crease", "bowler"] (defScope s_after_bowl) := ⟨rfl, rfl, rfl, by decide +kernel, rfl, by decide +kernel, by decide +kernel⟩
theorem sc_batter_out : FnScope ["crease", "mark"] ["crease", "mark"] (defScope s_batter_out) := ⟨rfl, rfl, rfl, by decide +kernel, rfl, by decide +kernel, by decide +kernel⟩
theorem sc_after_running : FnScope ["crease", "mark", "striker", "other", "bowler", "bowled", "last", "begun", "fallen"] ["crease", "mark"] (defScope s_after_running) := ⟨rfl, rfl, rfl, by decide +kernel, rfl, by decide +kernel, by decide +kernel⟩
theorem sc_next_batter : FnScope ["rules", "fallen"] ["rules", "fallen"] (defScope s_next_batter) := ⟨rfl, rfl, rfl, by decide +kernel, rfl, by decide +kernel, by decide +kernel⟩
theorem sc_after_wicket : FnScope ["rules", "crease", "out", "striker", "other", "bowler", "bowled", "last", "begun", "fallen", "comes"] ["rules", "crease", "out"] (defScope s_after_wicket) := ⟨rfl, rfl, rfl, by decide +kernel, rfl, by decide +kernel, by decide +kernel⟩
theorem sc_after_ball : FnScope ["rules", "crease", "striker", "other", "bowler", "bowled", "last", "begun", "fallen"] ["rules", "crease"] (defScope s_after_ball) := ⟨rfl, rfl, rfl, by decide +kernel, rfl, by decide +kernel, by decide +kernel⟩
theorem sc_after_mark : FnScope ["rules", "crease", "mark", "out"] ["rules", "crease", "mark"] (defScope s_after_mark) := ⟨rfl, rfl, rfl, by decide +kernel, rfl, by decide +kernel, by decide +kernel⟩
theorem sc_law_tape : FnScope ["script", "mixed", "cell"] ["script"] (defScope s_law_tape) := ⟨rfl, rfl, rfl, by decide +kernel, rfl, by decide +kernel, by decide +kernel⟩
theorem sc_law_draw : FnScope ["tape", "many", "place", "number"] ["tape", "many"] (defScope s_law_draw) := ⟨rfl, rfl, rfl, by decide +kernel, rfl, by decide +kernel, by decide +kernel⟩
theorem sc_law_pick : FnScope ["tape", "rows"] ["tape", "rows"] (defScope s_law_pick) := ⟨rfl, rfl, rfl, by decide +kernel, rfl, by decide +kernel, by decide +kernel⟩
theorem sc_law_same : FnScope ["told", "due", "k"] ["told", "due"] (defScope s_law_same) := ⟨rfl, rfl, rfl, by decide +kernel, rfl, by decide +kernel, by decide +kernel⟩
theorem sc_law_a_marks : FnScope ["rows", "n"] [] (defScope s_law_a_marks) := ⟨rfl, rfl, rfl, by decide +kernel, rfl, by decide +kernel, by decide +kernel⟩
theorem sc_law_a_step : FnScope ["mark", "word"] ["mark"] (defScope s_law_a_step) := ⟨rfl, rfl, rfl, by decide +kernel, rfl, by decide +kernel, by decide +kernel⟩
theorem sc_law_a_ran : FnScope ["mark"] ["mark"] (defScope s_law_a_ran) := ⟨rfl, rfl, rfl, by decide +kernel, rfl, by decide +kernel, by decide +kernel⟩
theorem sc_law_a_bowled : FnScope ["crease", "bowler", "begun"] ["crease", "bowler"] (defScope s_law_a_bowled) := ⟨rfl, rfl, rfl, by decide +kernel, rfl, by decide +kernel, by decide +kernel⟩
theorem sc_law_a_marked : FnScope ["rules", "crease", "mark", "striker", "other", "bowler", "bowled", "last", "begun", "fallen", "step", "gone", "fresh"] ["rules", "crease", "mark"] (defScope s_law_a_marked) := ⟨rfl, rfl, rfl, by decide +kernel, rfl, by decide +kernel, by decide +kernel⟩
theorem sc_law_a_rules : FnScope ["tape", "most", "over", "overs", "mercy"] ["tape", "most"] (defScope s_law_a_rules) := ⟨rfl, rfl, rfl, by decide +kernel, rfl, by decide +kernel, by decide +kernel⟩
theorem sc_law_a_mark : FnScope ["tape", "plain"] ["tape"] (defScope s_law_a_mark) := ⟨rfl, rfl, rfl, by decide +kernel, rfl, by decide +kernel, by decide +kernel⟩
theorem sc_law_a_crease_deed : FnScope ["tape", "rules", "crease"] ["tape", "rules", "crease"] (defScope s_law_a_crease_deed) := ⟨rfl, rfl, rfl, by decide +kernel, rfl, by decide +kernel, by decide +kernel⟩
theorem sc_law_a_done : FnScope ["rules", "crease", "deed"] ["rules", "crease", "deed"] (defScope s_law_a_done) := ⟨rfl, rfl, rfl, by decide +kernel, rfl, by decide +kernel, by decide +kernel⟩
theorem sc_law_a_due : FnScope ["rules", "crease", "deed"] ["rules", "crease", "deed"] (defScope s_law_a_due) := ⟨rfl, rfl, rfl, by decide +kernel, rfl, by decide +kernel, by decide +kernel⟩
theorem sc_law : FnScope ["script", "tape", "pair", "fresh", "creases", "begun", "k", "j", "deed", "due", "row", "rules", "crease", "typed", "crease_told", "one"] ["script"] (defScope s_law) := ⟨rfl, rfl, rfl, by decide +kernel, rfl, by decide +kernel, by decide +kernel⟩
section
variable {Pg : Program} {w : World} {K : PySem.W.Frag} {mg : Str → Option Value} {base : Heap}
theorem ok_ran_of (T : Env K mg) : FnOk Pg w K mg base CX0 1 T.f_ran_of T.fd_ran_of ["mark"] (lSp K sp_ran_of) :=
  fn_d T.F_ran_of sc_ran_of len_ran_of rd_ran_of fun cdv A outer s H E Pp hr =>
    (dss_cons (ds_if (dt_cmp (o_eq hr) (de_ix (dv 0) de_int (fun _ _ => rfl)) de_str (nomark _)) (dss_one (ds_ret de_int)) dss_nil)
    (dss_one (ds_ret (de_ix (dv 0) de_int (fun _ _ => rfl)))))
theorem ok_takes_wicket (T : Env K mg) : FnOk Pg w K mg base CX0 1 T.f_takes_wicket T.fd_takes_wicket ["mark"] (lSp K sp_takes_wicket) :=
  fn_d T.F_takes_wicket sc_takes_wicket len_takes_wicket rd_takes_wicket fun cdv A outer s H E Pp hr =>
    (dss_one (ds_ret (de_cmp (o_in hr) (de_ix (dv 0) de_int (fun _ _ => rfl)) (de_tup (da_cons de_str (da_cons de_str da_nil))) (by with_unfolding_all rfl))))
theorem ok_uses_ball (T : Env K mg) : FnOk Pg w K mg base CX0 1 T.f_uses_ball T.fd_uses_ball ["mark"] (lSp K sp_uses_ball) :=
  fn_d T.F_uses_ball sc_uses_ball len_uses_ball rd_uses_ball fun cdv A outer s H E Pp hr =>
    (dss_one (ds_ret (de_cmp (o_notIn hr) (de_ix (dv 0) de_int (fun _ _ => rfl)) (de_tup (da_cons de_str (da_cons de_str da_nil))) (by with_unfolding_all rfl))))
theorem ok_over_of (T : Env K mg) : FnOk Pg w K mg base CX0 1 T.f_over_of T.fd_over_of ["rules"] (lSp K sp_over_of) :=
  fn_d T.F_over_of sc_over_of len_over_of rd_over_of fun cdv A outer s H E Pp hr =>
    (dss_one (ds_ret (de_ix (dv 0) de_int (fun _ _ => rfl))))
theorem ok_wickets_of (T : Env K mg) : FnOk Pg w K mg base CX0 1 T.f_wickets_of T.fd_wickets_of ["rules"] (lSp K sp_wickets_of) :=
  fn_d T.F_wickets_of sc_wickets_of len_wickets_of rd_wickets_of fun cdv A outer s H E Pp hr =>
    (dss_one (ds_ret (de_ix (dv 0) de_int (fun _ _ => rfl))))
theorem ok_new_crease (T : Env K mg) : FnOk Pg w K mg base CX0 1 T.f_new_crease T.fd_new_crease [] (lSp K sp_new_crease) :=
  fn_d T.F_new_crease sc_new_crease len_new_crease rd_new_crease fun cdv A outer s H E Pp hr =>
    (dss_one (ds_ret (de_tup (da_cons de_int (da_cons de_int (da_cons de_non (da_cons de_int (da_cons de_non (da_cons (de_tup (da_cons de_int (da_cons de_int (da_cons de_int (da_cons de_int (da_cons de_int (da_cons de_int da_nil))))))) (da_cons de_int da_nil))))))))))
theorem ok_after_bowl (T : Env K mg) : FnOk Pg w K mg base CX0 1 T.f_after_bowl T.fd_after_bowl ["crease", "bowler"] (lSp K sp_after_bowl) :=
  fn_d T.F_after_bowl sc_after_bowl len_after_bowl rd_after_bowl fun cdv A outer s H E Pp hr =>
    (dss_cons (ds_unp (is := [2, 3, 4, 4, 5, 6, 7]) rfl (de_frz (dv 0)) (pgs_cons (pg_name (i := 2) sc_after_bowl.nd rfl (by first | exact Or.inl rfl | exact Or.inr rfl)) (pgs_cons (pg_name (i := 3) sc_after_bowl.nd rfl (by first | exact Or.inl rfl | exact Or.inr rfl)) (pgs_cons (pg_name (i := 4) sc_after_bowl.nd rfl (by first | exact Or.inl rfl | exact Or.inr rfl)) (pgs_cons (pg_name (i := 4) sc_after_bowl.nd rfl (by first | exact Or.inl rfl | exact Or.inr rfl)) (pgs_cons (pg_name (i := 5) sc_after_bowl.nd rfl (by first | exact Or.inl rfl | exact Or.inr rfl)) (pgs_cons (pg_name (i := 6) sc_after_bowl.nd rfl (by first | exact Or.inl rfl | exact Or.inr rfl)) (pgs_cons (pg_name (i := 7) sc_after_bowl.nd rfl (by first | exact Or.inl rfl | exact Or.inr rfl)) pgs_nil))))))))
    (dss_cons (ds_set (i := 8) sc_after_bowl.nd rfl (by first | exact Or.inl rfl | exact Or.inr rfl) (de_op o_add (de_op o_add (de_sl (dv 6) do_none (do_some (dv 1))) (de_tup (da_cons (de_frz (de_op o_add (de_ix (dv 6) (dv 1) (fun _ _ => rfl)) de_int)) da_nil))) (de_sl (dv 6) (do_some (de_op o_add (dv 1) de_int)) do_none)))
    (dss_one (ds_ret (de_tup (da_cons (de_frz (dv 2)) (da_cons (de_frz (dv 3)) (da_cons (de_frz (dv 1)) (da_cons de_int (da_cons (de_frz (dv 5)) (da_cons (de_frz (dv 8)) (da_cons (de_frz (dv 7)) da_nil))))))))))))
theorem ok_batter_out (T : Env K mg) : FnOk Pg w K mg base CX0 1 T.f_batter_out T.fd_batter_out ["crease", "mark"] (lSp K sp_batter_out) :=
  fn_d T.F_batter_out sc_batter_out len_batter_out rd_batter_out fun cdv A outer s H E Pp hr =>
    (dss_cons (ds_if ((dw_and (dt_cmp (o_eq hr) (de_ix (dv 1) de_int (fun _ _ => rfl)) de_str (nomark _)) (dw_and1 (dt_cmp (o_eq hr) (de_ix (dv 1) de_int (fun _ _ => rfl)) de_str (nomark _))))).pt (dss_one (ds_ret (de_ix (dv 0) de_int (fun _ _ => rfl)))) dss_nil)
    (dss_one (ds_ret (de_ix (dv 0) de_int (fun _ _ => rfl)))))
theorem ok_after_running (T : Env K mg) (g_ran_of : FnOk Pg w K mg base CX0 1 T.f_ran_of T.fd_ran_of ["mark"] (lSp K sp_ran_of)) : FnOk Pg w K mg base CX0 2 T.f_after_running T.fd_after_running ["crease", "mark"] (lSp K sp_after_running) :=
  fn_d T.F_after_running sc_after_running len_after_running rd_after_running fun cdv A outer s H E Pp hr =>
    (dss_cons (ds_unp (is := [2, 3, 4, 5, 6, 7, 8]) rfl (de_frz (dv 0)) (pgs_cons (pg_name (i := 2) sc_after_running.nd rfl (by first | exact Or.inl rfl | exact Or.inr rfl)) (pgs_cons (pg_name (i := 3) sc_after_running.nd rfl (by first | exact Or.inl rfl | exact Or.inr rfl)) (pgs_cons (pg_name (i := 4) sc_after_running.nd rfl (by first | exact Or.inl rfl | exact Or.inr rfl)) (pgs_cons (pg_name (i := 5) sc_after_running.nd rfl (by first | exact Or.inl rfl | exact Or.inr rfl)) (pgs_cons (pg_name (i := 6) sc_after_running.nd rfl (by first | exact Or.inl rfl | exact Or.inr rfl)) (pgs_cons (pg_name (i := 7) sc_after_running.nd rfl (by first | exact Or.inl rfl | exact Or.inr rfl)) (pgs_cons (pg_name (i := 8) sc_after_running.nd rfl (by first | exact Or.inl rfl | exact Or.inr rfl)) pgs_nil))))))))
    (dss_cons (ds_if (dt_cmp (o_eq hr) (de_op o_mul (de_op o_fdiv (de_call g_ran_of (hr.mono (by decide)) (by rfl) T.m_ran_of T.F_ran_of.kp T.b_ran_of (da_cons (dv 1) da_nil)) de_int) de_int) (de_call g_ran_of (hr.mono (by decide)) (by rfl) T.m_ran_of T.F_ran_of.kp T.b_ran_of (da_cons (dv 1) da_nil)) (nomark _)) (dss_one (ds_ret (dv 0))) dss_nil)
    (dss_one (ds_ret (de_tup (da_cons (de_frz (dv 3)) (da_cons (de_frz (dv 2)) (da_cons (de_frz (dv 4)) (da_cons (de_frz (dv 5)) (da_cons (de_frz (dv 6)) (da_cons (de_frz (dv 7)) (da_cons (de_frz (dv 8)) da_nil))))))))))))
theorem ok_next_batter (T : Env K mg) (g_wickets_of : FnOk Pg w K mg base CX0 1 T.f_wickets_of T.fd_wickets_of ["rules"] (lSp K sp_wickets_of)) : FnOk Pg w K mg base CX0 2 T.f_next_batter T.fd_next_batter ["rules", "fallen"] (lSp K sp_next_batter) :=
  fn_d T.F_next_batter sc_next_batter len_next_batter rd_next_batter fun cdv A outer s H E Pp hr =>
    (dss_cons (ds_if (dt_cmp (o_eq hr) (dv 1) (de_call g_wickets_of (hr.mono (by decide)) (by rfl) T.m_wickets_of T.F_wickets_of.kp T.b_wickets_of (da_cons (dv 0) da_nil)) (nomark _)) (dss_one (ds_ret de_non)) dss_nil)
    (dss_one (ds_ret (de_op o_add (dv 1) de_int))))
theorem ok_after_wicket (T : Env K mg) (g_next_batter : FnOk Pg w K mg base CX0 2 T.f_next_batter T.fd_next_batter ["rules", "fallen"] (lSp K sp_next_batter)) : FnOk Pg w K mg base CX0 3 T.f_after_wicket T.fd_after_wicket ["rules", "crease", "out"] (lSp K sp_after_wicket) :=
  fn_d T.F_after_wicket sc_after_wicket len_after_wicket rd_after_wicket fun cdv A outer s H E Pp hr =>
    (dss_cons (ds_unp (is := [3, 4, 5, 6, 7, 8, 9]) rfl (de_frz (dv 1)) (pgs_cons (pg_name (i := 3) sc_after_wicket.nd rfl (by first | exact Or.inl rfl | exact Or.inr rfl)) (pgs_cons (pg_name (i := 4) sc_after_wicket.nd rfl (by first | exact Or.inl rfl | exact Or.inr rfl)) (pgs_cons (pg_name (i := 5) sc_after_wicket.nd rfl (by first | exact Or.inl rfl | exact Or.inr rfl)) (pgs_cons (pg_name (i := 6) sc_after_wicket.nd rfl (by first | exact Or.inl rfl | exact Or.inr rfl)) (pgs_cons (pg_name (i := 7) sc_after_wicket.nd rfl (by first | exact Or.inl rfl | exact Or.inr rfl)) (pgs_cons (pg_name (i := 8) sc_after_wicket.nd rfl (by first | exact Or.inl rfl | exact Or.inr rfl)) (pgs_cons (pg_name (i := 9) sc_after_wicket.nd rfl (by first | exact Or.inl rfl | exact Or.inr rfl)) pgs_nil))))))))
    (dss_cons (ds_set (i := 10) sc_after_wicket.nd rfl (by first | exact Or.inl rfl | exact Or.inr rfl) (de_call g_next_batter (hr.mono (by decide)) (by rfl) T.m_next_batter T.F_next_batter.kp T.b_next_batter (da_cons (dv 0) (da_cons (de_arg (de_op o_add (dv 9) de_int)) da_nil))))
    (dss_cons (ds_if (dt_cmp (o_eq hr) (dv 3) (dv 2) (nomark _)) (dss_one (ds_set (i := 3) sc_after_wicket.nd rfl (by first | exact Or.inl rfl | exact Or.inr rfl) (dv 10))) (dss_one (ds_set (i := 4) sc_after_wicket.nd rfl (by first | exact Or.inl rfl | exact Or.inr rfl) (dv 10))))
    (dss_one (ds_ret (de_tup (da_cons (de_frz (dv 3)) (da_cons (de_frz (dv 4)) (da_cons (de_frz (dv 5)) (da_cons (de_frz (dv 6)) (da_cons (de_frz (dv 7)) (da_cons (de_frz (dv 8)) (da_cons (de_frz (de_op o_add (dv 9) de_int)) da_nil)))))))))))))
theorem ok_after_ball (T : Env K mg) (g_over_of : FnOk Pg w K mg base CX0 1 T.f_over_of T.fd_over_of ["rules"] (lSp K sp_over_of)) : FnOk Pg w K mg base CX0 2 T.f_after_ball T.fd_after_ball ["rules", "crease"] (lSp K sp_after_ball) :=
  fn_d T.F_after_ball sc_after_ball len_after_ball rd_after_ball fun cdv A outer s H E Pp hr =>
    (dss_cons (ds_unp (is := [2, 3, 4, 5, 6, 7, 8]) rfl (de_frz (dv 1)) (pgs_cons (pg_name (i := 2) sc_after_ball.nd rfl (by first | exact Or.inl rfl | exact Or.inr rfl)) (pgs_cons (pg_name (i := 3) sc_after_ball.nd rfl (by first | exact Or.inl rfl | exact Or.inr rfl)) (pgs_cons (pg_name (i := 4) sc_after_ball.nd rfl (by first | exact Or.inl rfl | exact Or.inr rfl)) (pgs_cons (pg_name (i := 5) sc_after_ball.nd rfl (by first | exact Or.inl rfl | exact Or.inr rfl)) (pgs_cons (pg_name (i := 6) sc_after_ball.nd rfl (by first | exact Or.inl rfl | exact Or.inr rfl)) (pgs_cons (pg_name (i := 7) sc_after_ball.nd rfl (by first | exact Or.inl rfl | exact Or.inr rfl)) (pgs_cons (pg_name (i := 8) sc_after_ball.nd rfl (by first | exact Or.inl rfl | exact Or.inr rfl)) pgs_nil))))))))
    (dss_cons (ds_if (dt_cmp o_lt (de_op o_add (dv 5) de_int) (de_call g_over_of (hr.mono (by decide)) (by rfl) T.m_over_of T.F_over_of.kp T.b_over_of (da_cons (dv 0) da_nil)) (nomark _)) (dss_one (ds_ret (de_tup (da_cons (de_frz (dv 2)) (da_cons (de_frz (dv 3)) (da_cons (de_frz (dv 4)) (da_cons (de_frz (de_op o_add (dv 5) de_int)) (da_cons (de_frz (dv 6)) (da_cons (de_frz (dv 7)) (da_cons (de_frz (dv 8)) da_nil)))))))))) dss_nil)
    (dss_one (ds_ret (de_tup (da_cons (de_frz (dv 3)) (da_cons (de_frz (dv 2)) (da_cons de_non (da_cons de_int (da_cons (de_frz (dv 4)) (da_cons (de_frz (dv 7)) (da_cons (de_frz (dv 8)) da_nil))))))))))))
theorem ok_after_mark (T : Env K mg) (g_batter_out : FnOk Pg w K mg base CX0 1 T.f_batter_out T.fd_batter_out ["crease", "mark"] (lSp K sp_batter_out)) (g_after_running : FnOk Pg w K mg base CX0 2 T.f_after_running T.fd_after_running ["crease", "mark"] (lSp K sp_after_running)) (g_takes_wicket : FnOk Pg w K mg base CX0 1 T.f_takes_wicket T.fd_takes_wicket ["mark"] (lSp K sp_takes_wicket)) (g_after_wicket : FnOk Pg w K mg base CX0 3 T.f_after_wicket T.fd_after_wicket ["rules", "crease", "out"] (lSp K sp_after_wicket)) (g_uses_ball : FnOk Pg w K mg base CX0 1 T.f_uses_ball T.fd_uses_ball ["mark"] (lSp K sp_uses_ball)) (g_after_ball : FnOk Pg w K mg base CX0 2 T.f_after_ball T.fd_after_ball ["rules", "crease"] (lSp K sp_after_ball)) : FnOk Pg w K mg base CX0 4 T.f_after_mark T.fd_after_mark ["rules", "crease", "mark"] (lSp K sp_after_mark) :=
  fn_d T.F_after_mark sc_after_mark len_after_mark rd_after_mark fun cdv A outer s H E Pp hr =>
    (dss_cons (ds_set (i := 3) sc_after_mark.nd rfl (by first | exact Or.inl rfl | exact Or.inr rfl) (de_call g_batter_out (hr.mono (by decide)) (by rfl) T.m_batter_out T.F_batter_out.kp T.b_batter_out (da_cons (dv 1) (da_cons (dv 2) da_nil))))
    (dss_cons (ds_set (i := 1) sc_after_mark.nd rfl (by first | exact Or.inl rfl | exact Or.inr rfl) (de_call g_after_running (hr.mono (by decide)) (by rfl) T.m_after_running T.F_after_running.kp T.b_after_running (da_cons (dv 1) (da_cons (dv 2) da_nil))))
    (dss_cut (ds_if (dt_tru (de_call g_takes_wicket (hr.mono (by decide)) (by rfl) T.m_takes_wicket T.F_takes_wicket.kp T.b_takes_wicket (da_cons (dv 2) da_nil)) (fun _ => rfl)) (dss_one (ds_set (i := 1) sc_after_mark.nd rfl (by first | exact Or.inl rfl | exact Or.inr rfl) (de_call g_after_wicket (hr.mono (by decide)) (by rfl) T.m_after_wicket T.F_after_wicket.kp T.b_after_wicket (da_cons (dv 0) (da_cons (dv 1) (da_cons (dv 3) da_nil)))))) dss_nil)
    (dss_cons (ds_if (dt_tru (de_call g_uses_ball (hr.mono (by decide)) (by rfl) T.m_uses_ball T.F_uses_ball.kp T.b_uses_ball (da_cons (dv 2) da_nil)) (fun _ => rfl)) (dss_one (ds_set (i := 1) sc_after_mark.nd rfl (by first | exact Or.inl rfl | exact Or.inr rfl) (de_call g_after_ball (hr.mono (by decide)) (by rfl) T.m_after_ball T.F_after_ball.kp T.b_after_ball (da_cons (dv 0) (da_cons (dv 1) da_nil))))) dss_nil)
    (dss_one (ds_ret (dv 1)))))))
theorem ok_law_tape (T : Env K mg) : FnOk Pg w K mg base CX0 1 T.f_law_tape T.fd_law_tape ["script"] (lSp K sp_law_tape) :=
  fn_d T.F_law_tape sc_law_tape len_law_tape rd_law_tape fun cdv A outer s H E Pp hr =>
    (dss_cons (ds_set (i := 1) sc_law_tape.nd rfl (by first | exact Or.inl rfl | exact Or.inr rfl) de_int)
    (dss_cons (ds_for (is := [2]) PassesOwn.never rfl (di_seq (de_frz (dv 0))) (dg_name sc_law_tape.nd rfl (by first | exact Or.inl rfl | exact Or.inr rfl)) (dss_one (ds_set (i := 1) sc_law_tape.nd rfl (by first | exact Or.inl rfl | exact Or.inr rfl) (de_op o_mod (de_callTy c_int (by rfl) T.z_int (by decide +kernel) (da_cons (de_op o_add (de_op o_mul (dv 1) de_int) (de_callB c_abs (by rfl) T.z_abs (by decide +kernel) (da_cons (de_callTy c_int (by rfl) T.z_int (by decide +kernel) (da_cons (dv 2) da_nil)) da_nil))) da_nil)) de_int))))
    (dss_one (ds_ret (de_lst (da_cons (de_frz (de_callTy c_list (by rfl) T.z_list (by decide +kernel) (da_cons (dv 0) da_nil))) (da_cons de_int (da_cons de_int (da_cons (de_frz (dv 1)) da_nil)))))))))
theorem ok_law_draw (T : Env K mg) : FnOk Pg w K mg base CX0 1 T.f_law_draw T.fd_law_draw ["tape", "many"] (lSp K sp_law_draw) :=
  fn_d T.F_law_draw sc_law_draw len_law_draw rd_law_draw fun cdv A outer s H E Pp hr =>
    (dss_cons (ds_if (dt_cmp (o_eq hr) (de_ix (dv 0) de_int (fun _ _ => rfl)) de_int (nomark _)) (dss_cons (ds_set (i := 2) sc_law_draw.nd rfl (by first | exact Or.inl rfl | exact Or.inr rfl) (de_ix (dv 0) de_int (fun _ _ => rfl)))
    (dss_cons (ds_set (i := 3) sc_law_draw.nd rfl (by first | exact Or.inl rfl | exact Or.inr rfl) de_int)
    (dss_cut (ds_if (dt_cmp o_lt (dv 2) (de_callB c_len (by rfl) T.z_len (by decide +kernel) (da_cons (de_ix (dv 0) de_int (fun _ _ => rfl)) da_nil)) (nomark _)) (dss_one (ds_set (i := 3) sc_law_draw.nd rfl (by first | exact Or.inl rfl | exact Or.inr rfl) (de_callB c_abs (by rfl) T.z_abs (by decide +kernel) (da_cons (de_callTy c_int (by rfl) T.z_int (by decide +kernel) (da_cons (de_ix (de_ix (dv 0) de_int (fun _ _ => rfl)) (dv 2) (fun _ _ => rfl)) da_nil)) da_nil)))) (dss_cons (ds_sub (de_op o_mod (de_callTy c_int (by rfl) T.z_int (by decide +kernel) (da_cons (de_op o_add (de_op o_add (de_op o_mul (de_ix (dv 0) de_int (fun _ _ => rfl)) de_int) (dv 2)) de_int) da_nil)) de_int) (dv 0) de_int)
    (dss_one (ds_set (i := 3) sc_law_draw.nd rfl (by first | exact Or.inl rfl | exact Or.inr rfl) (de_ix (dv 0) de_int (fun _ _ => rfl))))))
    (dss_cons (ds_sub (de_frz (de_op o_add (dv 2) de_int)) (dv 0) de_int)
    (dss_cons (ds_if (dt_cmp o_lt (dv 3) (de_op o_pow de_int de_int) (nomark _)) (dss_cons (ds_set (i := 3) sc_law_draw.nd rfl (by first | exact Or.inl rfl | exact Or.inr rfl) (de_op o_mod (de_callTy c_int (by rfl) T.z_int (by decide +kernel) (da_cons (de_op o_add (de_op o_add (de_op o_mul (dv 3) de_int) (de_op o_mul (dv 2) de_int)) de_int) da_nil)) de_int))
    (dss_cons (ds_set (i := 3) sc_law_draw.nd rfl (by first | exact Or.inl rfl | exact Or.inr rfl) (de_op o_mod (de_callTy c_int (by rfl) T.z_int (by decide +kernel) (da_cons (de_op o_mul (dv 3) de_int) da_nil)) de_int))
    (dss_one (ds_ret (de_op o_mod (de_callTy c_int (by rfl) T.z_int (by decide +kernel) (da_cons (dv 3) da_nil)) (de_callB (c_max2 rfl) (by rfl) T.z_max (by decide +kernel) (da_cons (dv 1) (da_cons de_int da_nil)))))))) dss_nil)
    (dss_one (ds_sub (de_frz (dv 3)) (dv 0) de_int))))))) dss_nil)
    (dss_cons (ds_set (i := 3) sc_law_draw.nd rfl (by first | exact Or.inl rfl | exact Or.inr rfl) (de_ix (dv 0) de_int (fun _ _ => rfl)))
    (dss_cons (ds_sub (de_op o_fdiv (dv 3) (de_callB (c_max2 rfl) (by rfl) T.z_max (by decide +kernel) (da_cons (dv 1) (da_cons de_int da_nil)))) (dv 0) de_int)
    (dss_one (ds_ret (de_op o_mod (de_callTy c_int (by rfl) T.z_int (by decide +kernel) (da_cons (dv 3) da_nil)) (de_callB (c_max2 rfl) (by rfl) T.z_max (by decide +kernel) (da_cons (dv 1) (da_cons de_int da_nil)))))))))
theorem ok_law_pick (T : Env K mg) (g_law_draw : FnOk Pg w K mg base CX0 1 T.f_law_draw T.fd_law_draw ["tape", "many"] (lSp K sp_law_draw)) : FnOk Pg w K mg base CX0 2 T.f_law_pick T.fd_law_pick ["tape", "rows"] (lSp K sp_law_pick) :=
  fn_d T.F_law_pick sc_law_pick len_law_pick rd_law_pick fun cdv A outer s H E Pp hr =>
    (dss_one (ds_ret (de_ix (dv 1) (de_call g_law_draw (hr.mono (by decide)) (by rfl) T.m_law_draw T.F_law_draw.kp T.b_law_draw (da_cons (dv 0) (da_cons (de_arg (de_callB c_len (by rfl) T.z_len (by decide +kernel) (da_cons (dv 1) da_nil))) da_nil))) (fun _ _ => rfl))))
theorem ok_law_same (T : Env K mg) : ∀ n : Nat, FnOk Pg w K mg base CX0 (n + 1) T.f_law_same T.fd_law_same ["told", "due"] (lSp K (sp_law_same n))
  | 0 => fn_no T.F_law_same sc_law_same fun _ _ h => h
  | n + 1 => fn_d T.F_law_same sc_law_same (len_law_same (n + 1)) (rd_law_same n) fun cdv A outer s H E Pp hr => by
    have ih := ok_law_same T n
    exact ((dss_cons (ds_if (dt_tru (de_is kit_tup (by rfl) T.z_isinstance (by rfl) T.z_tuple (by decide +kernel) (dv 1)) (fun _ => rfl)) (dss_cons (ds_if ((dw_or (dt_not (dt_tru (de_is kit_tup (by rfl) T.z_isinstance (by rfl) T.z_tuple (by decide +kernel) (dv 0)) (fun _ => rfl))) (dw_or1 (dt_cmp (o_ne hr) (de_callB c_len (by rfl) T.z_len (by decide +kernel) (da_cons (dv 0) da_nil)) (de_callB c_len (by rfl) T.z_len (by decide +kernel) (da_cons (dv 1) da_nil)) (nomark _))))).pt (dss_one (ds_ret de_bl)) dss_nil)
    (dss_one (ds_ret (de_cmp (o_notIn hr) de_bl (de_lc (own := [("k", 2)]) (is := [2]) (g := (dgName 2)) rfl sc_law_same.nd (di_rng1 (by rfl) T.z_range (da_cons (de_callB c_len (by rfl) T.z_len (by decide +kernel) (da_cons (dv 1) da_nil)) da_nil)) (blkOk_by (own := [("k", 2)]) (N := ["told", "due", "k"]) (sc := defScope s_law_same) (by decide +kernel)) (fun _ _ _ _ _ => (dg_name sc_law_same.nd rfl (by first | exact Or.inl rfl | exact Or.inr rfl))) (fun _ _ _ _ _ => dts_nil) (fun _ _ _ _ _ => (de_frz (de_call ih hr (by rfl) T.m_law_same T.F_law_same.kp T.b_law_same (da_cons (de_arg (de_ix (dv 0) (dv 2) (fun _ _ => rfl))) (da_cons (de_arg (de_ix (dv 1) (dv 2) (fun _ _ => rfl))) da_nil))))) (by decide)) (by with_unfolding_all rfl))))) dss_nil)
    (dss_cons (ds_if ((dw_or (dt_isN (dv 1)) (dw_or1 (dt_isN (dv 0))))).pt (dss_one (ds_ret (de_and (de_isN (dv 1)) (de_one (de_isN (dv 0)))))) dss_nil)
    (dss_cons (ds_if ((dw_or (dt_cmp (o_ne hr) (de_is kit_bool (by rfl) T.z_isinstance (by rfl) T.z_bool (by decide +kernel) (dv 0)) (de_is kit_bool (by rfl) T.z_isinstance (by rfl) T.z_bool (by decide +kernel) (dv 1)) (nomark _)) (dw_or1 (dt_cmp (o_ne hr) (de_is kit_str (by rfl) T.z_isinstance (by rfl) T.z_str (by decide +kernel) (dv 0)) (de_is kit_str (by rfl) T.z_isinstance (by rfl) T.z_str (by decide +kernel) (dv 1)) (nomark _))))).pt (dss_one (ds_ret de_bl)) dss_nil)
    (dss_one (ds_ret (de_and (de_cmp (o_eq hr) (de_is kit_int (by rfl) T.z_isinstance (by rfl) T.z_int (by decide +kernel) (dv 0)) (de_is kit_int (by rfl) T.z_isinstance (by rfl) T.z_int (by decide +kernel) (dv 1)) (nomark _)) (de_one (de_cmp (o_eq hr) (dv 0) (dv 1) (nomark _))))))))))
theorem ok_law_a_marks (T : Env K mg) : FnOk Pg w K mg base CX0 1 T.f_law_a_marks T.fd_law_a_marks [] (lSp K sp_law_a_marks) :=
  fn_d T.F_law_a_marks sc_law_a_marks len_law_a_marks rd_law_a_marks fun cdv A outer s H E Pp hr =>
    (dss_cons (ds_set (i := 0) sc_law_a_marks.nd rfl (by first | exact Or.inl rfl | exact Or.inr rfl) (de_op o_add (de_op o_add (de_lc (own := [("n", 1)]) (is := [1]) (g := (dgName 1)) rfl sc_law_a_marks.nd (di_rng1 (by rfl) T.z_range (da_cons de_int da_nil)) (blkOk_by (own := [("n", 1)]) (N := ["rows", "n"]) (sc := defScope s_law_a_marks) (by decide +kernel)) (fun _ _ _ _ _ => (dg_name sc_law_a_marks.nd rfl (by first | exact Or.inl rfl | exact Or.inr rfl))) (fun _ _ _ _ _ => dts_nil) (fun _ _ _ _ _ => (de_tup (da_cons de_str (da_cons (de_frz (dv 1)) da_nil)))) (by decide)) (de_lc (own := [("n", 1)]) (is := [1]) (g := (dgName 1)) rfl sc_law_a_marks.nd (di_rng1 (by rfl) T.z_range (da_cons de_int da_nil)) (blkOk_by (own := [("n", 1)]) (N := ["rows", "n"]) (sc := defScope s_law_a_marks) (by decide +kernel)) (fun _ _ _ _ _ => (dg_name sc_law_a_marks.nd rfl (by first | exact Or.inl rfl | exact Or.inr rfl))) (fun _ _ _ _ _ => dts_nil) (fun _ _ _ _ _ => (de_tup (da_cons de_str (da_cons (de_frz (dv 1)) da_nil)))) (by decide))) (de_lc (own := [("n", 1)]) (is := [1]) (g := (dgName 1)) rfl sc_law_a_marks.nd (di_rng1 (by rfl) T.z_range (da_cons de_int da_nil)) (blkOk_by (own := [("n", 1)]) (N := ["rows", "n"]) (sc := defScope s_law_a_marks) (by decide +kernel)) (fun _ _ _ _ _ => (dg_name sc_law_a_marks.nd rfl (by first | exact Or.inl rfl | exact Or.inr rfl))) (fun _ _ _ _ _ => dts_nil) (fun _ _ _ _ _ => (de_tup (da_cons de_str (da_cons (de_frz (dv 1)) da_nil)))) (by decide))))
    (dss_cons (ds_set (i := 0) sc_law_a_marks.nd rfl (by first | exact Or.inl rfl | exact Or.inr rfl) (de_op o_add (de_op o_add (dv 0) (de_lc (own := [("n", 1)]) (is := [1]) (g := (dgName 1)) rfl sc_law_a_marks.nd (di_rng2 (by rfl) T.z_range (da_cons de_int (da_cons de_int da_nil))) (blkOk_by (own := [("n", 1)]) (N := ["rows", "n"]) (sc := defScope s_law_a_marks) (by decide +kernel)) (fun _ _ _ _ _ => (dg_name sc_law_a_marks.nd rfl (by first | exact Or.inl rfl | exact Or.inr rfl))) (fun _ _ _ _ _ => dts_nil) (fun _ _ _ _ _ => (de_tup (da_cons de_str (da_cons (de_frz (dv 1)) da_nil)))) (by decide))) (de_lst (da_cons (de_tup (da_cons de_str da_nil)) da_nil))))
    (dss_cons (ds_for (is := [1]) PassesOwn.never rfl (di_rng1 (by rfl) T.z_range (da_cons de_int da_nil)) (dg_name sc_law_a_marks.nd rfl (by first | exact Or.inl rfl | exact Or.inr rfl)) (dss_one (ds_set (i := 0) sc_law_a_marks.nd rfl (by first | exact Or.inl rfl | exact Or.inr rfl) (de_op o_add (dv 0) (de_lst (da_cons (de_tup (da_cons de_str (da_cons (de_frz (dv 1)) (da_cons de_str da_nil)))) (da_cons (de_tup (da_cons de_str (da_cons (de_frz (dv 1)) (da_cons de_str da_nil)))) da_nil)))))))
    (dss_one (ds_ret (dv 0))))))
theorem ok_law_a_step (T : Env K mg) : FnOk Pg w K mg base CX0 1 T.f_law_a_step T.fd_law_a_step ["mark"] (lSp K sp_law_a_step) :=
  fn_d T.F_law_a_step sc_law_a_step len_law_a_step rd_law_a_step fun cdv A outer s H E Pp hr =>
    (dss_cons (ds_set (i := 1) sc_law_a_step.nd rfl (by first | exact Or.inl rfl | exact Or.inr rfl) (de_ix (dv 0) de_int (fun _ _ => rfl)))
    (dss_cons (ds_if (dt_cmp (o_eq hr) (dv 1) de_str (nomark _)) (dss_one (ds_ret (de_tup (da_cons de_int (da_cons de_int (da_cons de_int da_nil)))))) dss_nil)
    (dss_cons (ds_if ((dw_or (dt_cmp (o_eq hr) (dv 1) de_str (nomark _)) (dw_or1 (dt_cmp (o_eq hr) (dv 1) de_str (nomark _))))).pt (dss_one (ds_ret (de_tup (da_cons (de_frz (de_op o_add (de_ix (dv 0) de_int (fun _ _ => rfl)) de_int)) (da_cons de_int (da_cons de_int da_nil)))))) dss_nil)
    (dss_one (ds_ret (de_tup (da_cons (de_frz (de_ix (dv 0) de_int (fun _ _ => rfl))) (da_cons (de_frz (de_callTy c_int (by rfl) T.z_int (by decide +kernel) (da_cons (de_cmp (o_eq hr) (dv 1) de_str (nomark _)) da_nil))) (da_cons de_int da_nil)))))))))
theorem ok_law_a_ran (T : Env K mg) : FnOk Pg w K mg base CX0 1 T.f_law_a_ran T.fd_law_a_ran ["mark"] (lSp K sp_law_a_ran) :=
  fn_d T.F_law_a_ran sc_law_a_ran len_law_a_ran rd_law_a_ran fun cdv A outer s H E Pp hr =>
    (dss_one (ds_ret (de_if (dt_cmp (o_eq hr) (de_callB c_len (by rfl) T.z_len (by decide +kernel) (da_cons (dv 0) da_nil)) de_int (nomark _)) de_int (de_ix (dv 0) de_int (fun _ _ => rfl)))))
theorem ok_law_a_bowled (T : Env K mg) : FnOk Pg w K mg base CX0 1 T.f_law_a_bowled T.fd_law_a_bowled ["crease", "bowler"] (lSp K sp_law_a_bowled) :=
  fn_d T.F_law_a_bowled sc_law_a_bowled len_law_a_bowled rd_law_a_bowled fun cdv A outer s H E Pp hr =>
    (dss_cons (ds_set (i := 2) sc_law_a_bowled.nd rfl (by first | exact Or.inl rfl | exact Or.inr rfl) (de_callTy c_list (by rfl) T.z_list (by decide +kernel) (da_cons (de_ix (dv 0) de_int (fun _ _ => rfl)) da_nil)))
    (dss_cons (ds_sub (de_frz (de_op o_add (de_ix (dv 2) (dv 1) (fun _ _ => rfl)) de_int)) (dv 2) (dv 1))
    (dss_one (ds_ret (de_op o_add (de_sl (dv 0) do_none (do_some de_int)) (de_tup (da_cons (de_frz (dv 1)) (da_cons de_int (da_cons (de_frz (de_ix (dv 0) de_int (fun _ _ => rfl))) (da_cons (de_frz (de_callTy c_tuple (by rfl) T.z_tuple (by decide +kernel) (da_cons (dv 2) da_nil))) (da_cons (de_frz (de_ix (dv 0) de_int (fun _ _ => rfl))) da_nil)))))))))))
theorem ok_law_a_marked (T : Env K mg) (g_law_a_step : FnOk Pg w K mg base CX0 1 T.f_law_a_step T.fd_law_a_step ["mark"] (lSp K sp_law_a_step)) (g_law_a_ran : FnOk Pg w K mg base CX0 1 T.f_law_a_ran T.fd_law_a_ran ["mark"] (lSp K sp_law_a_ran)) : FnOk Pg w K mg base CX0 2 T.f_law_a_marked T.fd_law_a_marked ["rules", "crease", "mark"] (lSp K sp_law_a_marked) :=
  fn_d T.F_law_a_marked sc_law_a_marked len_law_a_marked rd_law_a_marked fun cdv A outer s H E Pp hr =>
    (dss_cons (ds_unp (is := [3, 4, 5, 6, 7, 8, 9]) rfl (de_frz (dv 1)) (pgs_cons (pg_name (i := 3) sc_law_a_marked.nd rfl (by first | exact Or.inl rfl | exact Or.inr rfl)) (pgs_cons (pg_name (i := 4) sc_law_a_marked.nd rfl (by first | exact Or.inl rfl | exact Or.inr rfl)) (pgs_cons (pg_name (i := 5) sc_law_a_marked.nd rfl (by first | exact Or.inl rfl | exact Or.inr rfl)) (pgs_cons (pg_name (i := 6) sc_law_a_marked.nd rfl (by first | exact Or.inl rfl | exact Or.inr rfl)) (pgs_cons (pg_name (i := 7) sc_law_a_marked.nd rfl (by first | exact Or.inl rfl | exact Or.inr rfl)) (pgs_cons (pg_name (i := 8) sc_law_a_marked.nd rfl (by first | exact Or.inl rfl | exact Or.inr rfl)) (pgs_cons (pg_name (i := 9) sc_law_a_marked.nd rfl (by first | exact Or.inl rfl | exact Or.inr rfl)) pgs_nil))))))))
    (dss_cons (ds_set (i := 10) sc_law_a_marked.nd rfl (by first | exact Or.inl rfl | exact Or.inr rfl) (de_call g_law_a_step (hr.mono (by decide)) (by rfl) T.m_law_a_step T.F_law_a_step.kp T.b_law_a_step (da_cons (dv 2) da_nil)))
    (dss_cons (ds_set (i := 11) sc_law_a_marked.nd rfl (by first | exact Or.inl rfl | exact Or.inr rfl) (de_cut (de_if (dt_cmp (o_eq hr) (de_ix (dv 2) (de_un u_neg de_int) (fun _ _ => rfl)) de_str (nomark _)) (dv 4) (dv 3))))
    (dss_cut (ds_if (dt_cmp (o_eq hr) (de_op o_mod (de_callTy c_int (by rfl) T.z_int (by decide +kernel) (da_cons (de_call g_law_a_ran (hr.mono (by decide)) (by rfl) T.m_law_a_ran T.F_law_a_ran.kp T.b_law_a_ran (da_cons (dv 2) da_nil)) da_nil)) de_int) de_int (nomark _)) (dss_one (ds_par (i := 3) (j := 4) rfl sc_law_a_marked.nd rfl rfl (by decide) rfl rfl (da_cons (dv 4) (da_cons (dv 3) da_nil)) rfl)) dss_nil)
    (dss_cut (ds_if (dt_cmp (o_eq hr) (de_ix (dv 10) de_int (fun _ _ => rfl)) de_int (nomark _)) (dss_cons (ds_set (i := 9) sc_law_a_marked.nd rfl (by first | exact Or.inl rfl | exact Or.inr rfl) (de_op o_add (dv 9) de_int))
    (dss_cons (ds_set (i := 12) sc_law_a_marked.nd rfl (by first | exact Or.inl rfl | exact Or.inr rfl) (de_cut (de_if (dt_cmp o_lt (dv 9) (de_ix (dv 0) de_int (fun _ _ => rfl)) (nomark _)) (de_op o_add (dv 9) de_int) de_non)))
    (dss_one (ds_if (dt_cmp (o_eq hr) (dv 3) (dv 11) (nomark _)) (dss_one (ds_set (i := 3) sc_law_a_marked.nd rfl (by first | exact Or.inl rfl | exact Or.inr rfl) (dv 12))) (dss_one (ds_set (i := 4) sc_law_a_marked.nd rfl (by first | exact Or.inl rfl | exact Or.inr rfl) (dv 12))))))) dss_nil)
    (dss_cons (ds_if (dt_cmp (o_eq hr) (de_ix (dv 10) de_int (fun _ _ => rfl)) de_int (nomark _)) (dss_cons (ds_set (i := 6) sc_law_a_marked.nd rfl (by first | exact Or.inl rfl | exact Or.inr rfl) (de_op o_add (dv 6) de_int))
    (dss_one (ds_if (dt_cmp (o_eq hr) (dv 6) (de_ix (dv 0) de_int (fun _ _ => rfl)) (nomark _)) (dss_one (ds_unp (is := [3, 4, 7, 5, 6]) rfl (de_tup (da_cons (de_frz (dv 4)) (da_cons (de_frz (dv 3)) (da_cons (de_frz (dv 5)) (da_cons de_non (da_cons de_int da_nil)))))) (pgs_cons (pg_name (i := 3) sc_law_a_marked.nd rfl (by first | exact Or.inl rfl | exact Or.inr rfl)) (pgs_cons (pg_name (i := 4) sc_law_a_marked.nd rfl (by first | exact Or.inl rfl | exact Or.inr rfl)) (pgs_cons (pg_name (i := 7) sc_law_a_marked.nd rfl (by first | exact Or.inl rfl | exact Or.inr rfl)) (pgs_cons (pg_name (i := 5) sc_law_a_marked.nd rfl (by first | exact Or.inl rfl | exact Or.inr rfl)) (pgs_cons (pg_name (i := 6) sc_law_a_marked.nd rfl (by first | exact Or.inl rfl | exact Or.inr rfl)) pgs_nil))))))) dss_nil))) dss_nil)
    (dss_one (ds_ret (de_tup (da_cons (de_frz (dv 3)) (da_cons (de_frz (dv 4)) (da_cons (de_frz (dv 5)) (da_cons (de_frz (dv 6)) (da_cons (de_frz (dv 7)) (da_cons (de_frz (dv 8)) (da_cons (de_frz (dv 9)) da_nil))))))))))))))))
theorem ok_law_a_rules (T : Env K mg) (g_law_draw : FnOk Pg w K mg base CX0 1 T.f_law_draw T.fd_law_draw ["tape", "many"] (lSp K sp_law_draw)) (g_law_pick : FnOk Pg w K mg base CX0 2 T.f_law_pick T.fd_law_pick ["tape", "rows"] (lSp K sp_law_pick)) : FnOk Pg w K mg base CX0 3 T.f_law_a_rules T.fd_law_a_rules ["tape", "most"] (lSp K sp_law_a_rules) :=
  fn_d T.F_law_a_rules sc_law_a_rules len_law_a_rules rd_law_a_rules fun cdv A outer s H E Pp hr =>
    (dss_cons (ds_set (i := 2) sc_law_a_rules.nd rfl (by first | exact Or.inl rfl | exact Or.inr rfl) (de_op o_add de_int (de_call g_law_draw (hr.mono (by decide)) (by rfl) T.m_law_draw T.F_law_draw.kp T.b_law_draw (da_cons (dv 0) (da_cons de_int da_nil)))))
    (dss_cons (ds_set (i := 3) sc_law_a_rules.nd rfl (by first | exact Or.inl rfl | exact Or.inr rfl) (de_call g_law_pick (hr.mono (by decide)) (by rfl) T.m_law_pick T.F_law_pick.kp T.b_law_pick (da_cons (dv 0) (da_cons (de_arg (de_lst (da_cons de_int (da_cons de_int (da_cons de_int (da_cons de_int (da_cons (de_frz (de_op o_add de_int (de_call g_law_draw (hr.mono (by decide)) (by rfl) T.m_law_draw T.F_law_draw.kp T.b_law_draw (da_cons (dv 0) (da_cons de_int da_nil))))) (da_cons de_int da_nil)))))))) da_nil))))
    (dss_cut (ds_if (dt_cmp o_gt (de_op o_mul (dv 2) (dv 3)) (dv 1) (nomark _)) (dss_cons (ds_unp (is := [2, 3]) rfl (de_frz (de_call g_law_pick (hr.mono (by decide)) (by rfl) T.m_law_pick T.F_law_pick.kp T.b_law_pick (da_cons (dv 0) (da_cons (de_arg (de_lst (da_cons (de_tup (da_cons (de_frz (dv 1)) (da_cons de_int da_nil))) (da_cons (de_tup (da_cons de_int (da_cons (de_frz (dv 1)) da_nil))) (da_cons (de_tup (da_cons de_int (da_cons (de_op o_fdiv (dv 1) de_int) da_nil))) (da_cons (de_tup (da_cons de_int (da_cons (de_op o_fdiv (dv 1) de_int) da_nil))) da_nil)))))) da_nil)))) (pgs_cons (pg_name (i := 2) sc_law_a_rules.nd rfl (by first | exact Or.inl rfl | exact Or.inr rfl)) (pgs_cons (pg_name (i := 3) sc_law_a_rules.nd rfl (by first | exact Or.inl rfl | exact Or.inr rfl)) pgs_nil)))
    (dss_one (ds_par (i := 2) (j := 3) rfl sc_law_a_rules.nd rfl rfl (by decide) rfl rfl (da_cons (de_callB (c_min2 rfl) (by rfl) T.z_min (by decide +kernel) (da_cons (dv 2) (da_cons de_int da_nil))) (da_cons (de_callB (c_min2 rfl) (by rfl) T.z_min (by decide +kernel) (da_cons (de_callB (c_max2 rfl) (by rfl) T.z_max (by decide +kernel) (da_cons (dv 3) (da_cons de_int da_nil))) (da_cons de_int da_nil))) da_nil)) rfl))) dss_nil)
    (dss_cons (ds_set (i := 4) sc_law_a_rules.nd rfl (by first | exact Or.inl rfl | exact Or.inr rfl) (de_call g_law_pick (hr.mono (by decide)) (by rfl) T.m_law_pick T.F_law_pick.kp T.b_law_pick (da_cons (dv 0) (da_cons (de_arg (de_lst (da_cons de_int (da_cons de_int (da_cons de_int (da_cons de_int (da_cons de_int (da_cons de_int (da_cons de_int (da_cons de_int (da_cons de_int (da_cons de_int da_nil)))))))))))) da_nil))))
    (dss_one (ds_ret (de_tup (da_cons (de_frz (dv 2)) (da_cons (de_frz (dv 3)) (da_cons (de_frz (de_op o_add de_int (de_call g_law_draw (hr.mono (by decide)) (by rfl) T.m_law_draw T.F_law_draw.kp T.b_law_draw (da_cons (dv 0) (da_cons de_int da_nil))))) (da_cons (de_frz (dv 4)) (da_cons (de_frz (de_call g_law_draw (hr.mono (by decide)) (by rfl) T.m_law_draw T.F_law_draw.kp T.b_law_draw (da_cons (dv 0) (da_cons de_int da_nil)))) (da_cons (de_frz (de_call g_law_pick (hr.mono (by decide)) (by rfl) T.m_law_pick T.F_law_pick.kp T.b_law_pick (da_cons (dv 0) (da_cons (de_arg (de_lst (da_cons de_int (da_cons de_int (da_cons de_int (da_cons de_int (da_cons de_int (da_cons de_int da_nil)))))))) da_nil)))) da_nil)))))))))))))
theorem ok_law_a_mark (T : Env K mg) (g_law_draw : FnOk Pg w K mg base CX0 1 T.f_law_draw T.fd_law_draw ["tape", "many"] (lSp K sp_law_draw)) (g_law_pick : FnOk Pg w K mg base CX0 2 T.f_law_pick T.fd_law_pick ["tape", "rows"] (lSp K sp_law_pick)) (g_law_a_marks : FnOk Pg w K mg base CX0 1 T.f_law_a_marks T.fd_law_a_marks [] (lSp K sp_law_a_marks)) : FnOk Pg w K mg base CX0 3 T.f_law_a_mark T.fd_law_a_mark ["tape"] (lSp K sp_law_a_mark) :=
  fn_d T.F_law_a_mark sc_law_a_mark len_law_a_mark rd_law_a_mark fun cdv A outer s H E Pp hr =>
    (dss_cons (ds_if (dt_cmp (o_eq hr) (de_call g_law_draw (hr.mono (by decide)) (by rfl) T.m_law_draw T.F_law_draw.kp T.b_law_draw (da_cons (dv 0) (da_cons de_int da_nil))) de_int (nomark _)) (dss_one (ds_ret (de_call g_law_pick (hr.mono (by decide)) (by rfl) T.m_law_pick T.F_law_pick.kp T.b_law_pick (da_cons (dv 0) (da_cons (de_arg (de_call0 g_law_a_marks (hr.mono (by decide)) (by rfl) T.m_law_a_marks T.F_law_a_marks.kp T.b_law_a_marks)) da_nil))))) dss_nil)
    (dss_cons (ds_set (i := 1) sc_law_a_mark.nd rfl (by first | exact Or.inl rfl | exact Or.inr rfl) (de_lst (da_cons (de_tup (da_cons de_str (da_cons de_int da_nil))) (da_cons (de_tup (da_cons de_str da_nil)) (da_cons (de_tup (da_cons de_str (da_cons de_int da_nil))) (da_cons (de_tup (da_cons de_str (da_cons de_int da_nil))) (da_cons (de_tup (da_cons de_str (da_cons de_int da_nil))) (da_cons (de_tup (da_cons de_str (da_cons de_int (da_cons de_str da_nil)))) (da_cons (de_tup (da_cons de_str (da_cons de_int da_nil))) (da_cons (de_tup (da_cons de_str (da_cons de_int da_nil))) (da_cons (de_tup (da_cons de_str (da_cons de_int da_nil))) da_nil)))))))))))
    (dss_one (ds_ret (de_call g_law_pick (hr.mono (by decide)) (by rfl) T.m_law_pick T.F_law_pick.kp T.b_law_pick (da_cons (dv 0) (da_cons (de_arg (de_op o_add (dv 1) (de_lst (da_cons (de_tup (da_cons de_str (da_cons de_int da_nil))) (da_cons (de_tup (da_cons de_str (da_cons de_int da_nil))) (da_cons (de_tup (da_cons de_str (da_cons de_int (da_cons de_str da_nil)))) (da_cons (de_tup (da_cons de_str (da_cons de_int da_nil))) (da_cons (de_tup (da_cons de_str (da_cons de_int da_nil))) (da_cons (de_tup (da_cons de_str (da_cons de_int da_nil))) (da_cons (de_tup (da_cons de_str (da_cons de_int da_nil))) da_nil)))))))))) da_nil)))))))
theorem ok_law_a_crease_deed (T : Env K mg) (g_law_pick : FnOk Pg w K mg base CX0 2 T.f_law_pick T.fd_law_pick ["tape", "rows"] (lSp K sp_law_pick)) (g_law_draw : FnOk Pg w K mg base CX0 1 T.f_law_draw T.fd_law_draw ["tape", "many"] (lSp K sp_law_draw)) (g_law_a_mark : FnOk Pg w K mg base CX0 3 T.f_law_a_mark T.fd_law_a_mark ["tape"] (lSp K sp_law_a_mark)) : FnOk Pg w K mg base CX0 4 T.f_law_a_crease_deed T.fd_law_a_crease_deed ["tape", "rules", "crease"] (lSp K sp_law_a_crease_deed) :=
  fn_d T.F_law_a_crease_deed sc_law_a_crease_deed len_law_a_crease_deed rd_law_a_crease_deed fun cdv A outer s H E Pp hr =>
    (dss_cons (ds_if (dt_isN (de_ix (dv 2) de_int (fun _ _ => rfl))) (dss_one (ds_ret (de_tup (da_cons de_str (da_cons (de_frz (de_call g_law_pick (hr.mono (by decide)) (by rfl) T.m_law_pick T.F_law_pick.kp T.b_law_pick (da_cons (dv 0) (da_cons (de_arg (de_lst (da_cons de_int (da_cons de_int (da_cons (de_frz (de_call g_law_draw (hr.mono (by decide)) (by rfl) T.m_law_draw T.F_law_draw.kp T.b_law_draw (da_cons (dv 0) (da_cons de_int da_nil)))) da_nil))))) da_nil)))) da_nil))))) dss_nil)
    (dss_one (ds_ret (de_call g_law_a_mark (hr.mono (by decide)) (by rfl) T.m_law_a_mark T.F_law_a_mark.kp T.b_law_a_mark (da_cons (dv 0) da_nil)))))
theorem ok_law_a_done (T : Env K mg) (g_after_bowl : FnOk Pg w K mg base CX0 1 T.f_after_bowl T.fd_after_bowl ["crease", "bowler"] (lSp K sp_after_bowl)) (g_after_mark : FnOk Pg w K mg base CX0 4 T.f_after_mark T.fd_after_mark ["rules", "crease", "mark"] (lSp K sp_after_mark)) : FnOk Pg w K mg base CX0 5 T.f_law_a_done T.fd_law_a_done ["rules", "crease", "deed"] (lSp K sp_law_a_done) :=
  fn_d T.F_law_a_done sc_law_a_done len_law_a_done rd_law_a_done fun cdv A outer s H E Pp hr =>
    (dss_cons (ds_if (dt_cmp (o_eq hr) (de_ix (dv 2) de_int (fun _ _ => rfl)) de_str (nomark _)) (dss_one (ds_ret (de_call g_after_bowl (hr.mono (by decide)) (by rfl) T.m_after_bowl T.F_after_bowl.kp T.b_after_bowl (da_cons (dv 1) (da_cons (de_arg (de_ix (dv 2) de_int (fun _ _ => rfl))) da_nil))))) dss_nil)
    (dss_one (ds_ret (de_call g_after_mark (hr.mono (by decide)) (by rfl) T.m_after_mark T.F_after_mark.kp T.b_after_mark (da_cons (dv 0) (da_cons (dv 1) (da_cons (dv 2) da_nil)))))))
theorem ok_law_a_due (T : Env K mg) (g_law_a_bowled : FnOk Pg w K mg base CX0 1 T.f_law_a_bowled T.fd_law_a_bowled ["crease", "bowler"] (lSp K sp_law_a_bowled)) (g_law_a_marked : FnOk Pg w K mg base CX0 2 T.f_law_a_marked T.fd_law_a_marked ["rules", "crease", "mark"] (lSp K sp_law_a_marked)) : FnOk Pg w K mg base CX0 3 T.f_law_a_due T.fd_law_a_due ["rules", "crease", "deed"] (lSp K sp_law_a_due) :=
  fn_d T.F_law_a_due sc_law_a_due len_law_a_due rd_law_a_due fun cdv A outer s H E Pp hr =>
    (dss_cons (ds_if (dt_cmp (o_eq hr) (de_ix (dv 2) de_int (fun _ _ => rfl)) de_str (nomark _)) (dss_one (ds_ret (de_call g_law_a_bowled (hr.mono (by decide)) (by rfl) T.m_law_a_bowled T.F_law_a_bowled.kp T.b_law_a_bowled (da_cons (dv 1) (da_cons (de_arg (de_ix (dv 2) de_int (fun _ _ => rfl))) da_nil))))) dss_nil)
    (dss_one (ds_ret (de_call g_law_a_marked (hr.mono (by decide)) (by rfl) T.m_law_a_marked T.F_law_a_marked.kp T.b_law_a_marked (da_cons (dv 0) (da_cons (dv 1) (da_cons (dv 2) da_nil)))))))
theorem ok_law (T : Env K mg) (g_law_tape : FnOk Pg w K mg base CX0 1 T.f_law_tape T.fd_law_tape ["script"] (lSp K sp_law_tape)) (g_law_a_rules : FnOk Pg w K mg base CX0 3 T.f_law_a_rules T.fd_law_a_rules ["tape", "most"] (lSp K sp_law_a_rules)) (g_law_pick : FnOk Pg w K mg base CX0 2 T.f_law_pick T.fd_law_pick ["tape", "rows"] (lSp K sp_law_pick)) (g_law_same : FnOk Pg w K mg base CX0 13 T.f_law_same T.fd_law_same ["told", "due"] (lSp K (sp_law_same 12))) (g_new_crease : FnOk Pg w K mg base CX0 1 T.f_new_crease T.fd_new_crease [] (lSp K sp_new_crease)) (g_law_draw : FnOk Pg w K mg base CX0 1 T.f_law_draw T.fd_law_draw ["tape", "many"] (lSp K sp_law_draw)) (g_law_a_crease_deed : FnOk Pg w K mg base CX0 4 T.f_law_a_crease_deed T.fd_law_a_crease_deed ["tape", "rules", "crease"] (lSp K sp_law_a_crease_deed)) (g_law_a_due : FnOk Pg w K mg base CX0 3 T.f_law_a_due T.fd_law_a_due ["rules", "crease", "deed"] (lSp K sp_law_a_due)) (g_law_a_done : FnOk Pg w K mg base CX0 5 T.f_law_a_done T.fd_law_a_done ["rules", "crease", "deed"] (lSp K sp_law_a_done)) (g_after_bowl : FnOk Pg w K mg base CX0 1 T.f_after_bowl T.fd_after_bowl ["crease", "bowler"] (lSp K sp_after_bowl)) (g_after_mark : FnOk Pg w K mg base CX0 4 T.f_after_mark T.fd_after_mark ["rules", "crease", "mark"] (lSp K sp_after_mark)) : FnOk Pg w K mg base CX0 14 T.f_law T.fd_law ["script"] (lSp K sp_law) :=
  fn_d T.F_law sc_law len_law rd_law fun cdv A outer s H E Pp hr =>
    (dss_cons (ds_set (i := 1) sc_law.nd rfl (by first | exact Or.inl rfl | exact Or.inr rfl) (de_call g_law_tape (hr.mono (by decide)) (by rfl) T.m_law_tape T.F_law_tape.kp T.b_law_tape (da_cons (dv 0) da_nil)))
    (dss_cons (ds_set (i := 2) sc_law.nd rfl (by first | exact Or.inl rfl | exact Or.inr rfl) (de_lst (da_cons (de_frz (de_call g_law_a_rules (hr.mono (by decide)) (by rfl) T.m_law_a_rules T.F_law_a_rules.kp T.b_law_a_rules (da_cons (dv 1) (da_cons de_int da_nil)))) (da_cons (de_frz (de_call g_law_a_rules (hr.mono (by decide)) (by rfl) T.m_law_a_rules T.F_law_a_rules.kp T.b_law_a_rules (da_cons (dv 1) (da_cons de_int da_nil)))) da_nil))))
    (dss_cons (ds_sub (de_frz (de_call g_law_pick (hr.mono (by decide)) (by rfl) T.m_law_pick T.F_law_pick.kp T.b_law_pick (da_cons (dv 1) (da_cons (dv 2) da_nil)))) (dv 2) de_int)
    (dss_cons (ds_set (i := 3) sc_law.nd rfl (by first | exact Or.inl rfl | exact Or.inr rfl) (de_tup (da_cons de_int (da_cons de_int (da_cons de_non (da_cons de_int (da_cons de_non (da_cons (de_tup (da_cons de_int (da_cons de_int (da_cons de_int (da_cons de_int (da_cons de_int (da_cons de_int da_nil))))))) (da_cons de_int da_nil)))))))))
    (dss_cons (ds_if (dt_not (dt_tru (de_call g_law_same (hr.mono (by decide)) (by rfl) T.m_law_same T.F_law_same.kp T.b_law_same (da_cons (de_arg (de_call0 g_new_crease (hr.mono (by decide)) (by rfl) T.m_new_crease T.F_new_crease.kp T.b_new_crease)) (da_cons (dv 3) da_nil))) (fun _ => rfl))) (dss_one (ds_ret de_bl)) dss_nil)
    (dss_cons (ds_set (i := 4) sc_law.nd rfl (by first | exact Or.inl rfl | exact Or.inr rfl) (de_lst (da_cons (de_frz (dv 3)) (da_cons (de_frz (dv 3)) da_nil))))
    (dss_cons (ds_set (i := 5) sc_law.nd rfl (by first | exact Or.inl rfl | exact Or.inr rfl) (de_lst da_nil))
    (dss_cut (ds_for (is := [6]) PassesOwn.never rfl (di_rng1 (by rfl) T.z_range (da_cons (de_op o_add de_int (de_call g_law_draw (hr.mono (by decide)) (by rfl) T.m_law_draw T.F_law_draw.kp T.b_law_draw (da_cons (dv 1) (da_cons de_int da_nil)))) da_nil)) (dg_name sc_law.nd rfl (by first | exact Or.inl rfl | exact Or.inr rfl)) (dss_cons (ds_set (i := 7) sc_law.nd rfl (by first | exact Or.inl rfl | exact Or.inr rfl) (de_call g_law_draw (hr.mono (by decide)) (by rfl) T.m_law_draw T.F_law_draw.kp T.b_law_draw (da_cons (dv 1) (da_cons de_int da_nil))))
    (dss_cut (ds_if (dt_cmp (o_eq hr) (de_ix (de_ix (dv 4) (dv 7) (fun _ _ => rfl)) de_int (fun _ _ => rfl)) (de_ix (de_ix (dv 2) (dv 7) (fun _ _ => rfl)) de_int (fun _ _ => rfl)) (nomark _)) (dss_one (ds_set (i := 7) sc_law.nd rfl (by first | exact Or.inl rfl | exact Or.inr rfl) (de_op o_sub de_int (dv 7)))) dss_nil)
    (dss_cons (ds_if (dt_cmp (o_eq hr) (de_ix (de_ix (dv 4) (dv 7) (fun _ _ => rfl)) de_int (fun _ _ => rfl)) (de_ix (de_ix (dv 2) (dv 7) (fun _ _ => rfl)) de_int (fun _ _ => rfl)) (nomark _)) (dss_one ds_break) dss_nil)
    (dss_cons (ds_set (i := 8) sc_law.nd rfl (by first | exact Or.inl rfl | exact Or.inr rfl) (de_call g_law_a_crease_deed (hr.mono (by decide)) (by rfl) T.m_law_a_crease_deed T.F_law_a_crease_deed.kp T.b_law_a_crease_deed (da_cons (dv 1) (da_cons (de_arg (de_ix (dv 2) (dv 7) (fun _ _ => rfl))) (da_cons (de_arg (de_ix (dv 4) (dv 7) (fun _ _ => rfl))) da_nil)))))
    (dss_cons (ds_set (i := 9) sc_law.nd rfl (by first | exact Or.inl rfl | exact Or.inr rfl) (de_call g_law_a_due (hr.mono (by decide)) (by rfl) T.m_law_a_due T.F_law_a_due.kp T.b_law_a_due (da_cons (de_arg (de_ix (dv 2) (dv 7) (fun _ _ => rfl))) (da_cons (de_arg (de_ix (dv 4) (dv 7) (fun _ _ => rfl))) (da_cons (dv 8) da_nil)))))
    (dss_cons (ds_if (dt_not (dt_tru (de_call g_law_same (hr.mono (by decide)) (by rfl) T.m_law_same T.F_law_same.kp T.b_law_same (da_cons (de_arg (de_call g_law_a_done (hr.mono (by decide)) (by rfl) T.m_law_a_done T.F_law_a_done.kp T.b_law_a_done (da_cons (de_arg (de_ix (dv 2) (dv 7) (fun _ _ => rfl))) (da_cons (de_arg (de_ix (dv 4) (dv 7) (fun _ _ => rfl))) (da_cons (dv 8) da_nil))))) (da_cons (dv 9) da_nil))) (fun _ => rfl))) (dss_one (ds_ret de_bl)) dss_nil)
    (dss_cons (ds_expr (de_mt (pe_bm PySem.F.plainAttrs_list PySem.F.slot_list_append PySem.F.type_list_append m_append (dv 5) (da_cons (de_tup (da_cons (de_frz (de_ix (dv 2) (dv 7) (fun _ _ => rfl))) (da_cons (de_frz (de_ix (dv 4) (dv 7) (fun _ _ => rfl))) (da_cons (de_frz (dv 8)) (da_cons (de_frz (dv 9)) da_nil))))) da_nil))))
    (dss_one (ds_sub (de_frz (dv 9)) (dv 4) (dv 7)))))))))))
    (dss_cons (ds_for (is := [10]) PassesOwn.never rfl (di_seq (de_frz (de_sl (dv 5) do_none (do_some de_int)))) (dg_name sc_law.nd rfl (by first | exact Or.inl rfl | exact Or.inr rfl)) (dss_one (ds_if (dt_not (dt_tru (de_call g_law_same (hr.mono (by decide)) (by rfl) T.m_law_same T.F_law_same.kp T.b_law_same (da_cons (de_arg (de_call g_law_a_done (hr.mono (by decide)) (by rfl) T.m_law_a_done T.F_law_a_done.kp T.b_law_a_done (da_cons (de_arg (de_ix (dv 10) de_int (fun _ _ => rfl))) (da_cons (de_arg (de_ix (dv 10) de_int (fun _ _ => rfl))) (da_cons (de_arg (de_ix (dv 10) de_int (fun _ _ => rfl))) da_nil))))) (da_cons (de_arg (de_ix (dv 10) de_int (fun _ _ => rfl))) da_nil))) (fun _ => rfl))) (dss_one (ds_ret de_bl)) dss_nil)))
    (dss_cons (ds_set (i := 11) sc_law.nd rfl (by first | exact Or.inl rfl | exact Or.inr rfl) (de_tup (da_cons de_int (da_cons de_int (da_cons de_int (da_cons de_int (da_cons de_int (da_cons de_int da_nil))))))))
    (dss_cons (ds_set (i := 12) sc_law.nd rfl (by first | exact Or.inl rfl | exact Or.inr rfl) (de_tup (da_cons de_int (da_cons de_int (da_cons de_int (da_cons de_int (da_cons de_non (da_cons (de_tup (da_cons de_int (da_cons de_int (da_cons de_int (da_cons de_int (da_cons de_int (da_cons de_int da_nil))))))) (da_cons de_int da_nil)))))))))
    (dss_cons (ds_set (i := 13) sc_law.nd rfl (by first | exact Or.inl rfl | exact Or.inr rfl) (de_lst (da_cons (de_tup (da_cons (de_tup (da_cons de_str (da_cons de_int da_nil))) (da_cons (de_tup (da_cons de_int (da_cons de_int (da_cons de_non (da_cons de_int (da_cons de_int (da_cons (de_tup (da_cons de_int (da_cons de_int (da_cons de_int (da_cons de_int (da_cons de_int (da_cons de_int da_nil))))))) (da_cons de_int da_nil)))))))) da_nil))) (da_cons (de_tup (da_cons (de_tup (da_cons de_str (da_cons de_int da_nil))) (da_cons (de_tup (da_cons de_int (da_cons de_int (da_cons de_int (da_cons de_int (da_cons de_non (da_cons (de_tup (da_cons de_int (da_cons de_int (da_cons de_int (da_cons de_int (da_cons de_int (da_cons de_int da_nil))))))) (da_cons de_int da_nil)))))))) da_nil))) da_nil))))
    (dss_cons (ds_set (i := 13) sc_law.nd rfl (by first | exact Or.inl rfl | exact Or.inr rfl) (de_op o_add (dv 13) (de_lst (da_cons (de_tup (da_cons (de_tup (da_cons de_str (da_cons de_int (da_cons de_str da_nil)))) (da_cons (de_tup (da_cons de_int (da_cons de_int (da_cons de_non (da_cons de_int (da_cons de_int (da_cons (de_tup (da_cons de_int (da_cons de_int (da_cons de_int (da_cons de_int (da_cons de_int (da_cons de_int da_nil))))))) (da_cons de_int da_nil)))))))) da_nil))) da_nil))))
    (dss_cons (ds_set (i := 13) sc_law.nd rfl (by first | exact Or.inl rfl | exact Or.inr rfl) (de_op o_add (dv 13) (de_lst (da_cons (de_tup (da_cons (de_tup (da_cons de_str (da_cons de_int (da_cons de_str da_nil)))) (da_cons (de_tup (da_cons de_int (da_cons de_int (da_cons de_non (da_cons de_int (da_cons de_int (da_cons (de_tup (da_cons de_int (da_cons de_int (da_cons de_int (da_cons de_int (da_cons de_int (da_cons de_int da_nil))))))) (da_cons de_int da_nil)))))))) da_nil))) (da_cons (de_tup (da_cons (de_tup (da_cons de_str (da_cons de_int da_nil))) (da_cons (de_frz (dv 12)) da_nil))) da_nil)))))
    (dss_cons (ds_set (i := 13) sc_law.nd rfl (by first | exact Or.inl rfl | exact Or.inr rfl) (de_op o_add (dv 13) (de_lst (da_cons (de_tup (da_cons (de_tup (da_cons de_str (da_cons de_int (da_cons de_str da_nil)))) (da_cons (de_tup (da_cons de_int (da_cons de_int (da_cons de_non (da_cons de_int (da_cons de_int (da_cons (de_tup (da_cons de_int (da_cons de_int (da_cons de_int (da_cons de_int (da_cons de_int (da_cons de_int da_nil))))))) (da_cons de_int da_nil)))))))) da_nil))) (da_cons (de_tup (da_cons (de_tup (da_cons de_str da_nil)) (da_cons (de_tup (da_cons de_int (da_cons de_int (da_cons de_non (da_cons de_int (da_cons de_int (da_cons (de_tup (da_cons de_int (da_cons de_int (da_cons de_int (da_cons de_int (da_cons de_int (da_cons de_int da_nil))))))) (da_cons de_int da_nil)))))))) da_nil))) da_nil)))))
    (dss_cons (ds_if (dt_not (dt_tru (de_call g_law_same (hr.mono (by decide)) (by rfl) T.m_law_same T.F_law_same.kp T.b_law_same (da_cons (de_arg (de_call g_after_bowl (hr.mono (by decide)) (by rfl) T.m_after_bowl T.F_after_bowl.kp T.b_after_bowl (da_cons (de_arg (de_ix (de_ix (dv 13) de_int (fun _ _ => rfl)) de_int (fun _ _ => rfl))) (da_cons de_int da_nil)))) (da_cons (de_tup (da_cons de_int (da_cons de_int (da_cons de_int (da_cons de_int (da_cons de_int (da_cons (de_tup (da_cons de_int (da_cons de_int (da_cons de_int (da_cons de_int (da_cons de_int (da_cons de_int da_nil))))))) (da_cons de_int da_nil)))))))) da_nil))) (fun _ => rfl))) (dss_one (ds_ret de_bl)) dss_nil)
    (dss_cons (ds_set (i := 14) sc_law.nd rfl (by first | exact Or.inl rfl | exact Or.inr rfl) (de_call g_after_mark (hr.mono (by decide)) (by rfl) T.m_after_mark T.F_after_mark.kp T.b_after_mark (da_cons (dv 11) (da_cons (de_arg (de_call g_after_bowl (hr.mono (by decide)) (by rfl) T.m_after_bowl T.F_after_bowl.kp T.b_after_bowl (da_cons (dv 3) (da_cons de_int da_nil)))) (da_cons (de_tup (da_cons de_str (da_cons de_int da_nil))) da_nil)))))
    (dss_cons (ds_if (dt_not (dt_tru (de_call g_law_same (hr.mono (by decide)) (by rfl) T.m_law_same T.F_law_same.kp T.b_law_same (da_cons (dv 14) (da_cons (dv 12) da_nil))) (fun _ => rfl))) (dss_one (ds_ret de_bl)) dss_nil)
    (dss_cons (ds_for (is := [15]) PassesOwn.never rfl (di_seq (de_frz (dv 13))) (dg_name sc_law.nd rfl (by first | exact Or.inl rfl | exact Or.inr rfl)) (dss_one (ds_if (dt_not (dt_tru (de_call g_law_same (hr.mono (by decide)) (by rfl) T.m_law_same T.F_law_same.kp T.b_law_same (da_cons (de_arg (de_call g_after_mark (hr.mono (by decide)) (by rfl) T.m_after_mark T.F_after_mark.kp T.b_after_mark (da_cons (dv 11) (da_cons (dv 12) (da_cons (de_arg (de_ix (dv 15) de_int (fun _ _ => rfl))) da_nil))))) (da_cons (de_arg (de_ix (dv 15) de_int (fun _ _ => rfl))) da_nil))) (fun _ => rfl))) (dss_one (ds_ret de_bl)) dss_nil)))
    (dss_one (ds_ret (de_call g_law_same (hr.mono (by decide)) (by rfl) T.m_law_same T.F_law_same.kp T.b_law_same (da_cons (de_arg (de_call0 g_new_crease (hr.mono (by decide)) (by rfl) T.m_new_crease T.F_new_crease.kp T.b_new_crease)) (da_cons (dv 3) da_nil))))))))))))))))))))))))
theorem ok_all (T : Env K mg) : FnOk Pg w K mg base CX0 14 T.f_law T.fd_law ["script"] (lSp K sp_law) :=
  have g_ran_of := ok_ran_of (Pg := Pg) (w := w) (base := base) T
  have g_takes_wicket := ok_takes_wicket (Pg := Pg) (w := w) (base := base) T
  have g_uses_ball := ok_uses_ball (Pg := Pg) (w := w) (base := base) T
  have g_over_of := ok_over_of (Pg := Pg) (w := w) (base := base) T
  have g_wickets_of := ok_wickets_of (Pg := Pg) (w := w) (base := base) T
  have g_new_crease := ok_new_crease (Pg := Pg) (w := w) (base := base) T
  have g_after_bowl := ok_after_bowl (Pg := Pg) (w := w) (base := base) T
  have g_batter_out := ok_batter_out (Pg := Pg) (w := w) (base := base) T
  have g_after_running := ok_after_running (Pg := Pg) (w := w) (base := base) T g_ran_of
  have g_next_batter := ok_next_batter (Pg := Pg) (w := w) (base := base) T g_wickets_of
  have g_after_wicket := ok_after_wicket (Pg := Pg) (w := w) (base := base) T g_next_batter
  have g_after_ball := ok_after_ball (Pg := Pg) (w := w) (base := base) T g_over_of
  have g_after_mark := ok_after_mark (Pg := Pg) (w := w) (base := base) T g_batter_out g_after_running g_takes_wicket g_after_wicket g_uses_ball g_after_ball
  have g_law_tape := ok_law_tape (Pg := Pg) (w := w) (base := base) T
  have g_law_draw := ok_law_draw (Pg := Pg) (w := w) (base := base) T
  have g_law_pick := ok_law_pick (Pg := Pg) (w := w) (base := base) T g_law_draw
  have g_law_same := ok_law_same (Pg := Pg) (w := w) (base := base) T 12
  have g_law_a_marks := ok_law_a_marks (Pg := Pg) (w := w) (base := base) T
  have g_law_a_step := ok_law_a_step (Pg := Pg) (w := w) (base := base) T
  have g_law_a_ran := ok_law_a_ran (Pg := Pg) (w := w) (base := base) T
  have g_law_a_bowled := ok_law_a_bowled (Pg := Pg) (w := w) (base := base) T
  have g_law_a_marked := ok_law_a_marked (Pg := Pg) (w := w) (base := base) T g_law_a_step g_law_a_ran
  have g_law_a_rules := ok_law_a_rules (Pg := Pg) (w := w) (base := base) T g_law_draw g_law_pick
  have g_law_a_mark := ok_law_a_mark (Pg := Pg) (w := w) (base := base) T g_law_draw g_law_pick g_law_a_marks
  have g_law_a_crease_deed := ok_law_a_crease_deed (Pg := Pg) (w := w) (base := base) T g_law_pick g_law_draw g_law_a_mark
  have g_law_a_done := ok_law_a_done (Pg := Pg) (w := w) (base := base) T g_after_bowl g_after_mark
  have g_law_a_due := ok_law_a_due (Pg := Pg) (w := w) (base := base) T g_law_a_bowled g_law_a_marked
  ok_law T g_law_tape g_law_a_rules g_law_pick g_law_same g_new_crease g_law_draw g_law_a_crease_deed g_law_a_due g_law_a_done g_after_bowl g_after_mark
end
theorem all_mk {l : PySem.W.OpenLaw} {w : World} {K : PySem.W.Frag} {h : Heap} {mg : Str → Option Value} {fa : Addr} (X : K.In h) (G : h.Ns mainGlobals mg) (hfa : mg "law" = some (.ref fa))
    {f0 : Addr} {oc0 kV0 doc0 pm0 cd0 ct0 : Value} {od0 an0 : Option Addr} {sl0 : Array (Option Value)} (a0 : PySem.W.nsIn K mainGlobals "ran_of" = some (some (.ref f0))) (l0 : K.lookup f0 = some ⟨oc0, od0, .func (PySem.W.fnOf "ran_of" "ran_of" (defArgs s_ran_of) (defBody s_ran_of) (defScope s_ran_of) .none kV0 doc0 pm0 an0 cd0 ct0), sl0⟩) (c0 : PySem.W.codeIn K cd0 "ran_of" = true) (k0 : PySem.W.keepIn K (.ref f0) = true)
    {f1 : Addr} {oc1 kV1 doc1 pm1 cd1 ct1 : Value} {od1 an1 : Option Addr} {sl1 : Array (Option Value)} (a1 : PySem.W.nsIn K mainGlobals "takes_wicket" = some (some (.ref f1))) (l1 : K.lookup f1 = some ⟨oc1, od1, .func (PySem.W.fnOf "takes_wicket" "takes_wicket" (defArgs s_takes_wicket) (defBody s_takes_wicket) (defScope s_takes_wicket) .none kV1 doc1 pm1 an1 cd1 ct1), sl1⟩) (c1 : PySem.W.codeIn K cd1 "takes_wicket" = true) (k1 : PySem.W.keepIn K (.ref f1) = true)
    {f2 : Addr} {oc2 kV2 doc2 pm2 cd2 ct2 : Value} {od2 an2 : Option Addr} {sl2 : Array (Option Value)} (a2 : PySem.W.nsIn K mainGlobals "uses_ball" = some (some (.ref f2))) (l2 : K.lookup f2 = some ⟨oc2, od2, .func (PySem.W.fnOf "uses_ball" "uses_ball" (defArgs s_uses_ball) (defBody s_uses_ball) (defScope s_uses_ball) .none kV2 doc2 pm2 an2 cd2 ct2), sl2⟩) (c2 : PySem.W.codeIn K cd2 "uses_ball" = true) (k2 : PySem.W.keepIn K (.ref f2) = true)
    {f3 : Addr} {oc3 kV3 doc3 pm3 cd3 ct3 : Value} {od3 an3 : Option Addr} {sl3 : Array (Option Value)} (a3 : PySem.W.nsIn K mainGlobals "over_of" = some (some (.ref f3))) (l3 : K.lookup f3 = some ⟨oc3, od3, .func (PySem.W.fnOf "over_of" "over_of" (defArgs s_over_of) (defBody s_over_of) (defScope s_over_of) .none kV3 doc3 pm3 an3 cd3 ct3), sl3⟩) (c3 : PySem.W.codeIn K cd3 "over_of" = true) (k3 : PySem.W.keepIn K (.ref f3) = true)
    {f4 : Addr} {oc4 kV4 doc4 pm4 cd4 ct4 : Value} {od4 an4 : Option Addr} {sl4 : Array (Option Value)} (a4 : PySem.W.nsIn K mainGlobals "wickets_of" = some (some (.ref f4))) (l4 : K.lookup f4 = some ⟨oc4, od4, .func (PySem.W.fnOf "wickets_of" "wickets_of" (defArgs s_wickets_of) (defBody s_wickets_of) (defScope s_wickets_of) .none kV4 doc4 pm4 an4 cd4 ct4), sl4⟩) (c4 : PySem.W.codeIn K cd4 "wickets_of" = true) (k4 : PySem.W.keepIn K (.ref f4) = true)
    {f5 : Addr} {oc5 kV5 doc5 pm5 cd5 ct5 : Value} {od5 an5 : Option Addr} {sl5 : Array (Option Value)} (a5 : PySem.W.nsIn K mainGlobals "new_crease" = some (some (.ref f5))) (l5 : K.lookup f5 = some ⟨oc5, od5, .func (PySem.W.fnOf "new_crease" "new_crease" (defArgs s_new_crease) (defBody s_new_crease) (defScope s_new_crease) .none kV5 doc5 pm5 an5 cd5 ct5), sl5⟩) (c5 : PySem.W.codeIn K cd5 "new_crease" = true) (k5 : PySem.W.keepIn K (.ref f5) = true)
    {f6 : Addr} {oc6 kV6 doc6 pm6 cd6 ct6 : Value} {od6 an6 : Option Addr} {sl6 : Array (Option Value)} (a6 : PySem.W.nsIn K mainGlobals "after_bowl" = some (some (.ref f6))) (l6 : K.lookup f6 = some ⟨oc6, od6, .func (PySem.W.fnOf "after_bowl" "after_bowl" (defArgs s_after_bowl) (defBody s_after_bowl) (defScope s_after_bowl) .none kV6 doc6 pm6 an6 cd6 ct6), sl6⟩) (c6 : PySem.W.codeIn K cd6 "after_bowl" = true) (k6 : PySem.W.keepIn K (.ref f6) = true)
    {f7 : Addr} {oc7 kV7 doc7 pm7 cd7 ct7 : Value} {od7 an7 : Option Addr} {sl7 : Array (Option Value)} (a7 : PySem.W.nsIn K mainGlobals "batter_out" = some (some (.ref f7))) (l7 : K.lookup f7 = some ⟨oc7, od7, .func (PySem.W.fnOf "batter_out" "batter_out" (defArgs s_batter_out) (defBody s_batter_out) (defScope s_batter_out) .none kV7 doc7 pm7 an7 cd7 ct7), sl7⟩) (c7 : PySem.W.codeIn K cd7 "batter_out" = true) (k7 : PySem.W.keepIn K (.ref f7) = true)
    {f8 : Addr} {oc8 kV8 doc8 pm8 cd8 ct8 : Value} {od8 an8 : Option Addr} {sl8 : Array (Option Value)} (a8 : PySem.W.nsIn K mainGlobals "after_running" = some (some (.ref f8))) (l8 : K.lookup f8 = some ⟨oc8, od8, .func (PySem.W.fnOf "after_running" "after_running" (defArgs s_after_running) (defBody s_after_running) (defScope s_after_running) .none kV8 doc8 pm8 an8 cd8 ct8), sl8⟩) (c8 : PySem.W.codeIn K cd8 "after_running" = true) (k8 : PySem.W.keepIn K (.ref f8) = true)
    {f9 : Addr} {oc9 kV9 doc9 pm9 cd9 ct9 : Value} {od9 an9 : Option Addr} {sl9 : Array (Option Value)} (a9 : PySem.W.nsIn K mainGlobals "next_batter" = some (some (.ref f9))) (l9 : K.lookup f9 = some ⟨oc9, od9, .func (PySem.W.fnOf "next_batter" "next_batter" (defArgs s_next_batter) (defBody s_next_batter) (defScope s_next_batter) .none kV9 doc9 pm9 an9 cd9 ct9), sl9⟩) (c9 : PySem.W.codeIn K cd9 "next_batter" = true) (k9 : PySem.W.keepIn K (.ref f9) = true)
    {f10 : Addr} {oc10 kV10 doc10 pm10 cd10 ct10 : Value} {od10 an10 : Option Addr} {sl10 : Array (Option Value)} (a10 : PySem.W.nsIn K mainGlobals "after_wicket" = some (some (.ref f10))) (l10 : K.lookup f10 = some ⟨oc10, od10, .func (PySem.W.fnOf "after_wicket" "after_wicket" (defArgs s_after_wicket) (defBody s_after_wicket) (defScope s_after_wicket) .none kV10 doc10 pm10 an10 cd10 ct10), sl10⟩) (c10 : PySem.W.codeIn K cd10 "after_wicket" = true) (k10 : PySem.W.keepIn K (.ref f10) = true)
    {f11 : Addr} {oc11 kV11 doc11 pm11 cd11 ct11 : Value} {od11 an11 : Option Addr} {sl11 : Array (Option Value)} (a11 : PySem.W.nsIn K mainGlobals "after_ball" = some (some (.ref f11))) (l11 : K.lookup f11 = some ⟨oc11, od11, .func (PySem.W.fnOf "after_ball" "after_ball" (defArgs s_after_ball) (defBody s_after_ball) (defScope s_after_ball) .none kV11 doc11 pm11 an11 cd11 ct11), sl11⟩) (c11 : PySem.W.codeIn K cd11 "after_ball" = true) (k11 : PySem.W.keepIn K (.ref f11) = true)
    {f12 : Addr} {oc12 kV12 doc12 pm12 cd12 ct12 : Value} {od12 an12 : Option Addr} {sl12 : Array (Option Value)} (a12 : PySem.W.nsIn K mainGlobals "after_mark" = some (some (.ref f12))) (l12 : K.lookup f12 = some ⟨oc12, od12, .func (PySem.W.fnOf "after_mark" "after_mark" (defArgs s_after_mark) (defBody s_after_mark) (defScope s_after_mark) .none kV12 doc12 pm12 an12 cd12 ct12), sl12⟩) (c12 : PySem.W.codeIn K cd12 "after_mark" = true) (k12 : PySem.W.keepIn K (.ref f12) = true)
    {f13 : Addr} {oc13 kV13 doc13 pm13 cd13 ct13 : Value} {od13 an13 : Option Addr} {sl13 : Array (Option Value)} (a13 : PySem.W.nsIn K mainGlobals "_law_tape" = some (some (.ref f13))) (l13 : K.lookup f13 = some ⟨oc13, od13, .func (PySem.W.fnOf "_law_tape" "_law_tape" (defArgs s_law_tape) (defBody s_law_tape) (defScope s_law_tape) .none kV13 doc13 pm13 an13 cd13 ct13), sl13⟩) (c13 : PySem.W.codeIn K cd13 "_law_tape" = true) (k13 : PySem.W.keepIn K (.ref f13) = true)
    {f14 : Addr} {oc14 kV14 doc14 pm14 cd14 ct14 : Value} {od14 an14 : Option Addr} {sl14 : Array (Option Value)} (a14 : PySem.W.nsIn K mainGlobals "_law_draw" = some (some (.ref f14))) (l14 : K.lookup f14 = some ⟨oc14, od14, .func (PySem.W.fnOf "_law_draw" "_law_draw" (defArgs s_law_draw) (defBody s_law_draw) (defScope s_law_draw) .none kV14 doc14 pm14 an14 cd14 ct14), sl14⟩) (c14 : PySem.W.codeIn K cd14 "_law_draw" = true) (k14 : PySem.W.keepIn K (.ref f14) = true)
    {f15 : Addr} {oc15 kV15 doc15 pm15 cd15 ct15 : Value} {od15 an15 : Option Addr} {sl15 : Array (Option Value)} (a15 : PySem.W.nsIn K mainGlobals "_law_pick" = some (some (.ref f15))) (l15 : K.lookup f15 = some ⟨oc15, od15, .func (PySem.W.fnOf "_law_pick" "_law_pick" (defArgs s_law_pick) (defBody s_law_pick) (defScope s_law_pick) .none kV15 doc15 pm15 an15 cd15 ct15), sl15⟩) (c15 : PySem.W.codeIn K cd15 "_law_pick" = true) (k15 : PySem.W.keepIn K (.ref f15) = true)
    {f16 : Addr} {oc16 kV16 doc16 pm16 cd16 ct16 : Value} {od16 an16 : Option Addr} {sl16 : Array (Option Value)} (a16 : PySem.W.nsIn K mainGlobals "_law_same" = some (some (.ref f16))) (l16 : K.lookup f16 = some ⟨oc16, od16, .func (PySem.W.fnOf "_law_same" "_law_same" (defArgs s_law_same) (defBody s_law_same) (defScope s_law_same) .none kV16 doc16 pm16 an16 cd16 ct16), sl16⟩) (c16 : PySem.W.codeIn K cd16 "_law_same" = true) (k16 : PySem.W.keepIn K (.ref f16) = true)
    {f17 : Addr} {oc17 kV17 doc17 pm17 cd17 ct17 : Value} {od17 an17 : Option Addr} {sl17 : Array (Option Value)} (a17 : PySem.W.nsIn K mainGlobals "_law_a_marks" = some (some (.ref f17))) (l17 : K.lookup f17 = some ⟨oc17, od17, .func (PySem.W.fnOf "_law_a_marks" "_law_a_marks" (defArgs s_law_a_marks) (defBody s_law_a_marks) (defScope s_law_a_marks) .none kV17 doc17 pm17 an17 cd17 ct17), sl17⟩) (c17 : PySem.W.codeIn K cd17 "_law_a_marks" = true) (k17 : PySem.W.keepIn K (.ref f17) = true)
    {f18 : Addr} {oc18 kV18 doc18 pm18 cd18 ct18 : Value} {od18 an18 : Option Addr} {sl18 : Array (Option Value)} (a18 : PySem.W.nsIn K mainGlobals "_law_a_step" = some (some (.ref f18))) (l18 : K.lookup f18 = some ⟨oc18, od18, .func (PySem.W.fnOf "_law_a_step" "_law_a_step" (defArgs s_law_a_step) (defBody s_law_a_step) (defScope s_law_a_step) .none kV18 doc18 pm18 an18 cd18 ct18), sl18⟩) (c18 : PySem.W.codeIn K cd18 "_law_a_step" = true) (k18 : PySem.W.keepIn K (.ref f18) = true)
    {f19 : Addr} {oc19 kV19 doc19 pm19 cd19 ct19 : Value} {od19 an19 : Option Addr} {sl19 : Array (Option Value)} (a19 : PySem.W.nsIn K mainGlobals "_law_a_ran" = some (some (.ref f19))) (l19 : K.lookup f19 = some ⟨oc19, od19, .func (PySem.W.fnOf "_law_a_ran" "_law_a_ran" (defArgs s_law_a_ran) (defBody s_law_a_ran) (defScope s_law_a_ran) .none kV19 doc19 pm19 an19 cd19 ct19), sl19⟩) (c19 : PySem.W.codeIn K cd19 "_law_a_ran" = true) (k19 : PySem.W.keepIn K (.ref f19) = true)
    {f20 : Addr} {oc20 kV20 doc20 pm20 cd20 ct20 : Value} {od20 an20 : Option Addr} {sl20 : Array (Option Value)} (a20 : PySem.W.nsIn K mainGlobals "_law_a_bowled" = some (some (.ref f20))) (l20 : K.lookup f20 = some ⟨oc20, od20, .func (PySem.W.fnOf "_law_a_bowled" "_law_a_bowled" (defArgs s_law_a_bowled) (defBody s_law_a_bowled) (defScope s_law_a_bowled) .none kV20 doc20 pm20 an20 cd20 ct20), sl20⟩) (c20 : PySem.W.codeIn K cd20 "_law_a_bowled" = true) (k20 : PySem.W.keepIn K (.ref f20) = true)
    {f21 : Addr} {oc21 kV21 doc21 pm21 cd21 ct21 : Value} {od21 an21 : Option Addr} {sl21 : Array (Option Value)} (a21 : PySem.W.nsIn K mainGlobals "_law_a_marked" = some (some (.ref f21))) (l21 : K.lookup f21 = some ⟨oc21, od21, .func (PySem.W.fnOf "_law_a_marked" "_law_a_marked" (defArgs s_law_a_marked) (defBody s_law_a_marked) (defScope s_law_a_marked) .none kV21 doc21 pm21 an21 cd21 ct21), sl21⟩) (c21 : PySem.W.codeIn K cd21 "_law_a_marked" = true) (k21 : PySem.W.keepIn K (.ref f21) = true)
    {f22 : Addr} {oc22 kV22 doc22 pm22 cd22 ct22 : Value} {od22 an22 : Option Addr} {sl22 : Array (Option Value)} (a22 : PySem.W.nsIn K mainGlobals "_law_a_rules" = some (some (.ref f22))) (l22 : K.lookup f22 = some ⟨oc22, od22, .func (PySem.W.fnOf "_law_a_rules" "_law_a_rules" (defArgs s_law_a_rules) (defBody s_law_a_rules) (defScope s_law_a_rules) .none kV22 doc22 pm22 an22 cd22 ct22), sl22⟩) (c22 : PySem.W.codeIn K cd22 "_law_a_rules" = true) (k22 : PySem.W.keepIn K (.ref f22) = true)
    {f23 : Addr} {oc23 kV23 doc23 pm23 cd23 ct23 : Value} {od23 an23 : Option Addr} {sl23 : Array (Option Value)} (a23 : PySem.W.nsIn K mainGlobals "_law_a_mark" = some (some (.ref f23))) (l23 : K.lookup f23 = some ⟨oc23, od23, .func (PySem.W.fnOf "_law_a_mark" "_law_a_mark" (defArgs s_law_a_mark) (defBody s_law_a_mark) (defScope s_law_a_mark) .none kV23 doc23 pm23 an23 cd23 ct23), sl23⟩) (c23 : PySem.W.codeIn K cd23 "_law_a_mark" = true) (k23 : PySem.W.keepIn K (.ref f23) = true)
    {f24 : Addr} {oc24 kV24 doc24 pm24 cd24 ct24 : Value} {od24 an24 : Option Addr} {sl24 : Array (Option Value)} (a24 : PySem.W.nsIn K mainGlobals "_law_a_crease_deed" = some (some (.ref f24))) (l24 : K.lookup f24 = some ⟨oc24, od24, .func (PySem.W.fnOf "_law_a_crease_deed" "_law_a_crease_deed" (defArgs s_law_a_crease_deed) (defBody s_law_a_crease_deed) (defScope s_law_a_crease_deed) .none kV24 doc24 pm24 an24 cd24 ct24), sl24⟩) (c24 : PySem.W.codeIn K cd24 "_law_a_crease_deed" = true) (k24 : PySem.W.keepIn K (.ref f24) = true)
    {f25 : Addr} {oc25 kV25 doc25 pm25 cd25 ct25 : Value} {od25 an25 : Option Addr} {sl25 : Array (Option Value)} (a25 : PySem.W.nsIn K mainGlobals "_law_a_done" = some (some (.ref f25))) (l25 : K.lookup f25 = some ⟨oc25, od25, .func (PySem.W.fnOf "_law_a_done" "_law_a_done" (defArgs s_law_a_done) (defBody s_law_a_done) (defScope s_law_a_done) .none kV25 doc25 pm25 an25 cd25 ct25), sl25⟩) (c25 : PySem.W.codeIn K cd25 "_law_a_done" = true) (k25 : PySem.W.keepIn K (.ref f25) = true)
    {f26 : Addr} {oc26 kV26 doc26 pm26 cd26 ct26 : Value} {od26 an26 : Option Addr} {sl26 : Array (Option Value)} (a26 : PySem.W.nsIn K mainGlobals "_law_a_due" = some (some (.ref f26))) (l26 : K.lookup f26 = some ⟨oc26, od26, .func (PySem.W.fnOf "_law_a_due" "_law_a_due" (defArgs s_law_a_due) (defBody s_law_a_due) (defScope s_law_a_due) .none kV26 doc26 pm26 an26 cd26 ct26), sl26⟩) (c26 : PySem.W.codeIn K cd26 "_law_a_due" = true) (k26 : PySem.W.keepIn K (.ref f26) = true)
    {f27 : Addr} {oc27 kV27 doc27 pm27 cd27 ct27 : Value} {od27 an27 : Option Addr} {sl27 : Array (Option Value)} (a27 : PySem.W.nsIn K mainGlobals "law" = some (some (.ref f27))) (l27 : K.lookup f27 = some ⟨oc27, od27, .func (PySem.W.fnOf "law" "law" (defArgs s_law) (defBody s_law) (defScope s_law) .none kV27 doc27 pm27 an27 cd27 ct27), sl27⟩) (c27 : PySem.W.codeIn K cd27 "law" = true) (k27 : PySem.W.keepIn K (.ref f27) = true)
    (z_abs : PySem.W.nsIn K mainGlobals "abs" = some none)
    (z_bool : PySem.W.nsIn K mainGlobals "bool" = some none)
    (z_int : PySem.W.nsIn K mainGlobals "int" = some none)
    (z_isinstance : PySem.W.nsIn K mainGlobals "isinstance" = some none)
    (z_len : PySem.W.nsIn K mainGlobals "len" = some none)
    (z_list : PySem.W.nsIn K mainGlobals "list" = some none)
    (z_max : PySem.W.nsIn K mainGlobals "max" = some none)
    (z_min : PySem.W.nsIn K mainGlobals "min" = some none)
    (z_range : PySem.W.nsIn K mainGlobals "range" = some none)
    (z_str : PySem.W.nsIn K mainGlobals "str" = some none)
    (z_tuple : PySem.W.nsIn K mainGlobals "tuple" = some none) :
    ∃ fd : FuncData, (∀ (s : Shared) (v : Value), BindsTo s fd ⟨[v], []⟩ [("script", v)]) ∧ ∀ base : Heap, K.In base → base.Ns mainGlobals mg → FnOk l.prog w K mg base CX0 14 fa fd ["script"] (lSp K spLaw) := by
  have e := hfa.symm.trans (PySem.W.mg_of X G a27)
  cases e
  have F0 := fun_mk (st := s_ran_of) l0 c0 k0
  have F1 := fun_mk (st := s_takes_wicket) l1 c1 k1
  have F2 := fun_mk (st := s_uses_ball) l2 c2 k2
  have F3 := fun_mk (st := s_over_of) l3 c3 k3
  have F4 := fun_mk (st := s_wickets_of) l4 c4 k4
  have F5 := fun_mk (st := s_new_crease) l5 c5 k5
  have F6 := fun_mk (st := s_after_bowl) l6 c6 k6
  have F7 := fun_mk (st := s_batter_out) l7 c7 k7
  have F8 := fun_mk (st := s_after_running) l8 c8 k8
  have F9 := fun_mk (st := s_next_batter) l9 c9 k9
  have F10 := fun_mk (st := s_after_wicket) l10 c10 k10
  have F11 := fun_mk (st := s_after_ball) l11 c11 k11
  have F12 := fun_mk (st := s_after_mark) l12 c12 k12
  have F13 := fun_mk (st := s_law_tape) l13 c13 k13
  have F14 := fun_mk (st := s_law_draw) l14 c14 k14
  have F15 := fun_mk (st := s_law_pick) l15 c15 k15
  have F16 := fun_mk (st := s_law_same) l16 c16 k16
  have F17 := fun_mk (st := s_law_a_marks) l17 c17 k17
  have F18 := fun_mk (st := s_law_a_step) l18 c18 k18
  have F19 := fun_mk (st := s_law_a_ran) l19 c19 k19
  have F20 := fun_mk (st := s_law_a_bowled) l20 c20 k20
  have F21 := fun_mk (st := s_law_a_marked) l21 c21 k21
  have F22 := fun_mk (st := s_law_a_rules) l22 c22 k22
  have F23 := fun_mk (st := s_law_a_mark) l23 c23 k23
  have F24 := fun_mk (st := s_law_a_crease_deed) l24 c24 k24
  have F25 := fun_mk (st := s_law_a_done) l25 c25 k25
  have F26 := fun_mk (st := s_law_a_due) l26 c26 k26
  have F27 := fun_mk (st := s_law) l27 c27 k27
  exact ⟨_, fun s v => .of_eq rfl, fun base _ _ => ok_all (⟨_, _, F0, PySem.W.mg_of X G a0, F0.binds (ps := ["mark"]) fun _ _ _ _ _ _ us hl => match us, hl with | [_], _ => rfl,
    _, _, F1, PySem.W.mg_of X G a1, F1.binds (ps := ["mark"]) fun _ _ _ _ _ _ us hl => match us, hl with | [_], _ => rfl,
    _, _, F2, PySem.W.mg_of X G a2, F2.binds (ps := ["mark"]) fun _ _ _ _ _ _ us hl => match us, hl with | [_], _ => rfl,
    _, _, F3, PySem.W.mg_of X G a3, F3.binds (ps := ["rules"]) fun _ _ _ _ _ _ us hl => match us, hl with | [_], _ => rfl,
    _, _, F4, PySem.W.mg_of X G a4, F4.binds (ps := ["rules"]) fun _ _ _ _ _ _ us hl => match us, hl with | [_], _ => rfl,
    _, _, F5, PySem.W.mg_of X G a5, F5.binds (ps := []) fun _ _ _ _ _ _ us hl => match us, hl with | [], _ => rfl,
    _, _, F6, PySem.W.mg_of X G a6, F6.binds (ps := ["crease", "bowler"]) fun _ _ _ _ _ _ us hl => match us, hl with | [_, _], _ => rfl,
    _, _, F7, PySem.W.mg_of X G a7, F7.binds (ps := ["crease", "mark"]) fun _ _ _ _ _ _ us hl => match us, hl with | [_, _], _ => rfl,
    _, _, F8, PySem.W.mg_of X G a8, F8.binds (ps := ["crease", "mark"]) fun _ _ _ _ _ _ us hl => match us, hl with | [_, _], _ => rfl,
    _, _, F9, PySem.W.mg_of X G a9, F9.binds (ps := ["rules", "fallen"]) fun _ _ _ _ _ _ us hl => match us, hl with | [_, _], _ => rfl,
    _, _, F10, PySem.W.mg_of X G a10, F10.binds (ps := ["rules", "crease", "out"]) fun _ _ _ _ _ _ us hl => match us, hl with | [_, _, _], _ => rfl,
    _, _, F11, PySem.W.mg_of X G a11, F11.binds (ps := ["rules", "crease"]) fun _ _ _ _ _ _ us hl => match us, hl with | [_, _], _ => rfl,
    _, _, F12, PySem.W.mg_of X G a12, F12.binds (ps := ["rules", "crease", "mark"]) fun _ _ _ _ _ _ us hl => match us, hl with | [_, _, _], _ => rfl,
    _, _, F13, PySem.W.mg_of X G a13, F13.binds (ps := ["script"]) fun _ _ _ _ _ _ us hl => match us, hl with | [_], _ => rfl,
    _, _, F14, PySem.W.mg_of X G a14, F14.binds (ps := ["tape", "many"]) fun _ _ _ _ _ _ us hl => match us, hl with | [_, _], _ => rfl,
    _, _, F15, PySem.W.mg_of X G a15, F15.binds (ps := ["tape", "rows"]) fun _ _ _ _ _ _ us hl => match us, hl with | [_, _], _ => rfl,
    _, _, F16, PySem.W.mg_of X G a16, F16.binds (ps := ["told", "due"]) fun _ _ _ _ _ _ us hl => match us, hl with | [_, _], _ => rfl,
    _, _, F17, PySem.W.mg_of X G a17, F17.binds (ps := []) fun _ _ _ _ _ _ us hl => match us, hl with | [], _ => rfl,
    _, _, F18, PySem.W.mg_of X G a18, F18.binds (ps := ["mark"]) fun _ _ _ _ _ _ us hl => match us, hl with | [_], _ => rfl,
    _, _, F19, PySem.W.mg_of X G a19, F19.binds (ps := ["mark"]) fun _ _ _ _ _ _ us hl => match us, hl with | [_], _ => rfl,
    _, _, F20, PySem.W.mg_of X G a20, F20.binds (ps := ["crease", "bowler"]) fun _ _ _ _ _ _ us hl => match us, hl with | [_, _], _ => rfl,
    _, _, F21, PySem.W.mg_of X G a21, F21.binds (ps := ["rules", "crease", "mark"]) fun _ _ _ _ _ _ us hl => match us, hl with | [_, _, _], _ => rfl,
    _, _, F22, PySem.W.mg_of X G a22, F22.binds (ps := ["tape", "most"]) fun _ _ _ _ _ _ us hl => match us, hl with | [_, _], _ => rfl,
    _, _, F23, PySem.W.mg_of X G a23, F23.binds (ps := ["tape"]) fun _ _ _ _ _ _ us hl => match us, hl with | [_], _ => rfl,
    _, _, F24, PySem.W.mg_of X G a24, F24.binds (ps := ["tape", "rules", "crease"]) fun _ _ _ _ _ _ us hl => match us, hl with | [_, _, _], _ => rfl,
    _, _, F25, PySem.W.mg_of X G a25, F25.binds (ps := ["rules", "crease", "deed"]) fun _ _ _ _ _ _ us hl => match us, hl with | [_, _, _], _ => rfl,
    _, _, F26, PySem.W.mg_of X G a26, F26.binds (ps := ["rules", "crease", "deed"]) fun _ _ _ _ _ _ us hl => match us, hl with | [_, _, _], _ => rfl,
    _, _, F27, PySem.W.mg_of X G a27, F27.binds (ps := ["script"]) fun _ _ _ _ _ _ us hl => match us, hl with | [_], _ => rfl,
    PySem.W.mg_none_of X G z_abs,
    PySem.W.mg_none_of X G z_bool,
    PySem.W.mg_none_of X G z_int,
    PySem.W.mg_none_of X G z_isinstance,
    PySem.W.mg_none_of X G z_len,
    PySem.W.mg_none_of X G z_list,
    PySem.W.mg_none_of X G z_max,
    PySem.W.mg_none_of X G z_min,
    PySem.W.mg_none_of X G z_range,
    PySem.W.mg_none_of X G z_str,
    PySem.W.mg_none_of X G z_tuple⟩ : Env K mg)⟩
theorem walk {l : PySem.W.OpenLaw} {q : Program} {loose : List Str} {XP : (Str → Option Value) → Heap → Prop} {YP : World → Heap → Prop} {d : DefRec} {K : Params → PySem.W.Frag} (hn : l.most = some 63) (hdf : d.params.defaults = [])
    (hY : ∀ (w : World) (h : Heap), YP w h → (K w.params).In h)
    (F : ∀ (w : World) (mg : Str → Option Value) (fa : Addr) (h : Heap), (K w.params).In h → h.Ns mainGlobals mg → mg d.name = some (.ref fa) →
      ∃ fd : FuncData, (∀ (s : Shared) (u : Value), BindsTo s fd ⟨[u], []⟩ [("script", u)]) ∧ ∀ base : Heap, (K w.params).In base → base.Ns mainGlobals mg → FnOk l.prog w (K w.params) mg base CX0 14 fa fd ["script"] (lSp (K w.params) spLaw)) :
    PySem.W.WalkO q loose XP YP l.row.toRowW d [] (fun f vs => PySem.call f vs) :=
  L2.walk_of (n := 63) (k := 14) (x := "script") (CX := fun _ => CX0) (sp := fun w => lSp (K w.params) spLaw) hn (by decide) hdf ⟨rfl, by decide, by decide⟩ hY F (fun _ _ _ _ hl hO hS => DL.law_sp hl hO hS) fun _ _ _ _ _ z => z
end DL

open PySem PySem.W PyProof.Rows in
set_option maxRecDepth 100000 in
set_option maxHeartbeats 0 in
theorem PySem.Challenge.cw_rainovers_k05_creases_along_an_innings_holds : PySem.Challenge.rw_rainovers_k05_creases_along_an_innings.Holds := by
  w_on; o_law; k_head; (case hw => w_witness2)
  k_fill
  refine DL.walk (l := PySem.Challenge.rw_rainovers_k05_creases_along_an_innings) rfl rfl (fun w h Y => PySem.W.kIn_of Y) ?F
  case F =>
    intro w mg fa h KX G hmg
    refine' DL.all_mk KX G hmg ?a0 ?l0 ?c0 ?k0 ?a1 ?l1 ?c1 ?k1 ?a2 ?l2 ?c2 ?k2 ?a3 ?l3 ?c3 ?k3 ?a4 ?l4 ?c4 ?k4 ?a5 ?l5 ?c5 ?k5 ?a6 ?l6 ?c6 ?k6 ?a7 ?l7 ?c7 ?k7 ?a8 ?l8 ?c8 ?k8 ?a9 ?l9 ?c9 ?k9 ?a10 ?l10 ?c10 ?k10 ?a11 ?l11 ?c11 ?k11 ?a12 ?l12 ?c12 ?k12 ?a13 ?l13 ?c13 ?k13 ?a14 ?l14 ?c14 ?k14 ?a15 ?l15 ?c15 ?k15 ?a16 ?l16 ?c16 ?k16 ?a17 ?l17 ?c17 ?k17 ?a18 ?l18 ?c18 ?k18 ?a19 ?l19 ?c19 ?k19 ?a20 ?l20 ?c20 ?k20 ?a21 ?l21 ?c21 ?k21 ?a22 ?l22 ?c22 ?k22 ?a23 ?l23 ?c23 ?k23 ?a24 ?l24 ?c24 ?k24 ?a25 ?l25 ?c25 ?k25 ?a26 ?l26 ?c26 ?k26 ?a27 ?l27 ?c27 ?k27 ?z_abs ?z_bool ?z_int ?z_isinstance ?z_len ?z_list ?z_max ?z_min ?z_range ?z_str ?z_tuple
    (case a0 => k_is)
    (case l0 => k_is)
    (case c0 => k_is)
    (case k0 => k_is)
    (case a1 => k_is)
    (case l1 => k_is)
    (case c1 => k_is)
    (case k1 => k_is)
    (case a2 => k_is)
    (case l2 => k_is)
    (case c2 => k_is)
    (case k2 => k_is)
    (case a3 => k_is)
    (case l3 => k_is)
    (case c3 => k_is)
    (case k3 => k_is)
    (case a4 => k_is)
    (case l4 => k_is)
    (case c4 => k_is)
    (case k4 => k_is)
    (case a5 => k_is)
    (case l5 => k_is)
    (case c5 => k_is)
    (case k5 => k_is)
    (case a6 => k_is)
    (case l6 => k_is)
    (case c6 => k_is)
    (case k6 => k_is)
    (case a7 => k_is)
    (case l7 => k_is)
    (case c7 => k_is)
    (case k7 => k_is)
    (case a8 => k_is)
    (case l8 => k_is)
    (case c8 => k_is)
    (case k8 => k_is)
    (case a9 => k_is)
    (case l9 => k_is)
    (case c9 => k_is)
    (case k9 => k_is)
    (case a10 => k_is)
    (case l10 => k_is)
    (case c10 => k_is)
    (case k10 => k_is)
    (case a11 => k_is)
    (case l11 => k_is)
    (case c11 => k_is)
    (case k11 => k_is)
    (case a12 => k_is)
    (case l12 => k_is)
    (case c12 => k_is)
    (case k12 => k_is)
    (case a13 => k_is)
    (case l13 => k_is)
    (case c13 => k_is)
    (case k13 => k_is)
    (case a14 => k_is)
    (case l14 => k_is)
    (case c14 => k_is)
    (case k14 => k_is)
    (case a15 => k_is)
    (case l15 => k_is)
    (case c15 => k_is)
    (case k15 => k_is)
    (case a16 => k_is)
    (case l16 => k_is)
    (case c16 => k_is)
    (case k16 => k_is)
    (case a17 => k_is)
    (case l17 => k_is)
    (case c17 => k_is)
    (case k17 => k_is)
    (case a18 => k_is)
    (case l18 => k_is)
    (case c18 => k_is)
    (case k18 => k_is)
    (case a19 => k_is)
    (case l19 => k_is)
    (case c19 => k_is)
    (case k19 => k_is)
    (case a20 => k_is)
    (case l20 => k_is)
    (case c20 => k_is)
    (case k20 => k_is)
    (case a21 => k_is)
    (case l21 => k_is)
    (case c21 => k_is)
    (case k21 => k_is)
    (case a22 => k_is)
    (case l22 => k_is)
    (case c22 => k_is)
    (case k22 => k_is)
    (case a23 => k_is)
    (case l23 => k_is)
    (case c23 => k_is)
    (case k23 => k_is)
    (case a24 => k_is)
    (case l24 => k_is)
    (case c24 => k_is)
    (case k24 => k_is)
    (case a25 => k_is)
    (case l25 => k_is)
    (case c25 => k_is)
    (case k25 => k_is)
    (case a26 => k_is)
    (case l26 => k_is)
    (case c26 => k_is)
    (case k26 => k_is)
    (case a27 => k_is)
    (case l27 => k_is)
    (case c27 => k_is)
    (case k27 => k_is)
    (case z_abs => k_is)
    (case z_bool => k_is)
    (case z_int => k_is)
    (case z_isinstance => k_is)
    (case z_len => k_is)
    (case z_list => k_is)
    (case z_max => k_is)
    (case z_min => k_is)
    (case z_range => k_is)
    (case z_str => k_is)
    (case z_tuple => k_is)
#print axioms PySem.Challenge.cw_rainovers_k05_creases_along_an_innings_holds
