import PyProof.Rows.All
import Wide.All
import OpenK.AllK
import Wide.FinOn
import HandS.ForMost
import HandS.ForExc
import HandS.CallSlots
import HandS.Small
import HandS.Wide
import HandS.Flow
import HandS.IsInst
import HandS.HeadHook2
import HandS.Style
import HandS.TryMany
import HandS.Defaults
import HandS.TupAny
import HandS.TupMul
import HandS.SetFor
import HandS.Replace
import HandS.More
import HandS.StrMore
import HandS.Zip
import KE.GoesEnum
import HandS.SortInts
import HandS.Head2
import HandS.HeadEnd
import KE.KDictZip
import HandS.Ends
import PySem.Challenge.RW_pricesforever_k58_whole_slips_of_texts_o
set_option Elab.async false
set_option linter.all false
set_option maxRecDepth 100000
set_option maxHeartbeats 4000000
section
/-! # Dn: denotations of Python pieces over plain data, and their rules over the hand layer -/
namespace Dn
open PySem L2

/-! ### data -/
inductive D where
  | non | bl (b : Bool) | int (i : Int) | str (x : Str) | tup (xs : List D) | lst (xs : List D) | dic (ks : List Key) (xs : List D)
  | ref (n : Nat) | scr (ns : List Int) | val (v : V)
/-- an object that the program changes -/
inductive O where
  | lst (xs : List D) | dic (ks : List Key) (xs : List D)
abbrev S := List O
/-- the addresses of the changed objects; of objects that are being made -/
structure Om where
  ρ : List Addr
  π : List Addr
def Om.N (ω : Om) (a : Addr) : Prop := a ∉ ω.ρ ∧ a ∉ ω.π

/-- a tuple, a list of the module's own top -/
def KTup (K : PySem.W.Frag) (a : Addr) (xs : List V) : Prop :=
  ∃ (o : Obj) (its : Array Value) (n : Nat), K.lookup a = some o ∧ o.cls = .type "tuple" ∧ o.data = .seq its n ∧ its.size ≤ sizeLine ∧ Vals xs its.toList
def KLst (K : PySem.W.Frag) (a : Addr) (xs : List V) : Prop :=
  ∃ (o : Obj) (its : Array Value) (n : Nat), K.lookup a = some o ∧ o.cls = .type "list" ∧ o.dict = none ∧ o.data = .seq its n ∧ its.size ≤ sizeLine ∧ Vals xs its.toList
mutual
def Rep (K : PySem.W.Frag) (H : Hp) (ω : Om) : D → V → Prop
  | .non, v => v = .non
  | .bl b, v => v = .bl b
  | .int i, v => v = .int i
  | .str x, v => v = .str x
  | .tup ds, v => ∃ a xs, v = .ref a ∧ (ω.N a ∧ Rd H a (.tup xs) ∨ KTup K a xs) ∧ RepL K H ω ds xs
  | .lst ds, v => ∃ a xs, v = .ref a ∧ ω.N a ∧ H a = some (.lst xs) ∧ RepL K H ω ds xs
  | .dic ks ds, v => ∃ a xs, v = .ref a ∧ ω.N a ∧ Rd H a (.dK (ks.zip xs)) ∧ ks.length = ds.length ∧ RepL K H ω ds xs
  | .ref n, v => ∃ a, v = .ref a ∧ ω.ρ[n]? = some a
  | .scr ns, v => ∃ a, v = .ref a ∧ (ω.N a ∧ Rd H a (.lst (ns.map V.int)) ∨ KLst K a (ns.map V.int))
  | .val u, v => v = u
def RepL (K : PySem.W.Frag) (H : Hp) (ω : Om) : List D → List V → Prop
  | [], xs => xs = []
  | d :: ds, xs => ∃ x r, xs = x :: r ∧ Rep K H ω d x ∧ RepL K H ω ds r
end
def RepO (K : PySem.W.Frag) (H : Hp) (ω : Om) (a : Addr) : O → Prop
  | .lst ds => ∃ xs, H a = some (.lst xs) ∧ RepL K H ω ds xs
  | .dic ks ds => ∃ xs, H a = some (.dK (ks.zip xs)) ∧ ks.length = ds.length ∧ RepL K H ω ds xs
structure RepS (K : PySem.W.Frag) (H : Hp) (ω : Om) (S : S) : Prop where
  len : ω.ρ.length = S.length
  nd : ω.ρ.Nodup
  at_ : ∀ (n : Nat) a o, ω.ρ[n]? = some a → S[n]? = some o → RepO K H ω a o
  sep : ∀ a ∈ ω.π, a ∉ ω.ρ
  pi : ∀ a ∈ ω.π, H a ≠ none

/-- a tracked thing stays, or is a dict that is locked while it is walked -/
def Keep (o o' : HO) : Prop := o' = o ∨ ∃ ob, o' = .frz ob o ∧ ∃ kvs, o = .dK kvs
structure Grow (H : Hp) (ω : Om) (H' : Hp) (ω' : Om) : Prop where
  ext : ∃ η, ω'.ρ = ω.ρ ++ η ∧ ∀ a ∈ η, H a = none
  pi : ∃ θ, ω'.π = θ ++ ω.π ∧ ∀ a ∈ θ, H a = none
  rd : ∀ a o, ω.N a → H a = some o → ∃ o', H' a = some o' ∧ Keep o o'
  pk : ∀ a ∈ ω.π, H' a = H a
  fresh : ∀ a, H' a = none → H a = none

theorem Keep.refl (o : HO) : Keep o o := .inl rfl
theorem Keep.trans {a b c : HO} (h : Keep a b) (k : Keep b c) : Keep a c := by
  rcases h with rfl | ⟨ob, rfl, kvs, rfl⟩
  · exact k
  · rcases k with rfl | ⟨_, _, _, e⟩
    · exact .inr ⟨ob, rfl, kvs, rfl⟩
    · cases e
theorem Keep.lst {xs : List V} {o : HO} (h : Keep (.lst xs) o) : o = .lst xs := by
  rcases h with h | ⟨_, _, _, e⟩
  · exact h
  · cases e
theorem Keep.rd {H H' : Hp} {a : Addr} {u : HO} (h : Rd H a u) (k : ∀ o, H a = some o → ∃ o', H' a = some o' ∧ Keep o o') : Rd H' a u := by
  rcases h with h | ⟨ob, h⟩
  · obtain ⟨o', e, q⟩ := k _ h
    rcases q with rfl | ⟨ob, rfl, _⟩
    · exact .inl e
    · exact .inr ⟨ob, e⟩
  · obtain ⟨o', e, q⟩ := k _ h
    rcases q with rfl | ⟨_, _, _, z⟩
    · exact .inr ⟨ob, e⟩
    · cases z
theorem Grow.refl {H : Hp} {ω : Om} : Grow H ω H ω := ⟨⟨[], by simp, by simp⟩, ⟨[], rfl, by simp⟩, fun _ o _ h => ⟨o, h, .refl o⟩, fun _ _ => rfl, fun _ h => h⟩
theorem Grow.n {H H' : Hp} {ω ω' : Om} (g : Grow H ω H' ω') {a : Addr} {o : HO} (h : ω.N a) (e : H a = some o) : ω'.N a := by
  obtain ⟨η, e1, e2⟩ := g.ext
  obtain ⟨θ, e3, e4⟩ := g.pi
  refine ⟨?_, ?_⟩
  · rw [e1]
    intro q
    rcases List.mem_append.mp q with q | q
    · exact h.1 q
    · rw [e2 a q] at e; cases e
  · rw [e3]
    intro q
    rcases List.mem_append.mp q with q | q
    · rw [e4 a q] at e; cases e
    · exact h.2 q
theorem Grow.inpi {H H' : Hp} {ω ω' : Om} (g : Grow H ω H' ω') {a : Addr} (h : a ∈ ω.π) : a ∈ ω'.π := by
  obtain ⟨θ, e, _⟩ := g.pi
  rw [e]
  exact List.mem_append_right _ h
theorem Grow.trans {H H1 H2 : Hp} {ω ω1 ω2 : Om} (a : Grow H ω H1 ω1) (b : Grow H1 ω1 H2 ω2) : Grow H ω H2 ω2 where
  ext := by
    obtain ⟨η, e1, f1⟩ := a.ext
    obtain ⟨θ, e2, f2⟩ := b.ext
    refine ⟨η ++ θ, by rw [e2, e1, List.append_assoc], fun x hx => ?_⟩
    rcases List.mem_append.mp hx with h | h
    · exact f1 x h
    · exact a.fresh x (f2 x h)
  pi := by
    obtain ⟨η, e1, f1⟩ := a.pi
    obtain ⟨θ, e2, f2⟩ := b.pi
    refine ⟨θ ++ η, by rw [e2, e1, List.append_assoc], fun x hx => ?_⟩
    rcases List.mem_append.mp hx with h | h
    · exact a.fresh x (f2 x h)
    · exact f1 x h
  rd := fun x o hn ho => by
    obtain ⟨o1, e1, k1⟩ := a.rd x o hn ho
    obtain ⟨o2, e2, k2⟩ := b.rd x o1 (a.n hn ho) e1
    exact ⟨o2, e2, k1.trans k2⟩
  pk := fun x hx => (b.pk x (a.inpi hx)).trans (a.pk x hx)
  fresh := fun x h => a.fresh x (b.fresh x h)
theorem Grow.idx {H H' : Hp} {ω ω' : Om} (g : Grow H ω H' ω') {n : Nat} {a : Addr} (h : ω.ρ[n]? = some a) : ω'.ρ[n]? = some a := by
  obtain ⟨η, e, _⟩ := g.ext
  rw [e, List.getElem?_append_left (List.getElem?_eq_some_iff.mp h).1]
  exact h
/-- what data lean on stays -/
structure Mv (H : Hp) (ω : Om) (H' : Hp) (ω' : Om) : Prop where
  idx : ∀ (n : Nat) a, ω.ρ[n]? = some a → ω'.ρ[n]? = some a
  n : ∀ a o, ω.N a → H a = some o → ω'.N a
  rd : ∀ a o, ω.N a → H a = some o → ∃ o', H' a = some o' ∧ Keep o o'
theorem Mv.refl {H : Hp} {ω : Om} : Mv H ω H ω := ⟨fun _ _ h => h, fun _ _ h _ => h, fun a o _ h => ⟨o, h, .refl o⟩⟩
theorem Mv.trans {H H1 H2 : Hp} {ω ω1 ω2 : Om} (a : Mv H ω H1 ω1) (b : Mv H1 ω1 H2 ω2) : Mv H ω H2 ω2 := ⟨fun n x h => b.idx n x (a.idx n x h), fun x o hn e => by
  obtain ⟨o1, e1, k1⟩ := a.rd x o hn e
  exact b.n x o1 (a.n x o hn e) e1, fun x o hn e => by
  obtain ⟨o1, e1, k1⟩ := a.rd x o hn e
  obtain ⟨o2, e2, k2⟩ := b.rd x o1 (a.n x o hn e) e1
  exact ⟨o2, e2, k1.trans k2⟩⟩
theorem Grow.mv {H H' : Hp} {ω ω' : Om} (g : Grow H ω H' ω') : Mv H ω H' ω' := ⟨fun _ _ h => g.idx h, fun _ _ h e => g.n h e, g.rd⟩
theorem rd_mv {H H' : Hp} {ω ω' : Om} (g : Mv H ω H' ω') {a : Addr} {u : HO} (hn : ω.N a) (h : Rd H a u) : Rd H' a u ∧ ω'.N a := by
  refine ⟨Keep.rd h fun o e => g.rd a o hn e, ?_⟩
  rcases h with h | ⟨_, h⟩
  · exact g.n a _ hn h
  · exact g.n a _ hn h
theorem lst_mv {H H' : Hp} {ω ω' : Om} (g : Mv H ω H' ω') {a : Addr} {xs : List V} (hn : ω.N a) (h : H a = some (.lst xs)) : H' a = some (.lst xs) ∧ ω'.N a := by
  obtain ⟨o', e, k⟩ := g.rd a _ hn h
  rw [k.lst] at e
  exact ⟨e, g.n a _ hn h⟩
mutual
theorem Rep.mv {K : PySem.W.Frag} {H H' : Hp} {ω ω' : Om} (g : Mv H ω H' ω') : ∀ (d : D) (v : V), Rep K H ω d v → Rep K H' ω' d v
  | .non, _, h => h
  | .bl _, _, h => h
  | .int _, _, h => h
  | .str _, _, h => h
  | .tup ds, v, h => by
    unfold Rep at h ⊢
    obtain ⟨a, xs, e, h1, h2⟩ := h
    refine ⟨a, xs, e, ?_, RepL.mv g ds xs h2⟩
    rcases h1 with ⟨hn, hr⟩ | hk
    · have := rd_mv g hn hr
      exact .inl ⟨this.2, this.1⟩
    · exact .inr hk
  | .lst ds, v, h => by
    unfold Rep at h ⊢
    obtain ⟨a, xs, e, hn, h1, h2⟩ := h
    have := lst_mv g hn h1
    exact ⟨a, xs, e, this.2, this.1, RepL.mv g ds xs h2⟩
  | .dic ks ds, v, h => by
    unfold Rep at h ⊢
    obtain ⟨a, xs, e, hn, h1, hl, h2⟩ := h
    have := rd_mv g hn h1
    exact ⟨a, xs, e, this.2, this.1, hl, RepL.mv g ds xs h2⟩
  | .ref n, v, h => by
    unfold Rep at h ⊢
    obtain ⟨a, e, h1⟩ := h
    exact ⟨a, e, g.idx n a h1⟩
  | .scr ns, v, h => by
    unfold Rep at h ⊢
    obtain ⟨a, e, h1⟩ := h
    refine ⟨a, e, ?_⟩
    rcases h1 with ⟨hn, hr⟩ | hk
    · have := rd_mv g hn hr
      exact .inl ⟨this.2, this.1⟩
    · exact .inr hk
  | .val _, _, h => h
theorem RepL.mv {K : PySem.W.Frag} {H H' : Hp} {ω ω' : Om} (g : Mv H ω H' ω') : ∀ (ds : List D) (xs : List V), RepL K H ω ds xs → RepL K H' ω' ds xs
  | [], _, h => h
  | d :: ds, xs, h => by
    unfold RepL at h ⊢
    obtain ⟨x, r, e, h1, h2⟩ := h
    exact ⟨x, r, e, Rep.mv g d x h1, RepL.mv g ds r h2⟩
end
theorem Rep.grow {K : PySem.W.Frag} {H H' : Hp} {ω ω' : Om} (g : Grow H ω H' ω') (d : D) (v : V) (h : Rep K H ω d v) : Rep K H' ω' d v := Rep.mv g.mv d v h
theorem RepL.grow {K : PySem.W.Frag} {H H' : Hp} {ω ω' : Om} (g : Grow H ω H' ω') (ds : List D) (xs : List V) (h : RepL K H ω ds xs) : RepL K H' ω' ds xs := RepL.mv g.mv ds xs h

/-! ### answers -/
/-- an exception: its class's name, its fields -/
structure Ex where
  cls : Str
  fs : List (Str × D)
def RepX (K : PySem.W.Frag) (H : Hp) (ω : Om) (e : Ex) (cls : Value) (dd : Option Addr) : Prop :=
  cls = .ref (He.ga K e.cls) ∧ (e.fs = [] ∨ ∃ d xs, dd = some d ∧ ω.N d ∧ H d = some (.xd ((e.fs.map (·.1)).zip xs)) ∧ RepL K H ω (e.fs.map (·.2)) xs)
theorem RepX.mv {K : PySem.W.Frag} {H H' : Hp} {ω ω' : Om} (g : Mv H ω H' ω') {e : Ex} {cls : Value} {dd : Option Addr} (h : RepX K H ω e cls dd) : RepX K H' ω' e cls dd := by
  obtain ⟨h1, h2⟩ := h
  refine ⟨h1, ?_⟩
  rcases h2 with h2 | ⟨d, xs, e1, hn, ho, hr⟩
  · exact .inl h2
  · obtain ⟨o', e', k⟩ := g.rd d _ hn ho
    have : o' = .xd ((e.fs.map (·.1)).zip xs) := by
      rcases k with k | ⟨_, _, _, z⟩
      · exact k
      · cases z
    rw [this] at e'
    exact .inr ⟨d, xs, e1, g.n d _ hn ho, e', RepL.mv g _ _ hr⟩
theorem RepX.grow {K : PySem.W.Frag} {H H' : Hp} {ω ω' : Om} (g : Grow H ω H' ω') {e : Ex} {cls : Value} {dd : Option Addr} (h : RepX K H ω e cls dd) : RepX K H' ω' e cls dd := h.mv g.mv

inductive R (α : Type) where
  | ok (a : α) (s : S) | exc (e : Ex) (s : S) | bad
def R.bind {α β : Type} (r : R α) (k : α → S → R β) : R β := match r with
  | .ok a s => k a s
  | .exc e s => .exc e s
  | .bad => .bad
def R.of {α : Type} : Option (α × S) → R α
  | some (a, s) => .ok a s
  | none => .bad
@[simp] theorem R.bind_ok {α β : Type} (a : α) (s : S) (k : α → S → R β) : (R.ok a s).bind k = k a s := rfl
@[simp] theorem R.bind_exc {α β : Type} (e : Ex) (s : S) (k : α → S → R β) : (R.exc e s : R α).bind k = .exc e s := rfl
@[simp] theorem R.bind_bad {α β : Type} (k : α → S → R β) : (R.bad : R α).bind k = .bad := rfl
@[simp] theorem R.of_some {α : Type} (a : α) (s : S) : R.of (some (a, s)) = .ok a s := rfl
@[simp] theorem R.of_none {α : Type} : (R.of none : R α) = .bad := rfl

/-- the slots of a def; in an except suite the slot that holds the exception, and what that is -/
structure Sl where
  v : List (Option D)
  x : Option (Nat × Ex) := none
inductive RS where
  | nx (env : Sl) (s : S) | ret (d : D) (s : S) | brk (env : Sl) (s : S) | cnt (env : Sl) (s : S) | exc (e : Ex) (env : Sl) (s : S) | bad

abbrev Xi := Option (Addr × Value × Option Addr)
structure RepE (K : PySem.W.Frag) (Ξ : Xi) (H : Hp) (ω : Om) (env : Sl) (σ : L2.St) : Prop where
  len : env.v.length = σ.length
  at_ : ∀ (i : Nat) d, env.v[i]? = some (some d) → ∃ v, σ[i]? = some (some v) ∧ Rep K H ω d v
  ex : ∀ i e, env.x = some (i, e) → ∃ a cls dd, Ξ = some (a, cls, dd) ∧ σ[i]? = some (some (.ref a)) ∧ RepX K H ω e cls dd
theorem RepE.mv {K : PySem.W.Frag} {Ξ : Xi} {H H' : Hp} {ω ω' : Om} {env : Sl} {σ : L2.St} (h : RepE K Ξ H ω env σ) (g : Mv H ω H' ω') : RepE K Ξ H' ω' env σ :=
  ⟨h.len, fun i d e => let ⟨v, e1, r⟩ := h.at_ i d e; ⟨v, e1, r.mv g⟩, fun i e q => let ⟨a, c, d, e1, e2, r⟩ := h.ex i e q; ⟨a, c, d, e1, e2, r.mv g⟩⟩
theorem RepE.grow {K : PySem.W.Frag} {Ξ : Xi} {H H' : Hp} {ω ω' : Om} {env : Sl} {σ : L2.St} (h : RepE K Ξ H ω env σ) (g : Grow H ω H' ω') : RepE K Ξ H' ω' env σ :=
  ⟨h.len, fun i d e => let ⟨v, e1, r⟩ := h.at_ i d e; ⟨v, e1, r.grow g⟩, fun i e q => let ⟨a, c, d, e1, e2, r⟩ := h.ex i e q; ⟨a, c, d, e1, e2, r.grow g⟩⟩
theorem RepE.set {K : PySem.W.Frag} {Ξ : Xi} {H : Hp} {ω : Om} {env : Sl} {σ : L2.St} (h : RepE K Ξ H ω env σ) {i : Nat} {d : D} {v : V} (r : Rep K H ω d v) (hx : ∀ j e, env.x = some (j, e) → j ≠ i) :
    RepE K Ξ H ω { env with v := env.v.set i (some d) } (σ.set i (some v)) := by
  refine ⟨by simp [h.len], fun j d' e => ?_, fun j e q => ?_⟩
  · by_cases hj : i = j
    · subst hj
      have hl : i < env.v.length := by
        have := (List.getElem?_eq_some_iff.mp e).1
        simpa using this
      rw [List.getElem?_set_self hl] at e
      cases e
      exact ⟨v, List.getElem?_set_self (h.len ▸ hl), r⟩
    · rw [List.getElem?_set_ne hj] at e
      obtain ⟨w, e1, r1⟩ := h.at_ j d' e
      exact ⟨w, by rw [List.getElem?_set_ne hj]; exact e1, r1⟩
  · obtain ⟨a, c, dd, e1, e2, r1⟩ := h.ex j e q
    exact ⟨a, c, dd, e1, by rw [List.getElem?_set_ne (Ne.symm (hx j e q))]; exact e2, r1⟩

section
variable {α β γ δ : Type} {K : PySem.W.Frag} {Ξ : Xi} {H H' : Hp} {ω ω' : Om} {E : XK} {Rl : Hp → Om → α → β → Prop} {Rl' : Hp → Om → γ → δ → Prop}
def post (K : PySem.W.Frag) (Rl : Hp → Om → α → β → Prop) (H : Hp) (ω : Om) (Q : β → Hp → Prop) (E : XK) : R α → Prop
  | .ok a S' => ∀ b H' ω', Grow H ω H' ω' → Rl H' ω' a b → RepS K H' ω' S' → Q b H'
  | .exc e S' => ∀ cls dd H' ω', Grow H ω H' ω' → RepX K H' ω' e cls dd → RepS K H' ω' S' → E cls dd H'
  | .bad => False
theorem post_grow {Q : β → Hp → Prop} {r : R α} (g : Grow H ω H' ω') (h : post K Rl H ω Q E r) : post K Rl H' ω' Q E r := by
  cases r with
  | ok a S' => exact fun b H2 ω2 g2 => h b H2 ω2 (g.trans g2)
  | exc e S' => exact fun c d H2 ω2 g2 => h c d H2 ω2 (g.trans g2)
  | bad => exact h
theorem post_imp {Q Q' : β → Hp → Prop} {E' : XK} {r : R α} (h : post K Rl H ω Q E r) (k : ∀ b H', Q b H' → Q' b H') (ke : ∀ c d H', E c d H' → E' c d H') : post K Rl H ω Q' E' r := by
  cases r with
  | ok a S' => exact fun b H2 ω2 g2 r2 s2 => k _ _ (h b H2 ω2 g2 r2 s2)
  | exc e S' => exact fun c d H2 ω2 g2 r2 s2 => ke _ _ _ (h c d H2 ω2 g2 r2 s2)
  | bad => exact h
theorem post_bind {Q : δ → Hp → Prop} {r : R α} {k : α → S → R γ} (h : post K Rl' H ω Q E (r.bind k)) :
    post K Rl H ω (fun b H' => ∃ ω' a S', Grow H ω H' ω' ∧ Rl H' ω' a b ∧ RepS K H' ω' S' ∧ post K Rl' H' ω' Q E (k a S')) E r := by
  cases r with
  | ok a S' => exact fun b H2 ω2 g2 r2 s2 => ⟨ω2, a, S', g2, r2, s2, post_grow g2 h⟩
  | exc e S' => exact h
  | bad => exact h
/-- the reading of a denotation -/
def tG (K : PySem.W.Frag) (Ξ : Xi) (W : WX) (Rl : Hp → Om → α → β → Prop) (m : Sl → S → R α) : L2.St → Hp → (β → Hp → Prop) → Prop :=
  fun σ H Q => ∃ env ω S, RepE K Ξ H ω env σ ∧ RepS K H ω S ∧ post K Rl H ω Q (fun c d H' => W c d σ H') (m env S)
theorem seqG {W : WX} {σ : L2.St} {env : Sl} {S : S} {ma : Sl → Dn.S → R α} {k : α → Dn.S → R γ} {Q : β → Hp → Prop} {Q' : δ → Hp → Prop} (hE : RepE K Ξ H ω env σ) (hS : RepS K H ω S)
    (h : post K Rl' H ω Q' (fun c d H' => W c d σ H') ((ma env S).bind k))
    (hk : ∀ b H' ω' a S', Grow H ω H' ω' → Rl H' ω' a b → RepS K H' ω' S' → RepE K Ξ H' ω' env σ → post K Rl' H' ω' Q' (fun c d H' => W c d σ H') (k a S') → Q b H') : tG K Ξ W Rl ma σ H Q :=
  ⟨env, ω, S, hE, hS, post_imp (post_bind h) (fun b H' ⟨ω', a, S', g, r, s, p⟩ => hk b H' ω' a S' g r s (hE.grow g) p) fun _ _ _ z => z⟩
end
abbrev tD (K : PySem.W.Frag) (Ξ : Xi) (W : WX) (m : Sl → S → R D) : TE := tG K Ξ W (Rep K) m
abbrev tL (K : PySem.W.Frag) (Ξ : Xi) (W : WX) (m : Sl → S → R (List D)) : TA := tG K Ξ W (RepL K) m
abbrev tBo (K : PySem.W.Frag) (Ξ : Xi) (W : WX) (m : Sl → S → R Bool) : TT := tG K Ξ W (fun _ _ (b c : Bool) => b = c) m
abbrev EM := Sl → S → R D
abbrev LM := Sl → S → R (List D)
abbrev BM := Sl → S → R Bool
abbrev SM := Sl → S → RS

def spost (K : PySem.W.Frag) (Ξ : Xi) (H : Hp) (ω : Om) (D : Ends) (W : WX) : RS → Prop
  | .nx env' S' => ∀ σ' H' ω', Grow H ω H' ω' → RepE K Ξ H' ω' env' σ' → RepS K H' ω' S' → D.nx σ' H'
  | .ret d S' => ∀ v H' ω', Grow H ω H' ω' → Rep K H' ω' d v → RepS K H' ω' S' → D.rt v H'
  | .brk env' S' => ∀ σ' H' ω', Grow H ω H' ω' → RepE K Ξ H' ω' env' σ' → RepS K H' ω' S' → D.bk σ' H'
  | .cnt env' S' => ∀ σ' H' ω', Grow H ω H' ω' → RepE K Ξ H' ω' env' σ' → RepS K H' ω' S' → D.ct σ' H'
  | .exc e env' S' => ∀ cls dd σ' H' ω', Grow H ω H' ω' → RepX K H' ω' e cls dd → RepE K Ξ H' ω' env' σ' → RepS K H' ω' S' → W cls dd σ' H'
  | .bad => False
theorem spost_grow {K : PySem.W.Frag} {Ξ : Xi} {H H' : Hp} {ω ω' : Om} {D : Ends} {W : WX} {r : RS} (g : Grow H ω H' ω') (h : spost K Ξ H ω D W r) : spost K Ξ H' ω' D W r := by
  cases r with
  | nx env S' => exact fun a H2 ω2 g2 => h a H2 ω2 (g.trans g2)
  | ret d S' => exact fun a H2 ω2 g2 => h a H2 ω2 (g.trans g2)
  | brk env S' => exact fun a H2 ω2 g2 => h a H2 ω2 (g.trans g2)
  | cnt env S' => exact fun a H2 ω2 g2 => h a H2 ω2 (g.trans g2)
  | exc e env S' => exact fun c d a H2 ω2 g2 => h c d a H2 ω2 (g.trans g2)
  | bad => exact h
/-- the reading of a statement's denotation -/
def sD (K : PySem.W.Frag) (Ξ : Xi) (W : WX) (m : SM) : TS := fun D σ H => ∃ env ω S, RepE K Ξ H ω env σ ∧ RepS K H ω S ∧ spost K Ξ H ω D W (m env S)
end Dn
end

section
/-! # Dn2: rules for expressions and statements -/
namespace Dn
open PySem L2
section
variable {X : Cx}
theorem PE_weak {e : Expr} {t t' : TE} (h : PE X e t) (k : ∀ σ H Q, t' σ H Q → t σ H Q) : PE X e t' := ⟨fun pins s σ H Q I q => h.run pins s σ H Q I (k σ H Q q)⟩
theorem PT_weak {e : Expr} {t t' : TT} (h : PT X e t) (k : ∀ σ H Q, t' σ H Q → t σ H Q) : PT X e t' := ⟨fun pins s σ H Q I q => h.run pins s σ H Q I (k σ H Q q)⟩
theorem PW_weak {e : Expr} {t t' : TT} (h : PW X e t) (k : ∀ σ H Q, t' σ H Q → t σ H Q) : PW X e t' := ⟨fun wh pins s σ H Q I q => h.run wh pins s σ H Q I (k σ H Q q)⟩
theorem PA_weak {es : List Expr} {t t' : TA} (h : PA X es t) (k : ∀ σ H Q, t' σ H Q → t σ H Q) : PA X es t' := ⟨fun p pins s σ H Q I q => h.run p pins s σ H Q I (k σ H Q q)⟩
theorem PS_weak {st : Stmt} {t t' : TS} (h : PS X st t) (k : ∀ D σ H, t' D σ H → t D σ H) : PS X st t' := ⟨fun pins s σ H D I q => h.run pins s σ H D I (k D σ H q)⟩
theorem PSs_weak {st : List Stmt} {t t' : TS} (h : PSs X st t) (k : ∀ D σ H, t' D σ H → t D σ H) : PSs X st t' := ⟨fun pins s σ H D I q => h.run pins s σ H D I (k D σ H q)⟩
theorem PG_weak {e : Expr} {t t' : TG} (h : PG X e t) (k : ∀ v σ H Q, t' v σ H Q → t v σ H Q) : PG X e t' := ⟨fun pins s σ H v u Q I r q => h.run pins s σ H v u Q I r (k v σ H Q q)⟩
theorem PI_weak {tg e : Expr} {t t' : TI} (h : PI X tg e t) (k : ∀ σ H R, t' σ H R → t σ H R) : PI X tg e t' := ⟨fun pins s σ H R I q => h.run pins s σ H R I (k σ H R q)⟩
end

/-! ### the combinators -/
def varE (i : Nat) : EM := fun env S => match env.v[i]? with
  | some (some d) => .ok d S
  | _ => .bad
def cE (d : D) : EM := fun _ S => .ok d S
abbrev Op1 := D → S → Option (D × S)
abbrev Op2 := D → D → S → Option (D × S)
abbrev OpN := List D → S → Option (D × S)
abbrev OpM := D → List D → S → Option (D × S)
def unE (f : Op1) (a : EM) : EM := fun env S => (a env S).bind fun x S1 => R.of (f x S1)
def binE (f : Op2) (a b : EM) : EM := fun env S => (a env S).bind fun x S1 => (b env S1).bind fun y S2 => R.of (f x y S2)
def nilL : LM := fun _ S => .ok [] S
def consL (a : EM) (r : LM) : LM := fun env S => (a env S).bind fun x S1 => (r env S1).bind fun xs S2 => .ok (x :: xs) S2
def callNE (f : OpN) (r : LM) : EM := fun env S => (r env S).bind fun xs S1 => R.of (f xs S1)
def callFE (F : List D → S → R D) (r : LM) : EM := fun env S => (r env S).bind fun xs S1 => F xs S1
/-- what a list, a dict that is changed holds now -/
def refV (n : Nat) : Option O → D
  | some (.lst xs) => .lst xs
  | some (.dic ks xs) => .dic ks xs
  | none => .ref n
def view (S : S) : D → D
  | .ref n => refV n S[n]?
  | d => d
def truD (S : S) (d : D) : Option Bool := match view S d with
  | .non => some false
  | .bl b => some b
  | .int i => some (decide (i ≠ 0))
  | .str x => if x.length ≤ sizeLine then some (decide (x.length ≠ 0)) else none
  | .tup xs => some (!xs.isEmpty)
  | .lst xs => some (!xs.isEmpty)
  | .scr xs => some (!xs.isEmpty)
  | _ => none
def truE (a : EM) : BM := fun env S => (a env S).bind fun x S1 => match truD S1 x with
  | some b => .ok b S1
  | none => .bad
def notB (a : BM) : BM := fun env S => (a env S).bind fun b S1 => .ok (!b) S1
def andB (a b : BM) : BM := fun env S => (a env S).bind fun c S1 => if c = true then b env S1 else .ok false S1
def orB (a b : BM) : BM := fun env S => (a env S).bind fun c S1 => if c = true then .ok true S1 else b env S1
/-- a comparison as a test: its answer is a truth -/
def cmpB (a : EM) : BM := fun env S => (a env S).bind fun x S1 => match x with
  | .bl b => .ok b S1
  | _ => .bad
def andE (a b : EM) : EM := fun env S => (a env S).bind fun x S1 => match truD S1 x with
  | some true => b env S1
  | some false => .ok x S1
  | none => .bad
def orE (a b : EM) : EM := fun env S => (a env S).bind fun x S1 => match truD S1 x with
  | some true => .ok x S1
  | some false => b env S1
  | none => .bad
def notE (a : EM) : EM := fun env S => (a env S).bind fun x S1 => match truD S1 x with
  | some b => .ok (.bl (!b)) S1
  | none => .bad
def ifE (c : BM) (a b : EM) : EM := fun env S => (c env S).bind fun k S1 => if k = true then a env S1 else b env S1
/-- a < b < c -/
def chainE (f g : Op2) (a b c : EM) : EM := fun env S => (a env S).bind fun x S1 => (b env S1).bind fun y S2 => (R.of (f x y S2)).bind fun z S3 => match z with
  | .bl true => (c env S3).bind fun u S4 => R.of (g y u S4)
  | .bl false => .ok (.bl false) S3
  | _ => .bad

section
variable {K : PySem.W.Frag} {H : Hp} {ω : Om} {S : S}
/-! ### facts of Rep -/
theorem Rep.int_ {i : Int} {v : V} (h : Rep K H ω (.int i) v) : v = .int i := by unfold Rep at h; exact h
theorem Rep.bl_ {b : Bool} {v : V} (h : Rep K H ω (.bl b) v) : v = .bl b := by unfold Rep at h; exact h
theorem Rep.str_ {x : Str} {v : V} (h : Rep K H ω (.str x) v) : v = .str x := by unfold Rep at h; exact h
theorem Rep.non_ {v : V} (h : Rep K H ω .non v) : v = .non := by unfold Rep at h; exact h
theorem Rep.val_ {u v : V} (h : Rep K H ω (.val u) v) : v = u := by unfold Rep at h; exact h
theorem Rep.tup_ {ds : List D} {v : V} (h : Rep K H ω (.tup ds) v) : ∃ a xs, v = .ref a ∧ (ω.N a ∧ Rd H a (.tup xs) ∨ KTup K a xs) ∧ RepL K H ω ds xs := by unfold Rep at h; exact h
theorem Rep.lst_ {ds : List D} {v : V} (h : Rep K H ω (.lst ds) v) : ∃ a xs, v = .ref a ∧ ω.N a ∧ H a = some (.lst xs) ∧ RepL K H ω ds xs := by unfold Rep at h; exact h
theorem Rep.scr_ {ns : List Int} {v : V} (h : Rep K H ω (.scr ns) v) : ∃ a, v = .ref a ∧ (ω.N a ∧ Rd H a (.lst (ns.map V.int)) ∨ KLst K a (ns.map V.int)) := by unfold Rep at h; exact h
theorem Rep.dic_ {ks : List Key} {ds : List D} {v : V} (h : Rep K H ω (.dic ks ds) v) : ∃ a xs, v = .ref a ∧ ω.N a ∧ Rd H a (.dK (ks.zip xs)) ∧ ks.length = ds.length ∧ RepL K H ω ds xs := by unfold Rep at h; exact h
theorem Rep.ref_ {n : Nat} {v : V} (h : Rep K H ω (.ref n) v) : ∃ a, v = .ref a ∧ ω.ρ[n]? = some a := by unfold Rep at h; exact h
theorem rep_int {i : Int} : Rep K H ω (.int i) (.int i) := by unfold Rep; rfl
theorem rep_bl {b : Bool} : Rep K H ω (.bl b) (.bl b) := by unfold Rep; rfl
theorem rep_str {b : Str} : Rep K H ω (.str b) (.str b) := by unfold Rep; rfl
theorem rep_non : Rep K H ω .non .non := by unfold Rep; rfl
theorem rep_val {v : V} : Rep K H ω (.val v) v := by unfold Rep; rfl
theorem tup_sq {a : Addr} {xs : List V} (h : ω.N a ∧ Rd H a (.tup xs) ∨ KTup K a xs) : SqT K H a xs := by
  rcases h with ⟨_, h⟩ | h
  · exact .inl h
  · exact .inr h
theorem scr_sq {a : Addr} {xs : List V} (h : ω.N a ∧ Rd H a (.lst xs) ∨ KLst K a xs) : SqL K H a xs := by
  rcases h with ⟨_, h⟩ | h
  · exact .inl h
  · exact .inr h
theorem RepL.nil_ {xs : List V} (h : RepL K H ω [] xs) : xs = [] := by unfold RepL at h; exact h
theorem RepL.cons_ {d : D} {ds : List D} {xs : List V} (h : RepL K H ω (d :: ds) xs) : ∃ x r, xs = x :: r ∧ Rep K H ω d x ∧ RepL K H ω ds r := by unfold RepL at h; exact h
theorem repL_nil : RepL K H ω [] [] := by unfold RepL; rfl
theorem repL_cons {d : D} {ds : List D} {x : V} {xs : List V} (h : Rep K H ω d x) (t : RepL K H ω ds xs) : RepL K H ω (d :: ds) (x :: xs) := by unfold RepL; exact ⟨x, xs, rfl, h, t⟩
theorem RepL.len : ∀ {ds : List D} {xs : List V}, RepL K H ω ds xs → ds.length = xs.length
  | [], _, h => by rw [h.nil_]; rfl
  | d :: ds, _, h => by
    obtain ⟨x, r, e, _, t⟩ := h.cons_
    rw [e, List.length_cons, List.length_cons, t.len]
theorem RepL.get : ∀ {ds : List D} {xs : List V} {i : Nat} {d : D}, RepL K H ω ds xs → ds[i]? = some d → ∃ x, xs[i]? = some x ∧ Rep K H ω d x
  | [], _, _, _, _, e => by simp at e
  | d :: ds, _, 0, _, h, e => by
    obtain ⟨x, r, e1, h1, _⟩ := h.cons_
    simp at e
    subst e
    exact ⟨x, by rw [e1]; rfl, h1⟩
  | d :: ds, _, i + 1, d', h, e => by
    obtain ⟨x, r, e1, _, t⟩ := h.cons_
    obtain ⟨y, e2, r2⟩ := RepL.get (i := i) (d := d') t (by simpa using e)
    exact ⟨y, by rw [e1]; simpa using e2, r2⟩
theorem RepL.append : ∀ {ds es : List D} {xs ys : List V}, RepL K H ω ds xs → RepL K H ω es ys → RepL K H ω (ds ++ es) (xs ++ ys)
  | [], _, _, _, h, k => by rw [h.nil_]; exact k
  | d :: ds, _, _, _, h, k => by
    obtain ⟨x, r, e, h1, t⟩ := h.cons_
    rw [e]
    exact repL_cons h1 (t.append k)
theorem RepL.take : ∀ {ds : List D} {xs : List V} (n : Nat), RepL K H ω ds xs → RepL K H ω (ds.take n) (xs.take n)
  | ds, xs, 0, _ => by simp [RepL]
  | [], _, n + 1, h => by rw [h.nil_]; simp [RepL]
  | d :: ds, _, n + 1, h => by
    obtain ⟨x, r, e, h1, t⟩ := h.cons_
    rw [e]
    exact repL_cons h1 (t.take n)
theorem RepL.drop : ∀ {ds : List D} {xs : List V} (n : Nat), RepL K H ω ds xs → RepL K H ω (ds.drop n) (xs.drop n)
  | _, _, 0, h => h
  | [], _, n + 1, h => by rw [h.nil_]; simp [RepL]
  | d :: ds, _, n + 1, h => by
    obtain ⟨x, r, e, h1, t⟩ := h.cons_
    rw [e]
    exact t.drop n
theorem RepL.set {d : D} {x : V} (r : Rep K H ω d x) : ∀ {ds : List D} {xs : List V} (n : Nat), RepL K H ω ds xs → RepL K H ω (ds.set n d) (xs.set n x)
  | [], _, _, h => by rw [h.nil_]; simp [RepL]
  | e :: ds, _, 0, h => by
    obtain ⟨y, q, e, h1, t⟩ := h.cons_
    rw [e]
    exact repL_cons r t
  | e :: ds, _, n + 1, h => by
    obtain ⟨y, q, e, h1, t⟩ := h.cons_
    rw [e]
    exact repL_cons h1 (RepL.set r n t)
theorem RepL.rev : ∀ {ds : List D} {xs : List V}, RepL K H ω ds xs → RepL K H ω ds.reverse xs.reverse
  | [], _, h => by rw [h.nil_]; simp [RepL]
  | d :: ds, _, h => by
    obtain ⟨x, r, e, h1, t⟩ := h.cons_
    rw [e, List.reverse_cons, List.reverse_cons]
    exact t.rev.append (repL_cons h1 repL_nil)
theorem RepL.ints : ∀ ns : List Int, RepL K H ω (ns.map D.int) (ns.map V.int)
  | [] => repL_nil
  | _ :: ns => repL_cons rep_int (RepL.ints ns)
/-- a changed object -/
theorem RepS.lst_at (hS : RepS K H ω S) {n : Nat} {a : Addr} {ds : List D} (ha : ω.ρ[n]? = some a) (e : S[n]? = some (.lst ds)) : ∃ xs, H a = some (.lst xs) ∧ RepL K H ω ds xs := hS.at_ n a _ ha e
theorem RepS.dic_at (hS : RepS K H ω S) {n : Nat} {a : Addr} {ks : List Key} {ds : List D} (ha : ω.ρ[n]? = some a) (e : S[n]? = some (.dic ks ds)) :
    ∃ xs, H a = some (.dK (ks.zip xs)) ∧ ks.length = ds.length ∧ RepL K H ω ds xs := hS.at_ n a _ ha e
/-- a list, changed or not: its items, exactly tracked -/
theorem view_lst (hS : RepS K H ω S) {d : D} {v : V} {ds : List D} (r : Rep K H ω d v) (e : view S d = .lst ds) : ∃ a xs, v = .ref a ∧ H a = some (.lst xs) ∧ RepL K H ω ds xs := by
  cases d with
  | ref n =>
    obtain ⟨a, rfl, ha⟩ := r.ref_
    replace e : refV n S[n]? = _ := e
    cases q : S[n]? with
    | none => rw [q] at e; cases e
    | some o =>
      rw [q] at e
      cases o with
      | lst xs =>
        have : xs = ds := by injection e
        subst this
        obtain ⟨ys, h1, h2⟩ := hS.lst_at ha q
        exact ⟨a, ys, rfl, h1, h2⟩
      | dic ks xs => cases e
  | lst xs =>
    have : xs = ds := by injection e
    subst this
    obtain ⟨a, ys, rfl, _, h1, h2⟩ := r.lst_
    exact ⟨a, ys, rfl, h1, h2⟩
  | non => cases e
  | bl _ => cases e
  | int _ => cases e
  | str _ => cases e
  | tup _ => cases e
  | dic _ _ => cases e
  | scr _ => cases e
  | val _ => cases e
theorem view_dic (hS : RepS K H ω S) {d : D} {v : V} {ks : List Key} {ds : List D} (r : Rep K H ω d v) (e : view S d = .dic ks ds) : ∃ a xs, v = .ref a ∧ Rd H a (.dK (ks.zip xs)) ∧ ks.length = ds.length ∧ RepL K H ω ds xs := by
  cases d with
  | ref n =>
    obtain ⟨a, rfl, ha⟩ := r.ref_
    replace e : refV n S[n]? = _ := e
    cases q : S[n]? with
    | none => rw [q] at e; cases e
    | some o =>
      rw [q] at e
      cases o with
      | lst xs => cases e
      | dic ls xs =>
        injection e with e1 e2
        subst e1; subst e2
        obtain ⟨ys, h1, h2, h3⟩ := hS.dic_at ha q
        exact ⟨a, ys, rfl, .inl h1, h2, h3⟩
  | dic ls xs =>
    injection e with e1 e2
    subst e1; subst e2
    obtain ⟨a, ys, rfl, _, h1, h2, h3⟩ := r.dic_
    exact ⟨a, ys, rfl, h1, h2, h3⟩
  | non => cases e
  | bl _ => cases e
  | int _ => cases e
  | str _ => cases e
  | tup _ => cases e
  | lst _ => cases e
  | scr _ => cases e
  | val _ => cases e
theorem view_eq {d d' : D} (e : view S d = d') (h : ∀ n, d ≠ .ref n) : d = d' := by
  cases d with
  | ref n => exact absurd rfl (h n)
  | _ => exact e
/-- what is seen through view and is no list, no dict, is it -/
theorem view_same {d d' : D} (e : view S d = d') (h1 : ∀ xs, d' ≠ .lst xs) (h2 : ∀ ks xs, d' ≠ .dic ks xs) (h3 : ∀ n, d' ≠ .ref n) : d = d' := by
  cases d with
  | ref n =>
    replace e : refV n S[n]? = _ := e
    cases q : S[n]? with
    | none => rw [q] at e; exact absurd e.symm (h3 n)
    | some o =>
      rw [q] at e
      cases o with
      | lst xs => exact absurd e.symm (h1 xs)
      | dic ks xs => exact absurd e.symm (h2 ks xs)
  | _ => exact e
end

section
variable {X : Cx} {Ξ : Xi} {W : WX} {pos : Pos} {a b c e : Expr} {ma mb mc : EM} {es : List Expr}
abbrev DE (X : Cx) (Ξ : Xi) (W : WX) (e : Expr) (m : EM) : Prop := PE X e (tD X.K Ξ W m)
abbrev DL (X : Cx) (Ξ : Xi) (W : WX) (es : List Expr) (m : LM) : Prop := PA X es (tL X.K Ξ W m)
abbrev DB (X : Cx) (Ξ : Xi) (W : WX) (e : Expr) (m : BM) : Prop := PT X e (tBo X.K Ξ W m)
abbrev DW (X : Cx) (Ξ : Xi) (W : WX) (e : Expr) (m : BM) : Prop := PW X e (tBo X.K Ξ W m)
abbrev DS (X : Cx) (Ξ : Xi) (W : WX) (st : Stmt) (m : SM) : Prop := PS X st (sD X.K Ξ W m)
abbrev DSs (X : Cx) (Ξ : Xi) (W : WX) (st : List Stmt) (m : SM) : Prop := PSs X st (sD X.K Ξ W m)

/-! ### operators by values -/
def rO (K : PySem.W.Frag) (op : Op2) : R2 := fun x y H Q => ∃ ω S d1 d2, Rep K H ω d1 x ∧ Rep K H ω d2 y ∧ RepS K H ω S ∧ post K (Rep K) H ω Q (fun _ _ _ => False) (R.of (op d1 d2 S))
def rO1 (K : PySem.W.Frag) (op : Op1) : V → Hp → VK → Prop := fun x H Q => ∃ ω S d1, Rep K H ω d1 x ∧ RepS K H ω S ∧ post K (Rep K) H ω Q (fun _ _ _ => False) (R.of (op d1 S))
def rON (K : PySem.W.Frag) (op : OpN) : List V → Hp → VK → Prop := fun xs H Q => ∃ ω S ds, RepL K H ω ds xs ∧ RepS K H ω S ∧ post K (Rep K) H ω Q (fun _ _ _ => False) (R.of (op ds S))
def rOM (K : PySem.W.Frag) (op : OpM) : V → List V → Hp → VK → Prop := fun x xs H Q => ∃ ω S d ds, Rep K H ω d x ∧ RepL K H ω ds xs ∧ RepS K H ω S ∧ post K (Rep K) H ω Q (fun _ _ _ => False) (R.of (op d ds S))
abbrev DO (X : Cx) (f : Value → Value → Sem Value) (op : Op2) : Prop := OpR X f (rO X.K op)
abbrev DU (X : Cx) (f : Value → Sem Value) (op : Op1) : Prop := UnR X f (rO1 X.K op)
abbrev DN (X : Cx) (f : Value) (op : OpN) : Prop := CallR X f (rON X.K op)
abbrev DM (X : Cx) (id : String) (op : OpM) : Prop := MtR X id (rOM X.K op)
theorem post_of {K : PySem.W.Frag} {H : Hp} {ω : Om} {Q : VK} {E : XK} {o : Option (D × S)} (h : post K (Rep K) H ω Q E (R.of o)) : post K (Rep K) H ω Q (fun _ _ _ => False) (R.of o) := by
  cases o with
  | none => exact h
  | some p => exact h

theorem de_var {i : Nat} {x : Str} (hN : X.N[i]? = some x := by rfl) (hv : Vis X.env.scope x := by first | exact Or.inl rfl | exact Or.inr (Or.inl rfl) | exact Or.inr (Or.inr rfl)) (hd : (x == ("__debug__" : Str)) = false := by decide)
    (hcd : (x == ("__classdict__" : Str)) = false := by decide) : DE X Ξ W (.Name x pos) (varE i) :=
  PE_weak (pe_var hN hv hd hcd) fun σ H Q ⟨env, ω, S, hE, hS, p⟩ => by
    unfold varE at p
    cases q : env.v[i]? with
    | none => rw [q] at p; exact p.elim
    | some o =>
      cases o with
      | none => rw [q] at p; exact p.elim
      | some d =>
        rw [q] at p
        obtain ⟨v, e, r⟩ := hE.at_ i d q
        exact ⟨v, e, p v H ω .refl r hS⟩
theorem de_const {t : TE} {d : D} {v : V} (h : PE X e (tC v)) (r : ∀ H ω, Rep X.K H ω d v) : DE X Ξ W e (cE d) :=
  PE_weak h fun σ H Q ⟨env, ω, S, hE, hS, p⟩ => p v H ω .refl (r H ω) hS
theorem de_int {i j} : DE X Ξ W (.Constant (.int i) j pos) (cE (.int i)) := de_const (t := tC (.int i)) pe_int fun _ _ => rep_int
theorem de_bl {b j} : DE X Ξ W (.Constant (.bool b) j pos) (cE (.bl b)) := de_const (t := tC (.bl b)) pe_bl fun _ _ => rep_bl
theorem de_non {j} : DE X Ξ W (.Constant .none j pos) (cE .non) := de_const (t := tC .non) pe_non fun _ _ => rep_non
theorem de_str {x j} : DE X Ξ W (.Constant (.str x) j pos) (cE (.str x)) := de_const (t := tC (.str x)) pe_str fun _ _ => rep_str
theorem de_un {op : UnaryOp} {f : Op1} (ho : DU X (unaryOp op) f) (ha : DE X Ξ W a ma) : DE X Ξ W (.UnaryOp op a pos) (unE f ma) :=
  PE_weak (pe_un ho ha) fun σ H Q ⟨env, ω, S, hE, hS, p⟩ => seqG hE hS p fun x H1 ω1 d1 S1 g1 r1 s1 e1 p1 => ⟨ω1, S1, d1, r1, s1, post_of p1⟩
theorem bin_imp {f : Op2} {σ : L2.St} {H : Hp} {Q : VK} : tD X.K Ξ W (binE f ma mb) σ H Q → tOp (rO X.K f) (tD X.K Ξ W ma) (tD X.K Ξ W mb) σ H Q := fun ⟨env, ω, S, hE, hS, p⟩ =>
  seqG hE hS p fun x H1 ω1 d1 S1 g1 r1 s1 e1 p1 => seqG e1 s1 p1 fun y H2 ω2 d2 S2 g2 r2 s2 e2 p2 => ⟨ω2, S2, d1, d2, r1.grow g2, r2, s2, post_of p2⟩
theorem de_bin {op : Operator} {f : Op2} (ho : DO X (binaryOp op) f) (ha : DE X Ξ W a ma) (hb : DE X Ξ W b mb) : DE X Ξ W (.BinOp a op b pos) (binE f ma mb) :=
  PE_weak (pe_op ho ha hb) fun σ H Q h => bin_imp h
theorem de_cmp {op : CmpOp} {f : Op2} (ho : DO X (compareOp op) f) (ha : DE X Ξ W a ma) (hb : DE X Ξ W b mb) (hm : behindInMarks op b = false := by rfl) : DE X Ξ W (.Compare a [op] [b] pos) (binE f ma mb) :=
  PE_weak (pe_cmpR ho ha hb hm) fun σ H Q h => bin_imp h
theorem db_of {t : TE} {m : EM} {σ : L2.St} {H : Hp} {Q : Bool → Hp → Prop} (h : ∀ σ H Q, tD X.K Ξ W m σ H Q → t σ H Q) : tBo X.K Ξ W (cmpB m) σ H Q → tTest t σ H Q := fun ⟨env, ω, S, hE, hS, p⟩ => by
  refine h σ H _ ?_
  refine seqG hE hS p fun x H1 ω1 d1 S1 g1 r1 s1 e1 p1 => ?_
  cases d1 with
  | bl b =>
    rw [r1.bl_]
    exact ⟨b, rfl, p1 b H1 ω1 .refl rfl s1⟩
  | _ => exact p1.elim
theorem db_cmp {op : CmpOp} {f : Op2} (ho : DO X (compareOp op) f) (ha : DE X Ξ W a ma) (hb : DE X Ξ W b mb) (hm : behindInMarks op b = false := by rfl) : DB X Ξ W (.Compare a [op] [b] pos) (cmpB (binE f ma mb)) :=
  PT_weak (pt_cmpR ho ha hb hm) fun σ H Q h => db_of (t := tOp (rO X.K f) (tD X.K Ξ W ma) (tD X.K Ξ W mb)) (fun σ H Q h => bin_imp h) h
theorem chain_imp {f g : Op2} {σ : L2.St} {H : Hp} {Q : VK} : tD X.K Ξ W (chainE f g ma mb mc) σ H Q → tChain (rO X.K f) (rO X.K g) (tD X.K Ξ W ma) (tD X.K Ξ W mb) (tD X.K Ξ W mc) σ H Q := fun ⟨env, ω, S, hE, hS, p⟩ =>
  seqG hE hS p fun x H1 ω1 d1 S1 g1 r1 s1 e1 p1 => seqG e1 s1 p1 fun y H2 ω2 d2 S2 g2 r2 s2 e2 p2 => by
    refine ⟨ω2, S2, d1, d2, r1.grow g2, r2, s2, post_of (post_imp (post_bind p2) (fun z H3 ⟨ω3, d3, S3, g3, r3, s3, p3⟩ => ?_) fun _ _ _ z => z)⟩
    cases d3 with
    | bl k =>
      rw [r3.bl_]
      refine ⟨k, rfl, ?_⟩
      cases k with
      | true =>
        rw [if_pos rfl]
        exact seqG (e2.grow g3) s3 p3 fun u H4 ω4 d4 S4 g4 r4 s4 e4 p4 => ⟨ω4, S4, d2, d4, r2.grow (g3.trans g4), r4, s4, post_of p4⟩
      | false =>
        rw [if_neg Bool.false_ne_true]
        exact p3 _ H3 ω3 .refl rep_bl s3
    | _ => exact p3.elim
theorem de_chain {op op' : CmpOp} {f g : Op2} (ho : DO X (compareOp op) f) (ho' : DO X (compareOp op') g) (ha : DE X Ξ W a ma) (hb : DE X Ξ W b mb) (hc : DE X Ξ W c mc)
    (hm : lastMarks [op, op'] [b, c] = false := by with_unfolding_all rfl) : DE X Ξ W (.Compare a [op, op'] [b, c] pos) (chainE f g ma mb mc) := PE_weak (pe_chain ho ho' ha hb hc hm) fun σ H Q h => chain_imp h
theorem db_chain {op op' : CmpOp} {f g : Op2} (ho : DO X (compareOp op) f) (ho' : DO X (compareOp op') g) (ha : DE X Ξ W a ma) (hb : DE X Ξ W b mb) (hc : DE X Ξ W c mc)
    (hm : lastMarks [op, op'] [b, c] = false := by with_unfolding_all rfl) : DB X Ξ W (.Compare a [op, op'] [b, c] pos) (cmpB (chainE f g ma mb mc)) :=
  PT_weak (pt_chain ho ho' ha hb hc hm) fun σ H Q h => db_of (t := tChain (rO X.K f) (rO X.K g) (tD X.K Ξ W ma) (tD X.K Ξ W mb) (tD X.K Ξ W mc)) (fun σ H Q h => chain_imp h) h
/-! ### truth -/
theorem isE_len {α : Type} {xs : List α} {n : Nat} (h : n = xs.length) : (!xs.isEmpty) = decide (n ≠ 0) := by
  cases xs with
  | nil => subst h; rfl
  | cons x r => subst h; simp
theorem isE_rep {K : PySem.W.Frag} {H : Hp} {ω : Om} {ds : List D} {xs : List V} (h : RepL K H ω ds xs) : (!ds.isEmpty) = !xs.isEmpty := by
  have := h.len
  cases ds <;> cases xs <;> simp_all
theorem tru_of {K : PySem.W.Frag} {H : Hp} {ω : Om} {S : S} {d : D} {v : V} {k : Bool} (r : Rep K H ω d v) (hS : RepS K H ω S) (h : truD S d = some k) : TruV K v H k := by
  unfold truD at h
  cases q : view S d with
  | lst ds =>
    rw [q] at h
    obtain ⟨a, xs, rfl, h1, h2⟩ := view_lst hS r q
    have hk : (!ds.isEmpty) = k := Option.some.inj h
    exact .inl ⟨xs, .inl (.inl h1), by rw [← hk, isE_rep h2]⟩
  | dic ks ds => rw [q] at h; cases h
  | ref n => rw [q] at h; cases h
  | val u => rw [q] at h; cases h
  | non =>
    rw [q] at h
    have e := view_same q (by intro _ z; cases z) (by intro _ _ z; cases z) (by intro _ z; cases z)
    subst e
    rw [r.non_]
    exact (Option.some.inj h).symm
  | bl b =>
    rw [q] at h
    have e := view_same q (by intro _ z; cases z) (by intro _ _ z; cases z) (by intro _ z; cases z)
    subst e
    rw [r.bl_]
    exact (Option.some.inj h).symm
  | int i =>
    rw [q] at h
    have e := view_same q (by intro _ z; cases z) (by intro _ _ z; cases z) (by intro _ z; cases z)
    subst e
    rw [r.int_]
    show k = (i != 0)
    rw [← Option.some.inj h]
    by_cases hi : i = 0 <;> simp [hi]
  | str x =>
    rw [q] at h
    have e := view_same q (by intro _ z; cases z) (by intro _ _ z; cases z) (by intro _ z; cases z)
    subst e
    rw [r.str_]
    replace h : (if x.length ≤ sizeLine then some (decide (x.length ≠ 0)) else none) = some k := h
    by_cases hl : x.length ≤ sizeLine
    · rw [if_pos hl] at h
      refine ⟨hl, ?_⟩
      rw [← Option.some.inj h]
      by_cases hz : x.length = 0
      · simp [hz]
      · have : ((x.length : Int) != 0) = true := by simp; omega
        rw [this]; simp [hz]
    · rw [if_neg hl] at h; cases h
  | tup ds =>
    rw [q] at h
    have e := view_same q (by intro _ z; cases z) (by intro _ _ z; cases z) (by intro _ z; cases z)
    subst e
    obtain ⟨a, xs, rfl, h1, h2⟩ := r.tup_
    have hk : (!ds.isEmpty) = k := Option.some.inj h
    exact .inr (.inl ⟨xs, tup_sq h1, by rw [← hk, isE_rep h2]⟩)
  | scr ns =>
    rw [q] at h
    have e := view_same q (by intro _ z; cases z) (by intro _ _ z; cases z) (by intro _ z; cases z)
    subst e
    obtain ⟨a, rfl, h1⟩ := r.scr_
    have hk : (!ns.isEmpty) = k := Option.some.inj h
    exact .inl ⟨_, scr_sq h1, by rw [← hk]; cases ns <;> rfl⟩
theorem db_tru (ha : DE X Ξ W a ma) (he : ∀ whole, isTrue a X.env whole = (do let v ← whole; standAt a.pos; holding [v] (truthy v)) := by intro _; rfl) : DB X Ξ W a (truE ma) :=
  PT_weak (pt_truth ha he) fun σ H Q ⟨env, ω, S, hE, hS, p⟩ => seqG hE hS p fun x H1 ω1 d1 S1 g1 r1 s1 e1 p1 => by
    cases q : truD S1 d1 with
    | none => rw [q] at p1; exact p1.elim
    | some k =>
      rw [q] at p1
      exact ⟨k, tru_of r1 s1 q, p1 k H1 ω1 .refl rfl s1⟩
theorem db_not {m : BM} (ha : DB X Ξ W a m) : DB X Ξ W (.UnaryOp .Not a pos) (notB m) :=
  PT_weak (pt_not ha) fun σ H Q ⟨env, ω, S, hE, hS, p⟩ => seqG hE hS p fun x H1 ω1 d1 S1 g1 r1 s1 e1 p1 => by
    subst r1
    exact p1 _ H1 ω1 .refl rfl s1
theorem dw_and1 {m : BM} (ha : DB X Ξ W a m) : DW X Ξ W (.BoolOp .And [a] pos) m := pw_and1 ha
theorem dw_or1 {m : BM} (ha : DB X Ξ W a m) : DW X Ξ W (.BoolOp .Or [a] pos) m := pw_or1 ha
theorem dw_and {m n : BM} {rest : List Expr} (ha : DB X Ξ W a m) (hb : DW X Ξ W (.BoolOp .And (b :: rest) pos) n) : DW X Ξ W (.BoolOp .And (a :: b :: rest) pos) (andB m n) :=
  PW_weak (pw_and ha hb) fun σ H Q ⟨env, ω, S, hE, hS, p⟩ => seqG hE hS p fun x H1 ω1 d1 S1 g1 r1 s1 e1 p1 => by
    subst r1
    cases d1 with
    | true => exact ⟨env, ω1, S1, e1, s1, p1⟩
    | false => exact p1 _ H1 ω1 .refl rfl s1
theorem dw_or {m n : BM} {rest : List Expr} (ha : DB X Ξ W a m) (hb : DW X Ξ W (.BoolOp .Or (b :: rest) pos) n) : DW X Ξ W (.BoolOp .Or (a :: b :: rest) pos) (orB m n) :=
  PW_weak (pw_or ha hb) fun σ H Q ⟨env, ω, S, hE, hS, p⟩ => seqG hE hS p fun x H1 ω1 d1 S1 g1 r1 s1 e1 p1 => by
    subst r1
    cases d1 with
    | true => exact p1 _ H1 ω1 .refl rfl s1
    | false => exact ⟨env, ω1, S1, e1, s1, p1⟩
theorem db_w {m : BM} (h : DW X Ξ W a m) : DB X Ξ W a m := h.pt
theorem de_one {op} (h : DE X Ξ W a ma) : DE X Ξ W (.BoolOp op [a] pos) ma := pe_one h
theorem de_and {rest : List Expr} (ha : DE X Ξ W a ma) (hb : DE X Ξ W (.BoolOp .And (b :: rest) pos) mb) : DE X Ξ W (.BoolOp .And (a :: b :: rest) pos) (andE ma mb) :=
  PE_weak (pe_andT ha hb) fun σ H Q ⟨env, ω, S, hE, hS, p⟩ => seqG hE hS p fun x H1 ω1 d1 S1 g1 r1 s1 e1 p1 => by
    cases q : truD S1 d1 with
    | none => rw [q] at p1; exact p1.elim
    | some k =>
      rw [q] at p1
      refine ⟨k, tru_of r1 s1 q, ?_⟩
      cases k with
      | true => exact ⟨env, ω1, S1, e1, s1, p1⟩
      | false => exact p1 x H1 ω1 .refl r1 s1
theorem de_or {rest : List Expr} (ha : DE X Ξ W a ma) (hb : DE X Ξ W (.BoolOp .Or (b :: rest) pos) mb) : DE X Ξ W (.BoolOp .Or (a :: b :: rest) pos) (orE ma mb) :=
  PE_weak (pe_orT ha hb) fun σ H Q ⟨env, ω, S, hE, hS, p⟩ => seqG hE hS p fun x H1 ω1 d1 S1 g1 r1 s1 e1 p1 => by
    cases q : truD S1 d1 with
    | none => rw [q] at p1; exact p1.elim
    | some k =>
      rw [q] at p1
      refine ⟨k, tru_of r1 s1 q, ?_⟩
      cases k with
      | true => exact p1 x H1 ω1 .refl r1 s1
      | false => exact ⟨env, ω1, S1, e1, s1, p1⟩
theorem de_not (ha : DE X Ξ W a ma) : DE X Ξ W (.UnaryOp .Not a pos) (notE ma) :=
  PE_weak (pe_notT ha) fun σ H Q ⟨env, ω, S, hE, hS, p⟩ => seqG hE hS p fun x H1 ω1 d1 S1 g1 r1 s1 e1 p1 => by
    cases q : truD S1 d1 with
    | none => rw [q] at p1; exact p1.elim
    | some k =>
      rw [q] at p1
      exact ⟨k, tru_of r1 s1 q, p1 _ H1 ω1 .refl rep_bl s1⟩
theorem de_if {m : BM} (hc : DB X Ξ W c m) (ha : DE X Ξ W a ma) (hb : DE X Ξ W b mb) : DE X Ξ W (.IfExp c a b pos) (ifE m ma mb) :=
  PE_weak (pe_ifExp hc ha hb) fun σ H Q ⟨env, ω, S, hE, hS, p⟩ => seqG hE hS p fun x H1 ω1 d1 S1 g1 r1 s1 e1 p1 => by
    subst r1
    cases d1 with
    | true => exact ⟨env, ω1, S1, e1, s1, p1⟩
    | false => exact ⟨env, ω1, S1, e1, s1, p1⟩
/-! ### lists of arguments -/
theorem dl_nil : DL X Ξ W [] nilL := PA_weak pa_nil fun σ H Q ⟨env, ω, S, hE, hS, p⟩ => p [] H ω .refl repL_nil hS
theorem dl_cons {m : LM} (ha : DE X Ξ W e ma) (hr : DL X Ξ W es m) (hs : starEach (e :: es) X.env = (false, eval e X.env) :: starEach es X.env := by rfl) : DL X Ξ W (e :: es) (consL ma m) :=
  PA_weak (pa_cons ha hr hs) fun σ H Q ⟨env, ω, S, hE, hS, p⟩ => seqG hE hS p fun x H1 ω1 d1 S1 g1 r1 s1 e1 p1 => seqG e1 s1 p1 fun y H2 ω2 d2 S2 g2 r2 s2 e2 p2 =>
    p2 _ H2 ω2 .refl (repL_cons (r1.grow g2) r2) s2
end
end Dn
end

section
/-! # Dn3: new objects, displays, calls, statements, defs -/
namespace Dn
open PySem L2
section
variable {K : PySem.W.Frag} {H : Hp} {ω : Om} {S : S}
theorem fresh_n (hS : RepS K H ω S) {p : Addr} (hp : H p = none) : ω.N p := by
  refine ⟨fun h => ?_, fun h => hS.pi p h hp⟩
  obtain ⟨n, hn⟩ := List.getElem?_of_mem h
  have hl : n < S.length := by rw [← hS.len]; exact (List.getElem?_eq_some_iff.mp hn).1
  have q := hS.at_ n p S[n] hn (by simp [hl])
  cases e : S[n] with
  | lst ds => rw [e] at q; obtain ⟨xs, z, _⟩ := q; rw [hp] at z; cases z
  | dic ks ds => rw [e] at q; obtain ⟨xs, z, _⟩ := q; rw [hp] at z; cases z
theorem grow_new {p : Addr} {o : HO} (hn : ω.N p) (hp : H p = none) : Grow H ω (upd H p o) ω where
  ext := ⟨[], by simp, by simp⟩
  pi := ⟨[], rfl, by simp⟩
  rd := fun a u _ e => ⟨u, by rw [upd_ne (ne_of_none e hp)]; exact e, .refl u⟩
  pk := fun a ha => by rw [upd_ne]; intro h; subst h; exact hn.2 ha
  fresh := fun a h => by
    by_cases e : a = p
    · rw [e]; exact hp
    · rw [upd_ne e] at h; exact h
theorem RepO.grow {H' : Hp} {ω' : Om} (g : Grow H ω H' ω') {a : Addr} {o : O} (h : RepO K H ω a o) (e : H' a = H a) : RepO K H' ω' a o := by
  cases o with
  | lst ds => obtain ⟨xs, h1, h2⟩ := h; exact ⟨xs, e.trans h1, h2.grow g⟩
  | dic ks ds => obtain ⟨xs, h1, h2, h3⟩ := h; exact ⟨xs, e.trans h1, h2, h3.grow g⟩
/-- the changed objects are where they were -/
theorem RepS.grow {H' : Hp} {ω' : Om} (hS : RepS K H ω S) (g : Grow H ω H' ω') (e : ω'.ρ = ω.ρ) (k : ∀ a ∈ ω.ρ, H' a = H a) (ep : ω'.π = ω.π := by rfl) : RepS K H' ω' S where
  len := by rw [e]; exact hS.len
  nd := by rw [e]; exact hS.nd
  at_ := fun n a o h1 h2 => by
    rw [e] at h1
    exact (hS.at_ n a o h1 h2).grow g (k a (List.mem_of_getElem? h1))
  sep := by rw [e, ep]; exact hS.sep
  pi := fun a ha h => hS.pi a (by rw [← ep]; exact ha) (g.fresh a h)
theorem repS_new {p : Addr} {o : HO} (hS : RepS K H ω S) (hp : H p = none) : RepS K (upd H p o) ω S :=
  hS.grow (grow_new (fresh_n hS hp) hp) rfl fun a ha => by
    rw [upd_ne]; intro h; subst h; exact (fresh_n hS hp).1 ha
/-- a new changed object -/
theorem grow_newS {p : Addr} {o : HO} (hn : ω.N p) (hp : H p = none) : Grow H ω (upd H p o) ⟨ω.ρ ++ [p], ω.π⟩ where
  ext := ⟨[p], rfl, fun a ha => by rw [List.mem_singleton.mp ha]; exact hp⟩
  pi := ⟨[], rfl, by simp⟩
  rd := (grow_new hn hp).rd
  pk := (grow_new hn hp).pk
  fresh := (grow_new hn hp).fresh
theorem repS_newS {p : Addr} {o : HO} {u : O} (hS : RepS K H ω S) (hp : H p = none) (hu : RepO K (upd H p o) ⟨ω.ρ ++ [p], ω.π⟩ p u) : RepS K (upd H p o) ⟨ω.ρ ++ [p], ω.π⟩ (S ++ [u]) where
  len := by simp [hS.len]
  nd := by
    refine List.nodup_append.mpr ⟨hS.nd, by simp, fun a ha b hb => ?_⟩
    rw [List.mem_singleton.mp hb]
    rintro rfl
    exact (fresh_n hS hp).1 ha
  at_ := fun n a x h1 h2 => by
    have hl := hS.len
    by_cases hn : n < ω.ρ.length
    · rw [List.getElem?_append_left hn] at h1
      rw [List.getElem?_append_left (by omega)] at h2
      refine (hS.at_ n a x h1 h2).grow (grow_newS (fresh_n hS hp) hp) ?_
      rw [upd_ne]; rintro rfl; exact (fresh_n hS hp).1 (List.mem_of_getElem? h1)
    · rw [List.getElem?_append_right (by omega)] at h1 h2
      rw [hl] at h1
      cases q : n - S.length with
      | zero =>
        rw [q] at h1 h2
        simp at h1 h2
        subst h1; subst h2
        exact hu
      | succ m => rw [q] at h1; simp at h1
  sep := fun a ha h => by
    rcases List.mem_append.mp h with h | h
    · exact hS.sep a ha h
    · rw [List.mem_singleton.mp h] at ha; exact (fresh_n hS hp).2 ha
  pi := fun a ha h => by
    by_cases e : a = p
    · rw [e, upd_same] at h; cases h
    · rw [upd_ne e] at h; exact hS.pi a ha h
def newL (st : Bool) (ds : List D) (S : Dn.S) : D × Dn.S := match st with
  | true => (.ref S.length, S ++ [.lst ds])
  | false => (.lst ds, S)
def newD (st : Bool) (ks : List Key) (ds : List D) (S : Dn.S) : D × Dn.S := match st with
  | true => (.ref S.length, S ++ [.dic ks ds])
  | false => (.dic ks ds, S)
theorem new_lst {st : Bool} {ds : List D} {xs : List V} {p : Addr} (hS : RepS K H ω S) (hp : H p = none) (hr : RepL K H ω ds xs) :
    ∃ ω', Grow H ω (upd H p (.lst xs)) ω' ∧ Rep K (upd H p (.lst xs)) ω' (newL st ds S).1 (.ref p) ∧ RepS K (upd H p (.lst xs)) ω' (newL st ds S).2 := by
  have hn := fresh_n hS hp
  cases st with
  | true =>
    have g := grow_newS (o := .lst xs) hn hp
    refine ⟨_, g, ?_, repS_newS hS hp ⟨xs, upd_same, hr.grow g⟩⟩
    unfold newL Rep
    refine ⟨p, rfl, ?_⟩
    show (ω.ρ ++ [p])[S.length]? = some p
    rw [← hS.len]
    simp
  | false =>
    have g := grow_new (o := .lst xs) hn hp
    refine ⟨ω, g, ?_, repS_new hS hp⟩
    unfold newL Rep
    exact ⟨p, xs, rfl, hn, upd_same, hr.grow g⟩
theorem new_dic {st : Bool} {ks : List Key} {ds : List D} {xs : List V} {p : Addr} (hS : RepS K H ω S) (hp : H p = none) (hl : ks.length = ds.length) (hr : RepL K H ω ds xs) :
    ∃ ω', Grow H ω (upd H p (.dK (ks.zip xs))) ω' ∧ Rep K (upd H p (.dK (ks.zip xs))) ω' (newD st ks ds S).1 (.ref p) ∧ RepS K (upd H p (.dK (ks.zip xs))) ω' (newD st ks ds S).2 := by
  have hn := fresh_n hS hp
  cases st with
  | true =>
    have g := grow_newS (o := .dK (ks.zip xs)) hn hp
    refine ⟨_, g, ?_, repS_newS hS hp ⟨xs, upd_same, hl, hr.grow g⟩⟩
    unfold newD Rep
    refine ⟨p, rfl, ?_⟩
    show (ω.ρ ++ [p])[S.length]? = some p
    rw [← hS.len]
    simp
  | false =>
    have g := grow_new (o := .dK (ks.zip xs)) hn hp
    refine ⟨ω, g, ?_, repS_new hS hp⟩
    unfold newD Rep
    exact ⟨p, xs, rfl, hn, .inl upd_same, hl, hr.grow g⟩
theorem new_tup {ds : List D} {xs : List V} {p : Addr} (hS : RepS K H ω S) (hp : H p = none) (hr : RepL K H ω ds xs) :
    Grow H ω (upd H p (.tup xs)) ω ∧ Rep K (upd H p (.tup xs)) ω (.tup ds) (.ref p) ∧ RepS K (upd H p (.tup xs)) ω S := by
  have hn := fresh_n hS hp
  have g := grow_new (o := .tup xs) hn hp
  refine ⟨g, ?_, repS_new hS hp⟩
  unfold Rep
  exact ⟨p, xs, rfl, .inl ⟨hn, .inl upd_same⟩, hr.grow g⟩
/-- a changed object is written -/
theorem grow_put {n : Nat} {p : Addr} {o : HO} (hS : RepS K H ω S) (ha : ω.ρ[n]? = some p) : Grow H ω (upd H p o) ω where
  ext := ⟨[], by simp, by simp⟩
  pi := ⟨[], rfl, by simp⟩
  rd := fun a u hn e => ⟨u, by rw [upd_ne]; exact e; rintro rfl; exact hn.1 (List.mem_of_getElem? ha), .refl u⟩
  pk := fun a hp => by rw [upd_ne]; rintro rfl; exact hS.sep a hp (List.mem_of_getElem? ha)
  fresh := fun a h => by
    by_cases e : a = p
    · rw [e, upd_same] at h; cases h
    · rw [upd_ne e] at h; exact h
theorem repS_put {n : Nat} {p : Addr} {o : HO} {u : O} (hS : RepS K H ω S) (ha : ω.ρ[n]? = some p) (hu : RepO K (upd H p o) ω p u) : RepS K (upd H p o) ω (S.set n u) where
  len := by simp [hS.len]
  nd := hS.nd
  at_ := fun m a x h1 h2 => by
    by_cases hm : n = m
    · subst hm
      rw [ha] at h1
      cases h1
      have hl : n < S.length := by
        have := (List.getElem?_eq_some_iff.mp h2).1
        simpa using this
      rw [List.getElem?_set_self hl] at h2
      cases h2
      exact hu
    · rw [List.getElem?_set_ne hm] at h2
      refine (hS.at_ m a x h1 h2).grow (grow_put hS ha) ?_
      rw [upd_ne]
      rintro rfl
      exact hm (nd_ix hS.nd ha h1)
  sep := hS.sep
  pi := fun a h q => hS.pi a h ((grow_put (o := o) hS ha).fresh a q)
theorem put_lst {n : Nat} {p : Addr} {ds : List D} {xs : List V} (hS : RepS K H ω S) (ha : ω.ρ[n]? = some p) (hr : RepL K H ω ds xs) :
    Grow H ω (upd H p (.lst xs)) ω ∧ RepS K (upd H p (.lst xs)) ω (S.set n (.lst ds)) := by
  have g := grow_put (o := .lst xs) hS ha
  exact ⟨g, repS_put hS ha ⟨xs, upd_same, hr.grow g⟩⟩
theorem put_dic {n : Nat} {p : Addr} {ks : List Key} {ds : List D} {xs : List V} (hS : RepS K H ω S) (ha : ω.ρ[n]? = some p) (hl : ks.length = ds.length) (hr : RepL K H ω ds xs) :
    Grow H ω (upd H p (.dK (ks.zip xs))) ω ∧ RepS K (upd H p (.dK (ks.zip xs))) ω (S.set n (.dic ks ds)) := by
  have g := grow_put (o := .dK (ks.zip xs)) hS ha
  exact ⟨g, repS_put hS ha ⟨xs, upd_same, hl, hr.grow g⟩⟩
end

/-! ### displays -/
def tupE (m : LM) : EM := fun env S => (m env S).bind fun xs S1 => if xs.length ≤ 1000 then .ok (.tup xs) S1 else .bad
def lstE (st : Bool) (m : LM) : EM := fun env S => (m env S).bind fun xs S1 => if xs.length ≤ 1000 then .ok (newL st xs S1).1 (newL st xs S1).2 else .bad
theorem small_line {n : Nat} (h : n ≤ 1000) : n ≤ sizeLine := Nat.le_trans h (by decide)
section
variable {X : Cx} {Ξ : Xi} {W : WX} {pos : Pos} {a b c e : Expr} {ma mb mc : EM} {es : List Expr} {m : LM}
theorem de_tup {k} (h : DL X Ξ W es m) : DE X Ξ W (.Tuple es k pos) (tupE m) :=
  PE_weak (pe_tup h) fun σ H Q ⟨env, ω, S, hE, hS, p⟩ => seqG hE hS p fun xs H1 ω1 ds S1 g1 r1 s1 e1 p1 => by
    by_cases hl : ds.length ≤ 1000
    · rw [if_pos hl] at p1
      refine ⟨small_line (by rw [← r1.len]; exact hl), fun q hq => ?_⟩
      obtain ⟨g, r, s⟩ := new_tup s1 hq r1
      exact p1 _ _ _ g r s
    · rw [if_neg hl] at p1; exact p1.elim
theorem de_lst {st : Bool} (h : DL X Ξ W es m) : DE X Ξ W (.List es pos) (lstE st m) :=
  PE_weak (pe_lst h) fun σ H Q ⟨env, ω, S, hE, hS, p⟩ => seqG hE hS p fun xs H1 ω1 ds S1 g1 r1 s1 e1 p1 => by
    by_cases hl : ds.length ≤ 1000
    · rw [if_pos hl] at p1
      refine ⟨small_line (by rw [← r1.len]; exact hl), fun q hq => ?_⟩
      obtain ⟨ω2, g, r, s⟩ := new_lst (st := st) s1 hq r1
      exact p1 _ _ _ g r s
    · rw [if_neg hl] at p1; exact p1.elim
/-! ### calls -/
theorem de_callB {x : Str} {id : String} {op : OpN} {p : Pos} (hc : DN X (.builtin id) op) (hg : Gl X x) (hm : X.mg x = none) (hv : bootBuiltins x = some (.builtin id)) (ha : DL X Ξ W (e :: es) m) (hn : x ≠ "__name__" := by decide)
    (hdb : (x == ("__debug__" : Str)) = false := by decide) (he : starEach (e :: es) X.env = (false, eval e X.env) :: starEach es X.env := by rfl) (hpl : (backTo pos (starEach es X.env)).any (·.1) = false := by rfl) :
    DE X Ξ W (.Call (.Name x p) (e :: es) [] pos) (callNE op m) :=
  PE_weak (pe_callB hc hg hm hv ha hn hdb he hpl) fun σ H Q ⟨env, ω, S, hE, hS, p⟩ => seqG hE hS p fun xs H1 ω1 ds S1 g1 r1 s1 e1 p1 => ⟨ω1, S1, ds, r1, s1, post_of p1⟩
theorem de_callT {x : Str} {T : String} {op : OpN} {p : Pos} (hc : DN X (.type T) op) (hg : Gl X x) (hm : X.mg x = none) (hv : bootBuiltins x = some (.type T)) (ha : DL X Ξ W (e :: es) m) (hn : x ≠ "__name__" := by decide)
    (hdb : (x == ("__debug__" : Str)) = false := by decide) (he : starEach (e :: es) X.env = (false, eval e X.env) :: starEach es X.env := by rfl) (hpl : (backTo pos (starEach es X.env)).any (·.1) = false := by rfl) :
    DE X Ξ W (.Call (.Name x p) (e :: es) [] pos) (callNE op m) :=
  PE_weak (pe_callTy hc hg hm hv ha hn hdb he hpl) fun σ H Q ⟨env, ω, S, hE, hS, p⟩ => seqG hE hS p fun xs H1 ω1 ds S1 g1 r1 s1 e1 p1 => ⟨ω1, S1, ds, r1, s1, post_of p1⟩
/-- a def's promise -/
def spD (K : PySem.W.Frag) (F : List D → S → R D) : Sp := fun vs H Q E => ∃ ds ω S, RepL K H ω ds vs ∧ RepS K H ω S ∧ post K (Rep K) H ω Q E (F ds S)
/-- the def that the module's name x stands for -/
def FnG (P : Program) (w : World) (K : PySem.W.Frag) (mg : Str → Option Value) (base : Heap) (x : Str) (k : Nat) (F : List D → S → R D) : Prop :=
  ∃ f fd ps, FnOk P w K mg base (L2.CX P w) k f fd ps (spD K F) ∧ mg x = some (.ref f) ∧ PySem.W.keepIn K (.ref f) = true ∧ Binds K fd ps []
theorem de_call {x : Str} {k : Nat} {F : List D → S → R D} {p : Pos} (G : FnG X.prog X.w X.K X.mg X.base x k F) (hr : Room k X.A) (hg : Gl X x) (tk : Takes X W) (ha : DL X Ξ W (e :: es) m) (hdb : (x == ("__debug__" : Str)) = false := by decide)
    (he : starEach (e :: es) X.env = (false, eval e X.env) :: starEach es X.env := by rfl) (hpl : (backTo pos (starEach es X.env)).any (·.1) = false := by rfl) : DE X Ξ W (.Call (.Name x p) (e :: es) [] pos) (callFE F m) := by
  obtain ⟨f, fd, ps, F1, hm, hk, hb⟩ := G
  refine PE_weak (pe_callS F1 hr hg hm hk hb (fun σ => passAt tk σ) ha hdb he hpl) fun σ H Q ⟨env, ω, S, hE, hS, p⟩ => ?_
  exact seqG hE hS p fun xs H1 ω1 ds S1 g1 r1 s1 e1 p1 => ⟨ds, ω1, S1, r1, s1, p1⟩
/-! ### methods of built-in types -/
def tyD (T : String) (S : S) (d : D) : Bool := match view S d with
  | .str _ => T == "str"
  | .int _ => T == "int"
  | .lst _ => T == "list"
  | .scr _ => T == "list"
  | _ => false
def methE (T : String) (op : OpM) (a : EM) (m : LM) : EM := fun env S => (a env S).bind fun x S1 => if tyD T S1 x = true then (m env S1).bind fun xs S2 => R.of (op x xs S2) else .bad
theorem ty_of {K : PySem.W.Frag} {H : Hp} {ω : Om} {S : S} {d : D} {v : V} {T : String} (r : Rep K H ω d v) (hS : RepS K H ω S) (h : tyD T S d = true) : tyV K T v H := by
  unfold tyD at h
  split at h
  · rename_i q
    have e := view_same q (by intro _ z; cases z) (by intro _ _ z; cases z) (by intro _ z; cases z)
    subst e
    rw [r.str_]
    exact eq_of_beq h
  · rename_i q
    have e := view_same q (by intro _ z; cases z) (by intro _ _ z; cases z) (by intro _ z; cases z)
    subst e
    rw [r.int_]
    exact eq_of_beq h
  · rename_i q
    obtain ⟨a, xs, rfl, h1, h2⟩ := view_lst hS r q
    exact .inl ⟨eq_of_beq h, xs, .inl (.inl h1)⟩
  · rename_i q
    have e := view_same q (by intro _ z; cases z) (by intro _ _ z; cases z) (by intro _ z; cases z)
    subst e
    obtain ⟨a, rfl, h1⟩ := r.scr_
    exact .inl ⟨eq_of_beq h, _, scr_sq h1⟩
  · cases h
theorem de_meth {T id : String} {name : Str} {apos cpos : Pos} {o : Expr} {mo : EM} {op : OpM} (pa : PlainAttrs T) (slot : Slot T name id) (hty : typeOf (.builtin id) = pure (.type "method_descriptor")) (hm : DM X id op) (ho : DE X Ξ W o mo) (ha : DL X Ξ W (e :: es) m)
    (hbase : attributeBase o name X.env (eval o X.env) = eval o X.env := by rfl)
    (hfew : ((backTo cpos (starEach (e :: es) X.env)).all (fun x => !x.1) && (backToKw cpos (keywordEach [] X.env)).all (fun x => x.1.isSome)
      && decide ((e :: es).length + ([] : List Keyword).length + (if ([] : List Keyword).isEmpty then 0 else 1) < 30)) = true := by rfl)
    (hline : (apos.endLine == cpos.line) = true := by rfl) (hs : starEach (e :: es) X.env = (false, eval e X.env) :: starEach es X.env := by rfl) (hp : (backTo cpos (starEach es X.env)).any (·.1) = false := by rfl) : DE X Ξ W (.Call (.Attribute o name apos) (e :: es) [] cpos) (methE T op mo m) :=
  PE_weak (pe_bm pa slot hty hm ho ha hbase hfew hline hs hp) fun σ H Q ⟨env, ω, S, hE, hS, p⟩ => seqG hE hS p fun x H1 ω1 d1 S1 g1 r1 s1 e1 p1 => by
    by_cases ht : tyD T S1 d1 = true
    · rw [if_pos ht] at p1
      exact ⟨ty_of r1 s1 ht, seqG e1 s1 p1 fun xs H2 ω2 ds S2 g2 r2 s2 e2 p2 => ⟨ω2, S2, d1, ds, r1.grow g2, r2, s2, post_of p2⟩⟩
    · rw [if_neg ht] at p1; exact p1.elim
theorem de_meth0 {T id : String} {name : Str} {apos cpos : Pos} {o : Expr} {mo : EM} {op : OpM} (pa : PlainAttrs T) (slot : Slot T name id) (hty : typeOf (.builtin id) = pure (.type "method_descriptor")) (hm : DM X id op) (ho : DE X Ξ W o mo)
    (hbase : attributeBase o name X.env (eval o X.env) = eval o X.env := by rfl) (hline : (apos.endLine == cpos.line) = true := by rfl) : DE X Ξ W (.Call (.Attribute o name apos) [] [] cpos) (methE T op mo nilL) :=
  PE_weak (pe_bm0 pa slot hty hm ho hbase hline) fun σ H Q ⟨env, ω, S, hE, hS, p⟩ => seqG hE hS p fun x H1 ω1 d1 S1 g1 r1 s1 e1 p1 => by
    by_cases ht : tyD T S1 d1 = true
    · rw [if_pos ht] at p1
      exact ⟨ty_of r1 s1 ht, ω1, S1, d1, [], r1, repL_nil, s1, post_of p1⟩
    · rw [if_neg ht] at p1; exact p1.elim
end

/-! ### statements -/
def toRS (k : D → S → RS) (env : Sl) : R D → RS
  | .ok d S => k d S
  | .exc e S => .exc e env S
  | .bad => .bad
def RS.bind (r : RS) (k : Sl → S → RS) : RS := match r with
  | .nx env S => k env S
  | r => r
abbrev GM := D → SM
def skipS : SM := fun env S => .nx env S
def seqS (a b : SM) : SM := fun env S => (a env S).bind b
def exprS (e : EM) : SM := fun env S => toRS (fun _ S1 => .nx env S1) env (e env S)
def retS (e : EM) : SM := fun env S => toRS (fun d S1 => .ret d S1) env (e env S)
/-- what a target may do: to store, to raise -/
def RS.only : RS → RS
  | .nx env S => .nx env S
  | .exc e env S => .exc e env S
  | _ => .bad
def asgS (e : EM) (g : GM) : SM := fun env S => toRS (fun d S1 => (g d env S1).only) env (e env S)
def ifS (c : BM) (a b : SM) : SM := fun env S => match c env S with
  | .ok k S1 => if k = true then a env S1 else b env S1
  | .exc e S1 => .exc e env S1
  | .bad => .bad
def brkS : SM := fun env S => .brk env S
def cntS : SM := fun env S => .cnt env S
/-- a name is stored -/
def Sl.put (env : Sl) (i : Nat) (d : D) : Option Sl := match env.x with
  | none => some ⟨env.v.set i (some d), none⟩
  | some (j, e) => if j = i then none else some ⟨env.v.set i (some d), some (j, e)⟩
def nameG (i : Nat) : GM := fun d env S => match env.put i d with
  | some env' => .nx env' S
  | none => .bad
def nilG : List D → SM := fun ds env S => match ds with
  | [] => .nx env S
  | _ :: _ => .bad
def consG (g : GM) (r : List D → SM) : List D → SM := fun ds env S => match ds with
  | [] => .bad
  | d :: ds => (g d env S).bind (r ds)
/-- a, b = a tuple, a list of n -/
def tupG (n : Nat) (r : List D → SM) : GM := fun d env S => match view S d with
  | .tup ds => if ds.length = n then r ds env S else .bad
  | .lst ds => if ds.length = n then r ds env S else .bad
  | _ => .bad
section
variable {K : PySem.W.Frag} {Ξ : Xi} {H : Hp} {ω : Om} {W : WX}
theorem spost_bind {r : RS} {k : SM} {D : Ends} (h : spost K Ξ H ω D W (r.bind k)) : spost K Ξ H ω { D with nx := fun σ' H' => ∃ env' ω' S', RepE K Ξ H' ω' env' σ' ∧ RepS K H' ω' S' ∧ spost K Ξ H' ω' D W (k env' S') } W r := by
  cases r with
  | nx env' S' => exact fun σ' H' ω' g e s => ⟨env', ω', S', e, s, spost_grow g h⟩
  | ret d S' => exact h
  | brk env S' => exact h
  | cnt env S' => exact h
  | exc e env S' => exact h
  | bad => exact h
theorem seqRS {m : EM} {env : Sl} {S : S} {k : D → Dn.S → RS} {D : Ends} {σ : L2.St} {Q : VK} (hE : RepE K Ξ H ω env σ) (hS : RepS K H ω S) (h : spost K Ξ H ω D W (toRS k env (m env S)))
    (hk : ∀ v H' ω' d S', Grow H ω H' ω' → Rep K H' ω' d v → RepS K H' ω' S' → RepE K Ξ H' ω' env σ → spost K Ξ H' ω' D W (k d S') → Q v H') : tD K Ξ W m σ H Q := by
  refine ⟨env, ω, S, hE, hS, ?_⟩
  cases q : m env S with
  | ok d S' =>
    rw [q] at h
    exact fun v H' ω' g r s => hk v H' ω' d S' g r s (hE.grow g) (spost_grow g h)
  | exc e S' =>
    rw [q] at h
    exact fun cls dd H' ω' g x s => h cls dd σ H' ω' g x (hE.grow g) s
  | bad => rw [q] at h; exact h
end
/-- sl: the slots that a target may store -/
def gEnd (sl : List Nat) (σ : L2.St) (Q : L2.St → Hp → Prop) : Ends := { nx := fun σ' H' => wipe σ' sl = wipe σ sl → Q σ' H', rt := fun _ _ => False }
def gD (K : PySem.W.Frag) (Ξ : Xi) (W : WX) (sl : List Nat) (g : GM) : TG := fun v σ H Q => ∃ d env ω S, Rep K H ω d v ∧ RepE K Ξ H ω env σ ∧ RepS K H ω S ∧ spost K Ξ H ω (gEnd sl σ Q) W (g d env S)
def gLD (K : PySem.W.Frag) (Ξ : Xi) (W : WX) (sl : List Nat) (g : List D → SM) : TGs := fun vs σ H Q => ∃ ds env ω S, RepL K H ω ds vs ∧ RepE K Ξ H ω env σ ∧ RepS K H ω S ∧ spost K Ξ H ω (gEnd sl σ Q) W (g ds env S)
theorem wipe_store : ∀ (sl : List Nat) (σ : L2.St) (i : Nat) (x : Option V), i ∈ sl → wipe (σ.set i x) sl = wipe σ sl
  | [], _, _, _, h => by simp at h
  | v :: vs, σ, i, x, h => by
    unfold wipe
    by_cases hi : i ∈ vs
    · rw [wipe_store vs σ i x hi]
    · have hv : i = v := by
        rcases List.mem_cons.mp h with h | h
        · exact h
        · exact absurd h hi
      subst hv
      have : ∀ (l : List Nat), i ∉ l → wipe (σ.set i x) l = (wipe σ l).set i x := by
        intro l
        induction l with
        | nil => intro _; rfl
        | cons w l ih =>
          intro hl
          unfold wipe
          rw [ih (fun z => hl (List.mem_cons_of_mem _ z)), List.set_comm _ _ (by rintro rfl; exact hl List.mem_cons_self)]
      rw [this vs hi, List.set_set]
section
variable {X : Cx} {Ξ : Xi} {W : WX} {pos : Pos} {a b c e : Expr} {ma mb mc : EM} {es : List Expr} {m : LM} {st : Stmt} {rest : List Stmt} {ms mr : SM}
abbrev DG (X : Cx) (Ξ : Xi) (W : WX) (sl : List Nat) (e : Expr) (g : GM) : Prop := PG X e (gD X.K Ξ W sl g)
abbrev DGs (X : Cx) (Ξ : Xi) (W : WX) (sl : List Nat) (es : List Expr) (g : List D → SM) : Prop := PGs X es (gLD X.K Ξ W sl g)
theorem spost_imp {K : PySem.W.Frag} {H : Hp} {ω : Om} {D D' : Ends} {r : RS} (h : spost K Ξ H ω D W r) (h1 : ∀ σ H, D.nx σ H → D'.nx σ H) (h2 : ∀ v H, D.rt v H → D'.rt v H) (h3 : ∀ σ H, D.bk σ H → D'.bk σ H) (h4 : ∀ σ H, D.ct σ H → D'.ct σ H) : spost K Ξ H ω D' W r := by
  cases r with
  | nx env S' => exact fun σ' H' ω' g e s => h1 _ _ (h σ' H' ω' g e s)
  | ret d S' => exact fun v H' ω' g e s => h2 _ _ (h v H' ω' g e s)
  | brk env S' => exact fun σ' H' ω' g e s => h3 _ _ (h σ' H' ω' g e s)
  | cnt env S' => exact fun σ' H' ω' g e s => h4 _ _ (h σ' H' ω' g e s)
  | exc e env S' => exact h
  | bad => exact h
theorem only_end {K : PySem.W.Frag} {H : Hp} {ω : Om} {D : Ends} {r : RS} {sl : List Nat} {σ : L2.St} {Q : L2.St → Hp → Prop} (h : spost K Ξ H ω D W r.only) (hq : ∀ σ H, D.nx σ H → Q σ H) : spost K Ξ H ω (gEnd sl σ Q) W r := by
  cases r with
  | nx env S' => exact fun σ' H' ω' g e s _ => hq _ _ (h σ' H' ω' g e s)
  | ret d S' => exact h.elim
  | brk env S' => exact h.elim
  | cnt env S' => exact h.elim
  | exc e env S' => exact h
  | bad => exact h
theorem PGs_weak {t t' : TGs} (h : PGs X es t) (k : ∀ v σ H Q, t' v σ H Q → t v σ H Q) : PGs X es t' := ⟨fun pins s σ H v u Q I r q => h.run pins s σ H v u Q I r (k v σ H Q q)⟩
theorem PG_or {t t' : TG} (h : PG X e t) (h' : PG X e t') : PG X e (fun v σ H Q => t v σ H Q ∨ t' v σ H Q) := ⟨fun pins s σ H v u Q I r q => q.elim (fun q => h.run pins s σ H v u Q I r q) fun q => h'.run pins s σ H v u Q I r q⟩
theorem ds_pass : DS X Ξ W (.Pass pos) skipS := PS_weak ps_pass fun D σ H ⟨env, ω, S, hE, hS, p⟩ => p σ H ω .refl hE hS
theorem ds_brk : DS X Ξ W (.Break pos) brkS := PS_weak ps_break fun D σ H ⟨env, ω, S, hE, hS, p⟩ => p σ H ω .refl hE hS
theorem ds_cnt : DS X Ξ W (.Continue pos) cntS := PS_weak ps_continue fun D σ H ⟨env, ω, S, hE, hS, p⟩ => p σ H ω .refl hE hS
theorem dss_nil : DSs X Ξ W [] skipS := PSs_weak pss_nil fun D σ H ⟨env, ω, S, hE, hS, p⟩ => p σ H ω .refl hE hS
theorem dss_one (h : DS X Ξ W st ms) : DSs X Ξ W [st] ms := pss_one h
theorem dss_cons (h : DS X Ξ W st ms) (h2 : DSs X Ξ W rest mr) : DSs X Ξ W (st :: rest) (seqS ms mr) :=
  PSs_weak (pss_cons h h2) fun D σ H ⟨env, ω, S, hE, hS, p⟩ => ⟨env, ω, S, hE, hS, spost_bind p⟩
theorem ds_expr (he : DE X Ξ W e ma) (hs : swapsWith e none pos.line X.env = pure false := by rfl) : DS X Ξ W (.Expr e pos) (exprS ma) :=
  PS_weak (ps_expr he hs) fun D σ H ⟨env, ω, S, hE, hS, p⟩ => seqRS hE hS p fun v H' ω' d S' g r s e p => p σ H' ω' .refl e s
theorem ds_ret (he : DE X Ξ W e ma) : DS X Ξ W (.Return (some e) pos) (retS ma) :=
  PS_weak (ps_ret he) fun D σ H ⟨env, ω, S, hE, hS, p⟩ => seqRS hE hS p fun v H' ω' d S' g r s e p => p v H' ω' .refl r s
theorem ds_retN : DS X Ξ W (.Return none pos) (retS (cE .non)) :=
  PS_weak ps_retN fun D σ H ⟨env, ω, S, hE, hS, p⟩ => p .non H ω .refl rep_non hS
theorem ds_if {m : BM} (hc : DB X Ξ W c m) (ha : DSs X Ξ W rest ms) {r2 : List Stmt} (hb : DSs X Ξ W r2 mr) : DS X Ξ W (.If c rest r2 pos) (ifS m ms mr) :=
  PS_weak (ps_if hc ha hb) fun D σ H ⟨env, ω, S, hE, hS, p⟩ => by
    refine ⟨env, ω, S, hE, hS, ?_⟩
    unfold ifS at p
    cases q : m env S with
    | ok k S1 =>
      rw [q] at p
      intro k' H' ω' g r s
      have r' : k = k' := r
      subst r'
      cases k with
      | true => exact ⟨env, ω', S1, hE.grow g, s, spost_grow g p⟩
      | false => exact ⟨env, ω', S1, hE.grow g, s, spost_grow g p⟩
    | exc e S' =>
      rw [q] at p
      exact fun cls dd H' ω' g x s => p cls dd σ H' ω' g x (hE.grow g) s
    | bad => rw [q] at p; exact p
/-! ### targets -/
theorem RepE.putt {K : PySem.W.Frag} {H : Hp} {ω : Om} {env env' : Sl} {σ : L2.St} {i : Nat} {d : D} {v : V} (h : RepE K Ξ H ω env σ) (r : Rep K H ω d v) (e : env.put i d = some env') : RepE K Ξ H ω env' (σ.set i (some v)) := by
  unfold Sl.put at e
  cases q : env.x with
  | none =>
    rw [q] at e
    have := h.set r (i := i) (fun j e z => by rw [q] at z; cases z)
    have e' := Option.some.inj e
    rw [← e']
    rw [q] at this
    exact this
  | some p =>
    obtain ⟨j, ex⟩ := p
    rw [q] at e
    replace e : (if j = i then none else some ⟨env.v.set i (some d), some (j, ex)⟩) = some env' := e
    by_cases hj : j = i
    · rw [if_pos hj] at e; cases e
    · rw [if_neg hj] at e
      have := h.set r (i := i) (fun j' e' z => by rw [q] at z; cases z; exact hj)
      have e' := Option.some.inj e
      rw [← e']
      rw [q] at this
      exact this
theorem dg_name {i : Nat} {x : Str} {sl : List Nat} (hN : X.N.Nodup) (hi : X.N[i]? = some x := by rfl) (hx : Loc X.env.scope x := by first | exact Or.inl rfl | exact Or.inr rfl) (hf : X.fn x = true ∨ X.env.scope.names.lookup x = some .local := by first | exact .inl rfl | exact .inr rfl | assumption)
    (hs : i ∈ sl := by decide) : DG X Ξ W sl (.Name x pos) (nameG i) := PG_weak (pg_name hN hi hx hf) fun v σ H Q ⟨d, env, ω, S, r, hE, hS, p⟩ => by
  unfold nameG at p
  cases q : env.put i d with
  | none => rw [q] at p; exact p.elim
  | some env' =>
    rw [q] at p
    exact p _ H ω .refl (RepE.putt hE r q) hS (wipe_store sl σ i _ hs)
theorem dgs_nil {sl : List Nat} : DGs X Ξ W sl [] nilG := PGs_weak pgs_nil fun vs σ H Q ⟨ds, env, ω, S, r, hE, hS, p⟩ => by
  cases ds with
  | nil => exact ⟨r.nil_, p σ H ω .refl hE hS rfl⟩
  | cons d ds => exact p.elim
theorem dgs_cons {g : GM} {gr : List D → SM} {sl : List Nat} (h1 : DG X Ξ W sl e g) (h2 : DGs X Ξ W sl es gr) (hs : (assignEach (e :: es) X.env).map (·.2) = assign e X.env :: (assignEach es X.env).map (·.2) := by rfl) : DGs X Ξ W sl (e :: es) (consG g gr) :=
  PGs_weak (pgs_cons h1 h2 hs) fun vs σ H Q ⟨ds, env, ω, S, r, hE, hS, p⟩ => by
    cases ds with
    | nil => exact p.elim
    | cons d ds =>
      obtain ⟨x, xs, e1, r1, r2⟩ := r.cons_
      refine ⟨x, xs, e1, d, env, ω, S, r1, hE, hS, ?_⟩
      replace p : spost X.K Ξ H ω (gEnd sl σ Q) W ((g d env S).bind (gr ds)) := p
      cases q : g d env S with
      | nx env' S' =>
        rw [q] at p
        intro σ' H' ω' gg e s hw
        exact ⟨ds, env', ω', S', r2.grow gg, e, s, spost_imp (spost_grow gg p) (fun σ2 H2 k z => k (z.trans hw)) (fun _ _ z => z) (fun _ _ z => z) fun _ _ z => z⟩
      | ret d S' => rw [q] at p; exact p
      | brk env S' => rw [q] at p; exact p
      | cnt env S' => rw [q] at p; exact p
      | exc e env S' => rw [q] at p; exact p
      | bad => rw [q] at p; exact p
theorem dg_tup {k : Nat} {gr : List D → SM} {n : Nat} {sl : List Nat} (hc : X.calm = true) (h : DGs X Ξ W sl es gr) (hn : (assignEach es X.env).length = n := by rfl) (hst : (assignEach es X.env).findIdx? (·.1) = none := by rfl) : DG X Ξ W sl (.Tuple es k pos) (tupG n gr) :=
  PG_weak (PG_or (pg_tup hc h hn hst) (pg_lst hc h hn hst)) fun v σ H Q ⟨d, env, ω, S, r, hE, hS, p⟩ => by
    unfold tupG at p
    split at p
    · rename_i ds q
      have e := view_same q (by intro _ z; cases z) (by intro _ _ z; cases z) (by intro _ z; cases z)
      subst e
      obtain ⟨a, xs, rfl, h1, h2⟩ := r.tup_
      by_cases hl : ds.length = n
      · rw [if_pos hl] at p
        exact .inl ⟨a, xs, rfl, tup_sq h1, by rw [← h2.len]; exact hl, ds, env, ω, S, h2, hE, hS, p⟩
      · rw [if_neg hl] at p; exact p.elim
    · rename_i ds q
      obtain ⟨a, xs, rfl, h1, h2⟩ := view_lst hS r q
      by_cases hl : ds.length = n
      · rw [if_pos hl] at p
        exact .inr ⟨a, xs, rfl, .inl (.inl h1), by rw [← h2.len]; exact hl, ds, env, ω, S, h2, hE, hS, p⟩
      · rw [if_neg hl] at p; exact p.elim
    · exact p.elim
theorem asg_imp {D : Ends} {g : GM} {sl : List Nat} {σ : L2.St} {H : Hp} : sD X.K Ξ W (asgS ma g) D σ H → tAsg (tD X.K Ξ W ma) (gD X.K Ξ W sl g) D σ H := fun ⟨env, ω, S, hE, hS, p⟩ =>
  seqRS hE hS p fun v H' ω' d S' gg r s e p => ⟨d, env, ω', S', r, e, s, only_end p fun _ _ z => z⟩
end
end Dn
end

section
/-! # Dn4: assignments, loops, raise, try, defs -/
namespace Dn
open PySem L2
open Classical
noncomputable section
/-! ### assignments -/
def par2S (i j : Nat) (m : LM) : SM := fun env S => match m env S with
  | .ok ds S1 => (match ds with
    | [d1, d2] => (match env.put i d1 with
      | some e1 => (match e1.put j d2 with
        | some e2 => .nx e2 S1
        | none => .bad)
      | none => .bad)
    | _ => .bad)
  | .exc e S1 => .exc e env S1
  | .bad => .bad
def par3S (i j k : Nat) (m : LM) : SM := fun env S => match m env S with
  | .ok ds S1 => (match ds with
    | [d1, d2, d3] => (match env.put i d1 with
      | some e1 => (match e1.put j d2 with
        | some e2 => (match e2.put k d3 with
          | some e3 => .nx e3 S1
          | none => .bad)
        | none => .bad)
      | none => .bad)
    | _ => .bad)
  | .exc e S1 => .exc e env S1
  | .bad => .bad
/-! ### loops -/
def loopB (b : RS) (k : SM) : RS := match b with
  | .nx env S => k env S
  | .cnt env S => k env S
  | .brk env S => .nx env S
  | r => r
def forL (gd : S → Prop) (g : GM) (b : SM) : List D → SM
  | [] => fun env S => if gd S then .nx env S else .bad
  | d :: xs => fun env S => if gd S then loopB ((g d env S).only.bind b) (forL gd g b xs) else .bad
abbrev IM := Sl → S → R (List D × (S → Prop))
def forS (mi : IM) (g : GM) (b : SM) : SM := fun env S => match mi env S with
  | .ok p S1 => forL p.2 g b p.1 env S1
  | .exc e S1 => .exc e env S1
  | .bad => .bad
def whileN (c : BM) (b : SM) : Nat → SM
  | 0 => fun _ _ => .bad
  | n + 1 => fun env S => match c env S with
    | .ok k S1 => if k = true then loopB (b env S1) (whileN c b n) else .nx env S1
    | .exc e S1 => .exc e env S1
    | .bad => .bad
def whileS (c : BM) (b : SM) : SM := fun env S => if h : ∃ n, whileN c b n env S ≠ .bad then whileN c b h.choose env S else .bad
theorem whileN_more (c : BM) (b : SM) : ∀ (n m : Nat) (env : Sl) (S : S), n ≤ m → whileN c b n env S ≠ .bad → whileN c b m env S = whileN c b n env S
  | 0, _, _, _, _, h => absurd rfl h
  | n + 1, 0, _, _, h, _ => by omega
  | n + 1, m + 1, env, S, hl, h => by
    have ih := whileN_more c b n m
    revert h
    show (match c env S with
      | .ok k S1 => if k = true then loopB (b env S1) (whileN c b n) else .nx env S1
      | .exc e S1 => .exc e env S1
      | .bad => .bad) ≠ RS.bad → (match c env S with
      | .ok k S1 => if k = true then loopB (b env S1) (whileN c b m) else .nx env S1
      | .exc e S1 => .exc e env S1
      | .bad => .bad) = (match c env S with
      | .ok k S1 => if k = true then loopB (b env S1) (whileN c b n) else .nx env S1
      | .exc e S1 => .exc e env S1
      | .bad => .bad)
    cases c env S with
    | ok k S1 =>
      cases k with
      | false => exact fun _ => rfl
      | true =>
        intro h
        replace h : loopB (b env S1) (whileN c b n) ≠ .bad := h
        show loopB (b env S1) (whileN c b m) = loopB (b env S1) (whileN c b n)
        cases q : b env S1 with
        | nx e2 S2 => rw [q] at h; exact ih e2 S2 (by omega) h
        | cnt e2 S2 => rw [q] at h; exact ih e2 S2 (by omega) h
        | _ => rfl
    | exc e S1 => exact fun _ => rfl
    | bad => exact fun _ => rfl
theorem whileS_of {c : BM} {b : SM} {n : Nat} {env : Sl} {S : S} {r : RS} (h : whileN c b n env S = r) (hr : r ≠ .bad) : whileS c b env S = r := by
  have ex : ∃ n, whileN c b n env S ≠ .bad := ⟨n, by rw [h]; exact hr⟩
  unfold whileS
  rw [dif_pos ex]
  have h1 := ex.choose_spec
  rcases Nat.le_total n ex.choose with hl | hl
  · rw [whileN_more c b n _ env S hl (by rw [h]; exact hr), h]
  · rw [← whileN_more c b _ n env S hl h1, h]
theorem whileS_n {c : BM} {b : SM} {env : Sl} {S : S} (h : whileS c b env S ≠ .bad) : ∃ n, whileN c b n env S = whileS c b env S := by
  by_cases ex : ∃ n, whileN c b n env S ≠ .bad
  · exact ⟨ex.choose, by unfold whileS; rw [dif_pos ex]⟩
  · unfold whileS at h; rw [dif_neg ex] at h; exact absurd rfl h

section
variable {K : PySem.W.Frag} {Ξ : Xi} {H : Hp} {ω : Om} {W : WX}
theorem spost_loop {r : RS} {k : SM} {D : Ends} {N : L2.St → Hp → Prop} (h : spost K Ξ H ω D W (loopB r k))
    (hN : ∀ σ' H' env' ω' S', Grow H ω H' ω' → RepE K Ξ H' ω' env' σ' → RepS K H' ω' S' → spost K Ξ H' ω' D W (k env' S') → N σ' H') : spost K Ξ H ω { D with nx := N, ct := N, bk := D.nx } W r := by
  cases r with
  | nx env' S' => exact fun σ' H' ω' g e s => hN σ' H' env' ω' S' g e s (spost_grow g h)
  | cnt env' S' => exact fun σ' H' ω' g e s => hN σ' H' env' ω' S' g e s (spost_grow g h)
  | brk env' S' => exact h
  | ret d S' => exact h
  | exc e env S' => exact h
  | bad => exact h
/-- what an iterator yields -/
def Yld (K : PySem.W.Frag) (H : Hp) (ω : Om) (p : List D × (S → Prop)) (J : It) : Prop :=
  ∀ H1 ω1 S1, Mv H ω H1 ω1 → RepS K H1 ω1 S1 → p.2 S1 → J.stop p.1.length H1 ∧ ∀ i d, p.1[i]? = some d → J.go i H1 ∧ ∀ x H2, J.yld i H1 x H2 → Grow H1 ω1 H2 ω1 ∧ Rep K H2 ω1 d x ∧ RepS K H2 ω1 S1
abbrev tI (K : PySem.W.Frag) (Ξ : Xi) (W : WX) (m : IM) : TI := tG K Ξ W (Yld K) m
end
section
variable {X : Cx} {Ξ : Xi} {W : WX} {pos : Pos} {a b c e tg : Expr} {ma mb mc : EM} {es : List Expr} {m : LM} {st : Stmt} {rest body : List Stmt} {ms mr : SM}
abbrev DI (X : Cx) (Ξ : Xi) (W : WX) (tg e : Expr) (m : IM) : Prop := PI X tg e (tI X.K Ξ W m)
theorem ds_asg {g : GM} {sl : List Nat} (he : DE X Ξ W e ma) (hg : DG X Ξ W sl tg g) (hs : swapsWithSole [tg] e pos.line X.env = pure false := by rfl) (hw : swappedStores [tg] e X.env = pure none := by rfl)
    (h1 : (assignEach [tg] X.env).map (·.2) = [assign tg X.env] := by rfl) : DS X Ξ W (.Assign [tg] e pos) (asgS ma g) := PS_weak (ps_asg he hg hs hw h1) fun D σ H h => asg_imp h
theorem ds_par2 {i j : Nat} {x y : Str} {px py pt : Pos} {kt k2 pt2} (hc : X.calm = true) (hN : X.N.Nodup) (hij : i ≠ j) (ha : DL X Ξ W [a, b] m)
    (hw : swappedStores [.Tuple [.Name x px, .Name y py] kt pt] (.Tuple [a, b] k2 pt2) X.env = pure (some [x, y]) := by rfl)
    (hi : X.N[i]? = some x := by rfl) (hj : X.N[j]? = some y := by rfl) (hx : X.env.scope.names.lookup x = some .local := by rfl) (hy : X.env.scope.names.lookup y = some .local := by rfl)
    (hs : swapsWithSole [.Tuple [.Name x px, .Name y py] kt pt] (.Tuple [a, b] k2 pt2) pos.line X.env = pure false := by rfl) :
    DS X Ξ W (.Assign [.Tuple [.Name x px, .Name y py] kt pt] (.Tuple [a, b] k2 pt2) pos) (par2S i j m) := PS_weak (ps_par hc hN hi hj hij hx hy ha hw hs) fun D σ H ⟨env, ω, S, hE, hS, p⟩ => by
  refine ⟨env, ω, S, hE, hS, ?_⟩
  unfold par2S at p
  cases q : m env S with
  | ok ds S1 =>
    rw [q] at p
    intro vs H' ω' g r s
    revert p
    rcases ds with _ | ⟨d1, _ | ⟨d2, _ | ⟨d3, r3⟩⟩⟩
    · exact fun p => p.elim
    · exact fun p => p.elim
    · intro p
      obtain ⟨x1, xs, rfl, r1, r2⟩ := r.cons_
      obtain ⟨x2, xs2, rfl, r2, r3⟩ := r2.cons_
      rw [r3.nil_]
      refine ⟨x1, x2, rfl, ?_⟩
      dsimp only at p
      cases q1 : env.put i d1 with
      | none => rw [q1] at p; exact p.elim
      | some e1 =>
        rw [q1] at p
        dsimp only at p
        cases q2 : e1.put j d2 with
        | none => rw [q2] at p; exact p.elim
        | some e2 =>
          rw [q2] at p
          exact p _ H' ω' g (((hE.grow g).putt r1 q1).putt r2 q2) s
    · exact fun p => p.elim
  | exc e S' =>
    rw [q] at p
    exact fun cls dd H' ω' g x s => p cls dd σ H' ω' g x (hE.grow g) s
  | bad => rw [q] at p; exact p
theorem ds_par3 {i j l : Nat} {x y z : Str} {px py pz pt : Pos} {kt k2 pt2} (hc : X.calm = true) (hN : X.N.Nodup) (hij : i ≠ j) (hil : i ≠ l) (hjl : j ≠ l) (ha : DL X Ξ W [a, b, c] m)
    (hw : swappedStores [.Tuple [.Name x px, .Name y py, .Name z pz] kt pt] (.Tuple [a, b, c] k2 pt2) X.env = pure (some [x, y, z]) := by rfl)
    (hi : X.N[i]? = some x := by rfl) (hj : X.N[j]? = some y := by rfl) (hl : X.N[l]? = some z := by rfl) (hx : X.env.scope.names.lookup x = some .local := by rfl) (hy : X.env.scope.names.lookup y = some .local := by rfl) (hz : X.env.scope.names.lookup z = some .local := by rfl)
    (hs : swapsWithSole [.Tuple [.Name x px, .Name y py, .Name z pz] kt pt] (.Tuple [a, b, c] k2 pt2) pos.line X.env = pure false := by rfl) :
    DS X Ξ W (.Assign [.Tuple [.Name x px, .Name y py, .Name z pz] kt pt] (.Tuple [a, b, c] k2 pt2) pos) (par3S i j l m) := PS_weak (ps_par3 hc hN hi hj hl hij hil hjl hx hy hz ha hw hs) fun D σ H ⟨env, ω, S, hE, hS, p⟩ => by
  refine ⟨env, ω, S, hE, hS, ?_⟩
  unfold par3S at p
  cases q : m env S with
  | ok ds S1 =>
    rw [q] at p
    intro vs H' ω' g r s
    revert p
    rcases ds with _ | ⟨d1, _ | ⟨d2, _ | ⟨d3, _ | ⟨d4, r4⟩⟩⟩⟩
    · exact fun p => p.elim
    · exact fun p => p.elim
    · exact fun p => p.elim
    · intro p
      obtain ⟨x1, xs, rfl, r1, t1⟩ := r.cons_
      obtain ⟨x2, xs2, rfl, r2, t2⟩ := t1.cons_
      obtain ⟨x3, xs3, rfl, r3, r4⟩ := t2.cons_
      rw [r4.nil_]
      refine ⟨x1, x2, x3, rfl, ?_⟩
      dsimp only at p
      cases q1 : env.put i d1 with
      | none => rw [q1] at p; exact p.elim
      | some e1 =>
        rw [q1] at p
        dsimp only at p
        cases q2 : e1.put j d2 with
        | none => rw [q2] at p; exact p.elim
        | some e2 =>
          rw [q2] at p
          dsimp only at p
          cases q3 : e2.put l d3 with
          | none => rw [q3] at p; exact p.elim
          | some e3 =>
            rw [q3] at p
            exact p _ H' ω' g ((((hE.grow g).putt r1 q1).putt r2 q2).putt r3 q3) s
    · exact fun p => p.elim
  | exc e S' =>
    rw [q] at p
    exact fun cls dd H' ω' g x s => p cls dd σ H' ω' g x (hE.grow g) s
  | bad => rw [q] at p; exact p
/-! ### for, while -/
theorem ds_for {mi : IM} {g : GM} {sl : List Nat} (hp : PassesOwn (model X.prog X.w) X.A X.env X.xe) (hc : X.calm = true) (hi : DI X Ξ W tg e mi) (hg : DG X Ξ W sl tg g) (hb : DSs X Ξ W body ms)
    (hs : ∀ x, foldedSetIterable e X.env x = pure x := by intro _; rfl) : DS X Ξ W (.For tg e body [] pos) (forS mi g ms) := PS_weak (ps_for hp hc hi hg hb hs) fun D σ H ⟨env, ω, S, hE, hS, p⟩ => by
  refine ⟨env, ω, S, hE, hS, ?_⟩
  unfold forS at p
  cases q : mi env S with
  | exc e S' =>
    rw [q] at p
    exact fun cls dd H' ω' g x s => p cls dd σ H' ω' g x (hE.grow g) s
  | bad => rw [q] at p; exact p
  | ok pr S1 =>
    rw [q] at p
    obtain ⟨xs, gd⟩ := pr
    replace p : spost X.K Ξ H ω D W (forL gd g ms xs env S1) := p
    intro J H1 ω1 g1 yl s1
    refine ⟨fun i k σ' H' => ∃ env' ω' S', k = xs.length - i ∧ i ≤ xs.length ∧ Grow H1 ω1 H' ω' ∧ RepE X.K Ξ H' ω' env' σ' ∧ RepS X.K H' ω' S' ∧ spost X.K Ξ H' ω' D W (forL gd g ms (xs.drop i) env' S'),
      ⟨_, env, ω1, S1, rfl, Nat.zero_le _, .refl, hE.grow g1, s1, by rw [List.drop_zero]; exact spost_grow g1 p⟩, ?_⟩
    rintro i k σ' H' ⟨env', ω', S', rfl, hi, gg, hE', hS', p'⟩
    by_cases hlt : i < xs.length
    · rw [List.drop_eq_getElem_cons hlt] at p'
      replace p' : spost X.K Ξ H' ω' D W (if gd S' then loopB ((g xs[i] env' S').only.bind ms) (forL gd g ms (xs.drop (i + 1))) else .bad) := p'
      by_cases hgd : gd S'
      · rw [if_pos hgd] at p'
        obtain ⟨_, yy⟩ := yl H' ω' S' gg.mv hS' hgd
        obtain ⟨go, yy⟩ := yy i xs[i] (by simp [hlt])
        refine .inr ⟨go, fun σ2 H2 => ∃ env2 ω2 S2, Grow H1 ω1 H2 ω2 ∧ RepE X.K Ξ H2 ω2 env2 σ2 ∧ RepS X.K H2 ω2 S2 ∧ spost X.K Ξ H2 ω2 D W (forL gd g ms (xs.drop (i + 1)) env2 S2), ?_, ?_⟩
        · rintro σ2 H2 ⟨env2, ω2, S2, h1, h2, h3, h4⟩
          exact ⟨xs.length - (i + 1), by omega, env2, ω2, S2, rfl, hlt, h1, h2, h3, h4⟩
        · intro x H2 hy
          obtain ⟨g2, r2, s2⟩ := yy x H2 hy
          refine ⟨xs[i], env', ω', S', r2, hE'.grow g2, s2, ?_⟩
          have p2 := spost_grow g2 p'
          have p3 := spost_loop p2 (N := fun σ2 H3 => ∃ env2 ω2 S2, Grow H1 ω1 H3 ω2 ∧ RepE X.K Ξ H3 ω2 env2 σ2 ∧ RepS X.K H3 ω2 S2 ∧ spost X.K Ξ H3 ω2 D W (forL gd g ms (xs.drop (i + 1)) env2 S2))
            (fun σ3 H3 env3 ω3 S3 g3 e3 s3 p3 => ⟨env3, ω3, S3, (gg.trans g2).trans g3, e3, s3, p3⟩)
          revert p3
          cases g xs[i] env' S' with
          | nx env2 S2 => exact fun p3 σ2 H3 ω3 g3 e3 s3 _ => ⟨env2, ω3, S2, e3, s3, spost_grow g3 p3⟩
          | exc e env2 S2 => exact fun p3 => p3
          | ret _ _ => exact fun p3 => p3.elim
          | brk _ _ => exact fun p3 => p3.elim
          | cnt _ _ => exact fun p3 => p3.elim
          | bad => exact fun p3 => p3.elim
      · rw [if_neg hgd] at p'; exact p'.elim
    · have e : i = xs.length := by omega
      subst e
      rw [List.drop_length] at p'
      replace p' : spost X.K Ξ H' ω' D W (if gd S' then .nx env' S' else .bad) := p'
      by_cases hgd : gd S'
      · rw [if_pos hgd] at p'
        obtain ⟨st, _⟩ := yl H' ω' S' gg.mv hS' hgd
        exact .inl ⟨st, p' σ' H' ω' .refl hE' hS'⟩
      · rw [if_neg hgd] at p'; exact p'.elim
theorem ds_while {m : BM} (hp : PassesOwn (model X.prog X.w) X.A X.env X.xe) (hc : DB X Ξ W c m) (hb : DSs X Ξ W body ms) : DS X Ξ W (.While c body [] pos) (whileS m ms) := PS_weak (ps_while hp hc hb) fun D σ H ⟨env, ω, S, hE, hS, p⟩ => by
  have hne : whileS m ms env S ≠ .bad := fun z => by rw [z] at p; exact p
  obtain ⟨n, hn⟩ := whileS_n hne
  rw [← hn] at p
  refine ⟨fun k σ' H' => ∃ env' ω' S', RepE X.K Ξ H' ω' env' σ' ∧ RepS X.K H' ω' S' ∧ spost X.K Ξ H' ω' D W (whileN m ms k env' S'), ⟨n, env, ω, S, hE, hS, p⟩, ?_⟩
  rintro k σ' H' ⟨env', ω', S', hE', hS', p'⟩
  cases k with
  | zero => exact p'.elim
  | succ k =>
    replace p' : spost X.K Ξ H' ω' D W (match m env' S' with
      | .ok k1 S1 => if k1 = true then loopB (ms env' S1) (whileN m ms k) else .nx env' S1
      | .exc e S1 => .exc e env' S1
      | .bad => .bad) := p'
    refine ⟨env', ω', S', hE', hS', ?_⟩
    cases q : m env' S' with
    | ok k1 S1 =>
      rw [q] at p'
      intro k2 H2 ω2 g2 r2 s2
      have r2' : k1 = k2 := r2
      subst r2'
      cases k1 with
      | false => exact p' _ H2 ω2 g2 (hE'.grow g2) s2
      | true =>
        refine ⟨fun σ3 H3 => ∃ env3 ω3 S3, RepE X.K Ξ H3 ω3 env3 σ3 ∧ RepS X.K H3 ω3 S3 ∧ spost X.K Ξ H3 ω3 D W (whileN m ms k env3 S3), fun σ3 H3 h3 => ⟨k, Nat.lt_succ_self k, h3⟩, env', ω2, S1, hE'.grow g2, s2, ?_⟩
        exact spost_loop (spost_grow g2 p') fun σ3 H3 env3 ω3 S3 g3 e3 s3 p3 => ⟨env3, ω3, S3, e3, s3, p3⟩
    | exc e S1 =>
      rw [q] at p'
      exact fun cls dd H2 ω2 g2 x2 s2 => p' cls dd σ' H2 ω2 g2 x2 (hE'.grow g2) s2
    | bad => rw [q] at p'; exact p'
end
end
end Dn
end

section
/-! # Dn5: comprehensions, raise, try, defs -/
namespace Dn
open PySem L2
open Classical
noncomputable section
/-! ### comprehensions -/
def wipeD (v : List (Option D)) : List Nat → List (Option D)
  | [] => v
  | i :: is => (wipeD v is).set i none
def wipeE (env : Sl) (sl : List Nat) : Sl := ⟨wipeD env.v sl, none⟩
def trueB : BM := fun _ S => .ok true S
def compL (gd : S → Prop) (g : GM) (t : BM) (e : EM) (env : Sl) : List D → S → R (List D)
  | [], S => if gd S then .ok [] S else .bad
  | d :: xs, S => if gd S then (match g d env S with
    | .nx env1 S1 => (match t env1 S1 with
      | .ok k S2 => if k = true then (match e env1 S2 with
          | .ok y S3 => (compL gd g t e env xs S3).bind fun ys S4 => .ok (y :: ys) S4
          | _ => .bad)
        else compL gd g t e env xs S2
      | _ => .bad)
    | _ => .bad) else .bad
def compE (st : Bool) (mi : IM) (g : GM) (t : BM) (e : EM) (sl : List Nat) : EM := fun env S => (mi env S).bind fun p S1 =>
  if p.1.length ≤ sizeLine then (match compL p.2 g t e (wipeE env sl) p.1 S1 with
    | .ok ys S2 => .ok (newL st ys S2).1 (newL st ys S2).2
    | _ => .bad) else .bad
abbrev W0 : WX := fun _ _ _ _ => False
section
variable {K : PySem.W.Frag} {Ξ : Xi} {H : Hp} {ω : Om} {S : S}
theorem wipeD_len (v : List (Option D)) : ∀ sl, (wipeD v sl).length = v.length
  | [] => rfl
  | i :: is => by unfold wipeD; rw [List.length_set, wipeD_len v is]
theorem wipeD_some {v : List (Option D)} {i : Nat} {d : D} : ∀ {sl : List Nat}, (wipeD v sl)[i]? = some (some d) → v[i]? = some (some d) ∧ i ∉ sl
  | [], h => ⟨h, by simp⟩
  | j :: sl, h => by
    unfold wipeD at h
    by_cases hj : j = i
    · subst hj
      by_cases hl : j < (wipeD v sl).length
      · rw [List.getElem?_set_self hl] at h; cases h
      · rw [List.getElem?_eq_none_iff.mpr (by rw [List.length_set]; omega)] at h; cases h
    · rw [List.getElem?_set_ne hj] at h
      obtain ⟨h1, h2⟩ := wipeD_some h
      exact ⟨h1, by simp only [List.mem_cons, not_or]; exact ⟨fun e => hj e.symm, h2⟩⟩
theorem RepE.wipe {env : Sl} {σ : L2.St} (h : RepE K Ξ H ω env σ) (sl : List Nat) : RepE K none H ω (wipeE env sl) (L2.wipe σ sl) := by
  refine ⟨by show (wipeD env.v sl).length = _; rw [wipeD_len, wipe_length, h.len], fun i d e => ?_, fun i e q => by cases q⟩
  obtain ⟨e1, e2⟩ := wipeD_some (show (wipeD env.v sl)[i]? = some (some d) from e)
  obtain ⟨v, ev, r⟩ := h.at_ i d e1
  exact ⟨v, by rw [wipe_out e2]; exact ev, r⟩
/-- an address is kept apart while its object is being made -/
abbrev Om.with (ω : Om) (p : Addr) : Om := ⟨ω.ρ, p :: ω.π⟩
theorem grow_priv {p : Addr} {o : HO} (hS : RepS K H ω S) (hp : H p = none) : Grow H ω (upd H p o) (ω.with p) ∧ RepS K (upd H p o) (ω.with p) S := by
  have hn := fresh_n hS hp
  have g : Grow H ω (upd H p o) (ω.with p) := ⟨⟨[], by simp, by simp⟩, ⟨[p], rfl, fun a ha => by rw [List.mem_singleton.mp ha]; exact hp⟩, (grow_new hn hp).rd, (grow_new hn hp).pk, (grow_new hn hp).fresh⟩
  refine ⟨g, hS.len, hS.nd, fun n a u h1 h2 => (hS.at_ n a u h1 h2).grow g ?_, fun a ha => ?_, fun a ha h => ?_⟩
  · rw [upd_ne]; rintro rfl; exact hn.1 (List.mem_of_getElem? h1)
  · rcases List.mem_cons.mp ha with rfl | ha
    · exact hn.1
    · exact hS.sep a ha
  · rcases List.mem_cons.mp ha with rfl | ha
    · rw [upd_same] at h; cases h
    · exact hS.pi a ha (g.fresh a h)
/-- the object that is being made is written -/
theorem mv_priv {p : Addr} {o : HO} (hp : p ∈ ω.π) : Mv H ω (upd H p o) ω := ⟨fun _ _ h => h, fun _ _ h _ => h, fun a u hn e => ⟨u, by rw [upd_ne]; exact e; rintro rfl; exact hn.2 hp, .refl u⟩⟩
theorem RepO.mv {H' : Hp} {ω' : Om} (g : Mv H ω H' ω') {a : Addr} {o : O} (h : RepO K H ω a o) (e : H' a = H a) : RepO K H' ω' a o := by
  cases o with
  | lst ds => obtain ⟨xs, h1, h2⟩ := h; exact ⟨xs, e.trans h1, h2.mv g⟩
  | dic ks ds => obtain ⟨xs, h1, h2, h3⟩ := h; exact ⟨xs, e.trans h1, h2, h3.mv g⟩
theorem repS_priv {p : Addr} {o : HO} (hS : RepS K H ω S) (hp : p ∈ ω.π) : RepS K (upd H p o) ω S := by
  refine ⟨hS.len, hS.nd, fun n a u h1 h2 => (hS.at_ n a u h1 h2).mv (mv_priv hp) ?_, hS.sep, fun a ha h => ?_⟩
  · rw [upd_ne]; rintro rfl; exact hS.sep a hp (List.mem_of_getElem? h1)
  · by_cases e : a = p
    · rw [e, upd_same] at h; cases h
    · rw [upd_ne e] at h; exact hS.pi a ha h
/-- .. and is no longer kept apart -/
theorem mv_unpi {ω' : Om} (e : ω'.ρ = ω.ρ) (h : ∀ a ∈ ω'.π, a ∈ ω.π) : Mv H ω H ω' := ⟨fun n a q => by rw [e]; exact q, fun a o hn _ => ⟨by rw [e]; exact hn.1, fun z => hn.2 (h a z)⟩, fun a u hn ee => ⟨u, ee, .refl u⟩⟩
theorem repS_unpi {ω' : Om} (hS : RepS K H ω S) (e : ω'.ρ = ω.ρ) (h : ∀ a ∈ ω'.π, a ∈ ω.π) : RepS K H ω' S :=
  ⟨by rw [e]; exact hS.len, by rw [e]; exact hS.nd, fun n a u h1 h2 => (hS.at_ n a u (by rw [← e]; exact h1) h2).mv (mv_unpi e h) rfl, fun a ha => by rw [e]; exact hS.sep a (h a ha), fun a ha => hS.pi a (h a ha)⟩
end
section
variable {X : Cx} {Ξ : Xi} {W : WX} {pos : Pos} {elt tg iter : Expr} {me : EM} {mi : IM} {g : GM} {mt : BM}
abbrev DT (X : Cx) (ifs : List Expr) (m : BM) : Prop := PTs X ifs (tBo X.K none W0 m)
theorem dt_nil : DT X [] trueB := ⟨fun pins s σ H Q I ⟨env, ω, S, hE, hS, p⟩ => pts_nil.run pins s σ H Q I (p true H ω .refl rfl hS)⟩
theorem dt_one {c : Expr} (h : DB X none W0 c mt) : DT X [c] mt := pts_one h
/-- the end of a list that was made apart -/
theorem priv_end {K : PySem.W.Frag} {H H1 : Hp} {ω ω1 : Om} {S : S} {st : Bool} {ds : List D} {xs : List V} {p : Addr} (g : Grow H ω H1 ⟨ω1.ρ, ω.π⟩) (hp : H p = none) (hx : H1 p = some (.lst xs)) (hpi : p ∈ ω1.π) (hpn : p ∉ ω.π)
    (hs : ∀ a ∈ ω.π, a ∈ ω1.π) (hS : RepS K H1 ω1 S) (hr : RepL K H1 ω1 ds xs) :
    ∃ ω', Grow H ω H1 ω' ∧ Rep K H1 ω' (newL st ds S).1 (.ref p) ∧ RepS K H1 ω' (newL st ds S).2 := by
  have hpr : p ∉ ω1.ρ := hS.sep p hpi
  cases st with
  | false =>
    refine ⟨⟨ω1.ρ, ω.π⟩, g, ?_, repS_unpi hS rfl hs⟩
    unfold newL Rep
    exact ⟨p, xs, rfl, ⟨hpr, hpn⟩, hx, RepL.mv (mv_unpi (ω := ω1) (ω' := ⟨ω1.ρ, ω.π⟩) rfl hs) _ _ hr⟩
  | true =>
    have mv1 : Mv H1 ω1 H1 ⟨ω1.ρ ++ [p], ω.π⟩ := ⟨fun n a q => by
        show (ω1.ρ ++ [p])[n]? = some a
        rw [List.getElem?_append_left (List.getElem?_eq_some_iff.mp q).1]; exact q, fun a o hn e => ⟨fun z => by
        rcases List.mem_append.mp z with z | z
        · exact hn.1 z
        · rw [List.mem_singleton.mp z] at hn; exact hn.2 hpi, fun z => hn.2 (hs a z)⟩, fun a u hn e => ⟨u, e, .refl u⟩⟩
    refine ⟨⟨ω1.ρ ++ [p], ω.π⟩, ?_, ?_, ?_⟩
    · obtain ⟨η, e1, e2⟩ := g.ext
      refine ⟨⟨η ++ [p], by show ω1.ρ ++ [p] = _; rw [show ω1.ρ = ω.ρ ++ η from e1, List.append_assoc], fun a ha => ?_⟩, ⟨[], rfl, by simp⟩, g.rd, g.pk, g.fresh⟩
      rcases List.mem_append.mp ha with ha | ha
      · exact e2 a ha
      · rw [List.mem_singleton.mp ha]; exact hp
    · unfold newL Rep
      refine ⟨p, rfl, ?_⟩
      show (ω1.ρ ++ [p])[S.length]? = some p
      rw [← hS.len]; simp
    · refine ⟨by simp [newL, hS.len], List.nodup_append.mpr ⟨hS.nd, by simp, fun a ha b hb => ?_⟩, fun n a u h1 h2 => ?_, fun a ha h => ?_, fun a ha => hS.pi a (hs a ha)⟩
      · rw [List.mem_singleton.mp hb]; rintro rfl; exact hpr ha
      · have hl := hS.len
        replace h1 : (ω1.ρ ++ [p])[n]? = some a := h1
        replace h2 : (S ++ [O.lst ds])[n]? = some u := h2
        by_cases hn : n < ω1.ρ.length
        · rw [List.getElem?_append_left hn] at h1
          rw [List.getElem?_append_left (by omega)] at h2
          exact (hS.at_ n a u h1 h2).mv mv1 rfl
        · rw [List.getElem?_append_right (by omega)] at h1 h2
          rw [hl] at h1
          cases q : n - S.length with
          | zero =>
            rw [q] at h1 h2
            simp at h1 h2
            subst h1; subst h2
            exact ⟨xs, hx, hr.mv mv1⟩
          | succ m => rw [q] at h1; simp at h1
      · rcases List.mem_append.mp h with h | h
        · exact hS.sep a (hs a ha) h
        · rw [List.mem_singleton.mp h] at ha; exact hpn ha
theorem wipe_at {σ : L2.St} {i : Nat} : ∀ {sl : List Nat}, i ∈ sl → (L2.wipe σ sl)[i]? = if i < σ.length then some none else none
  | [], h => by simp at h
  | j :: sl, h => by
    unfold L2.wipe
    by_cases hj : j = i
    · subst hj
      by_cases hl : j < σ.length
      · rw [if_pos hl, List.getElem?_set_self (by rw [wipe_length]; exact hl)]
      · rw [if_neg hl, List.getElem?_eq_none_iff.mpr (by rw [List.length_set, wipe_length]; omega)]
    · rw [List.getElem?_set_ne hj]
      exact wipe_at ((List.mem_cons.mp h).resolve_left fun e => hj e.symm)
theorem wipe_twice (σ : L2.St) (sl : List Nat) : L2.wipe (L2.wipe σ sl) sl = L2.wipe σ sl := by
  apply List.ext_getElem?
  intro i
  by_cases hi : i ∈ sl
  · rw [wipe_at hi, wipe_at hi, wipe_length]
  · rw [wipe_out hi]
theorem comp_imp {st : Bool} {sl : List Nat} {σ : L2.St} {H : Hp} {Q : VK} : tD X.K Ξ W (compE st mi g mt me sl) σ H Q → tLc (tI X.K Ξ W mi) (gD X.K none W0 sl g) (tBo X.K none W0 mt) (tD X.K none W0 me) sl σ H Q := fun ⟨env, ω, S, hE, hS, p0⟩ =>
  seqG hE hS p0 fun J H1 ω1 pr S1 g1 yl s1 e1 p1 => by
    intro p hD
    obtain ⟨xs, gd⟩ := pr
    replace p1 : post X.K (Rep X.K) H1 ω1 Q (fun c d H' => W c d σ H') (if xs.length ≤ sizeLine then (match compL gd g mt me (wipeE env sl) xs S1 with
      | .ok ys S2 => .ok (newL st ys S2).1 (newL st ys S2).2
      | _ => .bad) else .bad) := p1
    by_cases hz : xs.length ≤ sizeLine
    case neg => rw [if_neg hz] at p1; exact p1.elim
    rw [if_pos hz] at p1
    obtain ⟨gb, sb⟩ := grow_priv (o := .lst []) s1 hD
    have hDpi : p ∉ ω1.π := (fresh_n s1 hD).2
    -- what is still wanted, having made acc
    let Fin : List D → Nat → Dn.S → Prop := fun ds i S2 => ∀ ys S3, compL gd g mt me (wipeE env sl) (xs.drop i) S2 = .ok ys S3 → compL gd g mt me (wipeE env sl) xs S1 = .ok (ds ++ ys) S3
    refine ⟨fun i m H' => ∃ acc ds ω' S', m = xs.length - i ∧ i ≤ xs.length ∧ acc.length ≤ i ∧ Grow H1 ω1 H' ⟨ω'.ρ, ω1.π⟩ ∧ Mv H1 ω1 H' ω' ∧ (∀ a ∈ ω1.π, a ∈ ω'.π) ∧ p ∈ ω'.π ∧ H' p = some (.lst acc) ∧ RepL X.K H' ω' ds acc ∧ RepS X.K H' ω' S' ∧ Yld X.K H' ω' (xs, gd) J ∧ Fin ds i S' ∧
        (∃ ys S3, compL gd g mt me (wipeE env sl) (xs.drop i) S' = .ok ys S3),
      ⟨_, [], [], ω1.with p, S1, rfl, Nat.zero_le _, Nat.le_refl _, ⟨⟨[], by simp, by simp⟩, ⟨[], rfl, by simp⟩, gb.rd, gb.pk, gb.fresh⟩, gb.mv, fun a ha => List.mem_cons_of_mem _ ha, List.mem_cons_self, upd_same, repL_nil, sb,
        fun H2 ω2 S2 g2 s2 h2 => yl H2 ω2 S2 (gb.mv.trans g2) s2 h2, fun ys S3 h => by simpa using h, ?_⟩, ?_⟩
    · rw [List.drop_zero]
      cases q : compL gd g mt me (wipeE env sl) xs S1 with
      | ok ys S2 => exact ⟨ys, S2, rfl⟩
      | exc e S2 => rw [q] at p1; exact p1.elim
      | bad => rw [q] at p1; exact p1.elim
    rintro i m H' ⟨acc, ds, ω', S', rfl, hi, hacc, gg, mvv, hsub, hDin, hDat, hds, hS', yl', fin, ys, S3, hrun⟩
    by_cases hlt : i < xs.length
    · rw [List.drop_eq_getElem_cons hlt] at hrun
      unfold compL at hrun
      by_cases hgd : gd S'
      case neg => rw [if_neg hgd] at hrun; cases hrun
      rw [if_pos hgd] at hrun
      obtain ⟨_, yy⟩ := yl' H' ω' S' .refl hS' hgd
      obtain ⟨go, yy⟩ := yy i xs[i] (by simp [hlt])
      refine .inr ⟨go, fun H2 => ∃ acc2 ds2 ω2 S2, acc2.length ≤ i + 1 ∧ Grow H1 ω1 H2 ⟨ω2.ρ, ω1.π⟩ ∧ Mv H1 ω1 H2 ω2 ∧ (∀ a ∈ ω1.π, a ∈ ω2.π) ∧ p ∈ ω2.π ∧ H2 p = some (.lst acc2) ∧ RepL X.K H2 ω2 ds2 acc2 ∧ RepS X.K H2 ω2 S2 ∧ Yld X.K H2 ω2 (xs, gd) J ∧ Fin ds2 (i + 1) S2 ∧
        (∃ ys S3, compL gd g mt me (wipeE env sl) (xs.drop (i + 1)) S2 = .ok ys S3), ?_, ?_⟩
      · rintro H2 ⟨acc2, ds2, ω2, S2, h1, h2⟩
        exact ⟨xs.length - (i + 1), by omega, acc2, ds2, ω2, S2, rfl, hlt, h1, h2⟩
      · intro x H2 hy
        obtain ⟨g2, r2, s2⟩ := yy x H2 hy
        cases q1 : g xs[i] (wipeE env sl) S' with
        | exc e a b => rw [q1] at hrun; cases hrun
        | ret a b => rw [q1] at hrun; cases hrun
        | brk a b => rw [q1] at hrun; cases hrun
        | cnt a b => rw [q1] at hrun; cases hrun
        | bad => rw [q1] at hrun; cases hrun
        | nx env1 S2 =>
          rw [q1] at hrun
          dsimp only at hrun
          have eW : RepE X.K none H' ω' (wipeE env sl) (L2.wipe σ sl) := (hE.wipe sl).mv (Grow.mv g1) |>.mv mvv
          -- general: from a state grown out of (H', ω')
          have big : ∀ {H4 ω4}, Grow H' ω' H4 ω4 → Grow H1 ω1 H4 ⟨ω4.ρ, ω1.π⟩ ∧ Mv H1 ω1 H4 ω4 ∧ (∀ a ∈ ω1.π, a ∈ ω4.π) ∧ p ∈ ω4.π ∧ H4 p = some (.lst acc) ∧ RepL X.K H4 ω4 ds acc ∧ Yld X.K H4 ω4 (xs, gd) J := by
            intro H4 ω4 g4
            refine ⟨?_, ?_, fun a ha => g4.inpi (hsub a ha), g4.inpi hDin, (g4.pk p hDin).trans hDat, hds.grow g4, fun H5 ω5 S5 g5 => yl' H5 ω5 S5 (g4.mv.trans g5)⟩
            · obtain ⟨η, e5, f5⟩ := gg.ext
              obtain ⟨θ, e6, f6⟩ := g4.ext
              refine ⟨⟨η ++ θ, by show ω4.ρ = _; rw [e6, show ω'.ρ = ω1.ρ ++ η from e5, List.append_assoc], fun a ha => ?_⟩, ⟨[], rfl, by simp⟩, fun a o hn e => ?_, fun a ha => ?_, fun a ha => gg.fresh a (g4.fresh a ha)⟩
              · rcases List.mem_append.mp ha with ha | ha
                · exact f5 a ha
                · exact gg.fresh a (f6 a ha)
              · obtain ⟨o1, e7, k7⟩ := mvv.rd a o hn e
                obtain ⟨o2, e8, k8⟩ := g4.rd a o1 (mvv.n a o hn e) e7
                exact ⟨o2, e8, k7.trans k8⟩
              · exact (g4.pk a (hsub a ha)).trans (gg.pk a ha)
            · exact ⟨fun n a h => g4.idx (mvv.idx n a h), fun a o hn e => by
                obtain ⟨o1, e7, k7⟩ := mvv.rd a o hn e
                exact g4.n (mvv.n a o hn e) e7, fun a o hn e => by
                obtain ⟨o1, e7, k7⟩ := mvv.rd a o hn e
                obtain ⟨o2, e8, k8⟩ := g4.rd a o1 (mvv.n a o hn e) e7
                exact ⟨o2, e8, k7.trans k8⟩⟩
          refine ⟨xs[i], wipeE env sl, ω', S', r2, eW.grow g2, s2, ?_⟩
          rw [q1]
          intro σ3 H3 ω3 g3 e3 s3 hw
          refine ⟨hw.trans (wipe_twice σ sl), ?_⟩
          cases q2 : mt env1 S2 with
          | exc e b => rw [q2] at hrun; cases hrun
          | bad => rw [q2] at hrun; cases hrun
          | ok k S4 =>
            rw [q2] at hrun
            dsimp only at hrun
            refine ⟨env1, ω3, S2, e3, s3, ?_⟩
            rw [q2]
            intro k' H4 ω4 g4 rk s4
            have rk' : k = k' := rk
            subst rk'
            cases k with
            | false =>
              rw [if_neg Bool.false_ne_true] at hrun ⊢
              obtain ⟨b1, b2, b3, b4, b5, b6, b7⟩ := big ((g2.trans g3).trans g4)
              refine ⟨acc, ds, ω4, S4, by omega, b1, b2, b3, b4, b5, b6, s4, b7, fun zs S5 hz => fin zs S5 ?_, ⟨ys, S3, hrun⟩⟩
              rw [List.drop_eq_getElem_cons hlt]
              unfold compL
              rw [if_pos hgd, q1]
              dsimp only
              rw [q2]
              dsimp only
              rw [if_neg Bool.false_ne_true]
              exact hz
            | true =>
              rw [if_pos rfl] at hrun ⊢
              cases q3 : me env1 S4 with
              | exc e b => rw [q3] at hrun; cases hrun
              | bad => rw [q3] at hrun; cases hrun
              | ok y S5 =>
                rw [q3] at hrun
                dsimp only at hrun
                refine ⟨env1, ω4, S4, e3.grow g4, s4, ?_⟩
                rw [q3]
                intro v H5 ω5 g5 rv s5
                obtain ⟨b1, b2, b3, b4, b5, b6, b7⟩ := big (((g2.trans g3).trans g4).trans g5)
                refine ⟨acc, b5, by omega, ?_⟩
                cases q4 : compL gd g mt me (wipeE env sl) (xs.drop (i + 1)) S5 with
                | exc e b => rw [q4] at hrun; cases hrun
                | bad => rw [q4] at hrun; cases hrun
                | ok zs S6 =>
                  have nD : ∀ a o, ω1.N a → H1 a = some o → a ≠ p := fun a o _ e => ne_of_none e hD
                  refine ⟨acc ++ [v], ds ++ [y], ω5, S5, by rw [List.length_append]; show acc.length + 1 ≤ _; omega, ?_, ?_, b3, b4, upd_same, (b6.append (repL_cons rv repL_nil)).mv (mv_priv b4), repS_priv s5 b4, ?_, fun zs' S7 hz => ?_, ⟨zs, S6, q4⟩⟩
                  · refine ⟨b1.ext, b1.pi, fun a o hn e => ?_, fun a ha => ?_, fun a ha => ?_⟩
                    · rw [upd_ne (nD a o hn e)]; exact b1.rd a o hn e
                    · rw [upd_ne (by rintro rfl; exact hDpi ha)]; exact b1.pk a ha
                    · by_cases e : a = p
                      · rw [e]; exact hD
                      · rw [upd_ne e] at ha; exact b1.fresh a ha
                  · exact ⟨b2.idx, b2.n, fun a o hn e => by rw [upd_ne (nD a o hn e)]; exact b2.rd a o hn e⟩
                  · exact fun H6 ω6 S6' g6 s6 hg6 => b7 H6 ω6 S6' ((mv_priv b4).trans g6) s6 hg6
                  · have := fin (y :: zs') S7 (by
                      rw [List.drop_eq_getElem_cons hlt]
                      unfold compL
                      rw [if_pos hgd, q1]
                      dsimp only
                      rw [q2]
                      dsimp only
                      rw [if_pos rfl, q3]
                      dsimp only
                      rw [hz]
                      rfl)
                    rw [this, List.append_assoc]
                    rfl
    · have e : i = xs.length := by omega
      subst e
      rw [List.drop_length] at hrun
      unfold compL at hrun
      by_cases hgd : gd S'
      case neg => rw [if_neg hgd] at hrun; cases hrun
      rw [if_pos hgd] at hrun
      obtain ⟨st', _⟩ := yl' H' ω' S' .refl hS' hgd
      refine .inl ⟨st', ?_⟩
      have hall := fin [] S' (by rw [List.drop_length]; unfold compL; rw [if_pos hgd])
      rw [hall, List.append_nil] at p1
      obtain ⟨ω9, h1, h2, h3⟩ := priv_end (st := st) gg hD hDat hDin hDpi hsub hS' hds
      exact p1 _ H' ω9 h1 h2 h3
end
end
end Dn
end

section
/-! # Dn6: comprehensions' rules, raise, try, defs -/
namespace Dn
open PySem PySem.Spec PyProof.Rows L2
open Classical
noncomputable section
section
variable {X : Cx} {Ξ : Xi} {W : WX} {pos : Pos} {elt tg iter e : Expr} {me : EM} {mi : IM} {g : GM} {mt : BM}
theorem de_comp {st : Bool} {ifs : List Expr} {scope : Scope} {own : List (Str × Nat)} (hc : X.calm = true) (hN : X.N.Nodup) (hi : DI X Ξ W tg iter mi) (ok : BlkOk X.N X.env.scope scope own)
    (hg : ∀ (s : Shared) (H : Hp) (C : Addr) (cl : List (Str × Addr)) (fp : List Addr), DG (X.blk s H scope (compEnvC scope cl C X.env) fp) none W0 (own.map (·.2)) tg g)
    (ht : ∀ (s : Shared) (H : Hp) (C : Addr) (cl : List (Str × Addr)) (fp : List Addr), DT (X.blk s H scope (compEnvC scope cl C X.env) fp) ifs mt)
    (he : ∀ (s : Shared) (H : Hp) (C : Addr) (cl : List (Str × Addr)) (fp : List Addr), DE (X.blk s H scope (compEnvC scope cl C X.env) fp) none W0 elt me)
    (hs : ∀ x, foldedSetIterable iter X.env x = pure x := by intro _; rfl) : DE X Ξ W (.ListComp elt [⟨tg, iter, ifs, 0⟩] scope pos) (compE st mi g mt me (own.map (·.2))) :=
  PE_weak (pe_lc hc hN hi ok hg ht he hs) fun σ H Q h => comp_imp h
theorem ds_comp {st : Bool} {i : Nat} {y : Str} {py spos : Pos} {ifs : List Expr} {scope : Scope} {own : List (Str × Nat)} (hc : X.calm = true) (hN : X.N.Nodup) (hi : DI X Ξ W tg iter mi) (ok : BlkOk X.N X.env.scope scope own)
    (hg : ∀ (s : Shared) (H : Hp) (C : Addr) (cl : List (Str × Addr)) (fp : List Addr), DG (X.blk s H scope (compEnvC scope cl C X.env) fp) none W0 (own.map (·.2)) tg g)
    (ht : ∀ (s : Shared) (H : Hp) (C : Addr) (cl : List (Str × Addr)) (fp : List Addr), DT (X.blk s H scope (compEnvC scope cl C X.env) fp) ifs mt)
    (he : ∀ (s : Shared) (H : Hp) (C : Addr) (cl : List (Str × Addr)) (fp : List Addr), DE (X.blk s H scope (compEnvC scope cl C X.env) fp) none W0 elt me)
    (hsw : swapsWith (.ListComp elt [⟨tg, iter, ifs, 0⟩] scope pos) (some (.Name y py)) spos.line X.env = pure true)
    (hy : X.N[i]? = some y := by rfl) (hyl : X.env.scope.names.lookup y = some .local := by rfl)
    (hs : ∀ x, foldedSetIterable iter X.env x = pure x := by intro _; rfl) : DS X Ξ W (.Assign [.Name y py] (.ListComp elt [⟨tg, iter, ifs, 0⟩] scope pos) spos) (asgS (compE st mi g mt me (own.map (·.2))) (nameG i)) :=
  PS_weak (ps_setLc hc hN hy hyl hsw hi ok hg ht he hs) fun D σ H ⟨env, ω, S, hE, hS, p⟩ => by
    refine comp_imp (st := st) (g := g) (mt := mt) (me := me) (mi := mi) ?_
    exact seqRS hE hS p fun v H' ω' d S' gg r s e p => by
      unfold nameG at p
      cases q : env.put i d with
      | none => rw [q] at p; exact p.elim
      | some env' =>
        rw [q] at p
        exact p _ H' ω' .refl (RepE.putt e r q) s
/-! ### raise -/
def raiseS (x : Str) : SM := fun env S => .exc ⟨x, []⟩ env S
/-- an own exception class without __init__ -/
structure ExcC (K : PySem.W.Frag) (mg : Str → Option Value) (x : Str) : Prop where
  q : PySem.W.excIn K (He.ga K x) He.veBase "ValueError.__new__" = true
  g : mg x = some (.ref (He.ga K x))
  k : PySem.W.keepIn K (.ref (He.ga K x)) = true
  b : PySem.W.subIn K (.ref (He.ga K x)) (.type "BaseException") = some true
  t : PySem.W.typeIn K (.ref (He.ga K x)) = some (.type "type")
theorem pmk_own0 {C : Addr} {bmB : List Value} {B newId initId : String} {x : Str} {p : Pos} (F : ExcBaseFacts B newId initId bmB) (q : PySem.W.excIn X.K C bmB newId = true) (gC : X.mg x = some (.ref C))
    (kC : PySem.W.keepIn X.K (.ref C) = true) (r : Raises X (.ref C)) (hg : Gl X x) (hdb : (x == ("__debug__" : Str)) = false := by decide) :
    PMk X (.Call (.Name x p) [] [] pos) (fun σ H Q => Q (.ref C) none H) := by
  intro pins s σ H Q I h
  refine wpAny_Call_Name_kw (ld_glob I hg gC ?_ hdb)
  refine PySem.W.callWith_K0 I.kIn kC ?_
  show wpAny _ _ (call (.ref C) []) _ _ _
  obtain ⟨bm, N, nm, qn, bs, hdct, sn, sub, ab, col, dd, k0, k1, k2, k3, k5, mN, hC, hN, hni, T⟩ := exc_obj I.kIn q
  obtain ⟨hp1, g1, d1, tk1, os1⟩ := s
  refine wpAny_call_exc_subT F T hC hN hni (fun h' e hm => ?_) (Nat.zero_le _)
  exact mk_of I hm r h (I.hok.gone hm.new)
theorem ds_raise {x : Str} {p p2 : Pos} (hc : X.calm = true) (tk : Takes X W) (h : ExcC X.K X.mg x) (hg : Gl X x) (hdb : (x == ("__debug__" : Str)) = false := by decide) :
    DS X Ξ W (.Raise (some (.Call (.Name x p) [] [] p2)) none pos) (raiseS x) :=
  PS_weak (ps_raise hc tk (pmk_own0 F.excBase_ValueError h.q h.g h.k (raises_own h.b h.t) hg hdb)) fun D σ H ⟨env, ω, S, hE, hS, q⟩ => q _ _ σ H ω .refl ⟨rfl, .inl rfl⟩ hE hS
/-! ### try -/
/-- of which classes a thing of a class is -/
def subOf (l : List (Str × Bool)) (n : Str) : Option Bool := l.lookup n
def ExmOk (K : PySem.W.Frag) (c : Value) (l : List (Str × Bool)) : Prop := ∀ n b, l.lookup n = some b → PySem.W.exmOne K (.ref (He.ga K n)) c = some b
def unS (i : Nat) : RS → RS
  | .nx env S => .nx ⟨env.v.set i none, none⟩ S
  | .brk env S => .brk ⟨env.v.set i none, none⟩ S
  | .cnt env S => .cnt ⟨env.v.set i none, none⟩ S
  | .ret d S => .ret d S
  | _ => .bad
def tryAsS (body : SM) (l : List (Str × Bool)) (i : Nat) (suite : SM) : SM := fun env S => match body env S with
  | .exc e env1 S1 => (match l.lookup e.cls with
    | some b => if b = true then (if i < env1.v.length then unS i (suite ⟨env1.v.set i none, some (i, e)⟩ S1) else .bad) else .exc e env1 S1
    | none => .bad)
  | r => r
/-- except clauses without a name -/
def noX : RS → RS
  | .exc _ _ _ => .bad
  | r => r
def handS (l : List (List (Str × Bool) × SM)) (e : Ex) (env : Sl) (S : S) : RS := match l with
  | [] => .exc e env S
  | (l, m) :: r => match l.lookup e.cls with
    | some b => if b = true then noX (m ⟨env.v, none⟩ S) else handS r e env S
    | none => .bad
def tryS (body : SM) (l : List (List (Str × Bool) × SM)) : SM := fun env S => match body env S with
  | .exc e env1 S1 => handS l e env1 S1
  | r => r
theorem RepE.unset {K : PySem.W.Frag} {Ξ Ξ' : Xi} {H : Hp} {ω : Om} {env : Sl} {σ : L2.St} (h : RepE K Ξ H ω env σ) (i : Nat) : RepE K Ξ' H ω ⟨env.v.set i none, none⟩ (σ.set i none) := by
  refine ⟨by simp [h.len], fun j d e => ?_, fun j e q => by cases q⟩
  by_cases hj : i = j
  · subst hj
    replace e : (env.v.set i none)[i]? = some (some d) := e
    by_cases hl : i < env.v.length
    · rw [List.getElem?_set_self hl] at e; cases e
    · rw [List.getElem?_eq_none_iff.mpr (by rw [List.length_set]; omega)] at e; cases e
  · replace e : (env.v.set i none)[j]? = some (some d) := e
    rw [List.getElem?_set_ne hj] at e
    obtain ⟨v, e1, r⟩ := h.at_ j d e
    exact ⟨v, by rw [List.getElem?_set_ne hj]; exact e1, r⟩
theorem RepE.un {K : PySem.W.Frag} {Ξ Ξ' : Xi} {H : Hp} {ω : Om} {env : Sl} {σ : L2.St} (h : RepE K Ξ H ω env σ) : RepE K Ξ' H ω ⟨env.v, none⟩ σ := ⟨h.len, h.at_, fun j e q => by cases q⟩
theorem RepE.ofNone {K : PySem.W.Frag} {Ξ : Xi} {H : Hp} {ω : Om} {env : Sl} {σ : L2.St} (h : RepE K none H ω env σ) : RepE K Ξ H ω env σ := ⟨h.len, h.at_, fun j e q => by obtain ⟨_, _, _, z, _⟩ := h.ex j e q; cases z⟩
theorem try_post {K : PySem.W.Frag} {H : Hp} {ω : Om} {D : Ends} {W W' : WX} {r : RS} {f : Ex → Sl → S → RS} (h : spost K Ξ H ω D W (match r with
    | .exc e env1 S1 => f e env1 S1
    | r => r)) (hw : ∀ e env1 S1 cls dd σ' H' ω', r = .exc e env1 S1 → Grow H ω H' ω' → RepX K H' ω' e cls dd → RepE K Ξ H' ω' env1 σ' → RepS K H' ω' S1 → spost K Ξ H' ω' D W (f e env1 S1) → W' cls dd σ' H') : spost K Ξ H ω D W' r := by
  cases r with
  | exc e env1 S1 => exact fun cls dd σ' H' ω' g x e2 s => hw e env1 S1 cls dd σ' H' ω' rfl g x e2 s (spost_grow g h)
  | nx env' S' => exact h
  | ret d S' => exact h
  | brk env S' => exact h
  | cnt env S' => exact h
  | bad => exact h
theorem ds_tryAs {x n : Str} {c : Value} {i : Nat} {l : List (Str × Bool)} {body suite : List Stmt} {b₀ : Stmt} {np pos' : Pos} {mb ms : SM} (hs : X.stack = X.env :: X.outer) (hf : X.env.frame = some X.env.locals) (hN : X.N.Nodup) (hc : Names X x c) (hl : ExmOk X.K c l) (tk : Takes X W)
    (hb : ∀ (W : WX) (pn : List (Addr × Obj)) (xe : Value → Shared → Prop), Takes (X.tr pn xe) W → PassesOwn (model X.prog X.w) X.A X.env xe → DSs (X.tr pn xe) Ξ W body mb)
    (hsu : ∀ (a : Addr) (oe : Obj) (cls : Value) (d : Option Addr) (pn : List (Addr × Obj)), Zc cls d oe → (∃ vs, oe.data = .fields vs) → DSs (X.suite a ((a, oe) :: pn)) (some (a, cls, d)) W0 (b₀ :: suite) ms)
    (hi : X.N[i]? = some n := by rfl) (hln : X.env.kindOf n = some .local := by rfl) :
    DS X Ξ W (.Try body [.ExceptHandler (some (.Name x np)) (some n) (b₀ :: suite) pos'] [] [] pos) (tryAsS mb l i ms) :=
  PS_weak (ps_try_as (Wout := W) (tb := fun W => sD X.K Ξ W mb) (ts := fun a cls d => fun D σ H => ∃ env ω S, RepE X.K (some (a, cls, d)) H ω env σ ∧ RepS X.K H ω S ∧ spost X.K (some (a, cls, d)) H ω D W0 (ms env S)) hs hf hN hi hln hc tk hb hsu) fun D σ H ⟨env, ω, S, hE, hS, p⟩ => by
    refine ⟨env, ω, S, hE, hS, try_post p ?_⟩
    intro e env1 S1 cls dd σ' H' ω' _ g rx re rs p1
    cases q : l.lookup e.cls with
    | none => rw [q] at p1; exact p1.elim
    | some b =>
      rw [q] at p1
      refine ⟨b, by rw [rx.1]; exact hl _ _ q, fun hb1 a ha => ?_, fun hb1 => ?_⟩
      · subst hb1
        replace p1 : spost X.K Ξ H' ω' D W (if i < env1.v.length then unS i (ms ⟨env1.v.set i none, some (i, e)⟩ S1) else .bad) := p1
        by_cases hlt : i < env1.v.length
        case neg => rw [if_neg hlt] at p1; exact p1.elim
        rw [if_pos hlt] at p1
        have hil : i < σ'.length := re.len ▸ hlt
        refine ⟨⟨env1.v.set i none, some (i, e)⟩, ω', S1, ?_, rs, ?_⟩
        · have hu := re.unset (Ξ' := Ξ) i
          refine ⟨by simpa using hu.len, fun j d ej => ?_, fun j e' ej => ?_⟩
          · obtain ⟨v, e1, r⟩ := hu.at_ j d ej
            have hj : i ≠ j := by
              rintro rfl
              replace ej : (env1.v.set i none)[i]? = some (some d) := ej
              by_cases hl : i < env1.v.length
              · rw [List.getElem?_set_self hl] at ej; cases ej
              · rw [List.getElem?_eq_none_iff.mpr (by rw [List.length_set]; omega)] at ej; cases ej
            rw [List.getElem?_set_ne hj] at e1
            exact ⟨v, by rw [List.getElem?_set_ne hj]; exact e1, r⟩
          · injection ej with ej
            injection ej with e1 e2
            subst e1; subst e2
            exact ⟨a, cls, dd, rfl, List.getElem?_set_self hil, rx⟩
        · cases q2 : ms ⟨env1.v.set i none, some (i, e)⟩ S1 with
          | nx env2 S2 => rw [q2] at p1; exact fun σ2 H2 ω2 g2 e2 s2 => p1 _ H2 ω2 g2 (e2.unset i) s2
          | ret d S2 => rw [q2] at p1; exact p1
          | brk env2 S2 => rw [q2] at p1; exact fun σ2 H2 ω2 g2 e2 s2 => p1 _ H2 ω2 g2 (e2.unset i) s2
          | cnt env2 S2 => rw [q2] at p1; exact fun σ2 H2 ω2 g2 e2 s2 => p1 _ H2 ω2 g2 (e2.unset i) s2
          | exc e env2 S2 => rw [q2] at p1; exact p1.elim
          | bad => rw [q2] at p1; exact p1.elim
      · subst hb1
        exact p1 cls dd σ' H' ω' .refl rx re rs
/-- the clauses without a name -/
inductive HdsD (X : Cx) : List ExceptHandler → List (List (Str × Bool) × SM) → Prop
  | nil : HdsD X [] []
  | cons {x : Str} {c : Value} {l : List (Str × Bool)} {m : SM} {b₀ : Stmt} {suite : List Stmt} {np pos' : Pos} {hds : List ExceptHandler} {ls : List (List (Str × Bool) × SM)} (hc : Names X x c) (hl : ExmOk X.K c l)
      (hsu : ∀ (a : Addr) (oe : Obj) (cls : Value) (d : Option Addr) (pn : List (Addr × Obj)), Zc cls d oe → (∃ vs, oe.data = .fields vs) → DSs (X.suite a ((a, oe) :: pn)) none W0 (b₀ :: suite) m) (r : HdsD X hds ls) :
      HdsD X (.ExceptHandler (some (.Name x np)) none (b₀ :: suite) pos' :: hds) ((l, m) :: ls)
theorem hds_ok {hds : List ExceptHandler} {ls : List (List (Str × Bool) × SM)} (h : HdsD X hds ls) : ∃ cs : List (Value × (Addr → Value → Option Addr → TS)), HdsOk X hds cs ∧
    ∀ (D : Ends) (e : Ex) (env : Sl) (S : S) (cls : Value) (dd : Option Addr) (σ : L2.St) (H : Hp) (ω : Om), RepX X.K H ω e cls dd → RepE X.K Ξ H ω env σ → RepS X.K H ω S → spost X.K Ξ H ω D W (handS ls e env S) → wMany X.K W D cs cls dd σ H := by
  induction h with
  | nil => exact ⟨[], .nil, fun D e env S cls dd σ H ω rx re rs p => p cls dd σ H ω .refl rx re rs⟩
  | @cons x c l m b₀ suite np pos' hds ls hc hl hsu r ih =>
    obtain ⟨cs, h1, h2⟩ := ih
    refine ⟨(c, fun a cls d => sD X.K none W0 m) :: cs, .cons hc hsu h1, fun D e env S cls dd σ H ω rx re rs p => ?_⟩
    replace p : spost X.K Ξ H ω D W (match l.lookup e.cls with
      | some b => if b = true then noX (m ⟨env.v, none⟩ S) else handS ls e env S
      | none => .bad) := p
    cases q : l.lookup e.cls with
    | none => rw [q] at p; exact p.elim
    | some b =>
      rw [q] at p
      refine ⟨b, by rw [rx.1]; exact hl _ _ q, fun hb a ha => ?_, fun hb => ?_⟩
      · subst hb
        replace p : spost X.K Ξ H ω D W (noX (m ⟨env.v, none⟩ S)) := p
        refine ⟨⟨env.v, none⟩, ω, S, re.un, rs, ?_⟩
        cases q2 : m ⟨env.v, none⟩ S with
        | nx env2 S2 => rw [q2] at p; exact fun σ2 H2 ω2 g2 e2 s2 => p σ2 H2 ω2 g2 e2.ofNone s2
        | ret d S2 => rw [q2] at p; exact p
        | brk env2 S2 => rw [q2] at p; exact fun σ2 H2 ω2 g2 e2 s2 => p σ2 H2 ω2 g2 e2.ofNone s2
        | cnt env2 S2 => rw [q2] at p; exact fun σ2 H2 ω2 g2 e2 s2 => p σ2 H2 ω2 g2 e2.ofNone s2
        | exc e env2 S2 => rw [q2] at p; exact p.elim
        | bad => rw [q2] at p; exact p.elim
      · subst hb
        exact h2 D e env S cls dd σ H ω rx re rs p
theorem ds_try {h₀ : ExceptHandler} {hds : List ExceptHandler} {ls : List (List (Str × Bool) × SM)} {body : List Stmt} {mb : SM} (hs : X.stack = X.env :: X.outer) (hf : X.env.frame = some X.env.locals) (tk : Takes X W)
    (hb : ∀ (W : WX) (pn : List (Addr × Obj)) (xe : Value → Shared → Prop), Takes (X.tr pn xe) W → PassesOwn (model X.prog X.w) X.A X.env xe → DSs (X.tr pn xe) Ξ W body mb)
    (hh : HdsD X (h₀ :: hds) ls) : DS X Ξ W (.Try body (h₀ :: hds) [] [] pos) (tryS mb ls) := by
  obtain ⟨cs, h1, h2⟩ := hds_ok (Ξ := Ξ) (W := W) hh
  refine PS_weak (ps_try_many (Wout := W) (tb := fun W => sD X.K Ξ W mb) hs hf tk hb h1) fun D σ H ⟨env, ω, S, hE, hS, p⟩ => ?_
  exact ⟨env, ω, S, hE, hS, try_post p fun e env1 S1 cls dd σ' H' ω' _ g rx re rs p1 => h2 D e env1 S1 cls dd σ' H' ω' rx re rs p1⟩
end
/-! ### defs -/
def outR : RS → R D
  | .nx _ S => .ok .non S
  | .ret d S => .ok d S
  | .exc e _ S => .exc e S
  | _ => .bad
def defD (n N : Nat) (m : SM) : List D → S → R D := fun ds S => if ds.length = n then outR (m ⟨ds.map some ++ List.replicate (N - n) none, none⟩ S) else .bad
theorem repE_start {K : PySem.W.Frag} {Ξ : Xi} {H : Hp} {ω : Om} {ds : List D} {vs : List V} (r : RepL K H ω ds vs) (N : List Str) : RepE K Ξ H ω ⟨ds.map some ++ List.replicate (N.length - ds.length) none, none⟩ (L2.start N vs) := by
  have hl := r.len
  refine ⟨?_, fun i d e => ?_, fun j e q => by cases q⟩
  · show (ds.map some ++ List.replicate (N.length - ds.length) none).length = (vs.map some ++ List.replicate (N.length - vs.length) none).length
    rw [List.length_append, List.length_append, List.length_map, List.length_map, List.length_replicate, List.length_replicate, hl]
  · replace e : (ds.map some ++ List.replicate (N.length - ds.length) none)[i]? = some (some d) := e
    show ∃ v, (vs.map some ++ List.replicate (N.length - vs.length) none)[i]? = some (some v) ∧ _
    by_cases hi : i < ds.length
    · rw [List.getElem?_append_left (by simpa using hi), List.getElem?_map] at e
      cases q : ds[i]? with
      | none => rw [q] at e; cases e
      | some d' =>
        rw [q] at e
        have : d' = d := by simpa using e
        subst this
        obtain ⟨v, ev, rv⟩ := r.get q
        exact ⟨v, by rw [List.getElem?_append_left (by rw [List.length_map]; omega), List.getElem?_map, ev]; rfl, rv⟩
    · rw [List.getElem?_append_right (by simpa using hi)] at e
      have := List.mem_of_getElem? e
      rw [List.mem_replicate] at this
      exact absurd this.2 (by simp)
theorem fn_d {P : Program} {w : World} {K : PySem.W.Frag} {mg : Str → Option Value} {base : Heap} {x : Str} {params : Arguments} {body : List Stmt} {scope : Scope} {f : Addr} {fd : FuncData} {N ps : List Str} {k n NN : Nat} {m : SM}
    (F : FunD K x x params body scope [] [] f fd) (S : FnScope N ps scope) (hn : ps.length = n) (hN : N.length = NN) (hm : mg x = some (.ref f))
    (hbind : ∀ (kV doc pm : Value) (an : Option Addr) (cdv ct : Value) (us : List Value), us.length = ps.length → bindArgs (PySem.W.fnOf x x params body scope .none kV doc pm an cdv ct) ⟨us, []⟩ = pure (ps.zip us))
    (hbody : ∀ (cdv : Value) (A : Around) (outer : List Env) (s : Shared) (H : Hp) (E : XK), Room k (A.deeper (envOfC x scope s.heap.objs.size f cdv)) →
      DSs (cxOf (L2.CX P w) P w K mg base N x scope f cdv A outer s H E) none (fun c d _ H => E c d H) body m) : FnG P w K mg base x (k + 1) (defD n NN m) := by
  refine ⟨f, fd, ps, F.ok S (fun vs H Q E h => ?_) (fun cdv A outer s H vs Q E hr h => ⟨_, hbody cdv A outer s H E hr, ?_⟩), hm, F.kp, F.bindsN hbind⟩
  · obtain ⟨ds, ω, S, r, _, p⟩ := h
    unfold defD at p
    by_cases hl : ds.length = n
    · rw [← r.len, hl, hn]
    · rw [if_neg hl] at p; exact p.elim
  · obtain ⟨ds, ω, S, r, hS, p⟩ := h
    unfold defD at p
    by_cases hl : ds.length = n
    case neg => rw [if_neg hl] at p; exact p.elim
    rw [if_pos hl] at p
    have hE := repE_start (Ξ := none) r N
    rw [hl, hN] at hE
    refine ⟨_, ω, S, hE, hS, ?_⟩
    revert p
    cases m ⟨ds.map some ++ List.replicate (NN - n) none, none⟩ S with
    | nx env' S' => exact fun p σ' H' ω' g e s => p .non H' ω' g rep_non s
    | ret d S' => exact fun p => p
    | brk env S' => exact fun p => p.elim
    | cnt env S' => exact fun p => p.elim
    | exc e env S' => exact fun p cls dd σ' H' ω' g x e s => p cls dd H' ω' g x s
    | bad => exact fun p => p.elim
end
end Dn
end

section
/-! # Dn7: operators -/
namespace Dn
open PySem PySem.Spec PyProof.Rows L2
section
variable {K : PySem.W.Frag} {H : Hp} {ω : Om} {S : S}
theorem view_int {d : D} {i : Int} (h : view S d = .int i) : d = .int i := view_same h (by intro _ z; cases z) (by intro _ _ z; cases z) (by intro _ z; cases z)
theorem view_bl {d : D} {i : Bool} (h : view S d = .bl i) : d = .bl i := view_same h (by intro _ z; cases z) (by intro _ _ z; cases z) (by intro _ z; cases z)
theorem view_str {d : D} {i : Str} (h : view S d = .str i) : d = .str i := view_same h (by intro _ z; cases z) (by intro _ _ z; cases z) (by intro _ z; cases z)
theorem view_non {d : D} (h : view S d = .non) : d = .non := view_same h (by intro _ z; cases z) (by intro _ _ z; cases z) (by intro _ z; cases z)
theorem view_tup {d : D} {ds : List D} (h : view S d = .tup ds) : d = .tup ds := view_same h (by intro _ z; cases z) (by intro _ _ z; cases z) (by intro _ z; cases z)
theorem view_scr {d : D} {ds : List Int} (h : view S d = .scr ds) : d = .scr ds := view_same h (by intro _ z; cases z) (by intro _ _ z; cases z) (by intro _ z; cases z)
theorem view_val {d : D} {v : V} (h : view S d = .val v) : d = .val v := view_same h (by intro _ z; cases z) (by intro _ _ z; cases z) (by intro _ z; cases z)
/-- a tuple: where it stands -/
theorem rep_tup_of {a : Addr} {ds : List D} {xs : List V} (h : ω.N a ∧ Rd H a (.tup xs) ∨ KTup K a xs) (r : RepL K H ω ds xs) : Rep K H ω (.tup ds) (.ref a) := by unfold Rep; exact ⟨a, xs, rfl, h, r⟩
theorem RepL.rep : ∀ (k : Nat) {ds : List D} {xs : List V}, RepL K H ω ds xs → RepL K H ω (List.replicate k ds).flatten (List.replicate k xs).flatten
  | 0, _, _, _ => repL_nil
  | k + 1, _, _, h => by
    rw [List.replicate_succ, List.replicate_succ, List.flatten_cons, List.flatten_cons]
    exact h.append (RepL.rep k h)
theorem RepL.nil_iff {ds : List D} {xs : List V} (h : RepL K H ω ds xs) : ds = [] ↔ xs = [] := by
  have := h.len
  cases ds <;> cases xs <;> simp_all
end
/-- a tuple, so often, up to a million items -/
def rRepTW (K : PySem.W.Frag) : R2 := fun x y H Q => ∃ l k xs, x = .ref l ∧ y = .int k ∧ SqT K H l xs ∧ xs ≠ [] ∧ 2 ≤ k ∧ k ≤ 1000000 ∧ k.toNat * xs.length ≤ 1000000 ∧ ∀ p, H p = none → Q (.ref p) (upd H p (.tup (List.replicate k.toNat xs).flatten))
section
variable {X : Cx}
theorem op_repTW : OpR X (binaryOp .Mult) (rRepTW X.K) := by
  intro pins s σ H x y v u Q I rx ry h
  obtain ⟨l, k, xs, rfl, rfl, hT, hne, h1, h2, hz, q⟩ := h
  cases rx
  obtain ⟨t, rfl⟩ := ry
  obtain ⟨its, r, ⟨⟨cls, dd, data, sl⟩, ho, hc, n, hd⟩, hs⟩ := I.tuple hT
  simp only at hc hd
  subst hc hd
  have hle : its.length = xs.length := r.length.symm
  have hn : its ≠ [] := fun e => hne (by
    rw [e] at hle
    exact List.eq_nil_of_length_eq_zero hle.symm)
  have hi : its.toArray.isEmpty = false := by
    cases its with
    | nil => exact absurd rfl hn
    | cons a b => rfl
  have hm : ((its.toArray.size : Nat) : Int) * k ≤ 1000000 := by
    rw [List.size_toArray, hle]
    have hk : ((k.toNat : Nat) : Int) = k := by omega
    have a1 : (((k.toNat * xs.length : Nat)) : Int) ≤ 1000000 := by omega
    rw [Int.natCast_mul, hk, Int.mul_comm] at a1
    exact a1
  have flen : (List.replicate k.toNat its).flatten.length ≤ sizeLine := by
    rw [PyProof.Rows.lm_len_rep_flat, hle, sizeLine_eq]
    omega
  have c0 : (decide (k < -(2 ^ 63)) || decide (k ≥ 2 ^ 63)) = false := by
    rw [decide_eq_false (by omega), decide_eq_false (by omega)] <;> rfl
  have c1 : (its.toArray.isEmpty || k == 1) = false := by
    rw [hi, Bool.false_or]
    exact beq_eq_false_iff_ne.mpr (by omega)
  have c2 : (decide (k ≤ 0) || its.toArray.isEmpty) = false := by
    rw [hi, Bool.or_false]
    exact decide_eq_false (by omega)
  have c4 : Builtin.Tuple.tupleTooMany (((its.toArray.size : Nat) : Int) * k) = false := by
    unfold Builtin.Tuple.tupleTooMany
    rw [sizeLine_eq]
    exact decide_eq_false (by omega)
  refine wpAny_binaryOp_repeat_ref (T := "tuple") (U := "int") (by decide) ⟨_, ho, rfl⟩ (fun s' => typeIs_int s' k t) noFill_tuple_mul F.fills_int_mul F.slot_int_rmul repeat_tuple F.slot_int_index.lookup
    (call_meets F.slot_int_rmul (typeIs_int s k t) F.entry_int_rmul (F.args_int_rmul_2 _ _) (int_rmul_tuple k t l its.toArray n dd sl)
      ⟨ho, rfl, ⟨_, ho, rfl⟩, call_meets F.slot_tuple_mul ⟨_, ho, rfl⟩ F.entry_tuple_mul (F.args_tuple_mul_2 _ _) (tuple_mulW l its.toArray n dd sl k t c0 c1 c2 (by omega) c4 (by rw [size_rep, List.size_toArray]; exact flen)) ⟨ho, ?_⟩⟩)
  rw [size_rep]
  refine ⟨.ref s.heap.objs.size, _, I.laid (t' := s.toks) (o := .tup (List.replicate k.toNat xs).flatten) (fun b ob q => Heap.get?_push_of_some _ q) (Nat.le_refl _) ?_, rfl, q _ (I.hok.fresh (Nat.le_refl _))⟩
  exact ⟨by rw [PyProof.Rows.lm_len_rep_flat, sizeLine_eq]; omega, _, r.rep k.toNat, IsTup.new _ _⟩
end
def mulOk (i j : Int) : Prop := i.natAbs.log2 + j.natAbs.log2 < 1000000 ∨ (-(2 ^ 64) < i ∧ i < 2 ^ 64) ∨ (-(2 ^ 64) < j ∧ j < 2 ^ 64)
instance (i j : Int) : Decidable (mulOk i j) := by unfold mulOk; infer_instance
def divOk (j : Int) : Prop := 0 < j ∧ j.natAbs.log2 < 9000
instance (j : Int) : Decidable (divOk j) := by unfold divOk; infer_instance
def powOk (i j : Int) : Prop := 0 ≤ j ∧ j ≤ 1000000 ∧ i.natAbs < 2 ^ 64
instance (i j : Int) : Decidable (powOk i j) := by unfold powOk; infer_instance
def addD (st : Bool) : Op2 := fun x y S => match view S x, view S y with
  | .int i, .int j => some (.int (i + j), S)
  | .str a, .str b => if a.length + b.length ≤ sizeLine then some (.str (a ++ b), S) else none
  | .lst a, .lst b => if a.length + b.length ≤ sizeLine then some (newL st (a ++ b) S) else none
  | .tup a, .tup b => if a.length + b.length ≤ sizeLine then some (.tup (a ++ b), S) else none
  | _, _ => none
def subD : Op2 := fun x y S => match x, y with
  | .int i, .int j => some (.int (i - j), S)
  | _, _ => none
/-- a list, a tuple, so often -/
def timesD {α : Type} (k : Int) (xs : List α) : List α := (List.replicate k.toNat xs).flatten
def mulD (st : Bool) : Op2 := fun x y S => match view S x, view S y with
  | .int i, .int j => if mulOk i j then some (.int (i * j), S) else none
  | .lst a, .int k => if -(2 ^ 63) ≤ k ∧ k < 2 ^ 63 ∧ a.length * k.toNat ≤ sizeLine then some (newL st (timesD k a) S) else none
  | .tup a, .int k => if 2 ≤ k ∧ k ≤ 1000000 ∧ a ≠ [] ∧ k.toNat * a.length ≤ 1000000 then some (.tup (timesD k a), S) else none
  | _, _ => none
def divD : Op2 := fun x y S => match x, y with
  | .int i, .int j => if divOk j then some (.int (i / j), S) else none
  | _, _ => none
def modD : Op2 := fun x y S => match x, y with
  | .int i, .int j => if 0 < j then some (.int (i % j), S) else none
  | _, _ => none
def powD : Op2 := fun x y S => match x, y with
  | .int i, .int j => if powOk i j then some (.int (i ^ j.toNat), S) else none
  | _, _ => none
def negD : Op1 := fun x S => match x with
  | .int i => some (.int (-i), S)
  | _ => none
def cmpD (p : Int → Int → Bool) (q : List Nat → List Nat → Bool) : Op2 := fun x y S => match x, y with
  | .int i, .int j => some (.bl (p i j), S)
  | .str a, .str b => some (.bl (q a.cps.toList b.cps.toList), S)
  | _, _ => none
def ltD : Op2 := cmpD (fun i j => decide (i < j)) (fun a b => decide (a < b))
def leD : Op2 := cmpD (fun i j => decide (i ≤ j)) (fun a b => !decide (b < a))
def gtD : Op2 := cmpD (fun i j => decide (j < i)) (fun a b => decide (b < a))
def geD : Op2 := cmpD (fun i j => decide (j ≤ i)) (fun a b => !decide (a < b))
/-! ### equality -/
mutual
def D.plain : D → Bool
  | .non => true | .bl _ => true | .int _ => true | .str x => true
  | .tup xs => plainL xs
  | .lst xs => plainL xs
  | .scr _ => true
  | _ => false
def plainL : List D → Bool
  | [] => true
  | x :: xs => x.plain && plainL xs
end
mutual
def D.pd : D → PyData
  | .non => .none | .bl b => .bool b | .int i => .int i | .str x => .str x
  | .tup xs => .tuple (pdL xs)
  | .lst xs => .list (pdL xs)
  | .scr ns => .list (ns.map .int)
  | _ => .none
def pdL : List D → List PyData
  | [] => []
  | x :: xs => x.pd :: pdL xs
end
def scalD : D → D → Bool
  | .non, .non => true | .non, .int _ => true | .int _, .non => true | .non, .bl _ => true | .bl _, .non => true | .non, .str _ => true | .str _, .non => true
  | .int _, .int _ => true | .bl _, .bl _ => true | .str _, .str _ => true
  | .int _, .str _ => true | .str _, .int _ => true | .bl _, .str _ => true | .str _, .bl _ => true
  | _, _ => false
def eqS : D → D → Bool
  | .non, .non => true
  | .int i, .int j => decide (i = j)
  | .bl a, .bl b => decide (a = b)
  | .str a, .str b => decide (a = b)
  | _, _ => false
/-- whether two things are like, None where the rules do not tell -/
def likeD (S : S) (x y : D) : Option Bool :=
  if scalD x y = true then some (eqS x y)
  else if (view S x).plain = true ∧ (view S y).plain = true ∧ SeqAt.shaped (view S x).pd = true ∧ SeqAt.shaped (view S y).pd = true then some (PyData.eqv (view S x).pd (view S y).pd)
  else none
def eqD : Op2 := fun x y S => (likeD S x y).map fun b => (.bl b, S)
def neD : Op2 := fun x y S => (likeD S x y).map fun b => (.bl (!b), S)
/-- is, is not: of None, of truths -/
def D.isVal : D → Bool
  | .val _ => true
  | _ => false
def D.isNon : D → Bool
  | .non => true
  | _ => false
def isD : Op2 := fun x y S => match y with
  | .non => if x.isVal = true then none else some (.bl x.isNon, S)
  | .bl b => (match x with
    | .bl a => some (.bl (decide (a = b)), S)
    | _ => none)
  | _ => none
def isntD : Op2 := fun x y S => match y with
  | .non => if x.isVal = true then none else some (.bl (!x.isNon), S)
  | .bl b => (match x with
    | .bl a => some (.bl (!decide (a = b)), S)
    | _ => none)
  | _ => none
section
variable {K : PySem.W.Frag} {H : Hp} {ω : Om} {S : S}
mutual
theorem dp_of : ∀ (d : D) (v : V), Rep K H ω d v → d.plain = true → Dp K H v d.pd
  | .non, v, h, _ => by rw [h.non_]; exact .non
  | .bl b, v, h, _ => by rw [h.bl_]; exact .bl b
  | .int i, v, h, _ => by rw [h.int_]; exact .int i
  | .str x, v, h, _ => by rw [h.str_]; exact .str x
  | .tup ds, v, h, p => by
    obtain ⟨a, xs, rfl, h1, h2⟩ := h.tup_
    unfold D.pd
    exact .tup (tup_sq h1) (dp_ofL ds xs h2 (by unfold D.plain at p; exact p))
  | .lst ds, v, h, p => by
    obtain ⟨a, xs, rfl, _, h1, h2⟩ := h.lst_
    unfold D.pd
    exact .lst (.inl (.inl h1)) (dp_ofL ds xs h2 (by unfold D.plain at p; exact p))
  | .scr ns, v, h, _ => by
    obtain ⟨a, rfl, h1⟩ := h.scr_
    unfold D.pd
    exact .lst (scr_sq h1) (dp_ints ns)
  | .dic _ _, _, _, p => by unfold D.plain at p; cases p
  | .ref _, _, _, p => by unfold D.plain at p; cases p
  | .val _, _, _, p => by unfold D.plain at p; cases p
theorem dp_ofL : ∀ (ds : List D) (xs : List V), RepL K H ω ds xs → plainL ds = true → DpAll K H xs (pdL ds)
  | [], xs, h, _ => by rw [h.nil_]; exact .nil
  | d :: ds, xs, h, p => by
    obtain ⟨x, r, rfl, h1, h2⟩ := h.cons_
    unfold plainL at p
    rw [Bool.and_eq_true] at p
    unfold pdL
    exact .cons (dp_of d x h1 p.1) (dp_ofL ds r h2 p.2)
theorem dp_ints : ∀ ns : List Int, DpAll K H (ns.map V.int) (ns.map PyData.int)
  | [] => .nil
  | n :: ns => .cons (.int n) (dp_ints ns)
end
/-- seen through view -/
theorem dp_view (hS : RepS K H ω S) {d : D} {v : V} (r : Rep K H ω d v) (p : (view S d).plain = true) : Dp K H v (view S d).pd := by
  cases d with
  | ref n =>
    cases q : view S (.ref n) with
    | lst ds =>
      rw [q] at p
      obtain ⟨a, xs, rfl, h1, h2⟩ := view_lst hS r q
      unfold D.pd
      exact .lst (.inl (.inl h1)) (dp_ofL ds xs h2 (by unfold D.plain at p; exact p))
    | dic ks ds => rw [q] at p; unfold D.plain at p; cases p
    | ref m => rw [q] at p; unfold D.plain at p; cases p
    | val u => rw [q] at p; unfold D.plain at p; cases p
    | non => have := view_non q; cases this
    | bl b => have := view_bl q; cases this
    | int i => have := view_int q; cases this
    | str x => have := view_str q; cases this
    | tup xs => have := view_tup q; cases this
    | scr ns => have := view_scr q; cases this
  | _ => exact dp_of _ _ r p
theorem scal_of {x y : D} {u v : V} (rx : Rep K H ω x u) (ry : Rep K H ω y v) (h : scalD x y = true) : scal u v = true ∧ decide (u = v) = eqS x y := by
  cases x <;> cases y <;> first
    | exact absurd h Bool.false_ne_true
    | (rw [rx.non_, ry.non_]; exact ⟨rfl, rfl⟩)
    | (rw [rx.non_, ry.int_]; exact ⟨rfl, rfl⟩)
    | (rw [rx.int_, ry.non_]; exact ⟨rfl, rfl⟩)
    | (rw [rx.non_, ry.bl_]; exact ⟨rfl, rfl⟩)
    | (rw [rx.bl_, ry.non_]; exact ⟨rfl, rfl⟩)
    | (rw [rx.non_, ry.str_]; exact ⟨rfl, rfl⟩)
    | (rw [rx.str_, ry.non_]; exact ⟨rfl, rfl⟩)
    | (rw [rx.int_, ry.int_]; exact ⟨rfl, by simp [eqS]⟩)
    | (rw [rx.bl_, ry.bl_]; exact ⟨rfl, by simp [eqS]⟩)
    | (rw [rx.str_, ry.str_]; exact ⟨rfl, by simp [eqS]⟩)
    | (rw [rx.int_, ry.str_]; exact ⟨rfl, rfl⟩)
    | (rw [rx.str_, ry.int_]; exact ⟨rfl, rfl⟩)
    | (rw [rx.bl_, ry.str_]; exact ⟨rfl, rfl⟩)
    | (rw [rx.str_, ry.bl_]; exact ⟨rfl, rfl⟩)
end
section
variable {X : Cx} {st : Bool}
theorem post_ok {K : PySem.W.Frag} {H : Hp} {ω : Om} {Q : VK} {E : XK} {d : D} {S : S} {v : V} (h : post K (Rep K) H ω Q E (R.of (some (d, S)))) (r : Rep K H ω d v) (s : RepS K H ω S) : Q v H := h v H ω .refl r s
theorem op_addD : DO X (binaryOp .Add) (addD st) := by
  intro pins s σ H x y v u Q I rx ry ⟨ω, S, d1, d2, r1, r2, hS, p⟩
  unfold addD at p
  split at p
  · rename_i i j q1 q2
    have e1 := view_int q1; subst e1
    have e2 := view_int q2; subst e2
    rw [r1.int_] at rx; rw [r2.int_] at ry
    exact op_add pins s σ H _ _ v u Q I rx ry ⟨i, j, rfl, rfl, post_ok p rep_int hS⟩
  · rename_i a b q1 q2
    have e1 := view_str q1; subst e1
    have e2 := view_str q2; subst e2
    rw [r1.str_] at rx; rw [r2.str_] at ry
    split at p
    · rename_i hz
      exact op_add_str pins s σ H _ _ v u Q I rx ry ⟨a, b, rfl, rfl, hz, post_ok p rep_str hS⟩
    · exact p.elim
  · rename_i a b q1 q2
    obtain ⟨l1, xs, rfl, h1, t1⟩ := view_lst hS r1 q1
    obtain ⟨l2, ys, rfl, h2, t2⟩ := view_lst hS r2 q2
    split at p
    · rename_i hz
      refine op_cat pins s σ H _ _ v u Q I rx ry ⟨l1, l2, xs, ys, rfl, rfl, h1, h2, by rw [← t1.len, ← t2.len]; exact hz, fun a ha => ?_⟩
      obtain ⟨ω', g, r, s'⟩ := new_lst (st := st) hS ha (t1.append t2)
      exact p _ _ ω' g r s'
    · exact p.elim
  · rename_i a b q1 q2
    have e1 := view_tup q1; subst e1
    have e2 := view_tup q2; subst e2
    obtain ⟨l1, xs, rfl, h1, t1⟩ := r1.tup_
    obtain ⟨l2, ys, rfl, h2, t2⟩ := r2.tup_
    split at p
    · rename_i hz
      refine op_catA pins s σ H _ _ v u Q I rx ry ⟨l1, l2, xs, ys, rfl, rfl, tup_sq h1, tup_sq h2, by rw [← t1.len, ← t2.len]; exact hz, fun e => ?_, fun _ e => ?_, fun _ _ a ha => ?_⟩
      · have := t1.nil_iff.mpr e
        subst this
        exact post_ok p r2 hS
      · have := t2.nil_iff.mpr e
        subst this
        rw [List.append_nil] at p
        exact post_ok p r1 hS
      · obtain ⟨g, r, s'⟩ := new_tup hS ha (t1.append t2)
        exact p _ _ ω g r s'
    · exact p.elim
  · exact p.elim
theorem op_subD : DO X (binaryOp .Sub) subD := by
  intro pins s σ H x y v u Q I rx ry ⟨ω, S, d1, d2, r1, r2, hS, p⟩
  unfold subD at p
  split at p
  · rename_i i j
    rw [r1.int_] at rx; rw [r2.int_] at ry
    exact op_sub pins s σ H _ _ v u Q I rx ry ⟨i, j, rfl, rfl, post_ok p rep_int hS⟩
  · exact p.elim
theorem op_divD : DO X (binaryOp .FloorDiv) divD := by
  intro pins s σ H x y v u Q I rx ry ⟨ω, S, d1, d2, r1, r2, hS, p⟩
  unfold divD at p
  split at p
  · rename_i i j
    rw [r1.int_] at rx; rw [r2.int_] at ry
    split at p
    · rename_i hz
      exact op_fdivW pins s σ H _ _ v u Q I rx ry ⟨i, j, rfl, rfl, hz, post_ok p rep_int hS⟩
    · exact p.elim
  · exact p.elim
theorem op_modD : DO X (binaryOp .Mod) modD := by
  intro pins s σ H x y v u Q I rx ry ⟨ω, S, d1, d2, r1, r2, hS, p⟩
  unfold modD at p
  split at p
  · rename_i i j
    rw [r1.int_] at rx; rw [r2.int_] at ry
    split at p
    · rename_i hz
      exact op_mod pins s σ H _ _ v u Q I rx ry ⟨i, j, rfl, rfl, hz, post_ok p rep_int hS⟩
    · exact p.elim
  · exact p.elim
theorem op_powD : DO X (binaryOp .Pow) powD := by
  intro pins s σ H x y v u Q I rx ry ⟨ω, S, d1, d2, r1, r2, hS, p⟩
  unfold powD at p
  split at p
  · rename_i i j
    rw [r1.int_] at rx; rw [r2.int_] at ry
    split at p
    · rename_i hz
      exact op_pow pins s σ H _ _ v u Q I rx ry ⟨i, j, rfl, rfl, hz, post_ok p rep_int hS⟩
    · exact p.elim
  · exact p.elim
theorem op_negD : DU X (unaryOp .USub) negD := by
  intro pins s σ H x v Q I rx ⟨ω, S, d1, r1, hS, p⟩
  unfold negD at p
  split at p
  · rename_i i
    rw [r1.int_] at rx
    exact un_neg pins s σ H _ v Q I rx ⟨i, rfl, post_ok p rep_int hS⟩
  · exact p.elim
theorem op_mulD : DO X (binaryOp .Mult) (mulD st) := by
  intro pins s σ H x y v u Q I rx ry ⟨ω, S, d1, d2, r1, r2, hS, p⟩
  unfold mulD at p
  split at p
  · rename_i i j q1 q2
    have e1 := view_int q1; subst e1
    have e2 := view_int q2; subst e2
    rw [r1.int_] at rx; rw [r2.int_] at ry
    split at p
    · rename_i hz
      rcases hz with hz | hz
      · exact op_mulW pins s σ H _ _ v u Q I rx ry ⟨i, j, rfl, rfl, hz, post_ok p rep_int hS⟩
      · exact op_mul pins s σ H _ _ v u Q I rx ry ⟨i, j, rfl, rfl, hz, post_ok p rep_int hS⟩
    · exact p.elim
  · rename_i a k q1 q2
    have e2 := view_int q2; subst e2
    obtain ⟨l1, xs, rfl, h1, t1⟩ := view_lst hS r1 q1
    rw [r2.int_] at ry
    split at p
    · rename_i hz
      refine op_rep pins s σ H _ _ v u Q I rx ry ⟨l1, k, xs, rfl, rfl, h1, hz.1, hz.2.1, by rw [← t1.len]; exact hz.2.2, fun a ha => ?_⟩
      obtain ⟨ω', g, r, s'⟩ := new_lst (st := st) hS ha (t1.rep k.toNat)
      exact p _ _ ω' g r s'
    · exact p.elim
  · rename_i a k q1 q2
    have e1 := view_tup q1; subst e1
    have e2 := view_int q2; subst e2
    obtain ⟨l1, xs, rfl, h1, t1⟩ := r1.tup_
    rw [r2.int_] at ry
    split at p
    · rename_i hz
      refine op_repTW pins s σ H _ _ v u Q I rx ry ⟨l1, k, xs, rfl, rfl, tup_sq h1, fun e => hz.2.2.1 (t1.nil_iff.mpr e), hz.1, hz.2.1, by rw [← t1.len]; exact hz.2.2.2, fun a ha => ?_⟩
      obtain ⟨g, r, s'⟩ := new_tup hS ha (t1.rep k.toNat)
      exact p _ _ ω g r s'
    · exact p.elim
  · exact p.elim
theorem op_cmpD {op : CmpOp} {p : Int → Int → Bool} {q : List Nat → List Nat → Bool} (h1 : OpR X (compareOp op) (rI0 fun i j => .bl (p i j)))
    (h2 : OpR X (compareOp op) (fun x y H Q => ∃ i j, x = .str i ∧ y = .str j ∧ Q (.bl (q i.cps.toList j.cps.toList)) H)) : DO X (compareOp op) (cmpD p q) := by
  intro pins s σ H x y v u Q I rx ry ⟨ω, S, d1, d2, r1, r2, hS, p⟩
  unfold cmpD at p
  split at p
  · rename_i i j
    rw [r1.int_] at rx; rw [r2.int_] at ry
    exact h1 pins s σ H _ _ v u Q I rx ry ⟨i, j, rfl, rfl, post_ok p rep_bl hS⟩
  · rename_i i j
    rw [r1.str_] at rx; rw [r2.str_] at ry
    exact h2 pins s σ H _ _ v u Q I rx ry ⟨i, j, rfl, rfl, post_ok p rep_bl hS⟩
  · exact p.elim
theorem op_ltD : DO X (compareOp .Lt) ltD := op_cmpD op_lt op_lt_str
theorem op_leD : DO X (compareOp .LtE) leD := op_cmpD op_le op_le_str
theorem op_gtD : DO X (compareOp .Gt) gtD := op_cmpD op_gt op_gt_str
theorem op_geD : DO X (compareOp .GtE) geD := op_cmpD op_ge op_ge_str
theorem op_eqD' (hu : X.A.units + 64 < cLine) : DO X (compareOp .Eq) eqD := by
  intro pins s σ H x y v u Q I rx ry ⟨ω, S, d1, d2, r1, r2, hS, p⟩
  unfold eqD likeD at p
  split at p
  · rename_i hs
    obtain ⟨h1, h2⟩ := scal_of r1 r2 hs
    exact op_eq pins s σ H _ _ v u Q I rx ry ⟨h1, by rw [h2]; exact post_ok p rep_bl hS⟩
  · split at p
    · rename_i hz
      exact op_eqD hu pins s σ H _ _ v u Q I rx ry ⟨_, _, dp_view hS r1 hz.1, dp_view hS r2 hz.2.1, hz.2.2.1, hz.2.2.2, post_ok p rep_bl hS⟩
    · exact p.elim
theorem op_neD' (hu : X.A.units + 64 < cLine) : DO X (compareOp .NotEq) neD := by
  intro pins s σ H x y v u Q I rx ry ⟨ω, S, d1, d2, r1, r2, hS, p⟩
  unfold neD likeD at p
  split at p
  · rename_i hs
    obtain ⟨h1, h2⟩ := scal_of r1 r2 hs
    exact op_ne pins s σ H _ _ v u Q I rx ry ⟨h1, by rw [h2]; exact post_ok p rep_bl hS⟩
  · split at p
    · rename_i hz
      exact op_neD hu pins s σ H _ _ v u Q I rx ry ⟨_, _, dp_view hS r1 hz.1, dp_view hS r2 hz.2.1, hz.2.2.1, hz.2.2.2, post_ok p rep_bl hS⟩
    · exact p.elim
theorem non_iff {K : PySem.W.Frag} {H : Hp} {ω : Om} {d : D} {v : V} (r : Rep K H ω d v) (hv : ∀ u, d ≠ .val u) : decide (v = .non) = d.isNon := by
  cases d with
  | non => rw [r.non_]; rfl
  | bl b => rw [r.bl_]; rfl
  | int i => rw [r.int_]; rfl
  | str x => rw [r.str_]; rfl
  | tup ds => obtain ⟨a, xs, rfl, _⟩ := r.tup_; rfl
  | lst ds => obtain ⟨a, xs, rfl, _⟩ := r.lst_; rfl
  | dic ks ds => obtain ⟨a, xs, rfl, _⟩ := r.dic_; rfl
  | ref n => obtain ⟨a, rfl, _⟩ := r.ref_; rfl
  | scr ns => obtain ⟨a, rfl, _⟩ := r.scr_; rfl
  | val u => exact absurd rfl (hv u)
theorem op_isD' : DO X (compareOp .Is) isD := by
  intro pins s σ H x y v u Q I rx ry ⟨ω, S, d1, d2, r1, r2, hS, p⟩
  unfold isD at p
  split at p
  · split at p
    · exact p.elim
    · rename_i hz
      rw [r2.non_] at ry
      refine op_isN pins s σ H _ _ v u Q I rx ry ⟨rfl, ?_⟩
      rw [non_iff r1 (by rintro w rfl; exact hz rfl)]
      exact post_ok p rep_bl hS
  · split at p
    · rw [r1.bl_] at rx; rw [r2.bl_] at ry
      exact op_isBl pins s σ H _ _ v u Q I rx ry ⟨_, _, rfl, rfl, post_ok p rep_bl hS⟩
    · exact p.elim
  · exact p.elim
theorem op_isntD' : DO X (compareOp .IsNot) isntD := by
  intro pins s σ H x y v u Q I rx ry ⟨ω, S, d1, d2, r1, r2, hS, p⟩
  unfold isntD at p
  split at p
  · split at p
    · exact p.elim
    · rename_i hz
      rw [r2.non_] at ry
      refine op_notN pins s σ H _ _ v u Q I rx ry ⟨rfl, ?_⟩
      rw [non_iff r1 (by rintro w rfl; exact hz rfl)]
      exact post_ok p rep_bl hS
  · split at p
    · rw [r1.bl_] at rx; rw [r2.bl_] at ry
      exact op_notBl pins s σ H _ _ v u Q I rx ry ⟨_, _, rfl, rfl, post_ok p rep_bl hS⟩
    · exact p.elim
  · exact p.elim
end
end Dn
end

section
/-! # Dn8: subscripts, slices, built-ins, methods, sources of loops -/
namespace Dn
open PySem PySem.Spec PyProof.Rows L2
open Classical
/-! ### subscripts -/
def ixD : Op2 := fun x y S => match view S x, y with
  | .lst xs, .int i => (atI xs i).map fun d => (d, S)
  | .tup xs, .int i => (atI xs i).map fun d => (d, S)
  | .scr ns, .int i => (atI ns i).map fun n => (.int n, S)
  | .str z, .int i => if z.length ≤ sizeLine then (atI z.cps.toList i).map fun c => (.str ⟨#[c]⟩, S) else none
  | _, _ => none
section
variable {K : PySem.W.Frag} {H : Hp} {ω : Om} {S : S}
theorem atI_rep {ds : List D} {xs : List V} {i : Int} {d : D} (h : RepL K H ω ds xs) (e : atI ds i = some d) : ∃ x, atI xs i = some x ∧ Rep K H ω d x := by
  unfold atI at e ⊢
  rw [← h.len]
  cases q : ixN ds.length i with
  | none => rw [q] at e; cases e
  | some j =>
    rw [q] at e
    exact h.get e
theorem atI_map {α β : Type} {f : α → β} {xs : List α} {i : Int} {x : α} (h : atI xs i = some x) : atI (xs.map f) i = some (f x) := by
  unfold atI at h ⊢
  rw [List.length_map]
  cases q : ixN xs.length i with
  | none => rw [q] at h; cases h
  | some j =>
    rw [q] at h
    show (xs.map f)[j]? = some (f x)
    rw [List.getElem?_map, show xs[j]? = some x from h]
    rfl
theorem lookup_rep : ∀ {ks : List Key} {ds : List D} {xs : List V} {k : Key} {d : D}, RepL K H ω ds xs → (ks.zip ds).lookup k = some d → ∃ x, (ks.zip xs).lookup k = some x ∧ Rep K H ω d x
  | [], _, _, _, _, _, e => by simp at e
  | _ :: _, [], _, _, _, _, e => by simp at e
  | k' :: ks, d' :: ds, _, k, d, h, e => by
    obtain ⟨x, r, rfl, h1, h2⟩ := h.cons_
    rw [List.zip_cons_cons, List.lookup_cons] at e ⊢
    cases q : k == k' with
    | true =>
      rw [q] at e
      have : d' = d := Option.some.inj e
      subst this
      exact ⟨x, rfl, h1⟩
    | false =>
      rw [q] at e
      exact lookup_rep h2 e
end
section
variable {X : Cx} {Ξ : Xi} {W : WX} {pos : Pos} {a b c e tg : Expr} {ma mb mc : EM} {es : List Expr} {m : LM} {st : Bool}
def rIxO (K : PySem.W.Frag) : R2 := rO K ixD
theorem ix_D : IxR X (rIxO X.K) := by
  intro val slice pins s σ H x y v u Q I rx ry ⟨ω, S, d1, d2, r1, r2, hS, p⟩ hsub
  unfold ixD at p
  split at p
  · rename_i xs i q
    obtain ⟨l, ys, rfl, h1, t1⟩ := view_lst hS r1 q
    rw [r2.int_] at ry
    cases e : atI xs i with
    | none => rw [e] at p; exact p.elim
    | some d =>
      rw [e] at p
      obtain ⟨z, e1, r⟩ := atI_rep t1 e
      exact ix_list val slice pins s σ H _ _ v u Q I rx ry ⟨l, ys, i, z, rfl, rfl, .inl (.inl h1), e1, post_ok p r hS⟩ hsub
  · rename_i xs i q
    have e1 := view_tup q; subst e1
    obtain ⟨l, ys, rfl, h1, t1⟩ := r1.tup_
    rw [r2.int_] at ry
    cases e : atI xs i with
    | none => rw [e] at p; exact p.elim
    | some d =>
      rw [e] at p
      obtain ⟨z, e1, r⟩ := atI_rep t1 e
      exact ix_tup val slice pins s σ H _ _ v u Q I rx ry ⟨l, ys, i, z, rfl, rfl, tup_sq h1, e1, post_ok p r hS⟩ hsub
  · rename_i ns i q
    have e1 := view_scr q; subst e1
    obtain ⟨l, rfl, h1⟩ := r1.scr_
    rw [r2.int_] at ry
    cases e : atI ns i with
    | none => rw [e] at p; exact p.elim
    | some d =>
      rw [e] at p
      exact ix_list val slice pins s σ H _ _ v u Q I rx ry ⟨l, _, i, _, rfl, rfl, scr_sq h1, atI_map e, post_ok p rep_int hS⟩ hsub
  · rename_i z i q
    have e1 := view_str q; subst e1
    rw [r1.str_] at rx
    rw [r2.int_] at ry
    split at p
    · rename_i hz
      cases e : atI z.cps.toList i with
      | none => rw [e] at p; exact p.elim
      | some d =>
        rw [e] at p
        exact ix_str val slice pins s σ H _ _ v u Q I rx ry ⟨z, i, d, rfl, rfl, hz, e, post_ok p rep_str hS⟩ hsub
    · exact p.elim
  · exact p.elim
/-- xs[i]; of no dict -/
abbrev ixE (a b : EM) : EM := binE ixD a b
theorem de_ix (ha : DE X Ξ W a ma) (hb : DE X Ξ W b mb) (hs : PlainIx b := by exact fun _ _ => rfl) : DE X Ξ W (.Subscript a b pos) (ixE ma mb) :=
  PE_weak (pe_ix ix_D ha hb hs) fun σ H Q h => bin_imp h
/-! ### slices -/
abbrev OM' := Sl → S → R (Option Int)
abbrev DP (X : Cx) (Ξ : Xi) (W : WX) (e : Option Expr) (m : OM') : Prop := PO X e (tG X.K Ξ W (fun _ _ (b c : Option Int) => b = c) m)
def noP : OM' := fun _ S => .ok none S
def someP (a : EM) : OM' := fun env S => (a env S).bind fun x S1 => match x with
  | .int i => .ok (some i) S1
  | _ => .bad
theorem dp_none : DP X Ξ W none noP := ⟨fun pins s σ H Q I ⟨env, ω, S, hE, hS, p⟩ => po_none.run pins s σ H Q I (p none H ω .refl rfl hS)⟩
theorem dp_some (h : DE X Ξ W e ma) : DP X Ξ W (some e) (someP ma) := ⟨fun pins s σ H Q I ⟨env, ω, S, hE, hS, p⟩ => (po_some h).run pins s σ H Q I (seqG hE hS p fun x H1 ω1 d1 S1 g1 r1 s1 e1 p1 => by
  cases d1 with
  | int i => exact ⟨i, r1.int_, p1 (some i) H1 ω1 .refl rfl s1⟩
  | _ => exact p1.elim)⟩
/-- xs[lo:hi] -/
def cutL {α : Type} (xs : List α) (lo hi : Option Int) : List α := (xs.drop (HT.sIx xs.length 0 lo)).take (HT.sIx xs.length xs.length hi - HT.sIx xs.length 0 lo)
def cutD (st : Bool) (d : D) (lo hi : Option Int) (S : S) : Option (D × Dn.S) := match view S d with
  | .lst xs => some (newL st (cutL xs lo hi) S)
  | .tup xs => some (.tup (cutL xs lo hi), S)
  | .scr ns => some (newL st ((cutL ns lo hi).map D.int) S)
  | .str z => if z.length ≤ sizeLine then some (.str (cutS z lo hi), S) else none
  | _ => none
def sliceE (st : Bool) (a : EM) (l h : OM') : EM := fun env S => (a env S).bind fun x S1 => (l env S1).bind fun lo S2 => (h env S2).bind fun hi S3 => R.of (cutD st x lo hi S3)
def rSlO (K : PySem.W.Frag) (st : Bool) : V → Option Int → Option Int → Hp → VK → Prop := fun x lo hi H Q => ∃ ω S d, Rep K H ω d x ∧ RepS K H ω S ∧ post K (Rep K) H ω Q (fun _ _ _ => False) (R.of (cutD st d lo hi S))
theorem RepL.cut {K : PySem.W.Frag} {H : Hp} {ω : Om} {ds : List D} {xs : List V} (h : RepL K H ω ds xs) (lo hi : Option Int) : RepL K H ω (cutL ds lo hi) (cutV xs lo hi) := by
  unfold cutL cutV
  rw [h.len]
  exact (h.drop _).take _
theorem cut_map {α β : Type} (f : α → β) (xs : List α) (lo hi : Option Int) : (cutL xs lo hi).map f = cutL (xs.map f) lo hi := by
  unfold cutL
  rw [List.map_take, List.map_drop, List.length_map]
theorem sl_D : SlR X (rSlO X.K st) := by
  intro pins s σ H x v vl vu lo hi sl Q I rx hs pl pu ⟨ω, S, d, r, hS, p⟩
  unfold cutD at p
  split at p
  · rename_i xs q
    obtain ⟨l, ys, rfl, h1, t1⟩ := view_lst hS r q
    refine sl_list pins s σ H _ v vl vu lo hi sl Q I rx hs pl pu ⟨l, ys, rfl, .inl (.inl h1), fun a ha => ?_⟩
    obtain ⟨ω', g, r', s'⟩ := new_lst (st := st) hS ha (t1.cut lo hi)
    exact p _ _ ω' g r' s'
  · rename_i xs q
    have e1 := view_tup q; subst e1
    obtain ⟨l, ys, rfl, h1, t1⟩ := r.tup_
    refine sl_tupA pins s σ H _ v vl vu lo hi sl Q I rx hs pl pu ⟨l, ys, rfl, tup_sq h1, fun hw => ?_, fun _ a ha => ?_⟩
    · have e : cutL xs lo hi = xs := by
        unfold cutL
        rw [t1.len, hw.1, hw.2, List.drop_zero, Nat.sub_zero, ← t1.len, List.take_length]
      rw [e] at p
      exact post_ok p r hS
    · obtain ⟨g, r', s'⟩ := new_tup hS ha (t1.cut lo hi)
      exact p _ _ ω g r' s'
  · rename_i ns q
    have e1 := view_scr q; subst e1
    obtain ⟨l, rfl, h1⟩ := r.scr_
    refine sl_list pins s σ H _ v vl vu lo hi sl Q I rx hs pl pu ⟨l, _, rfl, scr_sq h1, fun a ha => ?_⟩
    obtain ⟨ω', g, r', s'⟩ := new_lst (st := st) hS ha ((RepL.ints (K := X.K) (H := H) (ω := ω) ns).cut lo hi)
    rw [← cut_map] at r' s'
    exact p _ _ ω' g r' s'
  · rename_i z q
    have e1 := view_str q; subst e1
    rw [r.str_] at rx
    split at p
    · rename_i hz
      exact sl_str pins s σ H _ v vl vu lo hi sl Q I rx hs pl pu ⟨z, rfl, hz, post_ok p rep_str hS⟩
    · exact p.elim
  · exact p.elim
theorem de_slice {lo hi : Option Expr} {ml mh : OM'} {p2 : Pos} (ha : DE X Ξ W a ma) (hl : DP X Ξ W lo ml) (hh : DP X Ξ W hi mh) : DE X Ξ W (.Subscript a (.Slice lo hi none p2) pos) (sliceE st ma ml mh) :=
  PE_weak (pe_slice (sl_D (st := st)) ha hl hh) fun σ H Q ⟨env, ω, S, hE, hS, p⟩ => seqG hE hS p fun x H1 ω1 d1 S1 g1 r1 s1 e1 p1 => seqG e1 s1 p1 fun l H2 ω2 d2 S2 g2 r2 s2 e2 p2 => seqG e2 s2 p2 fun h H3 ω3 d3 S3 g3 r3 s3 e3 p3 => by
    subst r2; subst r3
    exact ⟨ω3, S3, d1, r1.grow (g2.trans g3), s3, post_of p3⟩
/-! ### o[i] = e -/
def setD (o i v : D) (S : S) : Option Dn.S := match o with
  | .ref n => (match S[n]? with
    | some (.lst xs) => (match i with
      | .int k => (ixN xs.length k).map fun j => S.set n (.lst (xs.set j v))
      | _ => none)
    | _ => none)
  | _ => none
def subG (o i : EM) : GM := fun d env S => toRS (fun x S1 => toRS (fun y S2 => match setD x y d S2 with
  | some S3 => .nx env S3
  | none => .bad) env (i env S1)) env (o env S)
def rSetO (K : PySem.W.Frag) : TSet := fun o i v H Q => ∃ ω S do_ di dv S', Rep K H ω do_ o ∧ Rep K H ω di i ∧ Rep K H ω dv v ∧ RepS K H ω S ∧ setD do_ di dv S = some S' ∧ ∀ H', Grow H ω H' ω → RepS K H' ω S' → Q H'
theorem set_D : PSet X (rSetO X.K) := by
  intro pins s σ H o i v ov iv u Q I ro ri rv ⟨ω, S, d1, d2, d3, S', r1, r2, r3, hS, e, q⟩
  unfold setD at e
  split at e
  · rename_i n
    split at e
    · rename_i xs q1
      split at e
      · rename_i k
        obtain ⟨a, rfl, ha⟩ := r1.ref_
        obtain ⟨ys, h1, h2⟩ := hS.lst_at ha q1
        rw [r2.int_] at ri
        cases q2 : ixN xs.length k with
        | none => rw [q2] at e; cases e
        | some j =>
          rw [q2] at e
          have e' : S.set n (.lst (xs.set j d3)) = S' := Option.some.inj e
          subst e'
          obtain ⟨g, s'⟩ := put_lst hS ha (h2.set r3 j)
          exact set_list pins s σ H _ _ _ ov iv u Q I ro ri rv ⟨a, ys, k, j, rfl, rfl, h1, by rw [← h2.len]; exact q2, q _ g s'⟩
      · cases e
    · cases e
  · cases e
theorem dg_sub {o i : Expr} {mo mi : EM} {sl : List Nat} (ho : DE X Ξ W o mo) (hi : DE X Ξ W i mi) (ha : ∀ v, assign (.Subscript o i pos) X.env v = (do
      let ov ← holding [v] (eval o X.env)
      let iv ← holding [v, ov] (eval i X.env)
      standAt pos
      holding [v, ov, iv] (setItem ov iv v)
      release [v, ov, iv] []) := by intro _; rfl) : DG X Ξ W sl (.Subscript o i pos) (subG mo mi) :=
  PG_weak (pg_sub ho hi set_D ha) fun v σ H Q ⟨d, env, ω, S, r, hE, hS, p⟩ => by
    refine seqRS hE hS p fun x H1 ω1 d1 S1 g1 r1 s1 e1 p1 => ?_
    refine seqRS e1 s1 p1 fun y H2 ω2 d2 S2 g2 r2 s2 e2 p2 => ?_
    cases q : setD d1 d2 d S2 with
    | none => rw [q] at p2; exact p2.elim
    | some S3 =>
      rw [q] at p2
      exact ⟨ω2, S2, d1, d2, d, S3, r1.grow g2, r2, r.grow (g1.trans g2), s2, q, fun H' g' s' => p2 σ H' ω2 g' (e2.grow g') s' rfl⟩
/-! ### sources of loops -/
theorem PI_or {t t' : TI} (h : PI X tg e t) (h' : PI X tg e t') : PI X tg e (fun σ H R => t σ H R ∨ t' σ H R) := ⟨fun pins s σ H R I q => q.elim (fun q => h.run pins s σ H R I q) fun q => h'.run pins s σ H R I q⟩
end
end Dn
end

section
/-! # Dn9: built-ins, methods, sources of loops -/
namespace Dn
open PySem PySem.Spec PyProof.Rows L2
open Classical
/-! ### built-ins -/
def lenN : OpN := fun ds S => match ds with
  | [x] => (match view S x with
    | .str z => if z.length ≤ sizeLine then some (.int z.length, S) else none
    | .lst xs => some (.int xs.length, S)
    | .tup xs => some (.int xs.length, S)
    | .scr xs => some (.int xs.length, S)
    | _ => none)
  | _ => none
def absN : OpN := fun ds S => match ds with
  | [.int i] => some (.int i.natAbs, S)
  | _ => none
def maxN : OpN := fun ds S => match ds with
  | [.int i, .int j] => some (.int (max i j), S)
  | _ => none
def minN : OpN := fun ds S => match ds with
  | [.int i, .int j] => some (.int (min i j), S)
  | _ => none
def intN : OpN := fun ds S => match ds with
  | [.int i] => some (.int i, S)
  | [.bl b] => some (.int (if b then 1 else 0), S)
  | _ => none
def strN : OpN := fun ds S => match ds with
  | [.int i] => if i.natAbs.log2 < 1920 then some (.str (toString i), S) else none
  | _ => none
def listN (st : Bool) : OpN := fun ds S => match ds with
  | [x] => (match view S x with
    | .lst xs => some (newL st xs S)
    | .tup xs => some (newL st xs S)
    | _ => none)
  | _ => none
def tupleN : OpN := fun ds S => match ds with
  | [x] => (match view S x with
    | .lst xs => some (.tup xs, S)
    | .tup xs => some (.tup xs, S)
    | _ => none)
  | _ => none
def boolsOf : List D → Option (List Bool)
  | [] => some []
  | .bl b :: r => (boolsOf r).map (b :: ·)
  | _ => none
def intsOf : List D → Option (List Int)
  | [] => some []
  | .int b :: r => (intsOf r).map (b :: ·)
  | _ => none
def strsOf : List D → Option (List Str)
  | [] => some []
  | .str b :: r => (strsOf r).map (b :: ·)
  | _ => none
def allN : OpN := fun ds S => match ds with
  | [x] => (match view S x with
    | .lst xs => (boolsOf xs).map fun bs => (.bl (bs.all id), S)
    | _ => none)
  | _ => none
def anyN : OpN := fun ds S => match ds with
  | [x] => (match view S x with
    | .lst xs => (boolsOf xs).map fun bs => (.bl (bs.any id), S)
    | _ => none)
  | _ => none
def sumN : OpN := fun ds S => match ds with
  | [x] => (match view S x with
    | .lst xs => (intsOf xs).map fun bs => (.int bs.sum, S)
    | _ => none)
  | _ => none
/-! isinstance of data -/
def D.ty : D → Option String
  | .non => some "NoneType"
  | .bl _ => some "bool"
  | .int _ => some "int"
  | .str _ => some "str"
  | .tup _ => some "tuple"
  | .lst _ => some "list"
  | .scr _ => some "list"
  | .dic _ _ => some "dict"
  | _ => none
def isiB (a b : String) : Option Bool :=
  if b ∈ ["int", "bool", "str", "tuple", "list", "dict"] then some (decide (a = b) || (decide (a = "bool") && decide (b = "int"))) else none
def isiN : OpN := fun ds S => match ds with
  | [x, .val (.ty T)] => ((view S x).ty.bind fun a => isiB a T).map fun b => (.bl b, S)
  | _ => none
section
variable {K : PySem.W.Frag} {H : Hp} {ω : Om} {S : S}
theorem isiB_kit {a b : String} {r : Bool} (ha : a ∈ ["NoneType", "bool", "int", "str", "tuple", "list", "dict"]) (h : isiB a b = some r) : L2.kitB a b = some r := by
  unfold isiB at h
  split at h
  · rename_i hb
    simp only [List.mem_cons, List.not_mem_nil, or_false] at ha hb
    rcases ha with rfl | rfl | rfl | rfl | rfl | rfl | rfl <;> rcases hb with rfl | rfl | rfl | rfl | rfl | rfl <;> rw [← h] <;> decide +kernel
  · cases h
theorem bools_rep : ∀ {ds : List D} {xs : List V} {bs : List Bool}, RepL K H ω ds xs → boolsOf ds = some bs → xs = bs.map V.bl
  | [], _, bs, h, e => by
    have : bs = [] := (Option.some.inj e).symm
    rw [h.nil_, this]; rfl
  | d :: ds, _, bs, h, e => by
    obtain ⟨x, r, rfl, h1, h2⟩ := h.cons_
    cases d with
    | bl b =>
      replace e : (boolsOf ds).map (b :: ·) = some bs := e
      cases q : boolsOf ds with
      | none => rw [q] at e; cases e
      | some cs =>
        rw [q] at e
        have : b :: cs = bs := Option.some.inj e
        rw [← this, h1.bl_, bools_rep h2 q]; rfl
    | _ => cases e
theorem ints_rep : ∀ {ds : List D} {xs : List V} {bs : List Int}, RepL K H ω ds xs → intsOf ds = some bs → xs = bs.map V.int
  | [], _, bs, h, e => by
    have : bs = [] := (Option.some.inj e).symm
    rw [h.nil_, this]; rfl
  | d :: ds, _, bs, h, e => by
    obtain ⟨x, r, rfl, h1, h2⟩ := h.cons_
    cases d with
    | int b =>
      replace e : (intsOf ds).map (b :: ·) = some bs := e
      cases q : intsOf ds with
      | none => rw [q] at e; cases e
      | some cs =>
        rw [q] at e
        have : b :: cs = bs := Option.some.inj e
        rw [← this, h1.int_, ints_rep h2 q]; rfl
    | _ => cases e
theorem strs_rep : ∀ {ds : List D} {xs : List V} {bs : List Str}, RepL K H ω ds xs → strsOf ds = some bs → xs = bs.map V.str
  | [], _, bs, h, e => by
    have : bs = [] := (Option.some.inj e).symm
    rw [h.nil_, this]; rfl
  | d :: ds, _, bs, h, e => by
    obtain ⟨x, r, rfl, h1, h2⟩ := h.cons_
    cases d with
    | str b =>
      replace e : (strsOf ds).map (b :: ·) = some bs := e
      cases q : strsOf ds with
      | none => rw [q] at e; cases e
      | some cs =>
        rw [q] at e
        have : b :: cs = bs := Option.some.inj e
        rw [← this, h1.str_, strs_rep h2 q]; rfl
    | _ => cases e
theorem repL_strs : ∀ ys : List Str, RepL K H ω (ys.map D.str) (ys.map V.str)
  | [] => repL_nil
  | _ :: ys => repL_cons rep_str (repL_strs ys)
/-- the type of a thing -/
theorem ty_x (hS : RepS K H ω S) {d : D} {v : V} {a : String} (r : Rep K H ω d v) (h : (view S d).ty = some a) : L2.TyX K H v (.type a) ∧ a ∈ ["NoneType", "bool", "int", "str", "tuple", "list", "dict"] := by
  cases q : view S d with
  | non => rw [q] at h; cases h; have e := view_non q; subst e; rw [r.non_]; exact ⟨.base .non, by decide⟩
  | bl b => rw [q] at h; cases h; have e := view_bl q; subst e; rw [r.bl_]; exact ⟨.base (.bl b), by decide⟩
  | int i => rw [q] at h; cases h; have e := view_int q; subst e; rw [r.int_]; exact ⟨.base (.int i), by decide⟩
  | str x => rw [q] at h; cases h; have e := view_str q; subst e; rw [r.str_]; exact ⟨.base (.str x), by decide⟩
  | tup xs =>
    rw [q] at h; cases h; have e := view_tup q; subst e
    obtain ⟨l, ys, rfl, h1, _⟩ := r.tup_
    rcases h1 with ⟨_, h1 | ⟨o, h1⟩⟩ | ⟨o, its, n, h1, h2, _⟩
    · exact ⟨.base (.tup h1), by decide⟩
    · exact ⟨.fTuple h1, by decide⟩
    · exact ⟨.kTuple h1 h2, by decide⟩
  | lst xs =>
    rw [q] at h; cases h
    obtain ⟨l, ys, rfl, h1, _⟩ := view_lst hS r q
    exact ⟨.base (.lst h1), by decide⟩
  | scr ns =>
    rw [q] at h; cases h; have e := view_scr q; subst e
    obtain ⟨l, rfl, h1⟩ := r.scr_
    rcases h1 with ⟨_, h1 | ⟨o, h1⟩⟩ | ⟨o, its, n, h1, h2, _⟩
    · exact ⟨.base (.lst h1), by decide⟩
    · exact ⟨.base (.frz h1), by decide⟩
    · exact ⟨.kList h1 h2, by decide⟩
  | dic ks xs =>
    rw [q] at h; cases h
    obtain ⟨l, ys, rfl, h1, _⟩ := view_dic hS r q
    rcases h1 with h1 | ⟨o, h1⟩
    · exact ⟨.base (.dK h1), by decide⟩
    · exact ⟨.fDict h1, by decide⟩
  | ref n => rw [q] at h; cases h
  | val u => rw [q] at h; cases h
theorem one_ {d : D} {xs : List V} (h : RepL K H ω [d] xs) : ∃ x, xs = [x] ∧ Rep K H ω d x := by
  obtain ⟨x, r, rfl, h1, h2⟩ := h.cons_
  rw [h2.nil_]
  exact ⟨x, rfl, h1⟩
theorem two_ {d e : D} {xs : List V} (h : RepL K H ω [d, e] xs) : ∃ x y, xs = [x, y] ∧ Rep K H ω d x ∧ Rep K H ω e y := by
  obtain ⟨x, r, rfl, h1, h2⟩ := h.cons_
  obtain ⟨y, rfl, h3⟩ := one_ h2
  exact ⟨x, y, rfl, h1, h3⟩
end
section
variable {X : Cx} {st : Bool}
theorem fn_len : DN X (.builtin "len") lenN := by
  intro pins s σ H xs us Q I r ⟨ω, S, ds, rl, hS, p⟩
  unfold lenN at p
  split at p
  · rename_i d
    obtain ⟨v, rfl, r1⟩ := one_ rl
    split at p
    · rename_i z q
      have e := view_str q; subst e
      split at p
      · rename_i hz
        rw [r1.str_] at r
        exact call_len pins s σ H _ us Q I r ⟨_, _, rfl, ⟨hz, rfl⟩, post_ok p rep_int hS⟩
      · exact p.elim
    · rename_i ys q
      obtain ⟨l, zs, rfl, h1, t1⟩ := view_lst hS r1 q
      exact call_len pins s σ H _ us Q I r ⟨_, _, rfl, .inl ⟨zs, .inl (.inl h1), rfl⟩, by rw [← t1.len]; exact post_ok p rep_int hS⟩
    · rename_i ys q
      have e := view_tup q; subst e
      obtain ⟨l, zs, rfl, h1, t1⟩ := r1.tup_
      exact call_len pins s σ H _ us Q I r ⟨_, _, rfl, .inr ⟨zs, tup_sq h1, rfl⟩, by rw [← t1.len]; exact post_ok p rep_int hS⟩
    · rename_i ys q
      have e := view_scr q; subst e
      obtain ⟨l, rfl, h1⟩ := r1.scr_
      exact call_len pins s σ H _ us Q I r ⟨_, _, rfl, .inl ⟨_, scr_sq h1, rfl⟩, by rw [List.length_map]; exact post_ok p rep_int hS⟩
    · exact p.elim
  · exact p.elim
theorem fn_abs : DN X (.builtin "abs") absN := by
  intro pins s σ H xs us Q I r ⟨ω, S, ds, rl, hS, p⟩
  unfold absN at p
  split at p
  · rename_i i
    obtain ⟨v, rfl, r1⟩ := one_ rl
    rw [r1.int_] at r
    refine call_abs pins s σ H _ us Q I r ⟨i, rfl, ?_⟩
    have : (if i < 0 then -i else i) = (i.natAbs : Int) := by split <;> omega
    rw [this]
    exact post_ok p rep_int hS
  · exact p.elim
theorem fn_max (hc : X.calm = true) : DN X (.builtin "max") maxN := by
  intro pins s σ H xs us Q I r ⟨ω, S, ds, rl, hS, p⟩
  unfold maxN at p
  split at p
  · rename_i i j
    obtain ⟨v, w, rfl, r1, r2⟩ := two_ rl
    rw [r1.int_, r2.int_] at r
    refine call_max2 hc pins s σ H _ us Q I r ⟨i, j, rfl, ?_⟩
    have : (if j > i then j else i) = max i j := by split <;> omega
    rw [this]
    exact post_ok p rep_int hS
  · exact p.elim
theorem fn_min (hc : X.calm = true) : DN X (.builtin "min") minN := by
  intro pins s σ H xs us Q I r ⟨ω, S, ds, rl, hS, p⟩
  unfold minN at p
  split at p
  · rename_i i j
    obtain ⟨v, w, rfl, r1, r2⟩ := two_ rl
    rw [r1.int_, r2.int_] at r
    refine call_min2 hc pins s σ H _ us Q I r ⟨i, j, rfl, ?_⟩
    have : (if j < i then j else i) = min i j := by split <;> omega
    rw [this]
    exact post_ok p rep_int hS
  · exact p.elim
theorem fn_int : DN X (.type "int") intN := by
  intro pins s σ H xs us Q I r ⟨ω, S, ds, rl, hS, p⟩
  unfold intN at p
  split at p
  · rename_i i
    obtain ⟨v, rfl, r1⟩ := one_ rl
    rw [r1.int_] at r
    exact call_int1 pins s σ H _ us Q I r (.inl ⟨i, rfl, post_ok p rep_int hS⟩)
  · rename_i i
    obtain ⟨v, rfl, r1⟩ := one_ rl
    rw [r1.bl_] at r
    exact call_int1 pins s σ H _ us Q I r (.inr ⟨i, rfl, post_ok p rep_int hS⟩)
  · exact p.elim
theorem fn_str : DN X (.type "str") strN := by
  intro pins s σ H xs us Q I r ⟨ω, S, ds, rl, hS, p⟩
  unfold strN at p
  split at p
  · rename_i i
    obtain ⟨v, rfl, r1⟩ := one_ rl
    rw [r1.int_] at r
    split at p
    · rename_i hz
      exact call_str_int pins s σ H _ us Q I r ⟨i, rfl, hz, post_ok p rep_str hS⟩
    · exact p.elim
  · exact p.elim
theorem fn_list : DN X (.type "list") (listN st) := by
  intro pins s σ H xs us Q I r ⟨ω, S, ds, rl, hS, p⟩
  unfold listN at p
  split at p
  · obtain ⟨v, rfl, r1⟩ := one_ rl
    split at p
    · rename_i ys q
      obtain ⟨l, zs, rfl, h1, t1⟩ := view_lst hS r1 q
      refine call_list_of pins s σ H _ us Q I r ⟨l, zs, rfl, .inl (.inl (.inl h1)), fun a ha => ?_⟩
      obtain ⟨ω', g, r', s'⟩ := new_lst (st := st) hS ha t1
      exact p _ _ ω' g r' s'
    · rename_i ys q
      have e := view_tup q; subst e
      obtain ⟨l, zs, rfl, h1, t1⟩ := r1.tup_
      refine call_list_of pins s σ H _ us Q I r ⟨l, zs, rfl, .inr (tup_sq h1), fun a ha => ?_⟩
      obtain ⟨ω', g, r', s'⟩ := new_lst (st := st) hS ha t1
      exact p _ _ ω' g r' s'
    · exact p.elim
  · exact p.elim
theorem fn_tuple : DN X (.type "tuple") tupleN := by
  intro pins s σ H xs us Q I r ⟨ω, S, ds, rl, hS, p⟩
  unfold tupleN at p
  split at p
  · obtain ⟨v, rfl, r1⟩ := one_ rl
    split at p
    · rename_i ys q
      obtain ⟨l, zs, rfl, h1, t1⟩ := view_lst hS r1 q
      refine call_tuple_of pins s σ H _ us Q I r ⟨l, zs, rfl, .inl ⟨.inl (.inl h1), fun a ha => ?_⟩⟩
      obtain ⟨g, r', s'⟩ := new_tup hS ha t1
      exact p _ _ ω g r' s'
    · rename_i ys q
      have e := view_tup q; subst e
      obtain ⟨l, zs, rfl, h1, t1⟩ := r1.tup_
      exact call_tuple_of pins s σ H _ us Q I r ⟨l, zs, rfl, .inr ⟨tup_sq h1, post_ok p r1 hS⟩⟩
    · exact p.elim
  · exact p.elim
theorem fn_all (hc : X.calm = true) : DN X (.builtin "all") allN := by
  intro pins s σ H xs us Q I r ⟨ω, S, ds, rl, hS, p⟩
  unfold allN at p
  split at p
  · obtain ⟨v, rfl, r1⟩ := one_ rl
    split at p
    · rename_i ys q
      obtain ⟨l, zs, rfl, h1, t1⟩ := view_lst hS r1 q
      cases e : boolsOf ys with
      | none => rw [e] at p; exact p.elim
      | some bs =>
        rw [e] at p
        have := bools_rep t1 e
        subst this
        exact cr_all hc pins s σ H _ us Q I r ⟨l, bs, rfl, .inl (.inl h1), post_ok p rep_bl hS⟩
    · exact p.elim
  · exact p.elim
theorem fn_any (hc : X.calm = true) : DN X (.builtin "any") anyN := by
  intro pins s σ H xs us Q I r ⟨ω, S, ds, rl, hS, p⟩
  unfold anyN at p
  split at p
  · obtain ⟨v, rfl, r1⟩ := one_ rl
    split at p
    · rename_i ys q
      obtain ⟨l, zs, rfl, h1, t1⟩ := view_lst hS r1 q
      cases e : boolsOf ys with
      | none => rw [e] at p; exact p.elim
      | some bs =>
        rw [e] at p
        have := bools_rep t1 e
        subst this
        exact cr_any hc pins s σ H _ us Q I r ⟨l, bs, rfl, .inl (.inl h1), post_ok p rep_bl hS⟩
    · exact p.elim
  · exact p.elim
theorem fn_sum (hc : X.calm = true) : DN X (.builtin "sum") sumN := by
  intro pins s σ H xs us Q I r ⟨ω, S, ds, rl, hS, p⟩
  unfold sumN at p
  split at p
  · obtain ⟨v, rfl, r1⟩ := one_ rl
    split at p
    · rename_i ys q
      obtain ⟨l, zs, rfl, h1, t1⟩ := view_lst hS r1 q
      cases e : intsOf ys with
      | none => rw [e] at p; exact p.elim
      | some bs =>
        rw [e] at p
        have := ints_rep t1 e
        subst this
        exact cr_sum hc pins s σ H _ us Q I r ⟨l, bs, rfl, .inl (.inl h1), post_ok p rep_int hS⟩
    · exact p.elim
  · exact p.elim
theorem fn_isi : DN X (.builtin "isinstance") isiN := by
  intro pins s σ H xs us Q I r ⟨ω, S, ds, rl, hS, p⟩
  unfold isiN at p
  split at p
  · rename_i x T
    obtain ⟨v, w, rfl, r1, r2⟩ := two_ rl
    rw [r2.val_] at r
    cases q : (view S x).ty with
    | none => rw [q] at p; exact p.elim
    | some a =>
      rw [q] at p
      obtain ⟨t1, t2⟩ := ty_x hS r1 q
      replace p : post X.K (Rep X.K) H ω Q (fun _ _ _ => False) (R.of ((isiB a T).map fun b => (D.bl b, S))) := p
      cases q2 : isiB a T with
      | none => rw [q2] at p; exact p.elim
      | some b =>
        rw [q2] at p
        exact call_isi pins s σ H _ us Q I r ⟨v, .ty T, .type a, .type T, b, rfl, .ty T, t1, L2.kit_ty (isiB_kit t2 q2), post_ok p rep_bl hS⟩
  · exact p.elim
end
/-! ### methods -/
def appendM : OpM := fun x ds S => match x, ds with
  | .ref n, [y] => (match S[n]? with
    | some (.lst xs) => if xs.length < sizeLine then some (.non, S.set n (.lst (xs ++ [y]))) else none
    | _ => none)
  | _, _ => none
def extendM : OpM := fun x ds S => match x, ds with
  | .ref n, [y] => (match S[n]?, view S y with
    | some (.lst xs), .lst ys => if xs.length + ys.length ≤ sizeLine then some (.non, S.set n (.lst (xs ++ ys))) else none
    | _, _ => none)
  | _, _ => none
def popM : OpM := fun x ds S => match x, ds with
  | .ref n, [] => (match S[n]? with
    | some (.lst xs) => (xs[xs.length - 1]?).map fun y => (y, S.set n (.lst xs.dropLast))
    | _ => none)
  | _, _ => none
def splitM (st : Bool) : OpM := fun x ds S => match x, ds with
  | .str a, [.str b] => if (b.length == 0) = false ∧ a.length + 2 ≤ sizeLine then some (newL st ((Txt.split a b).map D.str) S) else none
  | _, _ => none
def joinM : OpM := fun x ds S => match x, ds with
  | .str a, [y] => (match view S y with
    | .lst ys => (strsOf ys).bind fun zs => if (zs.map (·.length)).sum + zs.length * a.length ≤ 16777216 then some (.str (Txt.join a zs), S) else none
    | .tup ys => (strsOf ys).bind fun zs => if (zs.map (·.length)).sum + zs.length * a.length ≤ 16777216 then some (.str (Txt.join a zs), S) else none
    | _ => none)
  | _, _ => none
def upperM : OpM := fun x ds S => match x, ds with
  | .str a, [] => if a.length ≤ 5592405 then some (.str (Txt.upper a), S) else none
  | _, _ => none
def sindexM : OpM := fun x ds S => match x, ds with
  | .str a, [.str b] => (match Builtin.Str.occurrences a b 0 a.length 1 with
    | i :: _ => some (.int (i : Nat), S)
    | [] => none)
  | _, _ => none
section
variable {X : Cx} {st : Bool}
theorem mt_appendD : DM X "list.append" appendM := by
  intro pins s σ H x xs v us Q I rx rs ⟨ω, S, d, ds, r, rl, hS, p⟩
  unfold appendM at p
  split at p
  · rename_i n y
    obtain ⟨w, rfl, r1⟩ := one_ rl
    obtain ⟨a, rfl, ha⟩ := r.ref_
    split at p
    · rename_i zs q
      obtain ⟨ys, h1, h2⟩ := hS.lst_at ha q
      split at p
      · rename_i hz
        refine mt_append pins s σ H _ _ v us Q I rx rs ⟨a, ys, w, rfl, rfl, h1, by rw [← h2.len]; exact hz, ?_⟩
        obtain ⟨g, s'⟩ := put_lst hS ha (h2.append (repL_cons r1 repL_nil))
        exact p _ _ ω g rep_non s'
      · exact p.elim
    · exact p.elim
  · exact p.elim
theorem mt_extendD : DM X "list.extend" extendM := by
  intro pins s σ H x xs v us Q I rx rs ⟨ω, S, d, ds, r, rl, hS, p⟩
  unfold extendM at p
  split at p
  · rename_i n y
    obtain ⟨w, rfl, r1⟩ := one_ rl
    obtain ⟨a, rfl, ha⟩ := r.ref_
    split at p
    · rename_i zs ws q q2
      obtain ⟨ys, h1, h2⟩ := hS.lst_at ha q
      obtain ⟨b, vs, rfl, h3, h4⟩ := view_lst hS r1 q2
      split at p
      · rename_i hz
        refine mt_extend pins s σ H _ _ v us Q I rx rs ⟨a, b, ys, vs, rfl, rfl, h1, h3, by rw [← h2.len, ← h4.len]; exact hz, ?_⟩
        obtain ⟨g, s'⟩ := put_lst hS ha (h2.append h4)
        exact p _ _ ω g rep_non s'
      · exact p.elim
    · exact p.elim
  · exact p.elim
theorem RepL.dropLast {K : PySem.W.Frag} {H : Hp} {ω : Om} {ds : List D} {xs : List V} (h : RepL K H ω ds xs) : RepL K H ω ds.dropLast xs.dropLast := by
  rw [List.dropLast_eq_take, List.dropLast_eq_take, h.len]
  exact h.take _
theorem mt_popD : DM X "list.pop" popM := by
  intro pins s σ H x xs v us Q I rx rs ⟨ω, S, d, ds, r, rl, hS, p⟩
  unfold popM at p
  split at p
  · rename_i n
    obtain ⟨a, rfl, ha⟩ := r.ref_
    split at p
    · rename_i zs q
      obtain ⟨ys, h1, h2⟩ := hS.lst_at ha q
      cases e : zs[zs.length - 1]? with
      | none => rw [e] at p; exact p.elim
      | some y =>
        rw [e] at p
        obtain ⟨w, ew, rw_⟩ := h2.get e
        refine mt_pop pins s σ H _ _ v us Q I rx rs ⟨a, ys, w, rfl, rl.nil_, h1, by rw [← h2.len]; exact ew, ?_⟩
        obtain ⟨g, s'⟩ := put_lst hS ha h2.dropLast
        exact p _ _ ω g (rw_.grow g) s'
    · exact p.elim
  · exact p.elim
theorem mt_splitD : DM X "str.split" (splitM st) := by
  intro pins s σ H x xs v us Q I rx rs ⟨ω, S, d, ds, r, rl, hS, p⟩
  unfold splitM at p
  split at p
  · rename_i a b
    obtain ⟨w, rfl, r1⟩ := one_ rl
    rw [r.str_] at rx
    rw [r1.str_] at rs
    split at p
    · rename_i hz
      refine mt_split pins s σ H _ _ v us Q I rx rs ⟨a, b, rfl, rfl, hz.1, hz.2, fun l hl => ?_⟩
      obtain ⟨ω', g, r', s'⟩ := new_lst (st := st) hS hl (repL_strs (K := X.K) (H := H) (ω := ω) (Txt.split a b))
      exact p _ _ ω' g r' s'
    · exact p.elim
  · exact p.elim
theorem mt_joinD : DM X "str.join" joinM := by
  intro pins s σ H x xs v us Q I rx rs ⟨ω, S, d, ds, r, rl, hS, p⟩
  unfold joinM at p
  split at p
  · rename_i a y
    obtain ⟨w, rfl, r1⟩ := one_ rl
    rw [r.str_] at rx
    split at p
    · rename_i ys q
      obtain ⟨l, zs, rfl, h1, t1⟩ := view_lst hS r1 q
      cases e : strsOf ys with
      | none => rw [e] at p; exact p.elim
      | some ts =>
        rw [e] at p
        have := strs_rep t1 e
        subst this
        replace p : post X.K (Rep X.K) H ω Q (fun _ _ _ => False) (R.of (if (ts.map (·.length)).sum + ts.length * a.length ≤ 16777216 then some (D.str (Txt.join a ts), S) else none)) := p
        split at p
        · rename_i hz
          exact mt_join pins s σ H _ _ v us Q I rx rs ⟨a, l, ts, rfl, rfl, .inl (.inl (.inl h1)), hz, post_ok p rep_str hS⟩
        · exact p.elim
    · rename_i ys q
      have e := view_tup q; subst e
      obtain ⟨l, zs, rfl, h1, t1⟩ := r1.tup_
      cases e : strsOf ys with
      | none => rw [e] at p; exact p.elim
      | some ts =>
        rw [e] at p
        have := strs_rep t1 e
        subst this
        replace p : post X.K (Rep X.K) H ω Q (fun _ _ _ => False) (R.of (if (ts.map (·.length)).sum + ts.length * a.length ≤ 16777216 then some (D.str (Txt.join a ts), S) else none)) := p
        split at p
        · rename_i hz
          exact mt_join pins s σ H _ _ v us Q I rx rs ⟨a, l, ts, rfl, rfl, .inr (tup_sq h1), hz, post_ok p rep_str hS⟩
        · exact p.elim
    · exact p.elim
  · exact p.elim
theorem mt_upperD : DM X "str.upper" upperM := by
  intro pins s σ H x xs v us Q I rx rs ⟨ω, S, d, ds, r, rl, hS, p⟩
  unfold upperM at p
  split at p
  · rename_i a
    rw [r.str_] at rx
    split at p
    · rename_i hz
      exact mt_upper pins s σ H _ _ v us Q I rx rs ⟨a, rfl, rl.nil_, hz, post_ok p rep_str hS⟩
    · exact p.elim
  · exact p.elim
theorem mt_sindexD : DM X "str.index" sindexM := by
  intro pins s σ H x xs v us Q I rx rs ⟨ω, S, d, ds, r, rl, hS, p⟩
  unfold sindexM at p
  split at p
  · rename_i a b
    obtain ⟨w, rfl, r1⟩ := one_ rl
    rw [r.str_] at rx
    rw [r1.str_] at rs
    split at p
    · rename_i i rest q
      exact mt_sindex pins s σ H _ _ v us Q I rx rs ⟨a, b, i, rest, rfl, rfl, q, post_ok p rep_int hS⟩
    · exact p.elim
  · exact p.elim
end
/-! ### sources of loops -/
def gdOf (d : D) (xs : List D) : S → Prop := match d with
  | .ref n => fun S => S[n]? = some (.lst xs)
  | _ => fun _ => True
noncomputable def seqI (a : EM) : IM := fun env S => (a env S).bind fun d S1 => match view S1 d with
  | .lst xs => .ok (xs, gdOf d xs) S1
  | .tup xs => .ok (xs, fun _ => True) S1
  | .scr ns => .ok (ns.map D.int, fun _ => True) S1
  | .str z => .ok (z.cps.toList.map fun c => .str ⟨#[c]⟩, fun _ => True) S1
  | _ => .bad
/-- lo, lo + 1, .. below hi -/
def rangeL (lo hi : Int) : List D := (List.range (hi - lo).toNat).map fun i => .int (lo + (i : Nat))
noncomputable def range1I (m : LM) : IM := fun env S => (m env S).bind fun ds S1 => match ds with
  | [.int j] => if -(2 ^ 62) ≤ j ∧ j < 2 ^ 62 then .ok (rangeL 0 j, fun _ => True) S1 else .bad
  | _ => .bad
noncomputable def range2I (m : LM) : IM := fun env S => (m env S).bind fun ds S1 => match ds with
  | [.int i, .int j] => if -(2 ^ 62) ≤ i ∧ i < 2 ^ 62 ∧ -(2 ^ 62) ≤ j ∧ j < 2 ^ 62 then .ok (rangeL i j, fun _ => True) S1 else .bad
  | _ => .bad
/-- range(i, j, -1) -/
def downL (i j : Int) : List D := (List.range (i - j).toNat).map fun k => .int (i - (k : Nat))
section
variable {K : PySem.W.Frag} {H : Hp} {ω : Om} {S : S}
theorem yld_lst (hS : RepS K H ω S) {d : D} {a : Addr} {xs : List D} (r : Rep K H ω d (.ref a)) (q : view S d = .lst xs) : Yld K H ω (xs, gdOf d xs) (Itl K a) := by
  intro H1 ω1 S1 mv s1 hg
  have key : ∃ ys, H1 a = some (.lst ys) ∧ RepL K H1 ω1 xs ys := by
    cases d with
    | ref n =>
      obtain ⟨a', e, ha⟩ := r.ref_
      cases e
      exact s1.lst_at (mv.idx n a ha) hg
    | lst ds =>
      have : ds = xs := by injection q
      subst this
      obtain ⟨a', ys, e, hn, h1, h2⟩ := r.lst_
      cases e
      exact ⟨ys, (lst_mv mv hn h1).1, h2.mv mv⟩
    | non => have := (view_non (S := S) (d := .non) rfl); cases q
    | bl _ => cases q
    | int _ => cases q
    | str _ => cases q
    | tup _ => cases q
    | dic _ _ => cases q
    | scr _ => cases q
    | val _ => cases q
  obtain ⟨ys, h1, h2⟩ := key
  refine ⟨⟨ys, .inl (.inl h1), by rw [← h2.len]; exact Nat.le_refl _⟩, fun i e hi => ?_⟩
  obtain ⟨y, hy, ry⟩ := h2.get hi
  refine ⟨⟨ys, y, .inl (.inl h1), hy⟩, fun x H2 hx => ?_⟩
  obtain ⟨e1, e2⟩ := hx
  subst e1
  have := e2 ys (.inl (.inl h1))
  rw [hy] at this
  cases this
  exact ⟨.refl, ry, s1⟩
theorem yld_tup {a : Addr} {xs : List D} (r : Rep K H ω (.tup xs) (.ref a)) : Yld K H ω (xs, fun _ => True) (Itt K a) := by
  intro H1 ω1 S1 mv s1 _
  obtain ⟨a', ys, e, h1, h2⟩ := (r.mv mv).tup_
  cases e
  refine ⟨⟨ys, tup_sq h1, by rw [← h2.len]; exact Nat.le_refl _⟩, fun i e hi => ?_⟩
  obtain ⟨y, hy, ry⟩ := h2.get hi
  refine ⟨⟨ys, y, tup_sq h1, hy⟩, fun x H2 hx => ?_⟩
  obtain ⟨e1, e2⟩ := hx
  subst e1
  have := e2 ys (tup_sq h1)
  rw [hy] at this
  cases this
  exact ⟨.refl, ry, s1⟩
theorem yld_scr {a : Addr} {ns : List Int} (r : Rep K H ω (.scr ns) (.ref a)) : Yld K H ω (ns.map D.int, fun _ => True) (Itl K a) := by
  intro H1 ω1 S1 mv s1 _
  obtain ⟨a', e, h1⟩ := (r.mv mv).scr_
  cases e
  have h2 := RepL.ints (K := K) (H := H1) (ω := ω1) ns
  refine ⟨⟨_, scr_sq h1, by rw [← h2.len]; exact Nat.le_refl _⟩, fun i e hi => ?_⟩
  obtain ⟨y, hy, ry⟩ := h2.get hi
  refine ⟨⟨_, y, scr_sq h1, hy⟩, fun x H2 hx => ?_⟩
  obtain ⟨e1, e2⟩ := hx
  subst e1
  have := e2 _ (scr_sq h1)
  rw [hy] at this
  cases this
  exact ⟨.refl, ry, s1⟩
theorem yld_str {z : Str} : Yld K H ω (z.cps.toList.map fun c => D.str ⟨#[c]⟩, fun _ => True) (Its z) := by
  intro H1 ω1 S1 mv s1 _
  refine ⟨by show z.cps.size ≤ _; simp, fun i e hi => ?_⟩
  rw [List.getElem?_map] at hi
  cases q : z.cps.toList[i]? with
  | none => rw [q] at hi; cases hi
  | some c =>
    rw [q] at hi
    have e1 : D.str ⟨#[c]⟩ = e := Option.some.inj hi
    subst e1
    refine ⟨?_, fun x H2 hx => ?_⟩
    · have := (List.getElem?_eq_some_iff.mp q).1
      show i < z.cps.size
      simpa using this
    · obtain ⟨e1, c', hc, e2⟩ := hx
      subst e1; subst e2
      rw [Array.getElem?_toList] at q
      rw [hc] at q
      cases q
      exact ⟨.refl, rep_str, s1⟩
theorem yld_range {lo : Int} {n : Nat} : Yld K H ω ((List.range n).map fun i => D.int (lo + (i : Nat)), fun _ => True) (Itr lo n) := by
  intro H1 ω1 S1 mv s1 _
  refine ⟨by show n ≤ _; simp, fun i e hi => ?_⟩
  rw [List.getElem?_map] at hi
  by_cases hn : i < n
  · rw [List.getElem?_range hn] at hi
    have e1 : D.int (lo + (i : Nat)) = e := Option.some.inj hi
    subst e1
    refine ⟨hn, fun x H2 hx => ?_⟩
    obtain ⟨e1, e2⟩ := hx
    subst e1; subst e2
    exact ⟨.refl, rep_int, s1⟩
  · rw [List.getElem?_eq_none_iff.mpr (by simpa using hn)] at hi
    cases hi
end
section
variable {X : Cx} {Ξ : Xi} {W : WX} {pos : Pos} {a b c e tg : Expr} {ma mb mc : EM} {es : List Expr} {m : LM} {st : Bool}
theorem seqG' {α β γ δ : Type} {K : PySem.W.Frag} {H : Hp} {ω : Om} {Rl : Hp → Om → α → β → Prop} {Rl' : Hp → Om → γ → δ → Prop} {σ : L2.St} {env : Sl} {S : S} {ma : Sl → Dn.S → R α} {k : α → Dn.S → R γ} {Q : β → Hp → Prop} {Q' : δ → Hp → Prop} (hE : RepE K Ξ H ω env σ) (hS : RepS K H ω S)
    (h : post K Rl' H ω Q' (fun c d H' => W c d σ H') ((ma env S).bind k))
    (hk : ∀ b H' ω' a S', ma env S = .ok a S' → Grow H ω H' ω' → Rl H' ω' a b → RepS K H' ω' S' → RepE K Ξ H' ω' env σ → post K Rl' H' ω' Q' (fun c d H' => W c d σ H') (k a S') → Q b H') : tG K Ξ W Rl ma σ H Q := by
  refine ⟨env, ω, S, hE, hS, ?_⟩
  cases q : ma env S with
  | ok a S' =>
    rw [q] at h
    exact fun b H' ω' g r s => hk b H' ω' a S' q g r s (hE.grow g) (post_grow g h)
  | exc e S' => rw [q] at h; exact h
  | bad => rw [q] at h; exact h
theorem di_seq (h : DE X Ξ W e ma) : DI X Ξ W tg e (seqI ma) :=
  PI_weak (PI_or (pi_list h) (PI_or (pi_tup h) (pi_str h))) fun σ H Rk ⟨env, ω, S, hE, hS, p⟩ => by
    unfold seqI at p
    cases q0 : ma env S with
    | bad => rw [q0] at p; exact p.elim
    | exc ex S1 =>
      rw [q0] at p
      exact .inl ⟨env, ω, S, hE, hS, by rw [q0]; exact p⟩
    | ok d S1 =>
      rw [q0, R.bind_ok] at p
      cases q : view S1 d with
      | lst xs =>
        rw [q] at p
        refine .inl ⟨env, ω, S, hE, hS, ?_⟩
        rw [q0]
        intro v H1 ω1 g1 r1 s1
        obtain ⟨l, ys, rfl, h1, h2⟩ := view_lst s1 r1 q
        exact ⟨l, rfl, ⟨ys, .inl (.inl h1)⟩, p _ H1 ω1 g1 (yld_lst s1 r1 q) s1⟩
      | tup xs =>
        rw [q] at p
        have e := view_tup q; subst e
        refine .inr (.inl ⟨env, ω, S, hE, hS, ?_⟩)
        rw [q0]
        intro v H1 ω1 g1 r1 s1
        obtain ⟨l, ys, rfl, h1, h2⟩ := r1.tup_
        exact ⟨l, rfl, ⟨ys, tup_sq h1⟩, p _ H1 ω1 g1 (yld_tup r1) s1⟩
      | scr xs =>
        rw [q] at p
        have e := view_scr q; subst e
        refine .inl ⟨env, ω, S, hE, hS, ?_⟩
        rw [q0]
        intro v H1 ω1 g1 r1 s1
        obtain ⟨l, rfl, h1⟩ := r1.scr_
        exact ⟨l, rfl, ⟨_, scr_sq h1⟩, p _ H1 ω1 g1 (yld_scr r1) s1⟩
      | str z =>
        rw [q] at p
        have e := view_str q; subst e
        refine .inr (.inr ⟨env, ω, S, hE, hS, ?_⟩)
        rw [q0]
        intro v H1 ω1 g1 r1 s1
        exact ⟨z, r1.str_, p _ H1 ω1 g1 yld_str s1⟩
      | non => rw [q] at p; exact p.elim
      | bl _ => rw [q] at p; exact p.elim
      | int _ => rw [q] at p; exact p.elim
      | dic _ _ => rw [q] at p; exact p.elim
      | ref _ => rw [q] at p; exact p.elim
      | val _ => rw [q] at p; exact p.elim
theorem di_range1 {p : Pos} (hg : Gl X "range") (hm : X.mg "range" = none) (ha : DL X Ξ W [a] m) (hs : starEach [a] X.env = [(false, eval a X.env)] := by rfl) : DI X Ξ W tg (.Call (.Name "range" p) [a] [] pos) (range1I m) :=
  PI_weak (pi_range1 hg hm ha hs) fun σ H R ⟨env, ω, S, hE, hS, p⟩ => seqG hE hS p fun xs H1 ω1 ds S1 g1 r1 s1 e1 p1 => by
    split at p1
    · rename_i j
      split at p1
      · rename_i hz
        obtain ⟨v, rfl, r2⟩ := one_ r1
        refine ⟨j, by rw [r2.int_], hz.1, hz.2, p1 _ H1 ω1 .refl ?_ s1⟩
        have := yld_range (K := X.K) (H := H1) (ω := ω1) (lo := 0) (n := j.toNat)
        unfold rangeL
        rw [Int.sub_zero]
        exact this
      · exact p1.elim
    · exact p1.elim
theorem di_range2 {p : Pos} (hg : Gl X "range") (hm : X.mg "range" = none) (ha : DL X Ξ W [a, b] m) (hs : starEach [a, b] X.env = [(false, eval a X.env), (false, eval b X.env)] := by rfl) (hs2 : starEach [b] X.env = [(false, eval b X.env)] := by rfl) :
    DI X Ξ W tg (.Call (.Name "range" p) [a, b] [] pos) (range2I m) :=
  PI_weak (pi_range2 hg hm ha hs hs2) fun σ H R ⟨env, ω, S, hE, hS, p⟩ => seqG hE hS p fun xs H1 ω1 ds S1 g1 r1 s1 e1 p1 => by
    split at p1
    · rename_i i j
      split at p1
      · rename_i hz
        obtain ⟨v, w, rfl, r2, r3⟩ := two_ r1
        exact ⟨i, j, by rw [r2.int_, r3.int_], hz, p1 _ H1 ω1 .refl yld_range s1⟩
      · exact p1.elim
    · exact p1.elim
end
end Dn
end

section
/-! # Dn10: enumerate, zip, sorted, dict displays; no promise -/
namespace Dn
open PySem L2
open Classical
noncomputable section
/-! ### no promise -/
def badE : EM := fun _ _ => .bad
def badL : LM := fun _ _ => .bad
def badB : BM := fun _ _ => .bad
def badI : IM := fun _ _ => .bad
def badS : SM := fun _ _ => .bad
section
variable {X : Cx} {Ξ : Xi} {W : WX} {pos : Pos} {e tg : Expr} {es : List Expr} {st : Stmt}
theorem de_bad : DE X Ξ W e badE := ⟨fun _ _ _ _ _ _ ⟨_, _, _, _, _, p⟩ => p.elim⟩
theorem dl_bad : DL X Ξ W es badL := ⟨fun _ _ _ _ _ _ _ ⟨_, _, _, _, _, p⟩ => p.elim⟩
theorem db_bad : DB X Ξ W e badB := ⟨fun _ _ _ _ _ _ ⟨_, _, _, _, _, p⟩ => p.elim⟩
theorem di_bad : DI X Ξ W tg e badI := ⟨fun _ _ _ _ _ _ ⟨_, _, _, _, _, p⟩ => p.elim⟩
theorem ds_bad : DS X Ξ W st badS := ⟨fun _ _ _ _ _ _ ⟨_, _, _, _, _, p⟩ => p.elim⟩
end
end
/-! ### enumerate(v) begins -/
set_option maxHeartbeats 4000000 in
theorem meets_enum1 {v : Value} {o : Obj} {H : Heap → Prop} (B : Begins v o H) :
    Meets (Builtin.«enumerate.__new__» ⟨[.type "enumerate", v], []⟩) (fun _ R s => H s.heap ∧
      R (.ok (.ret (.ref (s.heap.push o).objs.size))) { s with heap := (s.heap.push o).push { cls := .type "enumerate", data := .fields #[.none, .bool false, .ref s.heap.objs.size, rawInt 0, .none, .none] } }) :=
  .of_wp fun prog w A R s h => by
    obtain ⟨hp, g, d, tk, os⟩ := s; obtain ⟨h1, h⟩ := h
    have hsub := sub_enumerate
    have q1 : ∀ {A' : Around} {E : Value → Shared → Prop} {Q : Value → Shared → Prop}, Q (.ref hp.objs.size) ⟨hp.push o, g, d, tk, os⟩ → wpAny (model prog w) A' (pyIter v) Q E ⟨hp, g, d, tk, os⟩ :=
      fun q => B.iter prog w _ _ ⟨hp, g, d, tk, os⟩ _ h1 q
    wp_walk using q1
    refine wpAny_stack_any fun st => wpAny_pure ?_
    split
    · rename_i c _ _ _ _ _
      cases (c == Value.type "enumerate")
      · wp_walk using q1
        exact ⟨_, rfl, h⟩
      · wp_walk using q1
        exact ⟨_, rfl, h⟩
    · wp_walk using q1
      exact ⟨_, rfl, h⟩
section
variable {prog : Program} {w : World} {A : Around} {E : Value → Shared → Prop} {s : Shared}
theorem enum1_begins {v : Value} {o : Obj} {H : Heap → Prop} {Q : Value → Shared → Prop} (B : Begins v o H) (h1 : H s.heap)
    (h : ∀ h', IsEnum h' (s.heap.objs.size + 1) s.heap.objs.size 0 .none → h'.get? s.heap.objs.size = some o → h'.objs.size = s.heap.objs.size + 2 →
      (∀ b o, s.heap.get? b = some o → h'.get? b = some o) → Q (.ref (s.heap.objs.size + 1)) { s with heap := h' }) :
    wpAny (model prog w) A (call (.type "enumerate") [v]) Q E s := by
  refine callType_new F.called_enumerate (by decide) (F.typeCall_enumerate_1 _) (F.newCall_enumerate_1 _) (fun obj => F.args_object_init_2 obj _) F.entry_enumerate_new
    (meets_enum1 B) ⟨h1, ?_⟩
  have hz : (s.heap.push o).objs.size = s.heap.objs.size + 1 := Heap.size_push ..
  show _ ∧ _
  rw [hz]
  have he : IsEnum ((s.heap.push o).push { cls := .type "enumerate", data := .fields #[.none, .bool false, .ref s.heap.objs.size, rawInt 0, .none, .none] }) (s.heap.objs.size + 1) s.heap.objs.size 0 .none := by
    have := Heap.get?_push_size (s.heap.push o) (o := { cls := .type "enumerate", data := .fields #[.none, .bool false, .ref s.heap.objs.size, rawInt 0, .none, .none] }) rfl
    rw [hz] at this; exact this
  refine ⟨⟨_, he, rfl⟩, h _ he (Heap.get?_push_of_some _ (Heap.get?_push_size _ B.free)) (by rw [Heap.size_push, hz]) fun b o x => Heap.get?_push_of_some _ (Heap.get?_push_of_some _ x)⟩
end
/-- what an enumerate yields: G tells the item at i, Sp the end -/
def Itq (Go : Nat → Hp → Prop) (G : Nat → Hp → V → Prop) (Sp : Nat → Hp → Prop) : It :=
  ⟨Go, fun i H v H' => ∃ T x, v = .ref T ∧ H T = none ∧ H' = upd H T (.tup [.int (i : Nat), x]) ∧ G i H x, Sp⟩
/-- an iterator seen through what it draws -/
structure Dw (P : Program) (w : World) (K : PySem.W.Frag) (Go : Nat → Hp → Prop) (G : Nat → Hp → V → Prop) (Sp : Nat → Hp → Prop) (e it : Addr) (St : Nat → Heap → Prop) : Prop where
  live : ∀ i h, St i h → ∃ o, h.get? it = some o ∧ ∀ v, o.data ≠ .cell v
  keep : ∀ i h h', St i h → (∀ o, h.get? it = some o → h'.get? it = some o) → St i h'
  go : ∀ (X : Cx), X.prog = P → X.w = w → X.K = K → X.calm = true → ∀ (i : Nat) (pins : List (Addr × Obj)) (s : Shared) (σ : L2.St) (H : Hp), Inv X pins σ H s → H it = none → H e = none → St i s.heap → Go i H →
    ∃ n Pd fp' Sd, Draws P w X.A.in1 it fp' n Pd Sd ∧ e ∉ fp' ∧ Sd i s.heap ∧ i < n ∧ (∀ u, Pd i u → ∃ x, RelV x u ∧ G i H x) ∧ ∀ h', Sd (i + 1) h' → St (i + 1) h'
  stop : ∀ (X : Cx), X.prog = P → X.w = w → X.K = K → X.calm = true → ∀ (i : Nat) (pins : List (Addr × Obj)) (s : Shared) (σ : L2.St) (H : Hp), Inv X pins σ H s → H it = none → H e = none → St i s.heap → Sp i H →
    ∃ Pd fp' Sd, Draws P w X.A.in1 it fp' i Pd Sd ∧ Sd i s.heap
theorem turn_enumD {P : Program} {w : World} {K : PySem.W.Frag} {elts : List Expr} {kk : Nat} {tpos : Pos} {Go : Nat → Hp → Prop} {G : Nat → Hp → V → Prop} {Sp : Nat → Hp → Prop} {e it : Addr} {St : Nat → Heap → Prop} (D : Dw P w K Go G Sp e it St) :
    Turn P w K (.Tuple elts kk tpos) (Itq Go G Sp) [e, it] e (fun i h => (∃ old, IsEnum h e it ((i : Nat) : Int) old) ∧ St i h ∧ e ≠ it) where
  mem := by simp
  obj := fun i h st b hb => by
    obtain ⟨⟨old, he⟩, hs, _⟩ := st
    have e' : b = e ∨ b = it := by simpa using hb
    rcases e' with z | z
    · rw [z]; exact ⟨_, he, fun v q => nomatch q⟩
    · rw [z]; exact D.live i h hs
  keep := fun i h h' st k => let ⟨⟨old, he⟩, hi, hne⟩ := st; ⟨⟨old, k e (by simp) _ he⟩, D.keep i h h' hi fun o q => k it (by simp) o q, hne⟩
  item := by
    intro X hP hw hK hc i pins s σ H E I hf st hg
    obtain ⟨⟨old, he⟩, hit, hne⟩ := st
    obtain ⟨n, Pd, fp', Sd, dr, hef, hsd, hin, hpd, hnext⟩ := D.go X hP hw hK hc i pins s σ H I (hf it (by simp)).1 (hf e (by simp)).1 hit hg
    subst hP hw hK
    have hel : e < s.heap.objs.size := Heap.lt_size he
    have hil : it < s.heap.objs.size := by obtain ⟨_, q, _⟩ := D.live i _ hit; exact Heap.lt_size q
    refine wpAny_pyNext_enum_itemD dr he hsd hin hne hef fun u h' tk hpu ho hit' hT hsz hk => ?_
    obtain ⟨x, ru, hgx⟩ := hpd u hpu
    refine ⟨_, rfl, wpAny_letOwnedTupleGo_enum (s := { s with heap := h', toks := tk + 1 }) ho fun h'' he' sb => ?_⟩
    have hT2 : h''.get? s.heap.objs.size = some { cls := .type "tuple", data := .seq #[.int i tk, u] } := (sb.2 _ (Nat.ne_of_gt hel)).trans hT
    have new : ObjOk X.prog X.w (upd H s.heap.objs.size (.tup [.int (i : Nat), x])) h'' s.heap.objs.size (.tup [.int (i : Nat), x]) :=
      ⟨by show 2 ≤ sizeLine; decide, [.int i tk, u], .cons ⟨_, rfl⟩ (.cons ru .nil), ⟨_, hT2, rfl, _, rfl⟩⟩
    have I1 : Inv X pins σ (upd H s.heap.objs.size (.tup [.int (i : Nat), x])) { s with heap := h'', toks := tk + 1 } :=
      I.turnedNew (ch := [e, it]) (fun b ob hb q => (sb.2 b (fun z => hb (by simp [z]))).trans (hk b ob (fun z => hb (by simp [z])) (fun z => hb (by simp [z])) q)) hf (Nat.le_refl _) new
    refine ⟨.ref s.heap.objs.size, _, I1, rfl, ⟨_, x, rfl, I.hok.fresh (Nat.le_refl _), rfl, hgx⟩, ⟨⟨u, ?_⟩, D.keep _ _ _ (hnext h' hit') fun o q => (sb.2 it (Ne.symm hne)).trans q, hne⟩, fun b hb => ?_⟩
    · have e1 : ((i + 1 : Nat) : Int) = (i : Int) + 1 := by omega
      rw [e1]; exact he'
    · have hb' : b < s.heap.objs.size := by
        have e' : b = e ∨ b = it := by simpa using hb
        rcases e' with z | z
        · rw [z]; exact hel
        · rw [z]; exact hil
      rw [upd_ne (Nat.ne_of_lt hb')]
      exact (hf b hb).1
  done := by
    intro X hP hw hK hc i pins s σ H E I hf st hg
    obtain ⟨⟨old, he⟩, hit, hne⟩ := st
    obtain ⟨Pd, fp', Sd, dr, hsd⟩ := D.stop X hP hw hK hc i pins s σ H I (hf it (by simp)).1 (hf e (by simp)).1 hit hg
    subst hP hw hK
    obtain ⟨f0, f1, f2, f3, f4, f5⟩ := hf it (by simp)
    exact wpAny_pyNext_enum_endD dr he hsd fun h' eb => ⟨rfl, I.turned (t' := s.toks) (fun b o hb q => eb b o hb q) f0 f1 f3 f4 f5⟩
  self := fun A i s Q E st h => let ⟨⟨_, he⟩, _⟩ := st; wpAny_pyIter_enum he h
section
variable {P : Program} {w : World} {K : PySem.W.Frag}
abbrev GoT (K : PySem.W.Frag) (a : Addr) : Nat → Hp → Prop := fun i H => ∃ (xs : List V) (x : V), SqT K H a xs ∧ xs[i]? = some x
abbrev GT (K : PySem.W.Frag) (a : Addr) : Nat → Hp → V → Prop := fun i H x => ∀ xs, SqT K H a xs → xs[i]? = some x
abbrev ST (K : PySem.W.Frag) (a : Addr) : Nat → Hp → Prop := fun i H => ∃ xs : List V, SqT K H a xs ∧ xs.length = i
theorem dw_tuple (a e it : Addr) (hne : a ≠ it) (hna : e ≠ a) (hni : e ≠ it) : Dw P w K (GoT K a) (GT K a) (ST K a) e it (fun i h => h.IsTupleIter it a i) where
  live := fun i h ⟨o, e1, _, d1⟩ => ⟨o, e1, fun v q => by rw [d1] at q; cases q⟩
  keep := fun i h h' st k => st.at k
  go := by
    intro X hP hw hK hc i pins s σ H I hi he st ⟨xs, x, hq, hx⟩
    subst hP hw hK
    obtain ⟨its, rv, p, hz⟩ := I.tuple hq
    obtain ⟨u, hu, ru⟩ := rv.get hx
    have dr := Draws.tuple (prog := X.prog) (w := X.w) (A := X.A.in1) (I.ok.hd hc) it a hne its.toArray
    refine ⟨its.toArray.size, _, _, _, dr, ?_, ⟨st, p⟩, ?_, fun v hv => ⟨x, ?_, fun ys hy => by rw [I.tuple_inj hy hq]; exact hx⟩, fun h' q => q.1⟩
    · simp only [List.mem_cons, List.not_mem_nil, or_false, not_or]; exact ⟨hni, hna⟩
    · simpa using (List.getElem?_eq_some_iff.mp hu).1
    · have : its[i]? = some v := by simpa using hv
      rw [hu] at this
      cases this
      exact ru
  stop := by
    intro X hP hw hK hc i pins s σ H I hi he st ⟨xs, hq, hx⟩
    subst hP hw hK
    obtain ⟨its, rv, p, hz⟩ := I.tuple hq
    have hl := rv.length
    have := Draws.tuple (prog := X.prog) (w := X.w) (A := X.A.in1) (I.ok.hd hc) it a hne its.toArray
    rw [show its.toArray.size = i by simp; omega] at this
    exact ⟨_, _, _, this, ⟨st, p⟩⟩
abbrev GoS (z : Str) : Nat → Hp → Prop := fun i _ => i < z.cps.size
abbrev GS (z : Str) : Nat → Hp → V → Prop := fun i _ x => ∃ c, z.cps[i]? = some c ∧ x = .str ⟨#[c]⟩
abbrev SS (z : Str) : Nat → Hp → Prop := fun i _ => i = z.cps.size
theorem dw_text (z : Str) (t : Tok) (e it : Addr) (hni : e ≠ it) : Dw P w K (GoS z) (GS z) (SS z) e it (fun i h => h.IsStrIter it (strIterType z) z t i) where
  live := fun i h ⟨o, e1, _, d1⟩ => ⟨o, e1, fun v q => by rw [d1] at q; cases q⟩
  keep := fun i h h' st k => let ⟨o, ho, r⟩ := st; ⟨o, k o ho, r⟩
  go := by
    intro X hP hw hK hc i pins s σ H I hi he st hx
    subst hP hw hK
    have dr := Draws.text (prog := X.prog) (w := X.w) (A := X.A.in1) (I.ok.hd hc) it z t
    refine ⟨z.cps.size, _, _, _, dr, by simpa using hni, st, hx, fun v hv => ?_, fun h' q => q⟩
    obtain ⟨c', u, hc', rfl⟩ := hv
    exact ⟨.str ⟨#[c']⟩, ⟨u, rfl⟩, c', hc', rfl⟩
  stop := by
    intro X hP hw hK hc i pins s σ H I hi he st hx
    subst hP hw hK
    replace hx : i = z.cps.size := hx
    subst hx
    have dr := Draws.text (prog := X.prog) (w := X.w) (A := X.A.in1) (I.ok.hd hc) it z t
    exact ⟨_, _, _, dr, st⟩
end
/-! ### enumerate(list, tuple, text) in a for, a comprehension -/
section
variable {X : Cx} {Ξ : Xi} {W : WX} {pos : Pos} {e : Expr} {m : LM}
def iEnT (K : PySem.W.Frag) (ta : TA) : TI := fun σ H R => ta σ H fun vs H1 => ∃ a xs, vs = [.ref a] ∧ SqT K H1 a xs ∧ R (Itq (GoT K a) (GT K a) (ST K a)) H1
def iEnS (ta : TA) : TI := fun σ H R => ta σ H fun vs H1 => ∃ z, vs = [.str z] ∧ R (Itq (GoS z) (GS z) (SS z)) H1
theorem pi_enumT {ta : TA} {p pos tpos : Pos} {elts : List Expr} {kk : Nat} (hg : Gl X "enumerate") (hm : X.mg "enumerate" = none) (ha : PA X [e] ta) (hs : starEach [e] X.env = [(false, eval e X.env)] := by rfl) :
    PI X (.Tuple elts kk tpos) (.Call (.Name "enumerate" p) [e] [] pos) (iEnT X.K ta) := by
  refine ⟨fun pins s σ H R I h => ?_⟩
  refine PyProof.Rows.Call_ (ld_blt I hg hm (show bootBuiltins "enumerate" = some (.type "enumerate") from by rfl) (PyProof.Rows.callWith_type1 (thn (ha.run pos pins s σ H _ I h) fun us s1 ⟨vs, H1, I1, r1, q1⟩ => ?_) hs rfl))
  obtain ⟨a, xs, ex, hq, q⟩ := q1
  subst ex
  cases r1 with
  | cons r rr =>
    cases rr
    cases r
    obtain ⟨its, rv, p', hz⟩ := I1.tuple hq
    have hal : a < s1.heap.objs.size := by obtain ⟨_, e1, _⟩ := p'; exact Heap.lt_size e1
    refine enum1_begins (begins_tuple a its.toArray) p' fun h' he hit hsz hk => wpAny_pyIter_enum he ?_
    have I2 : Inv X pins σ H1 { s1 with heap := h' } := I1.kept (t' := s1.toks) hk
    refine ⟨s1.heap.objs.size + 1, [s1.heap.objs.size + 1, s1.heap.objs.size], _, _, H1, rfl, I2, turn_enumD (dw_tuple a (s1.heap.objs.size + 1) s1.heap.objs.size (Nat.ne_of_lt hal) (Nat.ne_of_gt (Nat.lt_succ_of_lt hal)) (Nat.succ_ne_self _)), ⟨⟨.none, he⟩, ⟨_, hit, rfl, rfl⟩, Nat.succ_ne_self _⟩, fun b hb => ?_, q⟩
    have e' : b = s1.heap.objs.size + 1 ∨ b = s1.heap.objs.size := by simpa using hb
    have hle : s1.heap.objs.size ≤ b := by
      rcases e' with z | z
      · rw [z]; exact Nat.le_add_right _ _
      · rw [z]; exact Nat.le_refl _
    exact I1.fpOk hle (I1.hok.fresh hle)
theorem pi_enumS {ta : TA} {p pos tpos : Pos} {elts : List Expr} {kk : Nat} (hg : Gl X "enumerate") (hm : X.mg "enumerate" = none) (ha : PA X [e] ta) (hs : starEach [e] X.env = [(false, eval e X.env)] := by rfl) :
    PI X (.Tuple elts kk tpos) (.Call (.Name "enumerate" p) [e] [] pos) (iEnS ta) := by
  refine ⟨fun pins s σ H R I h => ?_⟩
  refine PyProof.Rows.Call_ (ld_blt I hg hm (show bootBuiltins "enumerate" = some (.type "enumerate") from by rfl) (PyProof.Rows.callWith_type1 (thn (ha.run pos pins s σ H _ I h) fun us s1 ⟨vs, H1, I1, r1, q1⟩ => ?_) hs rfl))
  obtain ⟨z, ex, q⟩ := q1
  subst ex
  cases r1 with
  | cons r rr =>
    cases rr
    obtain ⟨t, rfl⟩ := r
    refine call_enumerate_str fun h' he hit hsz hk => wpAny_pyIter_enum he ?_
    have I2 : Inv X pins σ H1 { s1 with heap := h' } := I1.kept (t' := s1.toks) hk
    refine ⟨s1.heap.objs.size + 1, [s1.heap.objs.size + 1, s1.heap.objs.size], _, _, H1, rfl, I2, turn_enumD (dw_text z t (s1.heap.objs.size + 1) s1.heap.objs.size (Nat.succ_ne_self _)), ⟨⟨.none, he⟩, hit, Nat.succ_ne_self _⟩, fun b hb => ?_, q⟩
    have e' : b = s1.heap.objs.size + 1 ∨ b = s1.heap.objs.size := by simpa using hb
    have hle : s1.heap.objs.size ≤ b := by
      rcases e' with z | z
      · rw [z]; exact Nat.le_add_right _ _
      · rw [z]; exact Nat.le_refl _
    exact I1.fpOk hle (I1.hok.fresh hle)
/-- (0, x), (1, y), .. -/
def numsF : Nat → List D → List D
  | _, [] => []
  | i, x :: xs => .tup [.int (i : Nat), x] :: numsF (i + 1) xs
def nums (xs : List D) : List D := numsF 0 xs
theorem numsF_len : ∀ i (xs : List D), (numsF i xs).length = xs.length
  | _, [] => rfl
  | i, x :: xs => by simp [numsF, numsF_len (i + 1) xs]
theorem nums_len (xs : List D) : (nums xs).length = xs.length := numsF_len 0 xs
theorem numsF_get : ∀ (i : Nat) (xs : List D) (k : Nat) (d : D), (numsF i xs)[k]? = some d → ∃ x, xs[k]? = some x ∧ d = .tup [.int ((i + k : Nat) : Int), x]
  | _, [], k, d, h => by simp [numsF] at h
  | i, x :: xs, 0, d, h => by simp [numsF] at h; exact ⟨x, rfl, h.symm⟩
  | i, x :: xs, k + 1, d, h => by
    simp only [numsF, List.getElem?_cons_succ] at h
    obtain ⟨y, h1, h2⟩ := numsF_get (i + 1) xs k d h
    exact ⟨y, by simpa using h1, by rw [h2]; congr 3; omega⟩
theorem nums_get {xs : List D} {k : Nat} {d : D} (h : (nums xs)[k]? = some d) : ∃ x, xs[k]? = some x ∧ d = .tup [.int ((k : Nat) : Int), x] := by
  obtain ⟨x, h1, h2⟩ := numsF_get 0 xs k d h
  exact ⟨x, h1, by rw [h2]; congr 3; omega⟩
def pairs (xs ys : List D) : List D := List.zipWith (fun x y => .tup [x, y]) xs ys
theorem pairs_get {xs ys : List D} {k : Nat} {d : D} (h : (pairs xs ys)[k]? = some d) : ∃ x y, xs[k]? = some x ∧ ys[k]? = some y ∧ d = .tup [x, y] := by
  unfold pairs at h
  rw [List.getElem?_zipWith] at h
  cases h1 : xs[k]? with
  | none => rw [h1] at h; simp at h
  | some x =>
    cases h2 : ys[k]? with
    | none => rw [h1, h2] at h; simp at h
    | some y => rw [h1, h2] at h; simp at h; exact ⟨x, y, rfl, rfl, h.symm⟩
section
variable {K : PySem.W.Frag} {H : Hp} {ω : Om} {S : S}
theorem pair_new {T : Addr} {d1 d2 : D} {x1 x2 : V} (hS : RepS K H ω S) (hT : H T = none) (r1 : Rep K H ω d1 x1) (r2 : Rep K H ω d2 x2) :
    Grow H ω (upd H T (.tup [x1, x2])) ω ∧ Rep K (upd H T (.tup [x1, x2])) ω (.tup [d1, d2]) (.ref T) ∧ RepS K (upd H T (.tup [x1, x2])) ω S := new_tup hS hT (repL_cons r1 (repL_cons r2 repL_nil))
theorem yld_ite {xs : List D} {gd : Dn.S → Prop} {a : Addr} (y : Yld K H ω (xs, gd) (Itl K a)) : Yld K H ω (nums xs, gd) (Ite K a) := by
  intro H1 ω1 S1 mv s1 hg
  obtain ⟨st, yy⟩ := y H1 ω1 S1 mv s1 hg
  refine ⟨by rw [nums_len]; exact st, fun i d hi => ?_⟩
  obtain ⟨d', hd', rfl⟩ := nums_get hi
  obtain ⟨go, y2⟩ := yy i d' hd'
  refine ⟨go, fun v H2 hy => ?_⟩
  obtain ⟨T, x, rfl, hT, rfl, hx⟩ := hy
  obtain ⟨g1, r1, s2⟩ := y2 x H1 ⟨rfl, hx⟩
  exact pair_new s1 hT rep_int r1
theorem yld_itqT {xs : List D} {a : Addr} (r : Rep K H ω (.tup xs) (.ref a)) : Yld K H ω (nums xs, fun _ => True) (Itq (GoT K a) (GT K a) (ST K a)) := by
  intro H1 ω1 S1 mv s1 hg
  obtain ⟨a', ys, e, h1, h2⟩ := (r.mv mv).tup_
  cases e
  refine ⟨⟨ys, tup_sq h1, by rw [nums_len]; exact h2.len.symm⟩, fun i d hi => ?_⟩
  obtain ⟨d', hd', rfl⟩ := nums_get hi
  obtain ⟨x, hx, rx⟩ := h2.get hd'
  refine ⟨⟨ys, x, tup_sq h1, hx⟩, fun v H2 hy => ?_⟩
  obtain ⟨T, x', rfl, hT, rfl, hx'⟩ := hy
  have := hx' ys (tup_sq h1)
  rw [hx] at this
  cases this
  exact pair_new s1 hT rep_int rx
theorem yld_itqS {z : Str} : Yld K H ω (nums (z.cps.toList.map fun c => D.str ⟨#[c]⟩), fun _ => True) (Itq (GoS z) (GS z) (SS z)) := by
  intro H1 ω1 S1 mv s1 hg
  refine ⟨by show _ = _; rw [nums_len]; simp, fun i d hi => ?_⟩
  obtain ⟨d', hd', rfl⟩ := nums_get hi
  rw [List.getElem?_map, Array.getElem?_toList] at hd'
  cases hc : z.cps[i]? with
  | none => rw [hc] at hd'; cases hd'
  | some c =>
    rw [hc] at hd'
    have e : D.str ⟨#[c]⟩ = d' := by simpa using hd'
    subst e
    refine ⟨(Array.getElem?_eq_some_iff.mp hc).1, fun v H2 hy => ?_⟩
    obtain ⟨T, x', rfl, hT, rfl, c', hc', rfl⟩ := hy
    rw [hc] at hc'
    cases hc'
    exact pair_new s1 hT rep_int rep_str
theorem yld_itz {xs ys : List D} {gd gd' : Dn.S → Prop} {a b : Addr} (y : Yld K H ω (xs, gd) (Itl K a)) (z : Yld K H ω (ys, gd') (Itl K b)) : Yld K H ω (pairs xs ys, fun S => gd S ∧ gd' S) (Itz K a b) := by
  intro H1 ω1 S1 mv s1 hg
  obtain ⟨⟨us, q1, l1⟩, yy⟩ := y H1 ω1 S1 mv s1 hg.1
  obtain ⟨⟨vs, q2, l2⟩, zz⟩ := z H1 ω1 S1 mv s1 hg.2
  refine ⟨⟨us, vs, q1, q2, ?_⟩, fun i d hi => ?_⟩
  · show us.length ≤ (pairs xs ys).length ∨ _
    unfold pairs
    rw [List.length_zipWith]
    replace l1 : us.length ≤ xs.length := l1
    replace l2 : vs.length ≤ ys.length := l2
    by_cases h : xs.length ≤ ys.length
    · left; omega
    · right; omega
  obtain ⟨d1, d2, h1, h2, rfl⟩ := pairs_get hi
  obtain ⟨⟨us1, x1, p1, e1⟩, y2⟩ := yy i d1 h1
  obtain ⟨⟨vs1, x2, p2, e2⟩, z2⟩ := zz i d2 h2
  refine ⟨⟨us1, vs1, x1, x2, p1, p2, e1, e2⟩, fun v H2 hy => ?_⟩
  obtain ⟨T, x, x', rfl, hT, rfl, hx, hx'⟩ := hy
  obtain ⟨_, r1, _⟩ := y2 x H1 ⟨rfl, hx⟩
  obtain ⟨_, r2, _⟩ := z2 x' H1 ⟨rfl, hx'⟩
  exact pair_new s1 hT r1 r2
theorem yld_itzT {xs ys : List D} {gd gd' : Dn.S → Prop} {a b : Addr} (y : Yld K H ω (xs, gd) (Itt K a)) (z : Yld K H ω (ys, gd') (Itt K b)) : Yld K H ω (pairs xs ys, fun S => gd S ∧ gd' S) (RZ.ItzT K a b) := by
  intro H1 ω1 S1 mv s1 hg
  obtain ⟨⟨us, q1, l1⟩, yy⟩ := y H1 ω1 S1 mv s1 hg.1
  obtain ⟨⟨vs, q2, l2⟩, zz⟩ := z H1 ω1 S1 mv s1 hg.2
  refine ⟨⟨us, vs, q1, q2, ?_⟩, fun i d hi => ?_⟩
  · show us.length ≤ (pairs xs ys).length ∨ _
    unfold pairs
    rw [List.length_zipWith]
    replace l1 : us.length ≤ xs.length := l1
    replace l2 : vs.length ≤ ys.length := l2
    by_cases h : xs.length ≤ ys.length
    · left; omega
    · right; omega
  obtain ⟨d1, d2, h1, h2, rfl⟩ := pairs_get hi
  obtain ⟨⟨us1, x1, p1, e1⟩, y2⟩ := yy i d1 h1
  obtain ⟨⟨vs1, x2, p2, e2⟩, z2⟩ := zz i d2 h2
  refine ⟨⟨us1, vs1, x1, x2, p1, p2, e1, e2⟩, fun v H2 hy => ?_⟩
  obtain ⟨T, x, x', rfl, hT, rfl, hx, hx'⟩ := hy
  obtain ⟨_, r1, _⟩ := y2 x H1 ⟨rfl, hx⟩
  obtain ⟨_, r2, _⟩ := z2 x' H1 ⟨rfl, hx'⟩
  exact pair_new s1 hT r1 r2
end
noncomputable def enumI (m : LM) : IM := fun env S => (m env S).bind fun ds S1 => match ds with
  | [d] => (match view S1 d with
    | .lst xs => .ok (nums xs, gdOf d xs) S1
    | .tup xs => .ok (nums xs, fun _ => True) S1
    | .str z => .ok (nums (z.cps.toList.map fun c => D.str ⟨#[c]⟩), fun _ => True) S1
    | _ => .bad)
  | _ => .bad
noncomputable def zipI (m : LM) : IM := fun env S => (m env S).bind fun ds S1 => match ds with
  | [d, e] => (match view S1 d, view S1 e with
    | .lst xs, .lst ys => .ok (pairs xs ys, fun S => gdOf d xs S ∧ gdOf e ys S) S1
    | .tup xs, .tup ys => .ok (pairs xs ys, fun _ => True ∧ True) S1
    | _, _ => .bad)
  | _ => .bad
section
variable {X : Cx} {Ξ : Xi} {W : WX} {pos : Pos} {e e2 : Expr} {m : LM}
theorem di_enum {p tpos : Pos} {elts : List Expr} {kk : Nat} (hg : Gl X "enumerate") (hm : X.mg "enumerate" = none) (ha : DL X Ξ W [e] m) (hs : starEach [e] X.env = [(false, eval e X.env)] := by rfl) :
    DI X Ξ W (.Tuple elts kk tpos) (.Call (.Name "enumerate" p) [e] [] pos) (enumI m) :=
  PI_weak (PI_or (pi_enum hg hm ha hs) (PI_or (pi_enumT hg hm ha hs) (pi_enumS hg hm ha hs))) fun σ H Rk ⟨env, ω, S, hE, hS, p⟩ => by
    unfold enumI at p
    cases q0 : m env S with
    | bad => rw [q0] at p; exact p.elim
    | exc ex S1 =>
      rw [q0] at p
      exact .inl ⟨env, ω, S, hE, hS, by rw [q0]; exact p⟩
    | ok ds S1 =>
      rw [q0, R.bind_ok] at p
      cases ds with
      | nil => exact p.elim
      | cons d r =>
        cases r with
        | cons _ _ => exact p.elim
        | nil =>
          dsimp only at p
          cases q : view S1 d with
          | lst xs =>
            rw [q] at p
            refine .inl ⟨env, ω, S, hE, hS, ?_⟩
            rw [q0]
            intro vs H1 ω1 g1 r1 s1
            obtain ⟨v, rfl, r2⟩ := one_ r1
            obtain ⟨l, ys, rfl, h1, h2⟩ := view_lst s1 r2 q
            exact ⟨l, ys, rfl, .inl (.inl h1), p _ H1 ω1 g1 (yld_ite (yld_lst s1 r2 q)) s1⟩
          | tup xs =>
            rw [q] at p
            have e := view_tup q; subst e
            refine .inr (.inl ⟨env, ω, S, hE, hS, ?_⟩)
            rw [q0]
            intro vs H1 ω1 g1 r1 s1
            obtain ⟨v, rfl, r2⟩ := one_ r1
            obtain ⟨l, ys, rfl, h1, h2⟩ := r2.tup_
            exact ⟨l, ys, rfl, tup_sq h1, p _ H1 ω1 g1 (yld_itqT r2) s1⟩
          | str z =>
            rw [q] at p
            have e := view_str q; subst e
            refine .inr (.inr ⟨env, ω, S, hE, hS, ?_⟩)
            rw [q0]
            intro vs H1 ω1 g1 r1 s1
            obtain ⟨v, rfl, r2⟩ := one_ r1
            exact ⟨z, by rw [r2.str_], p _ H1 ω1 g1 yld_itqS s1⟩
          | scr xs => rw [q] at p; exact p.elim
          | non => rw [q] at p; exact p.elim
          | bl _ => rw [q] at p; exact p.elim
          | int _ => rw [q] at p; exact p.elim
          | dic _ _ => rw [q] at p; exact p.elim
          | ref _ => rw [q] at p; exact p.elim
          | val _ => rw [q] at p; exact p.elim
theorem di_zip {p tpos : Pos} {elts : List Expr} {kk : Nat} (hg : Gl X "zip") (hm : X.mg "zip" = none) (ha : DL X Ξ W [e, e2] m)
    (hs : starEach [e, e2] X.env = (false, eval e X.env) :: starEach [e2] X.env := by rfl) (hpl : (backTo pos (starEach [e2] X.env)).any (·.1) = false := by rfl) :
    DI X Ξ W (.Tuple elts kk tpos) (.Call (.Name "zip" p) [e, e2] [] pos) (zipI m) :=
  PI_weak (RZ.pi_zipA hg hm ha hs hpl) fun σ H Rk ⟨env, ω, S, hE, hS, p⟩ => seqG hE hS p fun vs H1 ω1 ds S1 g1 r1 s1 e1 p1 => by
    split at p1
    · rename_i d e
      obtain ⟨v, w, rfl, r2, r3⟩ := two_ r1
      split at p1
      · rename_i xs ys q q'
        obtain ⟨l, us, rfl, h1, h2⟩ := view_lst s1 r2 q
        obtain ⟨l', us', rfl, h1', h2'⟩ := view_lst s1 r3 q'
        exact ⟨l, l', us, us', rfl, .inl ⟨.inl (.inl h1), .inl (.inl h1'), p1 _ H1 ω1 .refl (yld_itz (yld_lst s1 r2 q) (yld_lst s1 r3 q')) s1⟩⟩
      · rename_i xs ys q q'
        have e := view_tup q; subst e
        have e := view_tup q'; subst e
        obtain ⟨l, us, rfl, h1, h2⟩ := r2.tup_
        obtain ⟨l', us', rfl, h1', h2'⟩ := r3.tup_
        exact ⟨l, l', us, us', rfl, .inr ⟨tup_sq h1, tup_sq h1', p1 _ H1 ω1 .refl (yld_itzT (yld_tup r2) (yld_tup r3)) s1⟩⟩
      · exact p1.elim
    · exact p1.elim
end
end
end Dn
end

section
/-! # Dn11: sorted, dict displays -/
namespace Dn
open PySem L2
open Classical
/-! ### sorted -/
abbrev ltC (a b : List Nat) : Bool := PySem.Spec.ltCps a b
theorem ltC_tri : ∀ a b : List Nat, ltC a b = false → ltC b a = false → a = b
  | [], [], _, _ => rfl
  | [], _ :: _, h, _ => by simp [ltC, PySem.Spec.ltCps] at h
  | _ :: _, [], _, h => by simp [ltC, PySem.Spec.ltCps] at h
  | x :: xs, y :: ys, h, k => by
    simp only [ltC, PySem.Spec.ltCps] at h k
    by_cases e : x = y
    · subst e
      simp at h k
      rw [ltC_tri xs ys h k]
    · by_cases g : x < y
      · simp [g] at h
      · have : y < x := by omega
        simp [this] at k
theorem ltC_tr : ∀ a b c : List Nat, ltC b a = false → ltC c b = false → ltC c a = false
  | [], [], c, _, h => h
  | [], y :: b, [], _, h => by simp [ltC, PySem.Spec.ltCps] at h
  | [], y :: b, z :: c, _, h => by simp [ltC, PySem.Spec.ltCps]
  | x :: a, [], c, h, k => by simp [ltC, PySem.Spec.ltCps] at h
  | x :: a, y :: b, [], _, h => by simp [ltC, PySem.Spec.ltCps] at h
  | x :: a, y :: b, z :: c, h, k => by
    simp only [ltC, PySem.Spec.ltCps] at h k ⊢
    by_cases e1 : y < x
    · simp [e1] at h
    · by_cases e2 : z < y
      · simp [e2] at k
      · by_cases e3 : y = x
        · subst e3
          by_cases e4 : z = y
          · subst e4
            simp at h k ⊢
            exact ltC_tr a b c h k
          · have : ¬ z < y := e2
            simp [this, e4]
        · have h1 : ¬ z < x := by omega
          have h2 : z ≠ x := by omega
          simp [h1, h2]
def strLe (x y : Str) : Bool := !ltC y.cps.toList x.cps.toList
def sortS (xs : List Str) : List Str := xs.mergeSort strLe
def sortI (is : List Int) : List Int := is.mergeSort fun a b => decide (a ≤ b)
theorem rising_pw : ∀ (ys : List Str) (x : Str), PyProof.Rows.risingS x ys = true → (x :: ys).Pairwise (fun a b => strLe a b = true)
  | [], x, _ => by simp
  | y :: r, x, h => by
    unfold PyProof.Rows.risingS at h
    rw [Bool.and_eq_true] at h
    have ih := rising_pw r y h.2
    refine List.pairwise_cons.mpr ⟨fun b hb => ?_, ih⟩
    have h1 : ltC y.cps.toList x.cps.toList = false := by simpa using h.1
    unfold strLe
    rcases List.mem_cons.mp hb with rfl | hb
    · rw [h1]; rfl
    · have h2 := (List.pairwise_cons.mp ih).1 b hb
      have h3 : ltC b.cps.toList y.cps.toList = false := by simpa [strLe] using h2
      rw [ltC_tr _ _ _ h1 h3]; rfl
theorem strLe_tr (a b c : Str) (h : strLe a b = true) (k : strLe b c = true) : strLe a c = true := by
  unfold strLe at *
  simp only [Bool.not_eq_true'] at *
  exact ltC_tr _ _ _ h k
theorem ltC_asym : ∀ a b : List Nat, ltC a b = true → ltC b a = false
  | [], [], h => by simp [ltC, PySem.Spec.ltCps] at h
  | [], _ :: _, _ => by simp [ltC, PySem.Spec.ltCps]
  | _ :: _, [], h => by simp [ltC, PySem.Spec.ltCps] at h
  | x :: xs, y :: ys, h => by
    simp only [ltC, PySem.Spec.ltCps] at h ⊢
    by_cases e : x = y
    · subst e
      simp at h ⊢
      exact ltC_asym xs ys h
    · by_cases g : x < y
      · have : ¬ y < x := by omega
        simp [this, Ne.symm e]
      · simp [g, e] at h
theorem strLe_tot (a b : Str) : (strLe a b || strLe b a) = true := by
  unfold strLe
  cases h : ltC b.cps.toList a.cps.toList with
  | false => rfl
  | true => rw [ltC_asym _ _ h]; rfl
theorem sortS_uniq {xs ys : List Str} (p : ys.Perm xs) (h : PyProof.Rows.sortedS ys = true) : ys = sortS xs := by
  refine List.Perm.eq_of_pairwise (le := fun a b => strLe a b = true) (fun a b _ _ h1 h2 => ?_) ?_ (List.pairwise_mergeSort strLe_tr strLe_tot xs) (p.trans (List.mergeSort_perm xs strLe).symm)
  · unfold strLe at h1 h2
    simp only [Bool.not_eq_true'] at h1 h2
    have := ltC_tri _ _ h2 h1
    cases a; cases b
    congr
    exact Array.toList_inj.mp this
  · cases ys with
    | nil => exact .nil
    | cons y r => exact rising_pw r y h
theorem sortI_uniq {xs ys : List Int} (p : ys.Perm xs) (h : ys.Pairwise (· ≤ ·)) : ys = sortI xs := by
  refine List.Perm.eq_of_pairwise (le := fun a b => decide (a ≤ b) = true) (fun a b _ _ h1 h2 => ?_) (h.imp fun h => by simpa using h) (List.pairwise_mergeSort (fun a b c h k => ?_) (fun a b => ?_) xs) (p.trans (List.mergeSort_perm xs _).symm)
  · have h1 := of_decide_eq_true h1
    have h2 := of_decide_eq_true h2
    omega
  · have h1 := of_decide_eq_true h
    have h2 := of_decide_eq_true k
    exact decide_eq_true (by omega)
  · rw [Bool.or_eq_true, decide_eq_true_iff, decide_eq_true_iff]
    omega
noncomputable section
def sortedN (st : Bool) : OpN := fun ds S => match ds with
  | [d] => (match view S d with
    | .lst xs => (match intsOf xs with
      | some is => some (newL st ((sortI is).map .int) S)
      | none => (match strsOf xs with
        | some zs => if zs.length < 64 then some (newL st ((sortS zs).map .str) S) else none
        | none => none))
    | _ => none)
  | _ => none
theorem fn_sorted {X : Cx} {st : Bool} : DN X (.builtin "sorted") (sortedN st) := by
  intro pins s σ H xs us Q I r ⟨ω, S, ds, rl, hS, p⟩
  unfold sortedN at p
  split at p
  · obtain ⟨v, rfl, r1⟩ := one_ rl
    split at p
    · rename_i ys q
      obtain ⟨l, zs, rfl, h1, t1⟩ := view_lst hS r1 q
      cases e : intsOf ys with
      | some is =>
        rw [e] at p
        have := ints_rep t1 e
        subst this
        refine cr_sortedI pins s σ H _ us Q I r ⟨l, is, rfl, .inl (.inl h1), fun ns' pp hp1 hp2 hp3 => ?_⟩
        have e2 := sortI_uniq hp1 hp2
        obtain ⟨ω', g, r', s'⟩ := new_lst (st := st) hS hp3 (RepL.ints (K := X.K) (H := H) (ω := ω) (sortI is))
        rw [e2]
        exact p _ _ ω' g r' s'
      | none =>
        rw [e] at p
        cases e2 : strsOf ys with
        | none => rw [e2] at p; exact p.elim
        | some ss =>
          rw [e2] at p
          have := strs_rep t1 e2
          subst this
          dsimp only at p
          by_cases hl : ss.length < 64
          case neg => rw [if_neg hl] at p; exact p.elim
          rw [if_pos hl] at p
          refine cr_sortedS pins s σ H _ us Q I r ⟨l, ss, rfl, .inl (.inl h1), hl, fun ns' pp hp1 hp2 hp3 => ?_⟩
          have e3 := sortS_uniq hp1 hp2
          obtain ⟨ω', g, r', s'⟩ := new_lst (st := st) hS hp3 (repL_strs (K := X.K) (H := H) (ω := ω) (sortS ss))
          rw [e3]
          exact p _ _ ω' g r' s'
    · exact p.elim
  · exact p.elim
/-! ### dict displays -/
def keyD : D → Option Key
  | .int i => some (.inl i)
  | .str z => some (.inr z)
  | _ => none
/-- a dict's pair is stored -/
def putP (ks : List Key) (xs : List D) (k : Key) (d : D) : List Key × List D := match ks.findIdx? (fun x => decide (x = k)) with
  | some i => (ks, xs.set i d)
  | none => (ks ++ [k], xs ++ [d])
def pairsL : List (EM × EM) → Sl → S → R (List (D × D))
  | [], _, S => .ok [] S
  | (a, b) :: r, env, S => (a env S).bind fun x S1 => (b env S1).bind fun y S2 => (pairsL r env S2).bind fun ps S3 => .ok ((x, y) :: ps) S3
def storeP : List (D × D) → List Key × List D → Option (List Key × List D)
  | [], acc => some acc
  | (k, d) :: r, acc => match keyD k with
    | some k => storeP r (putP acc.1 acc.2 k d)
    | none => none
def dispE (st : Bool) (l : List (EM × EM)) : EM := fun env S => (pairsL l env S).bind fun ps S1 => match storeP ps ([], []) with
  | some (ks, xs) => .ok (newD st ks xs S1).1 (newD st ks xs S1).2
  | none => .bad
/-! the proof of displays -/
section
variable {K : PySem.W.Frag} {H : Hp} {ω : Om} {S : S}
theorem keyD_rep {d : D} {k : Key} {v : V} (h : keyD d = some k) (r : Rep K H ω d v) : v = kV k := by
  cases d with
  | int i => simp [keyD] at h; subst h; exact r.int_
  | str z => simp [keyD] at h; subst h; exact r.str_
  | _ => simp [keyD] at h
theorem zip_map_put {ks : List Key} {us : List V} {k : Key} {v : V} (hl : ks.length = us.length) (nd : ks.Nodup) {i : Nat} (hi : ks[i]? = some k) :
    (ks.zip us).map (fun kv => if kv.1 = k then (kv.1, v) else kv) = ks.zip (us.set i v) := by
  apply List.ext_getElem?
  intro j
  rw [List.getElem?_map]
  have hil := (List.getElem?_eq_some_iff.mp hi).1
  cases hk : ks[j]? with
  | none =>
    rw [List.getElem?_eq_none_iff.mpr (by rw [List.length_zip]; have := List.getElem?_eq_none_iff.mp hk; omega)]
    rw [List.getElem?_eq_none_iff.mpr (by rw [List.length_zip]; have := List.getElem?_eq_none_iff.mp hk; omega)]
    rfl
  | some k' =>
    have hjl := (List.getElem?_eq_some_iff.mp hk).1
    have hju : us[j]? = some us[j] := List.getElem?_eq_getElem (by omega)
    have hz : (ks.zip us)[j]? = some (k', us[j]) := List.getElem?_zip_eq_some.mpr ⟨hk, hju⟩
    rw [hz]
    by_cases e : j = i
    · subst e
      rw [hi] at hk
      cases hk
      have hz2 : (ks.zip (us.set j v))[j]? = some (k, v) := List.getElem?_zip_eq_some.mpr ⟨hi, List.getElem?_set_self (by omega)⟩
      rw [hz2]
      simp
    · have hne : k' ≠ k := by
        rintro rfl
        have := (List.getElem?_inj hjl nd).mp (hk.trans hi.symm)
        exact e this
      have hz2 : (ks.zip (us.set i v))[j]? = some (k', us[j]) := List.getElem?_zip_eq_some.mpr ⟨hk, by rw [List.getElem?_set_ne (Ne.symm e)]; exact hju⟩
      rw [hz2]
      simp [hne]
theorem putP_rep {ks : List Key} {ds : List D} {us : List V} {k : Key} {d : D} {v : V} (hl : ks.length = ds.length) (nd : ks.Nodup) (r : RepL K H ω ds us) (rv : Rep K H ω d v) :
    ∃ us', putK (ks.zip us) k v = (putP ks ds k d).1.zip us' ∧ RepL K H ω (putP ks ds k d).2 us' ∧ (putP ks ds k d).1.length = (putP ks ds k d).2.length ∧ (putP ks ds k d).1.Nodup := by
  have hlu : ks.length = us.length := hl.trans r.len
  have hany : ((ks.zip us).any fun kv => decide (kv.1 = k)) = true ↔ k ∈ ks := by
    rw [List.any_eq_true]
    constructor
    · rintro ⟨⟨a, b⟩, h1, h2⟩
      have := of_decide_eq_true h2
      rw [← this]
      exact (List.of_mem_zip h1).1
    · intro h
      obtain ⟨j, hj⟩ := List.getElem?_of_mem h
      have hjl := (List.getElem?_eq_some_iff.mp hj).1
      refine ⟨(k, us[j]'(by omega)), List.mem_of_getElem? (i := j) (List.getElem?_zip_eq_some.mpr ⟨hj, List.getElem?_eq_getElem (by omega)⟩), by simp⟩
  unfold putP putK
  cases q : ks.findIdx? (fun x => decide (x = k)) with
  | some i =>
    have hi : ks[i]? = some k := by
      rw [List.findIdx?_eq_some_iff_getElem] at q
      obtain ⟨h1, h2, _⟩ := q
      rw [List.getElem?_eq_getElem h1, of_decide_eq_true h2]
    rw [if_pos (hany.mpr (List.mem_of_getElem? hi)), zip_map_put hlu nd hi]
    refine ⟨us.set i v, rfl, r.set rv i, by simpa using hl, nd⟩
  | none =>
    have hn : k ∉ ks := by
      rw [List.findIdx?_eq_none_iff] at q
      intro hm
      have := q k hm
      simp at this
    rw [if_neg (fun h => hn (hany.mp h))]
    refine ⟨us ++ [v], ?_, r.append (repL_cons rv repL_nil), by simp [hl], ?_⟩
    · rw [List.zip_append hlu]; rfl
    · refine List.nodup_append.mpr ⟨nd, by simp, fun a ha b hb => ?_⟩
      rw [List.mem_singleton.mp hb]; rintro rfl; exact hn ha
theorem storeP_rep : ∀ {ps : List (D × D)} {vs : List (V × V)} {acc : List Key × List D} {us : List V} {out : List Key × List D}, acc.1.length = acc.2.length → acc.1.Nodup → RepL K H ω acc.2 us → RepL K H ω (ps.map (·.1)) (vs.map (·.1)) → RepL K H ω (ps.map (·.2)) (vs.map (·.2)) → storeP ps acc = some out →
    ∃ (kvs : List (Key × V)) (us' : List V), vs = kvs.map (fun kv => (kV kv.1, kv.2)) ∧ mergeK (acc.1.zip us) kvs = out.1.zip us' ∧ out.1.length = out.2.length ∧ RepL K H ω out.2 us'
  | [], vs, acc, us, out, hl, nd, r, h1, h2, e => by
    have : vs = [] := by simpa using h1.nil_
    subst this
    injection e with e
    subst e
    exact ⟨[], us, rfl, rfl, hl, r⟩
  | (a, b) :: ps, vs, acc, us, out, hl, nd, r, h1, h2, e => by
    obtain ⟨x, xs, ex, hx, hxs⟩ := h1.cons_
    obtain ⟨y, ys, ey, hy, hys⟩ := h2.cons_
    cases vs with
    | nil => cases ex
    | cons v vs =>
      obtain ⟨v1, v2⟩ := v
      simp only [List.map_cons, List.cons.injEq] at ex ey
      obtain ⟨rfl, rfl⟩ := ex
      obtain ⟨rfl, rfl⟩ := ey
      unfold storeP at e
      cases hk : keyD a with
      | none => rw [hk] at e; cases e
      | some k =>
        rw [hk] at e
        obtain ⟨us1, p1, p2, p3, p4⟩ := putP_rep (k := k) hl nd r hy
        obtain ⟨kvs, us', q1, q2, q3, q4⟩ := storeP_rep p3 p4 p2 hxs hys e
        refine ⟨(k, v2) :: kvs, us', ?_, ?_, q3, q4⟩
        · rw [List.map_cons, ← q1, keyD_rep hk hx]
        · show mergeK (putK (acc.1.zip us) k v2) kvs = _
          rw [p1]; exact q2
theorem priv_endD {H H1 : Hp} {ω ω1 : Om} {S : Dn.S} {st : Bool} {ks : List Key} {ds : List D} {xs : List V} {p : Addr} (g : Grow H ω H1 ⟨ω1.ρ, ω.π⟩) (hp : H p = none) (hx : H1 p = some (.dK (ks.zip xs))) (hl : ks.length = ds.length) (hpi : p ∈ ω1.π) (hpn : p ∉ ω.π)
    (hs : ∀ a ∈ ω.π, a ∈ ω1.π) (hS : RepS K H1 ω1 S) (hr : RepL K H1 ω1 ds xs) :
    ∃ ω', Grow H ω H1 ω' ∧ Rep K H1 ω' (newD st ks ds S).1 (.ref p) ∧ RepS K H1 ω' (newD st ks ds S).2 := by
  have hpr : p ∉ ω1.ρ := hS.sep p hpi
  cases st with
  | false =>
    refine ⟨⟨ω1.ρ, ω.π⟩, g, ?_, repS_unpi hS rfl hs⟩
    unfold newD Rep
    exact ⟨p, xs, rfl, ⟨hpr, hpn⟩, .inl hx, hl, RepL.mv (mv_unpi (ω := ω1) (ω' := ⟨ω1.ρ, ω.π⟩) rfl hs) _ _ hr⟩
  | true =>
    have mv1 : Mv H1 ω1 H1 ⟨ω1.ρ ++ [p], ω.π⟩ := ⟨fun n a q => by
        show (ω1.ρ ++ [p])[n]? = some a
        rw [List.getElem?_append_left (List.getElem?_eq_some_iff.mp q).1]; exact q, fun a o hn e => ⟨fun z => by
        rcases List.mem_append.mp z with z | z
        · exact hn.1 z
        · rw [List.mem_singleton.mp z] at hn; exact hn.2 hpi, fun z => hn.2 (hs a z)⟩, fun a u hn e => ⟨u, e, .refl u⟩⟩
    refine ⟨⟨ω1.ρ ++ [p], ω.π⟩, ?_, ?_, ?_⟩
    · obtain ⟨η, e1, e2⟩ := g.ext
      refine ⟨⟨η ++ [p], by show ω1.ρ ++ [p] = _; rw [show ω1.ρ = ω.ρ ++ η from e1, List.append_assoc], fun a ha => ?_⟩, ⟨[], rfl, by simp⟩, g.rd, g.pk, g.fresh⟩
      rcases List.mem_append.mp ha with ha | ha
      · exact e2 a ha
      · rw [List.mem_singleton.mp ha]; exact hp
    · unfold newD Rep
      refine ⟨p, rfl, ?_⟩
      show (ω1.ρ ++ [p])[S.length]? = some p
      rw [← hS.len]; simp
    · refine ⟨by simp [newD, hS.len], List.nodup_append.mpr ⟨hS.nd, by simp, fun a ha b hb => ?_⟩, fun n a u h1 h2 => ?_, fun a ha h => ?_, fun a ha => hS.pi a (hs a ha)⟩
      · rw [List.mem_singleton.mp hb]; rintro rfl; exact hpr ha
      · have hl' := hS.len
        replace h1 : (ω1.ρ ++ [p])[n]? = some a := h1
        replace h2 : (S ++ [O.dic ks ds])[n]? = some u := h2
        by_cases hn : n < ω1.ρ.length
        · rw [List.getElem?_append_left hn] at h1
          rw [List.getElem?_append_left (by omega)] at h2
          exact (hS.at_ n a u h1 h2).mv mv1 rfl
        · rw [List.getElem?_append_right (by omega)] at h1 h2
          rw [hl'] at h1
          cases q : n - S.length with
          | zero =>
            rw [q] at h1 h2
            simp at h1 h2
            subst h1; subst h2
            exact ⟨xs, hx, hl, hr.mv mv1⟩
          | succ m => rw [q] at h1; simp at h1
      · rcases List.mem_append.mp h with h | h
        · exact hS.sep a (hs a ha) h
        · rw [List.mem_singleton.mp h] at ha; exact hpn ha
end
/-- the pairs of a display -/
inductive DPs (X : Cx) (Ξ : Xi) (W : WX) : List (Option Expr) → List Expr → List (EM × EM) → Prop
  | nil : DPs X Ξ W [] [] []
  | cons {k v : Expr} {ks : List (Option Expr)} {vs : List Expr} {mk mv : EM} {r : List (EM × EM)} (hk : DE X Ξ W k mk) (hv : DE X Ξ W v mv) (h : DPs X Ξ W ks vs r) : DPs X Ξ W (some k :: ks) (v :: vs) ((mk, mv) :: r)
section
variable {X : Cx} {Ξ : Xi} {W : WX} {pos : Pos} {keys : List (Option Expr)} {values : List Expr} {l : List (EM × EM)}
theorem dps_pps (h : DPs X Ξ W keys values l) : PPs X pos keys values (l.map fun p => (tD X.K Ξ W p.1, tD X.K Ξ W p.2)) := by
  induction h with
  | nil => exact pps_nil
  | cons hk hv _ ih => exact pps_cons hk hv ih
theorem pairs_imp {σ : L2.St} {Q : List (V × V) → Hp → Prop} : ∀ {l : List (EM × EM)} {env : Sl} {H : Hp} {ω : Om} {S : Dn.S}, RepE X.K Ξ H ω env σ → RepS X.K H ω S →
    post X.K (fun H ω (ps : List (D × D)) (vs : List (V × V)) => RepL X.K H ω (ps.map (·.1)) (vs.map (·.1)) ∧ RepL X.K H ω (ps.map (·.2)) (vs.map (·.2))) H ω Q (fun c d H' => W c d σ H') (pairsL l env S) →
    tPairs (l.map fun p => (tD X.K Ξ W p.1, tD X.K Ξ W p.2)) σ H Q
  | [], env, H, ω, S, hE, hS, p => p [] H ω .refl ⟨repL_nil, repL_nil⟩ hS
  | (a, b) :: l, env, H, ω, S, hE, hS, p => by
    show tD X.K Ξ W a σ H _
    refine seqG hE hS p fun x H1 ω1 d1 S1 g1 r1 s1 e1 p1 => ?_
    show tD X.K Ξ W b σ H1 _
    refine seqG e1 s1 p1 fun y H2 ω2 d2 S2 g2 r2 s2 e2 p2 => ?_
    refine pairs_imp e2 s2 (post_imp (post_bind p2) (fun vs H3 ⟨ω3, ps, S3, g3, r3, s3, p3⟩ => ?_) fun _ _ _ z => z)
    exact p3 ((x, y) :: vs) H3 ω3 .refl ⟨repL_cons ((r1.grow g2).grow g3) r3.1, repL_cons (r2.grow g3) r3.2⟩ s3
theorem pairsL_len : ∀ {l : List (EM × EM)} {env : Sl} {S S' : Dn.S} {ps : List (D × D)}, pairsL l env S = .ok ps S' → ps.length = l.length
  | [], env, S, S', ps, h => by unfold pairsL at h; cases h; rfl
  | (a, b) :: l, env, S, S', ps, h => by
    unfold pairsL at h
    cases h1 : a env S with
    | exc _ _ => rw [h1] at h; cases h
    | bad => rw [h1] at h; cases h
    | ok x S1 =>
      rw [h1, R.bind_ok] at h
      cases h2 : b env S1 with
      | exc _ _ => rw [h2] at h; cases h
      | bad => rw [h2] at h; cases h
      | ok y S2 =>
        rw [h2, R.bind_ok] at h
        cases h3 : pairsL l env S2 with
        | exc _ _ => rw [h3] at h; cases h
        | bad => rw [h3] at h; cases h
        | ok qs S3 =>
          rw [h3] at h
          cases h
          simp [pairsL_len h3]
theorem de_disp {st : Bool} (h : DPs X Ξ W keys values l) (hall : keys.all (·.isSome) = true := by rfl) (hl : keys.length = values.length := by rfl) (h0 : keys ≠ [] := by simp) (h15 : keys.length ≤ 15 := by decide) (hll : l.length ≤ 15 := by decide) : DE X Ξ W (.Dict keys values pos) (dispE st l) :=
  PE_weak (pe_disp (dps_pps h) hall hl h0 h15) fun σ H Q ⟨env, ω, S, hE, hS, p0⟩ => by
    intro p hp
    obtain ⟨gb, sb⟩ := grow_priv (o := .dK []) hS hp
    have hpn : p ∉ ω.π := (fresh_n hS hp).2
    refine pairs_imp (hE.grow gb) sb ?_
    unfold dispE at p0
    have p1 := post_grow gb p0
    cases q : pairsL l env S with
    | bad => rw [q] at p1; exact p1.elim
    | exc e S1 => rw [q] at p1; exact p1
    | ok ps S1 =>
      rw [q, R.bind_ok] at p1
      intro vs H2 ω2 g2 r2 s2
      have hpi : p ∈ ω2.π := g2.inpi List.mem_cons_self
      have hat : H2 p = some (.dK []) := (g2.pk p List.mem_cons_self).trans upd_same
      refine ⟨hat, ?_⟩
      cases q2 : storeP ps ([], []) with
      | none => rw [q2] at p1; exact p1.elim
      | some out =>
        obtain ⟨ks, xs⟩ := out
        rw [q2] at p1
        obtain ⟨kvs, us, e1, e2, e3, e4⟩ := storeP_rep (acc := ([], [])) (us := []) rfl .nil repL_nil r2.1 r2.2 q2
        refine ⟨kvs, e1, ?_, ?_⟩
        · have h1 := pairsL_len q
          have h2 := r2.1.len
          rw [List.length_map, List.length_map, e1, List.length_map] at h2
          omega
        · have e2' : mergeK [] kvs = ks.zip us := e2
          rw [e2']
          have mvp : Mv H2 ω2 (upd H2 p (.dK (ks.zip us))) ω2 := mv_priv hpi
          have hpr : p ∉ ω2.ρ := s2.sep p hpi
          -- the growth from before the dict
          have gg : Grow H ω (upd H2 p (.dK (ks.zip us))) ⟨ω2.ρ, ω.π⟩ := by
            obtain ⟨η, f1, f2⟩ := g2.ext
            refine ⟨⟨η, f1, fun a ha => ?_⟩, ⟨[], rfl, by simp⟩, fun a o hn e => ?_, fun a ha => ?_, fun a ha => ?_⟩
            · have := f2 a ha
              by_cases e : a = p
              · rw [e, upd_same] at this; cases this
              · rw [upd_ne e] at this; exact this
            · have hap : a ≠ p := fun z => by rw [z, hp] at e; cases e
              obtain ⟨o', e', k⟩ := g2.rd a o ⟨hn.1, fun z => by
                rcases List.mem_cons.mp z with z | z
                · exact hap z
                · exact hn.2 z⟩ (by rw [upd_ne hap]; exact e)
              exact ⟨o', by rw [upd_ne hap]; exact e', k⟩
            · have hap : a ≠ p := fun z => hpn (z ▸ ha)
              rw [upd_ne hap, g2.pk a (List.mem_cons_of_mem _ ha), upd_ne hap]
            · by_cases e : a = p
              · rw [e]; exact hp
              · rw [upd_ne e] at ha
                have := g2.fresh a ha
                rw [upd_ne e] at this; exact this
          obtain ⟨ω', g', r', s'⟩ := priv_endD (K := X.K) (st := st) gg hp upd_same e3 hpi hpn (fun a ha => g2.inpi (List.mem_cons_of_mem _ ha)) (repS_priv s2 hpi) (e4.mv mvp)
          -- p1 speaks of what grows out of (upd H p .., ω.with p); go back to what grows out of (H, ω)
          have p2 : post X.K (Rep X.K) H ω Q (fun c d H' => W c d σ H') (R.ok (newD st ks xs S1).1 (newD st ks xs S1).2) := by
            have := p0
            rw [q, R.bind_ok, q2] at this
            exact this
          exact p2 _ _ ω' g' r' s'
end
end
end Dn
end

section
/-! # Dn12: names of types, defs without a promise, the end of a law -/
namespace Dn
open PySem L2
open Classical
section
variable {X : Cx} {Ξ : Xi} {W : WX} {pos : Pos}
theorem de_ty {x : Str} {T : String} (hg : Gl X x) (hm : X.mg x = none) (hv : bootBuiltins x = some (.type T)) (hn : x ≠ "__name__" := by decide) (hd : (x == ("__debug__" : Str)) = false := by decide) : DE X Ξ W (.Name x pos) (cE (.val (.ty T))) :=
  de_const (t := tC (.ty T)) (pe_bltn hg hm hv (v := .ty T) rfl hn hd) fun _ _ => rep_val
end
theorem fn_bad {P : Program} {w : World} {K : PySem.W.Frag} {mg : Str → Option Value} {base : Heap} {x : Str} {params : Arguments} {body : List Stmt} {scope : Scope} {f : Addr} {fd : FuncData} {N ps : List Str} {k : Nat}
    (F : FunD K x x params body scope [] [] f fd) (S : FnScope N ps scope) (hm : mg x = some (.ref f))
    (hbind : ∀ (kV doc pm : Value) (an : Option Addr) (cdv ct : Value) (us : List Value), us.length = ps.length → bindArgs (PySem.W.fnOf x x params body scope .none kV doc pm an cdv ct) ⟨us, []⟩ = pure (ps.zip us)) :
    FnG P w K mg base x (k + 1) (fun _ _ => .bad) :=
  ⟨f, fd, ps, F.ok S (fun vs H Q E ⟨_, _, _, _, _, p⟩ => p.elim) (fun cdv A outer s H vs Q E hr ⟨_, _, _, _, _, p⟩ => p.elim), hm, F.kp, F.bindsN hbind⟩
end Dn
namespace Dn
/-- a comprehension's block, by computation -/
def blkB (N : List PySem.Str) (sc scope : PySem.Scope) (own : List (PySem.Str × Nat)) : Bool :=
  decide (scope.kind = .function) && scope.names.all (fun y => scope.names.lookup y.1 == some y.2) && own.all (fun p => N[p.2]? == some p.1)
  && scope.names.all (fun y => !(y.2 == .free) || (sc.names.lookup y.1 == some .cell) || (sc.names.lookup y.1 == some .free))
  && scope.names.all (fun y => !(y.2 == .local || y.2 == .cell) || (own.map (·.1)).contains y.1 || !N.contains y.1)
theorem blk_of {N : List PySem.Str} {sc scope : PySem.Scope} {own : List (PySem.Str × Nat)} (h : blkB N sc scope own = true) : L2.BlkOk N sc scope own := by
  unfold blkB at h
  simp only [Bool.and_eq_true, List.all_eq_true, Bool.or_eq_true, Bool.not_eq_true', decide_eq_true_eq, beq_iff_eq] at h
  obtain ⟨⟨⟨⟨h1, h2⟩, h3⟩, h4⟩, h5⟩ := h
  refine ⟨h1, h2, h3, fun y hy e => ?_, fun y hy e => ?_⟩
  · rcases h4 y hy with (q | q) | q
    · rw [e] at q; cases q
    · exact .inl q
    · exact .inr q
  · rcases h5 y hy with (q | q) | q
    · rcases e with e | e <;> rw [e] at q <;> cases q
    · exact .inl (by simpa using q)
    · exact .inr (by simpa using q)
end Dn
namespace Dn
open PySem L2
section
variable {P : Program} {w : World} {K : PySem.W.Frag} {mg : Str → Option Value} {base : Heap}
theorem exm_nil {c : Value} : ExmOk K c [] := fun _ _ h => by cases h
theorem exm_cons {c : Value} {n : Str} {b : Bool} {l : List (Str × Bool)} (h : PySem.W.exmOne K (.ref (He.ga K n)) c = some b) (t : ExmOk K c l) : ExmOk K c ((n, b) :: l) := fun m k q => by
  by_cases e : m = n
  · subst e
    simp [List.lookup] at q
    subst q
    exact h
  · have : (m == n) = false := by simpa using e
    simp [List.lookup, this] at q
    exact t m k q
theorem fn_dF {P : Program} {w : World} {K : PySem.W.Frag} {mg : Str → Option Value} {base : Heap} {x : Str} {params : Arguments} {body : List Stmt} {scope : Scope} {f : Addr} {fd : FuncData} {N ps : List Str} {k n NN : Nat} {m : SM}
    (F : FunD K x x params body scope [] [] f fd) (S : FnScope N ps scope) (hn : ps.length = n) (hN : N.length = NN)
    (hbody : ∀ (cdv : Value) (A : Around) (outer : List Env) (s : Shared) (H : Hp) (E : XK), Room k (A.deeper (PyProof.Rows.envOfC x scope s.heap.objs.size f cdv)) →
      DSs (cxOf (L2.CX P w) P w K mg base N x scope f cdv A outer s H E) none (fun c d _ H => E c d H) body m) : FnOk P w K mg base (L2.CX P w) (k + 1) f fd ps (spD K (defD n NN m)) := by
  refine F.ok S (fun vs H Q E h => ?_) (fun cdv A outer s H vs Q E hr h => ⟨_, hbody cdv A outer s H E hr, ?_⟩)
  · obtain ⟨ds, ω, S, r, _, p⟩ := h
    unfold defD at p
    by_cases hl : ds.length = n
    · rw [← r.len, hl, hn]
    · rw [if_neg hl] at p; exact p.elim
  · obtain ⟨ds, ω, S, r, hS, p⟩ := h
    unfold defD at p
    by_cases hl : ds.length = n
    case neg => rw [if_neg hl] at p; exact p.elim
    rw [if_pos hl] at p
    have hE := repE_start (Ξ := none) r N
    rw [hl, hN] at hE
    refine ⟨_, ω, S, hE, hS, ?_⟩
    revert p
    cases m ⟨ds.map some ++ List.replicate (NN - n) none, none⟩ S with
    | nx env' S' => exact fun p σ' H' ω' g e s => p .non H' ω' g rep_non s
    | ret d S' => exact fun p => p
    | brk env S' => exact fun p => p.elim
    | cnt env S' => exact fun p => p.elim
    | exc e env S' => exact fun p cls dd σ' H' ω' g x e s => p cls dd H' ω' g x s
    | bad => exact fun p => p.elim
/-- a law's promise -/
def spL (K : PySem.W.Frag) : Sp := fun vs H Q _ => ∃ (a : Addr) (ns : List Int), vs = [.ref a] ∧ ns.length ≤ 63 ∧ Only H ∧ SqL K H a (ns.map V.int) ∧ ∀ H', Q (.bl true) H'
theorem fn_lawF {k : Nat} {f : Addr} {fd : FuncData} {F : List D → S → R D} (F1 : FnOk P w K mg base (L2.CX P w) k f fd ["script"] (spD K F)) (hF : ∀ ns : List Int, ns.length ≤ 63 → ∃ S', F [.scr ns] [] = .ok (.bl true) S') :
    FnOk P w K mg base L2.CX0 k f fd ["script"] (spL K) := by
  have key : ∀ vs H Q E, spL K vs H Q E → spD K F vs H Q (fun _ _ _ => False) := by
    intro vs H Q E ⟨a, ns, e, hl, ho, hs, hq⟩
    obtain ⟨S', hS'⟩ := hF ns hl
    refine ⟨[.scr ns], ⟨[], []⟩, [], ?_, ⟨rfl, List.nodup_nil, fun n a o h => by simp at h, fun a h => by simp at h, fun a h => by simp at h⟩, ?_⟩
    · rw [e]
      refine repL_cons ?_ repL_nil
      unfold Rep
      refine ⟨a, rfl, ?_⟩
      rcases hs with hs | hs
      · exact .inl ⟨⟨by simp, by simp⟩, hs⟩
      · exact .inr hs
    · rw [hS']
      intro b H' ω' g r s
      rw [r.bl_]
      exact hq H'
  refine ⟨fun vs H Q E h => F1.len vs H Q _ (key vs H Q E h), fun A outer s H args us vs Q E hr he hb hv hs => ?_⟩
  refine codeAny_mono (F1.run A outer s H args us vs Q (fun _ _ _ => False) hr he hb hv (key vs H Q E hs)) fun r s' h => ?_
  cases r with
  | ok fin =>
    cases fin with
    | ret u => exact h
    | _ => exact h
  | error e =>
    obtain ⟨_, _, _, _, _, _, _, _, _, _, _, _, z⟩ := h
    exact z.elim
end
end Dn
end

section
/-! # DnZ: enumerate(zip(a, b)): the zip's pair is held by the enumerate's -/
namespace Dn
open PySem L2
/-- a zip, whatever it knows of the pair that it gave last -/
abbrev ZipAt (h : Heap) (z TI TO : Addr) (f0 : Value) (f : Bool) : Prop :=
  h.get? z = some { cls := .type "zip", dict := none, data := .fields #[f0, .bool f, .bool false, .ref TI, .ref TO], slots := #[] }
structure ZAll (h : Heap) (z TI TO i1 i2 a b : Addr) (i : Nat) : Prop where
  zp : ∃ f0 f, ZipAt h z TI TO f0 f ∧ (f0 = .none ∨ ∃ T : Addr, f0 = rawInt T)
  ti : IsPair h TI (.ref i1) (.ref i2)
  to : ∃ u v, IsPair h TO u v
  m1 : h.IsListIter i1 a i
  m2 : h.IsListIter i2 b i
section
variable {prog : Program} {w : World} {A : Around} {E : Value → Shared → Prop} {s : Shared} {z TI TO i1 i2 a b : Addr} {i : Nat} {xs ys : Array Value} {x y : Value}
/-- nobody holds the pair: it is written anew -/
theorem zip_free {f0 u v : Value} {f : Bool} {Q : Value → Shared → Prop} (D : ZipApart z TI TO i1 i2 a b) (hz : ZipAt s.heap z TI TO f0 f)
    (hfree : ∀ (A : Around) (E : Value → Shared → Prop) (Q : Bool → Shared → Prop), Q true s → wpAny (model prog w) A (Builtin.SmallTypes.ownedTupleIsFree (.ref z)) Q E s)
    (pi : IsPair s.heap TI (.ref i1) (.ref i2)) (po : IsPair s.heap TO u v) (m1 : s.heap.IsListIter i1 a i) (m2 : s.heap.IsListIter i2 b i) (la : s.heap.IsList a xs) (lb : s.heap.IsList b ys) (ex : xs[i]? = some x) (ey : ys[i]? = some y)
    (fin : ∀ g, ZipAt g z TI TO (rawInt s.heap.objs.size) false → IsPair g TO x y → g.IsListIter i1 a (i + 1) → g.IsListIter i2 b (i + 1) → IsPair g s.heap.objs.size x y → g.objs.size = s.heap.objs.size + 1 →
      (∀ c o, c ≠ z → c ≠ TO → c ≠ i1 → c ≠ i2 → s.heap.get? c = some o → g.get? c = some o) → Q (.ref s.heap.objs.size) { s with heap := g }) :
    wpAny (model prog w) A (Builtin.«zip.__next__» ⟨[.ref z], []⟩) (fun r s' => ∃ v, r = .done (.ret v) ∧ Q v s') E s := by
  refine wpAny_bind (wpAny_pure ?_)
  refine wpAny_bind (wpAny_field hz rfl (x := .bool false) rfl ?_)
  refine wpAny_bind (wpAny_field hz rfl (x := .ref TI) rfl ?_)
  refine wpAny_bind (wpAny_seqItems pi rfl ?_)
  refine wpAny_bind (hfree _ _ _ ?_)
  simp only [if_true]
  refine wpAny_bind (wpAny_rule ?_)
  refine wpAny_bind (wpAny_field hz rfl (x := .ref TO) rfl ?_)
  refine wpAny_bind (wpAny_setField_rec hz (by simp) fun g1 z1 k1 => ?_)
  replace z1 : ZipAt g1 z TI TO .ellipsis f := z1
  refine wpAny_bind ?_
  simp only [List.zipIdx_cons, List.zipIdx_nil, List.forIn_cons, List.forIn_nil]
  refine wpAny_bind (wpAny_bind (wpAny_onRaise ?_))
  show wpAny _ _ (Builtin.SmallTypes.nextOf (.ref i1) >>= _) _ _ _
  refine wpAny_bind (wpAny_nextOf_list_item (m1.extBut k1.extBut D.i1z) (la.extBut k1.extBut D.l1z) ex fun g2 n1 k2 => wpAny_pure ?_)
  have p2 : IsPair g2 TO u v := k2.extBut _ _ D.TOi1 (k1.extBut _ _ D.TOz po)
  refine wpAny_bind (wpAny_seqItems p2 rfl ?_)
  refine wpAny_bind (wpAny_updateSeq_pair p2 fun g3 p3 k3 => ?_)
  replace p3 : IsPair g3 TO x v := p3
  refine wpAny_bind (wpAny_letGo (wpAny_pure ?_))
  refine wpAny_bind (wpAny_bind (wpAny_onRaise ?_))
  show wpAny _ _ (Builtin.SmallTypes.nextOf (.ref i2) >>= _) _ _ _
  have m2' : g3.IsListIter i2 b i := ((m2.extBut k1.extBut D.i2z).extBut k2.extBut D.i12.symm).extBut k3.extBut D.TOi2.symm
  have lb' : g3.IsList b ys := ((lb.extBut k1.extBut D.l2z).extBut k2.extBut D.l2i1).extBut k3.extBut D.l2TO
  refine wpAny_bind (wpAny_nextOf_list_item m2' lb' ey fun g4 n2 k4 => wpAny_pure ?_)
  have p4 : IsPair g4 TO x v := k4.extBut _ _ D.TOi2 p3
  refine wpAny_bind (wpAny_seqItems p4 rfl ?_)
  refine wpAny_bind (wpAny_updateSeq_pair p4 fun g5 p5 k5 => ?_)
  replace p5 : IsPair g5 TO x y := p5
  refine wpAny_bind (wpAny_letGo (wpAny_pure (wpAny_pure ?_)))
  refine wpAny_bind (wpAny_seqItems p5 rfl ?_)
  refine wpAny_bind (wpAny_newTuple ?_)
  have sz : g5.objs.size = s.heap.objs.size := by rw [k5.1, k4.1, k3.1, k2.1, k1.1]
  have z5 : ZipAt g5 z TI TO .ellipsis f := k5.extBut _ _ D.TOz.symm (k4.extBut _ _ D.i2z.symm (k3.extBut _ _ D.TOz.symm (k2.extBut _ _ D.i1z.symm z1)))
  have kept : ∀ c o, c ≠ z → c ≠ TO → c ≠ i1 → c ≠ i2 → s.heap.get? c = some o → g5.get? c = some o := fun c o c1 c2 c3 c4 e =>
    k5.extBut _ _ c2 (k4.extBut _ _ c4 (k3.extBut _ _ c2 (k2.extBut _ _ c3 (k1.extBut _ _ c1 e))))
  have q1 : g5.IsListIter i1 a (i + 1) := ((n1.extBut k3.extBut D.TOi1.symm).extBut k4.extBut D.i12).extBut k5.extBut D.TOi1.symm
  have q2 : g5.IsListIter i2 b (i + 1) := n2.extBut k5.extBut D.TOi2.symm
  have zlt : z < g5.objs.size := Heap.lt_size z5
  show wpAny _ _ (Builtin.SmallTypes.ownedTupleHandOut (.ref z) (.ref g5.objs.size) >>= _) _ _ _
  refine wpAny_bind ?_
  unfold Builtin.SmallTypes.ownedTupleHandOut
  have z6 : ZipAt (g5.push { cls := .type "tuple", data := .seq #[x, y] }) z TI TO .ellipsis f := Heap.get?_push_of_some _ z5
  refine wpAny_bind (wpAny_setField_rec z6 (by simp) fun g7 z7 k7 => ?_)
  replace z7 : ZipAt g7 z TI TO (rawInt g5.objs.size) f := z7
  refine wpAny_setField_rec z7 (by simp) fun g8 z8 k8 => ?_
  replace z8 : ZipAt g8 z TI TO (rawInt g5.objs.size) false := z8
  have up : ∀ c o, c ≠ z → g5.get? c = some o → g8.get? c = some o := fun c o c1 e => k8.extBut _ _ c1 (k7.extBut _ _ c1 (Heap.get?_push_of_some _ e))
  have p8 : IsPair g8 g5.objs.size x y := k8.extBut _ _ (Nat.ne_of_gt zlt) (k7.extBut _ _ (Nat.ne_of_gt zlt) (Heap.get?_push_size _ rfl))
  have s8 : g8.objs.size = g5.objs.size + 1 := by rw [k8.1, k7.1, Heap.size_push]
  rw [sz] at z8 p8 s8
  refine wpAny_pure ⟨_, rfl, ?_⟩
  show Q (.ref g5.objs.size) _
  rw [sz]
  exact fin g8 z8 (up _ _ D.TOz p5) (q1.at fun o e => up _ o D.i1z e) (q2.at fun o e => up _ o D.i2z e) p8 s8 fun c o c1 c2 c3 c4 e => up c o c1 (kept c o c1 c2 c3 c4 e)
theorem look_dead {T : Addr} {Q : Option Obj → Shared → Prop} (hT : s.heap.get? T = none) (h : Q none s) : wpAny (model prog w) A (loadIfAlive T) Q E s := by
  have h' : Q (s.heap.get? T) s := by rw [hT]; exact h
  exact fun _ _ _ => h'
theorem free_none {f : Bool} (hz : ZipAt s.heap z TI TO .none f) (A : Around) (E : Value → Shared → Prop) (Q : Bool → Shared → Prop) (h : Q true s) : wpAny (model prog w) A (Builtin.SmallTypes.ownedTupleIsFree (.ref z)) Q E s := by
  unfold Builtin.SmallTypes.ownedTupleIsFree
  exact wpAny_bind (wpAny_field hz rfl (x := .none) rfl (wpAny_pure h))
theorem free_dead {f : Bool} {T : Addr} (hz : ZipAt s.heap z TI TO (rawInt T) f) (hT : s.heap.get? T = none) (A : Around) (E : Value → Shared → Prop) (Q : Bool → Shared → Prop) (h : Q true s) : wpAny (model prog w) A (Builtin.SmallTypes.ownedTupleIsFree (.ref z)) Q E s := by
  unfold Builtin.SmallTypes.ownedTupleIsFree
  refine wpAny_bind (wpAny_field hz rfl (x := rawInt T) rfl ?_)
  show wpAny _ _ (loadIfAlive ((T : Int).toNat) >>= _) _ _ _
  rw [Int.toNat_natCast]
  refine wpAny_bind (look_dead hT ?_)
  simp only [Option.isNone_none, if_true]
  exact wpAny_pure h
/-- the next pair of a zip of two lists -/
theorem zip_step {Q : Value → Shared → Prop} (D : ZipApart z TI TO i1 i2 a b) (Z : ZAll s.heap z TI TO i1 i2 a b i) (la : s.heap.IsList a xs) (lb : s.heap.IsList b ys) (ex : xs[i]? = some x) (ey : ys[i]? = some y)
    (fin : ∀ g, ZAll g z TI TO i1 i2 a b (i + 1) → IsPair g s.heap.objs.size x y → g.objs.size = s.heap.objs.size + 1 → (∀ c o, c ≠ z → c ≠ TO → c ≠ i1 → c ≠ i2 → s.heap.get? c = some o → g.get? c = some o) → Q (.ref s.heap.objs.size) { s with heap := g }) :
    wpAny (model prog w) A (Builtin.«zip.__next__» ⟨[.ref z], []⟩) (fun r s' => ∃ v, r = .done (.ret v) ∧ Q v s') E s := by
  obtain ⟨⟨f0, f, hz, hf⟩, pi, ⟨u, v, po⟩, m1, m2⟩ := Z
  have free : (∀ (A : Around) (E : Value → Shared → Prop) (Q : Bool → Shared → Prop), Q true s → wpAny (model prog w) A (Builtin.SmallTypes.ownedTupleIsFree (.ref z)) Q E s) →
      wpAny (model prog w) A (Builtin.«zip.__next__» ⟨[.ref z], []⟩) (fun r s' => ∃ v, r = .done (.ret v) ∧ Q v s') E s := fun hfree =>
    zip_free D hz hfree pi po m1 m2 la lb ex ey fun g z8 p8 q1 q2 pn s8 kept => fin g ⟨⟨_, _, z8, .inr ⟨_, rfl⟩⟩, kept _ _ D.TIz D.TITO D.TIi1 D.TIi2 pi, ⟨_, _, p8⟩, q1, q2⟩ pn s8 kept
  rcases hf with rfl | ⟨T, rfl⟩
  · exact free (free_none hz)
  · cases hT : s.heap.get? T with
    | none => exact free (free_dead hz hT)
    | some oT =>
      refine zip_next_item_held D hz hT pi m1 m2 la lb ex ey fun g z8 q1 q2 pn s8 kept => ?_
      exact fin g ⟨⟨_, _, z8, .inr ⟨_, rfl⟩⟩, kept _ _ D.TIz D.TIi1 D.TIi2 pi, ⟨_, _, kept _ _ D.TOz D.TOi1 D.TOi2 po⟩, q1, q2⟩ pn s8 fun c o c1 _ c3 c4 e => kept c o c1 c3 c4 e
/-- .. and its end -/
theorem zip_stop {Q : PySem.Fin → Shared → Prop} (hh : A.handled = none) (D : ZipApart z TI TO i1 i2 a b) (Z : ZAll s.heap z TI TO i1 i2 a b i) (la : s.heap.IsList a xs) (lb : s.heap.IsList b ys) (hend : xs[i]? = none ∨ ys[i]? = none)
    (fin : ∀ g e, (∀ c o, c ≠ z → c ≠ TO → c ≠ i1 → c ≠ i2 → s.heap.get? c = some o → g.get? c = some o) → (∃ o, g.get? e = some o ∧ o.cls = .type "StopIteration") → E (.ref e) { s with heap := g }) :
    wpAny (model prog w) A (Builtin.«zip.__next__» ⟨[.ref z], []⟩) Q E s := by
  obtain ⟨⟨f0, f, hz, hf⟩, pi, ⟨u, v, po⟩, m1, m2⟩ := Z
  have free : (∀ (A : Around) (E : Value → Shared → Prop) (Q : Bool → Shared → Prop), Q true s → wpAny (model prog w) A (Builtin.SmallTypes.ownedTupleIsFree (.ref z)) Q E s) →
      wpAny (model prog w) A (Builtin.«zip.__next__» ⟨[.ref z], []⟩) Q E s := fun hfree => by
    refine wpAny_bind (wpAny_pure ?_)
    refine wpAny_bind (wpAny_field hz rfl (x := .bool false) rfl ?_)
    refine wpAny_bind (wpAny_field hz rfl (x := .ref TI) rfl ?_)
    refine wpAny_bind (wpAny_seqItems pi rfl ?_)
    refine wpAny_bind (hfree _ _ _ ?_)
    simp only [if_true]
    refine wpAny_bind (wpAny_rule ?_)
    refine wpAny_bind (wpAny_field hz rfl (x := .ref TO) rfl ?_)
    refine wpAny_bind (wpAny_setField_rec hz (by simp) fun g1 z1 k1 => ?_)
    replace z1 : ZipAt g1 z TI TO .ellipsis f := z1
    refine wpAny_bind ?_
    simp only [List.zipIdx_cons, List.zipIdx_nil, List.forIn_cons, List.forIn_nil]
    refine wpAny_bind (wpAny_bind (wpAny_onRaise ?_))
    show wpAny _ _ (Builtin.SmallTypes.nextOf (.ref i1) >>= _) _ _ _
    cases ex : xs[i]? with
    | none =>
      refine wpAny_bind (wpAny_nextOf_list_end (s := { s with heap := g1 }) hh (m1.extBut k1.extBut D.i1z) (la.extBut k1.extBut D.l1z) ex fun g2 e k2 he => ?_)
      have z2 : ZipAt g2 z TI TO .ellipsis f := k2 _ _ D.i1z.symm z1
      refine wpAny_setField_rec z2 (by simp) fun g3 z3 k3 => ?_
      obtain ⟨o, ho, hc⟩ := he
      have ez : e ≠ z := fun q => by
        rw [q, z2] at ho
        injection ho with ho
        rw [← ho] at hc
        simp at hc
      exact fin g3 e (fun c o c1 c2 c3 _ q => k3.extBut _ _ c1 (k2 _ _ c3 (k1.extBut _ _ c1 q))) ⟨o, k3.extBut _ _ ez ho, hc⟩
    | some x =>
      have ey : ys[i]? = none := by rcases hend with h | h; rw [ex] at h; cases h; exact h
      refine wpAny_bind (wpAny_nextOf_list_item (s := { s with heap := g1 }) (m1.extBut k1.extBut D.i1z) (la.extBut k1.extBut D.l1z) ex fun g2 n1 k2 => wpAny_pure ?_)
      have p2 : IsPair g2 TO u v := k2.extBut _ _ D.TOi1 (k1.extBut _ _ D.TOz po)
      refine wpAny_bind (wpAny_seqItems p2 rfl ?_)
      refine wpAny_bind (wpAny_updateSeq_pair p2 fun g3 p3 k3 => ?_)
      refine wpAny_bind (wpAny_letGo (wpAny_pure ?_))
      refine wpAny_bind (wpAny_bind (wpAny_onRaise ?_))
      show wpAny _ _ (Builtin.SmallTypes.nextOf (.ref i2) >>= _) _ _ _
      have m2' : g3.IsListIter i2 b i := ((m2.extBut k1.extBut D.i2z).extBut k2.extBut D.i12.symm).extBut k3.extBut D.TOi2.symm
      have lb' : g3.IsList b ys := ((lb.extBut k1.extBut D.l2z).extBut k2.extBut D.l2i1).extBut k3.extBut D.l2TO
      refine wpAny_bind (wpAny_nextOf_list_end (s := { s with heap := g3 }) hh m2' lb' ey fun g4 e k4 he => ?_)
      have z4 : ZipAt g4 z TI TO .ellipsis f := k4 _ _ D.i2z.symm (k3.extBut _ _ D.TOz.symm (k2.extBut _ _ D.i1z.symm z1))
      refine wpAny_setField_rec z4 (by simp) fun g5 z5 k5 => ?_
      obtain ⟨o, ho, hc⟩ := he
      have ez : e ≠ z := fun q => by
        rw [q, z4] at ho
        injection ho with ho
        rw [← ho] at hc
        simp at hc
      exact fin g5 e (fun c o c1 c2 c3 c4 q => k5.extBut _ _ c1 (k4 _ _ c4 (k3.extBut _ _ c2 (k2.extBut _ _ c3 (k1.extBut _ _ c1 q))))) ⟨o, k5.extBut _ _ ez ho, hc⟩
  rcases hf with rfl | ⟨T, rfl⟩
  · exact free (free_none hz)
  · cases hT : s.heap.get? T with
    | none => exact free (free_dead hz hT)
    | some oT => exact zip_next_end_held hh D hz hT pi m1 m2 la lb hend fun g e kept he => fin g e (fun c o c1 _ c3 c4 q => kept c o c1 c3 c4 q) he
/-- what an enumerate does with what comes -/
theorem enum_step {e it : Addr} {c : Int} {old : Value} {G : Value → Shared → Prop} {Q : Value → Shared → Prop} (he : IsEnum s.heap e it c old)
    (inn : wpAny (model prog w) A (Builtin.SmallTypes.nextOf (.ref it)) (fun x s1 => IsEnum s1.heap e it c old ∧ G x s1) E s)
    (fin : ∀ x s1 g, G x s1 → IsEnumOut g e it (c + 1) x s1.heap.objs.size → g.get? s1.heap.objs.size = some { cls := .type "tuple", data := .seq #[.int c s1.toks, x] } → g.objs.size = s1.heap.objs.size + 1 →
      (∀ b o, b ≠ e → s1.heap.get? b = some o → g.get? b = some o) → Q (.ref s1.heap.objs.size) { s1 with heap := g, toks := s1.toks + 1 }) :
    wpAny (model prog w) A (Builtin.«enumerate.__next__» ⟨[.ref e], []⟩) (fun r s' => ∃ v, r = .done (.ret v) ∧ Q v s') E s := by
  refine wpAny_bind (wpAny_pure ?_)
  refine wpAny_bind (wpAny_field he rfl (x := .ref it) rfl ?_)
  refine wpAny_bind (wpAny_mono inn (fun x s1 hx => ?_) fun _ _ z => z)
  obtain ⟨e1, gx⟩ := hx
  obtain ⟨h1, gg, d, tk, os⟩ := s1
  replace e1 : IsEnum h1 e it c old := e1
  refine wpAny_bind (wpAny_field e1 rfl (x := rawInt c) rfl ?_)
  refine wpAny_bind (wpAny_field e1 rfl (x := .none) rfl ?_)
  show wpAny _ _ (mkInt c >>= _) _ _ _
  refine wpAny_bind (wpAny_mkInt ?_)
  refine wpAny_bind (wpAny_setField_rec e1 (by simp) fun h2 e2 k2 => ?_)
  replace e2 : IsEnum h2 e it (c + 1) old := e2
  refine wpAny_bind (wpAny_setField_rec e2 (by simp) fun h3 e3 k3 => ?_)
  replace e3 : IsEnum h3 e it (c + 1) old := e3
  refine wpAny_bind (wpAny_newTuple ?_)
  have e4 : IsEnum (h3.push { cls := .type "tuple", data := .seq #[.int c tk, x] }) e it (c + 1) old := Heap.get?_push_of_some _ e3
  generalize hh4 : h3.push { cls := .type "tuple", data := .seq #[.int c tk, x] } = h4 at e4
  have sz : h3.objs.size = h1.objs.size := by rw [k3.1, k2.1]
  have el : e < h1.objs.size := Heap.lt_size e1
  have t4 : h4.get? h1.objs.size = some { cls := .type "tuple", data := .seq #[.int c tk, x] } := by rw [← hh4, ← sz]; exact Heap.get?_push_size _ rfl
  have z4 : h4.objs.size = h1.objs.size + 1 := by rw [← hh4, Heap.size_push, sz]
  have k4 : ∀ b o, b ≠ e → h1.get? b = some o → h4.get? b = some o := fun b o hb q => by
    rw [← hh4]; exact Heap.get?_push_of_some _ (k3.extBut b o hb (k2.extBut b o hb q))
  show wpAny _ _ (Builtin.SmallTypes.ownedTupleIsFree (.ref e) >>= _) _ _ _
  rw [sz]
  refine wpAny_bind ?_
  unfold Builtin.SmallTypes.ownedTupleIsFree
  refine wpAny_bind (wpAny_field e4 rfl (x := .none) rfl (wpAny_pure ?_))
  simp only [if_true]
  refine wpAny_bind (wpAny_rule ?_)
  refine wpAny_bind (wpAny_field e4 rfl (x := old) rfl ?_)
  refine wpAny_bind (wpAny_setField_rec e4 (by simp) fun h5 e5 k5 => ?_)
  replace e5 : IsEnum h5 e it (c + 1) x := e5
  show wpAny _ _ (Builtin.SmallTypes.ownedTupleHandOut (.ref e) (.ref h1.objs.size) >>= _) _ _ _
  refine wpAny_bind ?_
  unfold Builtin.SmallTypes.ownedTupleHandOut
  refine wpAny_bind (wpAny_setField_rec e5 (by simp) fun h6 e6 k6 => ?_)
  replace e6 : IsEnumOut h6 e it (c + 1) x h1.objs.size := e6
  refine wpAny_setField_rec e6 (by simp) fun h7 e7 k7 => ?_
  replace e7 : IsEnumOut h7 e it (c + 1) x h1.objs.size := e7
  refine wpAny_bind (wpAny_letGo (wpAny_pure ⟨_, rfl, fin x ⟨h1, gg, d, tk, os⟩ h7 gx e7 ?_ ?_ fun b o hb q => k7.extBut b o hb (k6.extBut b o hb (k5.extBut b o hb (k4 b o hb q)))⟩))
  · exact k7.extBut _ _ (Nat.ne_of_gt el) (k6.extBut _ _ (Nat.ne_of_gt el) (k5.extBut _ _ (Nat.ne_of_gt el) t4))
  · show h7.objs.size = _
    rw [k7.1, k6.1, k5.1, z4]
end
/-- the pairs of two lists with their places -/
def Itez (K : PySem.W.Frag) (a b : Addr) : It :=
  ⟨fun i H => ∃ (xs ys : List V) (x y : V), SqL K H a xs ∧ SqL K H b ys ∧ xs[i]? = some x ∧ ys[i]? = some y,
    fun i H v H' => ∃ T U x y, v = .ref U ∧ H T = none ∧ (upd H T (.tup [x, y])) U = none ∧ H' = upd (upd H T (.tup [x, y])) U (.tup [.int (i : Nat), .ref T]) ∧ (∀ xs, SqL K H a xs → xs[i]? = some x) ∧ ∀ ys, SqL K H b ys → ys[i]? = some y,
    fun i H => ∃ xs ys : List V, SqL K H a xs ∧ SqL K H b ys ∧ (xs.length ≤ i ∨ ys.length ≤ i)⟩
theorem ZAll.keep {h h' : Heap} {z TI TO i1 i2 a b : Addr} {i : Nat} (Z : ZAll h z TI TO i1 i2 a b i) (k : ∀ c ∈ [z, TI, TO, i1, i2], ∀ o, h.get? c = some o → h'.get? c = some o) : ZAll h' z TI TO i1 i2 a b i := by
  obtain ⟨⟨f0, f, hz, hf⟩, pi, ⟨u, v, po⟩, m1, m2⟩ := Z
  exact ⟨⟨f0, f, k z (by simp) _ hz, hf⟩, k TI (by simp) _ pi, ⟨u, v, k TO (by simp) _ po⟩, m1.at fun o q => k i1 (by simp) o q, m2.at fun o q => k i2 (by simp) o q⟩
theorem turn_ez {P : Program} {w : World} {K : PySem.W.Frag} {elts : List Expr} {kk : Nat} {tpos : Pos} {a b e z TI TO i1 i2 : Addr} (D : ZipApart z TI TO i1 i2 a b) (n1 : e ≠ z) (n2 : e ≠ TI) (n3 : e ≠ TO) (n4 : e ≠ i1) (n5 : e ≠ i2) :
    Turn P w K (.Tuple elts kk tpos) (Itez K a b) [e, z, TI, TO, i1, i2] e (fun i h => (∃ old, IsEnum h e z ((i : Nat) : Int) old) ∧ ZAll h z TI TO i1 i2 a b i) where
  mem := by simp
  obj := fun i h st c hc => by
    obtain ⟨⟨old, he⟩, ⟨f0, f, hz, hf⟩, pi, ⟨u, v, po⟩, ⟨o1, w1, _, d1⟩, ⟨o2, w2, _, d2⟩⟩ := st
    have e' : c = e ∨ c = z ∨ c = TI ∨ c = TO ∨ c = i1 ∨ c = i2 := by simpa using hc
    rcases e' with q | q | q | q | q | q
    · rw [q]; exact ⟨_, he, fun v q => nomatch q⟩
    · rw [q]; exact ⟨_, hz, fun v q => nomatch q⟩
    · rw [q]; exact ⟨_, pi, fun v q => nomatch q⟩
    · rw [q]; exact ⟨_, po, fun v q => nomatch q⟩
    · rw [q]; exact ⟨o1, w1, fun v q => by rw [d1] at q; cases q⟩
    · rw [q]; exact ⟨o2, w2, fun v q => by rw [d2] at q; cases q⟩
  keep := fun i h h' st k => by
    obtain ⟨⟨old, he⟩, Z⟩ := st
    exact ⟨⟨old, k e (by simp) _ he⟩, Z.keep fun c hc o q => k c (List.mem_cons_of_mem _ hc) o q⟩
  item := by
    intro X hP hw hK hc i pins s σ H E I hf st hg
    subst hP hw hK
    obtain ⟨⟨old, he⟩, Z⟩ := st
    obtain ⟨xs, ys, x, y, hqx, hqy, hx, hy⟩ := hg
    obtain ⟨its, rv, p, _⟩ := I.list hqx
    obtain ⟨its2, rv2, p2, _⟩ := I.list hqy
    obtain ⟨u, hu, ru⟩ := rv.get hx
    obtain ⟨u2, hu2, ru2⟩ := rv2.get hy
    have hel : e < s.heap.objs.size := Heap.lt_size he
    have hT : s.TypeIs (.ref e) "enumerate" := ⟨_, he, rfl⟩
    have hZ : s.TypeIs (.ref z) "zip" := by obtain ⟨⟨f0, f, hz, _⟩, _⟩ := Z; exact ⟨_, hz, rfl⟩
    have hzl : z < s.heap.objs.size := by obtain ⟨⟨f0, f, hz, _⟩, _⟩ := Z; exact Heap.lt_size hz
    unfold pyNext
    refine wpAny_bind (wpAny_attempt (wpAny_callSpecial?_slot (name := Str.ofString "__next__") hT F.slot_enumerate_next
      (wpAny_call_entry F.slot_enumerate_next hT F.entry_enumerate_next (enum_step he (G := fun v s1 => ∃ g, v = .ref s.heap.objs.size ∧ s1 = { s with heap := g } ∧ ZAll g z TI TO i1 i2 a b (i + 1) ∧ IsPair g s.heap.objs.size u u2 ∧ g.objs.size = s.heap.objs.size + 1 ∧
        ∀ c o, c ≠ z → c ≠ TO → c ≠ i1 → c ≠ i2 → s.heap.get? c = some o → g.get? c = some o) ?_ fun v s1 g2 gx eo tp sz kp => ?_) (F.args_enumerate_next_1 _))))
    · unfold Builtin.SmallTypes.nextOf
      refine wpAny_bind (wpAny_callSpecial?_slot (name := Str.ofString "__next__") hZ F.slot_zip_next
        (wpAny_call_entry F.slot_zip_next hZ F.entry_zip_next (zip_step D Z p.isList p2.isList (x := u) (y := u2) (by simpa using hu) (by simpa using hu2) fun g Z' pn sz kp => wpAny_pure ⟨kp e _ n1 n3 n4 n5 he, g, rfl, rfl, Z', pn, sz, kp⟩) (F.args_zip_next_1 _)))
    · obtain ⟨g, rfl, rfl, Z', pn, szg, kg⟩ := gx
      replace eo : IsEnumOut g2 e z ((i : Int) + 1) (.ref s.heap.objs.size) g.objs.size := eo
      replace tp : g2.get? g.objs.size = some { cls := .type "tuple", data := .seq #[.int i s.toks, .ref s.heap.objs.size] } := tp
      replace kp : ∀ b o, b ≠ e → g.get? b = some o → g2.get? b = some o := kp
      refine wpAny_pure ⟨_, rfl, wpAny_letOwnedTupleGo_enum (s := { s with heap := g2, toks := s.toks + 1 }) eo fun h3 e3 sb => ?_⟩
      have new1 : ObjOk X.prog X.w (upd H s.heap.objs.size (.tup [x, y])) g s.heap.objs.size (.tup [x, y]) := ⟨by show 2 ≤ sizeLine; decide, [u, u2], .cons ru (.cons ru2 .nil), ⟨_, pn, rfl, _, rfl⟩⟩
      have mem4 : ∀ c, c ∉ [z, TO, i1, i2] → c ≠ z ∧ c ≠ TO ∧ c ≠ i1 ∧ c ≠ i2 := fun c h => by simpa using h
      have I1 : Inv X pins σ (upd H s.heap.objs.size (.tup [x, y])) { s with heap := g, toks := s.toks } :=
        I.turnedNew (t' := s.toks) (ch := [z, TO, i1, i2]) (fun c o hb q => kg c o (mem4 c hb).1 (mem4 c hb).2.1 (mem4 c hb).2.2.1 (mem4 c hb).2.2.2 q)
          (fun c hcm => hf c (by simp only [List.mem_cons, List.not_mem_nil, or_false] at hcm ⊢; rcases hcm with q | q | q | q <;> simp [q])) (Nat.le_refl _) new1
      have hfe := hf e (by simp)
      have eU : e ≠ g.objs.size := Nat.ne_of_lt (by rw [szg]; exact Nat.lt_succ_of_lt hel)
      have new2 : ObjOk X.prog X.w (upd (upd H s.heap.objs.size (.tup [x, y])) g.objs.size (.tup [.int (i : Nat), .ref s.heap.objs.size])) h3 g.objs.size (.tup [.int (i : Nat), .ref s.heap.objs.size]) :=
        ⟨by show 2 ≤ sizeLine; decide, [.int i s.toks, .ref s.heap.objs.size], .cons ⟨_, rfl⟩ (.cons rfl .nil), ⟨_, (sb.2 _ (Ne.symm eU)).trans tp, rfl, _, rfl⟩⟩
      have I2 : Inv X pins σ (upd (upd H s.heap.objs.size (.tup [x, y])) g.objs.size (.tup [.int (i : Nat), .ref s.heap.objs.size])) { s with heap := h3, toks := s.toks + 1 } :=
        I1.turnedNew (t' := s.toks + 1) (ch := [e]) (fun c o hb q => (sb.2 c (by simpa using hb)).trans (kp c o (by simpa using hb) q)) (fun c hcm => by
          have hce : c = e := by simpa using hcm
          rw [hce]
          exact ⟨by rw [upd_ne (Nat.ne_of_lt hel)]; exact hfe.1, hfe.2⟩) (Nat.le_refl _) new2
      refine ⟨.ref g.objs.size, _, I2, rfl, ⟨s.heap.objs.size, g.objs.size, x, y, rfl, I.hok.fresh (Nat.le_refl _), I1.hok.fresh (Nat.le_refl _), rfl, fun l hl => by rw [I.list_inj hl hqx]; exact hx, fun l hl => by rw [I.list_inj hl hqy]; exact hy⟩, ⟨⟨.ref s.heap.objs.size, ?_⟩, Z'.keep fun c hcm o q => (sb.2 c ?_).trans (kp c o ?_ q)⟩, fun c hcm => ?_⟩
      · have e1 : ((i + 1 : Nat) : Int) = (i : Int) + 1 := by omega
        rw [e1]; exact e3
      · simp only [List.mem_cons, List.not_mem_nil, or_false] at hcm
        rcases hcm with q | q | q | q | q
        · rw [q]; exact n1.symm
        · rw [q]; exact n2.symm
        · rw [q]; exact n3.symm
        · rw [q]; exact n4.symm
        · rw [q]; exact n5.symm
      · simp only [List.mem_cons, List.not_mem_nil, or_false] at hcm
        rcases hcm with q | q | q | q | q
        · rw [q]; exact n1.symm
        · rw [q]; exact n2.symm
        · rw [q]; exact n3.symm
        · rw [q]; exact n4.symm
        · rw [q]; exact n5.symm
      · have hlt : c < s.heap.objs.size := by
          simp only [List.mem_cons, List.not_mem_nil, or_false] at hcm
          obtain ⟨⟨f0, f, hz, _⟩, pi, ⟨_, _, po⟩, ⟨o1, w1, _⟩, ⟨o2, w2, _⟩⟩ := Z
          rcases hcm with q | q | q | q | q | q
          · rw [q]; exact hel
          · rw [q]; exact Heap.lt_size hz
          · rw [q]; exact Heap.lt_size pi
          · rw [q]; exact Heap.lt_size po
          · rw [q]; exact Heap.lt_size w1
          · rw [q]; exact Heap.lt_size w2
        rw [upd_ne (Nat.ne_of_lt (by rw [szg]; exact Nat.lt_succ_of_lt hlt)), upd_ne (Nat.ne_of_lt hlt)]
        exact (hf c hcm).1
  done := by
    intro X hP hw hK hc i pins s σ H E I hf st hg
    subst hP hw hK
    obtain ⟨⟨old, he⟩, Z⟩ := st
    obtain ⟨xs, ys, hqx, hqy, hend⟩ := hg
    obtain ⟨its, rv, p, _⟩ := I.list hqx
    obtain ⟨its2, rv2, p2, _⟩ := I.list hqy
    have l1 := rv.length
    have l2 := rv2.length
    have hE : its.toArray[i]? = none ∨ its2.toArray[i]? = none := by
      rcases hend with q | q
      · exact .inl (by simp; omega)
      · exact .inr (by simp; omega)
    have hT : s.TypeIs (.ref e) "enumerate" := ⟨_, he, rfl⟩
    have hZ : s.TypeIs (.ref z) "zip" := by obtain ⟨⟨f0, f, hz, _⟩, _⟩ := Z; exact ⟨_, hz, rfl⟩
    unfold pyNext
    refine wpAny_bind (wpAny_attempt (wpAny_callSpecial?_slot (name := Str.ofString "__next__") hT F.slot_enumerate_next
      (wpAny_call_entry F.slot_enumerate_next hT F.entry_enumerate_next ?_ (F.args_enumerate_next_1 _))))
    refine wpAny_bind (wpAny_pure ?_)
    refine wpAny_bind (wpAny_field he rfl (x := .ref z) rfl ?_)
    refine wpAny_bind ?_
    unfold Builtin.SmallTypes.nextOf
    refine wpAny_bind (wpAny_callSpecial?_slot (name := Str.ofString "__next__") hZ F.slot_zip_next
      (wpAny_call_entry F.slot_zip_next hZ F.entry_zip_next (zip_stop (I.ok.hd hc) D Z p.isList p2.isList hE fun g x kg hx => ?_) (F.args_zip_next_1 _)))
    obtain ⟨o, ho, hcl⟩ := hx
    refine wpAny_bind (wpAny_isInstance (T := "StopIteration") (b := true) ⟨o, ho, hcl⟩ isSubtype_stop ?_)
    refine wpAny_pure ⟨rfl, I.turnedL (t' := s.toks) (ch := [e, z, TI, TO, i1, i2]) (fun c o hb q => ?_) hf⟩
    have mem : c ≠ e ∧ c ≠ z ∧ c ≠ TI ∧ c ≠ TO ∧ c ≠ i1 ∧ c ≠ i2 := by simpa using hb
    exact kg c o mem.2.1 mem.2.2.2.1 mem.2.2.2.2.1 mem.2.2.2.2.2 q
  self := fun A i s Q E st h => let ⟨⟨_, he⟩, _⟩ := st; wpAny_pyIter_enum he h
/-! ### enumerate of a thing that is its own iterator -/
set_option maxHeartbeats 4000000 in
theorem meets_enumI {v : Value} {P0 : Heap → Prop} (B : ∀ (prog : Program) (w : World) (A : Around) (E : Value → Shared → Prop) (s : Shared) (Q : Value → Shared → Prop), P0 s.heap → Q v s → wpAny (model prog w) A (pyIter v) Q E s) :
    Meets (Builtin.«enumerate.__new__» ⟨[.type "enumerate", v], []⟩) (fun _ R s => P0 s.heap ∧
      R (.ok (.ret (.ref s.heap.objs.size))) { s with heap := s.heap.push { cls := .type "enumerate", data := .fields #[.none, .bool false, v, rawInt 0, .none, .none] } }) :=
  .of_wp fun prog w A R s h => by
    obtain ⟨hp, g, d, tk, os⟩ := s
    obtain ⟨h1, h⟩ := h
    have sub := sub_enumerate
    have itr : ∀ {A' : Around} {E : Value → Shared → Prop} {Q : Value → Shared → Prop}, Q v ⟨hp, g, d, tk, os⟩ → wpAny (model prog w) A' (pyIter v) Q E ⟨hp, g, d, tk, os⟩ :=
      fun q => B prog w _ _ ⟨hp, g, d, tk, os⟩ _ h1 q
    wp_walk using itr
    refine wpAny_stack_any fun st => wpAny_pure ?_
    split
    · rename_i c _ _ _ _ _
      cases (c == Value.type "enumerate")
      · wp_walk using itr
        exact ⟨_, rfl, h⟩
      · wp_walk using itr
        exact ⟨_, rfl, h⟩
    · wp_walk using itr
      exact ⟨_, rfl, h⟩
section
variable {prog : Program} {w : World} {A : Around} {E : Value → Shared → Prop} {s : Shared}
theorem enumI_begins {v : Value} {P0 : Heap → Prop} {Q : Value → Shared → Prop} (B : ∀ (prog : Program) (w : World) (A : Around) (E : Value → Shared → Prop) (s : Shared) (Q : Value → Shared → Prop), P0 s.heap → Q v s → wpAny (model prog w) A (pyIter v) Q E s) (h1 : P0 s.heap)
    (h : ∀ g, g.get? s.heap.objs.size = some { cls := .type "enumerate", dict := none, data := .fields #[.none, .bool false, v, rawInt 0, .none, .none], slots := #[] } → g.objs.size = s.heap.objs.size + 1 →
      (∀ b o, s.heap.get? b = some o → g.get? b = some o) → Q (.ref s.heap.objs.size) { s with heap := g }) :
    wpAny (model prog w) A (call (.type "enumerate") [v]) Q E s := by
  refine callType_new F.called_enumerate (by decide) (F.typeCall_enumerate_1 _) (F.newCall_enumerate_1 _) (fun obj => F.args_object_init_2 obj _) F.entry_enumerate_new
    (meets_enumI B) ⟨h1, ?_⟩
  have q := Heap.get?_push_size s.heap (o := { cls := .type "enumerate", data := .fields #[.none, .bool false, v, rawInt 0, .none, .none] }) rfl
  exact ⟨⟨_, q, rfl⟩, h _ q (Heap.size_push ..) fun b o x => Heap.get?_push_of_some _ x⟩
end
section
variable {X : Cx} {Ξ : Xi} {W : WX} {pos pos2 : Pos} {e e2 : Expr} {m : LM}
def iEz (K : PySem.W.Frag) (ta : TA) : TI := fun σ H R => ta σ H fun vs H1 => ∃ a b xs ys, vs = [.ref a, .ref b] ∧ SqL K H1 a xs ∧ SqL K H1 b ys ∧ R (Itez K a b) H1
theorem pi_ez {ta : TA} {p p2 tpos : Pos} {elts : List Expr} {kk : Nat} (hg : Gl X "enumerate") (hm : X.mg "enumerate" = none) (hg2 : Gl X "zip") (hm2 : X.mg "zip" = none) (ha : PA X [e, e2] ta)
    (hs : starEach [e, e2] X.env = (false, eval e X.env) :: starEach [e2] X.env := by rfl) (hpl : (backTo pos2 (starEach [e2] X.env)).any (·.1) = false := by rfl)
    (hs0 : starEach [Expr.Call (.Name "zip" p2) [e, e2] [] pos2] X.env = (false, eval (.Call (.Name "zip" p2) [e, e2] [] pos2) X.env) :: starEach [] X.env := by rfl) :
    PI X (.Tuple elts kk tpos) (.Call (.Name "enumerate" p) [.Call (.Name "zip" p2) [e, e2] [] pos2] [] pos) (iEz X.K ta) := by
  refine ⟨fun pins s σ H R I h => ?_⟩
  refine PyProof.Rows.Call_ (ld_blt I hg hm (show bootBuiltins "enumerate" = some (.type "enumerate") from by rfl) (PyProof.Rows.callWith_type1 (PyProof.Rows.spliced_more ?_ hs0) hs0 rfl))
  refine PyProof.Rows.Call_ (ld_blt I hg2 hm2 PyProof.Rows.boot_zip (PyProof.Rows.callWith_type1 (thn (ha.run pos2 pins s σ H _ I h) fun us s1 ⟨vs, H1, I1, r1, q1⟩ => ?_) hs hpl))
  obtain ⟨a, b, xs, ys, ex, hqx, hqy, q⟩ := q1
  subst ex
  cases r1 with
  | cons r rr =>
    cases rr with
    | cons r' rr =>
      cases rr
      cases r
      cases r'
      obtain ⟨its, rv, p1, _⟩ := I1.list hqx
      obtain ⟨its2, rv2, p2', _⟩ := I1.list hqy
      refine call_zip_2 p1.isList p2'.isList fun h' hz hTI hTO h1 h2 hsz hk => PyProof.Rows.spliced_none ?_
      refine enumI_begins (P0 := fun h => IsZip h (s1.heap.objs.size + 4) (s1.heap.objs.size + 2) (s1.heap.objs.size + 3) .none) (fun prog w A E s Q hz q => wpAny_pyIter_zip hz q) hz fun g he gz gk => wpAny_pyIter_enum he ?_
      replace he : IsEnum g h'.objs.size (s1.heap.objs.size + 4) 0 .none := he
      replace gz : g.objs.size = h'.objs.size + 1 := gz
      have I2 : Inv X pins σ H1 { s1 with heap := g } := I1.kept (t' := s1.toks) fun b u q => gk b u (hk b u q)
      rw [hsz] at he
      show PIE X pins σ _ R (.ref h'.objs.size) _
      rw [hsz]
      have e5 : ∀ n : Nat, n < 5 → (s1.heap.objs.size + 5 : Nat) ≠ s1.heap.objs.size + n := fun n hn => by omega
      have ap := PySem.W.ktu_apart s1.heap.objs.size a b p1.lt p2'.lt
      refine ⟨s1.heap.objs.size + 5, [s1.heap.objs.size + 5, s1.heap.objs.size + 4, s1.heap.objs.size + 2, s1.heap.objs.size + 3, s1.heap.objs.size, s1.heap.objs.size + 1], _, _, H1, rfl, I2, turn_ez ap (e5 4 (by decide)) (e5 2 (by decide)) (e5 3 (by decide)) (e5 0 (by decide)) (e5 1 (by decide)), ⟨⟨.none, he⟩, ⟨_, _, gk _ _ hz, .inl rfl⟩, gk _ _ hTI, ⟨_, _, gk _ _ hTO⟩, h1.at fun o q => gk _ o q, h2.at fun o q => gk _ o q⟩, fun c hcm => ?_, q⟩
      have hle : s1.heap.objs.size ≤ c := by
        simp only [List.mem_cons, List.not_mem_nil, or_false] at hcm
        rcases hcm with z | z | z | z | z | z <;> rw [z] <;> first | exact Nat.le_add_right _ _ | exact Nat.le_refl _
      exact I1.fpOk hle (I1.hok.fresh hle)
noncomputable def ezI (m : LM) : IM := fun env S => (m env S).bind fun ds S1 => match ds with
  | [d, e] => (match view S1 d, view S1 e with
    | .lst xs, .lst ys => .ok (nums (pairs xs ys), fun S => gdOf d xs S ∧ gdOf e ys S) S1
    | _, _ => .bad)
  | _ => .bad
theorem yld_ez {K : PySem.W.Frag} {H : Hp} {ω : Om} {xs ys : List D} {gd gd' : Dn.S → Prop} {a b : Addr} (y : Yld K H ω (xs, gd) (Itl K a)) (z : Yld K H ω (ys, gd') (Itl K b)) : Yld K H ω (nums (pairs xs ys), fun S => gd S ∧ gd' S) (Itez K a b) := by
  intro H1 ω1 S1 mv s1 hg
  obtain ⟨⟨us, q1, l1⟩, yy⟩ := y H1 ω1 S1 mv s1 hg.1
  obtain ⟨⟨vs, q2, l2⟩, zz⟩ := z H1 ω1 S1 mv s1 hg.2
  refine ⟨⟨us, vs, q1, q2, ?_⟩, fun i d hi => ?_⟩
  · show us.length ≤ (nums (pairs xs ys)).length ∨ vs.length ≤ (nums (pairs xs ys)).length
    rw [nums_len]
    unfold pairs
    rw [List.length_zipWith]
    replace l1 : us.length ≤ xs.length := l1
    replace l2 : vs.length ≤ ys.length := l2
    by_cases h : xs.length ≤ ys.length
    · left; omega
    · right; omega
  obtain ⟨d0, hd0, rfl⟩ := nums_get hi
  obtain ⟨d1, d2, h1, h2, rfl⟩ := pairs_get hd0
  obtain ⟨⟨us1, x1, p1, e1⟩, y2⟩ := yy i d1 h1
  obtain ⟨⟨vs1, x2, p2, e2⟩, z2⟩ := zz i d2 h2
  refine ⟨⟨us1, vs1, x1, x2, p1, p2, e1, e2⟩, fun v H2 hy => ?_⟩
  obtain ⟨T, U, x, x', rfl, hT, hU, rfl, hx, hx'⟩ := hy
  obtain ⟨_, r1, _⟩ := y2 x H1 ⟨rfl, hx⟩
  obtain ⟨_, r2, _⟩ := z2 x' H1 ⟨rfl, hx'⟩
  obtain ⟨g3, r3, s3⟩ := pair_new s1 hT r1 r2
  obtain ⟨g4, r4, s4⟩ := pair_new s3 hU (rep_int (i := ((i : Nat) : Int))) r3
  exact ⟨g3.trans g4, r4, s4⟩
theorem di_ez {p p2 tpos : Pos} {elts : List Expr} {kk : Nat} (hg : Gl X "enumerate") (hm : X.mg "enumerate" = none) (hg2 : Gl X "zip") (hm2 : X.mg "zip" = none) (ha : DL X Ξ W [e, e2] m)
    (hs : starEach [e, e2] X.env = (false, eval e X.env) :: starEach [e2] X.env := by rfl) (hpl : (backTo pos2 (starEach [e2] X.env)).any (·.1) = false := by rfl)
    (hs0 : starEach [Expr.Call (.Name "zip" p2) [e, e2] [] pos2] X.env = (false, eval (.Call (.Name "zip" p2) [e, e2] [] pos2) X.env) :: starEach [] X.env := by rfl) :
    DI X Ξ W (.Tuple elts kk tpos) (.Call (.Name "enumerate" p) [.Call (.Name "zip" p2) [e, e2] [] pos2] [] pos) (ezI m) :=
  PI_weak (pi_ez hg hm hg2 hm2 ha hs hpl hs0) fun σ H Rk ⟨env, ω, S, hE, hS, p⟩ => seqG hE hS p fun vs H1 ω1 ds S1 g1 r1 s1 e1 p1 => by
    split at p1
    · rename_i d e
      obtain ⟨v, w, rfl, r2, r3⟩ := two_ r1
      split at p1
      · rename_i xs ys q q'
        obtain ⟨l, us, rfl, h1, h2⟩ := view_lst s1 r2 q
        obtain ⟨l', us', rfl, h1', h2'⟩ := view_lst s1 r3 q'
        exact ⟨l, l', us, us', rfl, .inl (.inl h1), .inl (.inl h1'), p1 _ H1 ω1 .refl (yld_ez (yld_lst s1 r2 q) (yld_lst s1 r3 q')) s1⟩
      · exact p1.elim
    · exact p1.elim
end
end Dn
end

section
/-! # Dp1: how denotations are reckoned out -/
namespace Dn
open PySem L2
section
variable {env : Sl} {S : Dn.S} {a b c : EM} {m : LM} {s t : SM}
@[simp] theorem seqS_ap : seqS s t env S = (s env S).bind t := rfl
@[simp] theorem rsb_nx {k : SM} : (RS.nx env S).bind k = k env S := (rfl)
@[simp] theorem rsb_ret {d : D} {k : SM} : (RS.ret d S).bind k = .ret d S := (rfl)
@[simp] theorem rsb_exc {e : Ex} {k : SM} : (RS.exc e env S).bind k = .exc e env S := rfl
@[simp] theorem rsb_brk {k : SM} : (RS.brk env S).bind k = .brk env S := rfl
@[simp] theorem rsb_cnt {k : SM} : (RS.cnt env S).bind k = .cnt env S := rfl
@[simp] theorem trs_ok {d : D} {k : D → Dn.S → RS} : toRS k env (.ok d S) = k d S := (rfl)
@[simp] theorem trs_exc {e : Ex} {k : D → Dn.S → RS} : toRS k env (.exc e S) = .exc e env S := rfl
@[simp] theorem only_nx : (RS.nx env S).only = .nx env S := rfl
@[simp] theorem only_exc {e : Ex} : (RS.exc e env S).only = .exc e env S := rfl
@[simp] theorem skipS_ap : skipS env S = .nx env S := rfl
@[simp] theorem brkS_ap : brkS env S = .brk env S := rfl
@[simp] theorem cntS_ap : cntS env S = .cnt env S := rfl
@[simp] theorem exprS_ap : exprS a env S = toRS (fun _ S1 => .nx env S1) env (a env S) := rfl
@[simp] theorem retS_ap : retS a env S = toRS (fun d S1 => .ret d S1) env (a env S) := rfl
@[simp] theorem asgS_ap {g : GM} : asgS a g env S = toRS (fun d S1 => (g d env S1).only) env (a env S) := rfl
/-- the two ways of an if -/
def ifR (env : Sl) (s t : SM) : R Bool → RS
  | .ok k S1 => if k = true then s env S1 else t env S1
  | .exc e S1 => .exc e env S1
  | .bad => .bad
@[simp] theorem ifS_ap {q : BM} : ifS q s t env S = ifR env s t (q env S) := rfl
@[simp] theorem ifR_t : ifR env s t (.ok true S) = s env S := (rfl)
@[simp] theorem ifR_f : ifR env s t (.ok false S) = t env S := (rfl)
@[simp] theorem ifR_k {k : Bool} : ifR env s t (.ok k S) = if k = true then s env S else t env S := (rfl)
@[simp] theorem ifR_exc {e : Ex} : ifR env s t (.exc e S) = .exc e env S := rfl
@[simp] theorem nameG_ap {v : List (Option D)} {i : Nat} {d : D} : nameG i d ⟨v, none⟩ S = .nx ⟨v.set i (some d), none⟩ S := rfl
@[simp] theorem nilG_ap : nilG [] env S = .nx env S := rfl
@[simp] theorem consG_ap {g : GM} {r : List D → SM} {d : D} {ds : List D} : consG g r (d :: ds) env S = (g d env S).bind (r ds) := rfl
@[simp] theorem tupG_tup {n : Nat} {r : List D → SM} {ds : List D} : tupG n r (.tup ds) env S = if ds.length = n then r ds env S else .bad := rfl
@[simp] theorem subG_ap {o i : EM} {d : D} : subG o i d env S = toRS (fun x S1 => toRS (fun y S2 => match setD x y d S2 with
  | some S3 => .nx env S3
  | none => .bad) env (i env S1)) env (o env S) := rfl
@[simp] theorem varE_ap {v : List (Option D)} {x : Option (Nat × Ex)} {i : Nat} : varE i ⟨v, x⟩ S = match v[i]? with
  | some (some d) => .ok d S
  | _ => .bad := rfl
@[simp] theorem cE_ap {d : D} : cE d env S = .ok d S := rfl
@[simp] theorem unE_ap {f : Op1} : unE f a env S = (a env S).bind fun x S1 => R.of (f x S1) := rfl
@[simp] theorem binE_ap {f : Op2} : binE f a b env S = (a env S).bind fun x S1 => (b env S1).bind fun y S2 => R.of (f x y S2) := rfl
@[simp] theorem nilL_ap : nilL env S = .ok [] S := rfl
@[simp] theorem consL_ap : consL a m env S = (a env S).bind fun x S1 => (m env S1).bind fun xs S2 => .ok (x :: xs) S2 := rfl
@[simp] theorem callNE_ap {f : OpN} : callNE f m env S = (m env S).bind fun xs S1 => R.of (f xs S1) := rfl
@[simp] theorem callFE_ap {F : List D → Dn.S → R D} : callFE F m env S = (m env S).bind fun xs S1 => F xs S1 := rfl
@[simp] theorem methE_ap {T : String} {op : OpM} : methE T op a m env S = (a env S).bind fun x S1 => if tyD T S1 x = true then (m env S1).bind fun xs S2 => R.of (op x xs S2) else .bad := rfl
@[simp] theorem tupE_ap : tupE m env S = (m env S).bind fun xs S1 => if xs.length ≤ 1000 then .ok (.tup xs) S1 else .bad := rfl
@[simp] theorem lstE_ap {st : Bool} : lstE st m env S = (m env S).bind fun xs S1 => if xs.length ≤ 1000 then .ok (newL st xs S1).1 (newL st xs S1).2 else .bad := rfl
@[simp] theorem newL_f {ds : List D} : newL false ds S = (.lst ds, S) := rfl
@[simp] theorem newL_t {ds : List D} : newL true ds S = (.ref S.length, S ++ [.lst ds]) := rfl
@[simp] theorem newD_f {ks : List Key} {ds : List D} : newD false ks ds S = (.dic ks ds, S) := rfl
@[simp] theorem newD_t {ks : List Key} {ds : List D} : newD true ks ds S = (.ref S.length, S ++ [.dic ks ds]) := rfl
@[simp] theorem cmpB_ap : cmpB a env S = (a env S).bind fun x S1 => match x with
  | .bl b => .ok b S1
  | _ => .bad := rfl
@[simp] theorem truE_ap : truE a env S = (a env S).bind fun x S1 => match truD S1 x with
  | some b => .ok b S1
  | none => .bad := rfl
@[simp] theorem notB_ap {q : BM} : notB q env S = (q env S).bind fun b S1 => .ok (!b) S1 := rfl
@[simp] theorem andB_ap {p q : BM} : andB p q env S = (p env S).bind fun c S1 => if c = true then q env S1 else .ok false S1 := rfl
@[simp] theorem orB_ap {p q : BM} : orB p q env S = (p env S).bind fun c S1 => if c = true then .ok true S1 else q env S1 := rfl
@[simp] theorem notE_ap : notE a env S = (a env S).bind fun x S1 => match truD S1 x with
  | some b => .ok (.bl (!b)) S1
  | none => .bad := rfl
@[simp] theorem andE_ap : andE a b env S = (a env S).bind fun x S1 => match truD S1 x with
  | some true => b env S1
  | some false => .ok x S1
  | none => .bad := rfl
@[simp] theorem orE_ap : orE a b env S = (a env S).bind fun x S1 => match truD S1 x with
  | some true => .ok x S1
  | some false => b env S1
  | none => .bad := rfl
@[simp] theorem ifE_ap {q : BM} : ifE q a b env S = (q env S).bind fun k S1 => if k = true then a env S1 else b env S1 := rfl
@[simp] theorem sliceE_ap {st : Bool} {l h : OM'} : sliceE st a l h env S = (a env S).bind fun x S1 => (l env S1).bind fun lo S2 => (h env S2).bind fun hi S3 => R.of (cutD st x lo hi S3) := rfl
@[simp] theorem noP_ap : noP env S = .ok none S := rfl
@[simp] theorem trueB_ap : trueB env S = .ok true S := rfl
theorem defD_ap {n N : Nat} {ds : List D} (h : ds.length = n) : defD n N s ds S = outR (s ⟨ds.map some ++ List.replicate (N - n) none, none⟩ S) := by unfold defD; rw [if_pos h]
@[simp] theorem outR_nx : outR (.nx env S) = .ok .non S := (rfl)
@[simp] theorem outR_ret {d : D} : outR (.ret d S) = .ok d S := (rfl)
@[simp] theorem outR_exc {e : Ex} : outR (.exc e env S) = .exc e S := rfl
@[simp] theorem view_int' {i : Int} : view S (.int i) = .int i := rfl
@[simp] theorem view_str' {z : Str} : view S (.str z) = .str z := rfl
@[simp] theorem view_bl' {z : Bool} : view S (.bl z) = .bl z := rfl
@[simp] theorem view_non' : view S .non = .non := rfl
@[simp] theorem view_tup' {xs : List D} : view S (.tup xs) = .tup xs := rfl
@[simp] theorem view_lst' {xs : List D} : view S (.lst xs) = .lst xs := rfl
@[simp] theorem view_scr' {xs : List Int} : view S (.scr xs) = .scr xs := rfl
@[simp] theorem view_dic' {ks : List Key} {xs : List D} : view S (.dic ks xs) = .dic ks xs := rfl
@[simp] theorem view_ref' {n : Nat} : view S (.ref n) = refV n S[n]? := rfl
@[simp] theorem refV_lst {n : Nat} {xs : List D} : refV n (some (.lst xs)) = .lst xs := rfl
@[simp] theorem refV_dic {n : Nat} {ks : List Key} {xs : List D} : refV n (some (.dic ks xs)) = .dic ks xs := rfl
/-! operators at ints, texts -/
@[simp] theorem eqD_int {i j : Int} : eqD (.int i) (.int j) S = some (.bl (decide (i = j)), S) := rfl
@[simp] theorem neD_int {i j : Int} : neD (.int i) (.int j) S = some (.bl (!decide (i = j)), S) := rfl
@[simp] theorem eqD_str {i j : Str} : eqD (.str i) (.str j) S = some (.bl (decide (i = j)), S) := rfl
@[simp] theorem neD_str {i j : Str} : neD (.str i) (.str j) S = some (.bl (!decide (i = j)), S) := rfl
@[simp] theorem eqD_bl {i j : Bool} : eqD (.bl i) (.bl j) S = some (.bl (decide (i = j)), S) := rfl
@[simp] theorem neD_bl {i j : Bool} : neD (.bl i) (.bl j) S = some (.bl (!decide (i = j)), S) := rfl
@[simp] theorem ltD_int {i j : Int} : ltD (.int i) (.int j) S = some (.bl (decide (i < j)), S) := rfl
@[simp] theorem leD_int {i j : Int} : leD (.int i) (.int j) S = some (.bl (decide (i ≤ j)), S) := rfl
@[simp] theorem gtD_int {i j : Int} : gtD (.int i) (.int j) S = some (.bl (decide (j < i)), S) := rfl
@[simp] theorem geD_int {i j : Int} : geD (.int i) (.int j) S = some (.bl (decide (j ≤ i)), S) := rfl
@[simp] theorem addD_int {st : Bool} {i j : Int} : addD st (.int i) (.int j) S = some (.int (i + j), S) := rfl
@[simp] theorem subD_int {i j : Int} : subD (.int i) (.int j) S = some (.int (i - j), S) := rfl
@[simp] theorem mulD_int {st : Bool} {i j : Int} : mulD st (.int i) (.int j) S = if mulOk i j then some (.int (i * j), S) else none := rfl
@[simp] theorem divD_int {i j : Int} : divD (.int i) (.int j) S = if divOk j then some (.int (i / j), S) else none := rfl
@[simp] theorem modD_int {i j : Int} : modD (.int i) (.int j) S = if 0 < j then some (.int (i % j), S) else none := rfl
@[simp] theorem negD_int {i : Int} : negD (.int i) S = some (.int (-i), S) := rfl
theorem mulOk_r {i j : Int} (h : -(2 ^ 64) < j) (h2 : j < 2 ^ 64) : mulOk i j := .inr (.inr ⟨h, h2⟩)
theorem mulOk_l {i j : Int} (h : -(2 ^ 64) < i) (h2 : i < 2 ^ 64) : mulOk i j := .inr (.inl ⟨h, h2⟩)
theorem divOk_of {j : Int} (h : 0 < j) (h2 : j < 2 ^ 64) : divOk j := by
  refine ⟨h, ?_⟩
  have h3 : j.natAbs < 2 ^ 64 := by omega
  have h4 : j.natAbs ≠ 0 := by omega
  have := (Nat.log2_lt h4).mpr h3
  omega
@[simp] theorem intN_int {i : Int} : intN [.int i] S = some (.int i, S) := rfl
@[simp] theorem absN_int {i : Int} : absN [.int i] S = some (.int i.natAbs, S) := rfl
@[simp] theorem maxN_int {i j : Int} : maxN [.int i, .int j] S = some (.int (max i j), S) := rfl
@[simp] theorem minN_int {i j : Int} : minN [.int i, .int j] S = some (.int (min i j), S) := rfl
@[simp] theorem lenN_lst {xs : List D} : lenN [.lst xs] S = some (.int xs.length, S) := rfl
@[simp] theorem lenN_tup {xs : List D} : lenN [.tup xs] S = some (.int xs.length, S) := rfl
@[simp] theorem lenN_scr {xs : List Int} : lenN [.scr xs] S = some (.int xs.length, S) := rfl
theorem lenN_str {z : Str} (h : z.length ≤ sizeLine) : lenN [.str z] S = some (.int z.length, S) := by unfold lenN; simp [h]
theorem lenN_ref {n : Nat} {xs : List D} (h : S[n]? = some (.lst xs)) : lenN [.ref n] S = some (.int xs.length, S) := by unfold lenN; simp [h]
theorem atI_nat {α : Type} {xs : List α} {i : Int} {x : α} (h0 : 0 ≤ i) (h : xs[i.toNat]? = some x) : atI xs i = some x := by
  have hl := (List.getElem?_eq_some_iff.mp h).1
  unfold atI ixN
  rw [if_pos h0, if_pos (by omega)]
  exact h
theorem ixD_ref {n : Nat} {xs : List D} {i : Int} {d : D} (h : S[n]? = some (.lst xs)) (e : atI xs i = some d) : ixD (.ref n) (.int i) S = some (d, S) := by unfold ixD; simp [h, e]
theorem ixD_lst {xs : List D} {i : Int} {d : D} (e : atI xs i = some d) : ixD (.lst xs) (.int i) S = some (d, S) := by unfold ixD; simp [e]
theorem ixD_tup {xs : List D} {i : Int} {d : D} (e : atI xs i = some d) : ixD (.tup xs) (.int i) S = some (d, S) := by unfold ixD; simp [e]
theorem setD_ref {n j : Nat} {xs : List D} {i : Int} {v : D} (h : S[n]? = some (.lst xs)) (e : ixN xs.length i = some j) : setD (.ref n) (.int i) v S = some (S.set n (.lst (xs.set j v))) := by unfold setD; simp [h, e]
end
end Dn
end

section
namespace Dn.k58
open PySem L2 Dn
noncomputable section
def tb_NoTexts : List (Str × Bool) := [("PriceError", false), ("NoTexts", true)]
def tb_PriceError : List (Str × Bool) := [("PriceError", true), ("NoTexts", true)]
def b_law_hand_0_c0i : IM :=
    (seqI (sliceE false (varE 0) noP (someP (cE (.int 63)))))
def b_law_hand_0_c0e : EM :=
    (binE modD (callNE intN (consL (callNE absN (consL (callNE intN (consL (varE 2) nilL)) nilL)) nilL)) (binE powD (cE (.int 10)) (cE (.int 36))))
def b_law_hand_0_c0 : EM :=
    compE false b_law_hand_0_c0i (nameG 2) trueB b_law_hand_0_c0e [2]
def b_law_hand_0 : SM :=
    (asgS b_law_hand_0_c0 (nameG 1))
def b_law_hand_1 : SM :=
    (retS (lstE true (consL (varE 1) (consL (cE (.int 0)) (consL (cE (.int 0)) (consL (binE (addD false) (cE (.int 1409)) (binE (mulD false) (cE (.int 23)) (callNE lenN (consL (varE 1) nilL)))) (consL (cE (.int 0)) nilL)))))))
def b_law_hand : SM :=
    (seqS b_law_hand_0
    b_law_hand_1)
def d_law_hand : List D → S → R D := defD 1 3 b_law_hand
def b_slips_0t_0 : SM :=
    (raiseS "NoTexts")
def b_slips_0 : SM :=
    (ifS (orB (notB (truE (callNE isiN (consL (varE 0) (consL (cE (.val (.ty "str"))) nilL))))) (notB (truE (callNE isiN (consL (varE 1) (consL (cE (.val (.ty "str"))) nilL)))))) b_slips_0t_0 skipS)
def b_slips_1 : SM :=
    (par2S 2 3 (consL (methE "str" (splitM false) (varE 0) (consL (cE (.str "\n")) nilL)) (consL (methE "str" (splitM false) (varE 1) (consL (cE (.str "\n")) nilL)) nilL)))
def b_slips_2 : SM :=
    (asgS (callNE maxN (consL (callNE lenN (consL (varE 2) nilL)) (consL (callNE lenN (consL (varE 3) nilL)) nilL))) (nameG 4))
def b_slips_3 : SM :=
    (par2S 2 3 (consL (binE (addD false) (varE 2) (binE (mulD false) (lstE false (consL (cE .non) nilL)) (binE subD (varE 4) (callNE lenN (consL (varE 2) nilL))))) (consL (binE (addD false) (varE 3) (binE (mulD false) (lstE false (consL (cE .non) nilL)) (binE subD (varE 4) (callNE lenN (consL (varE 3) nilL))))) nilL)))
def b_slips_4_c0i : IM :=
    (ezI (consL (varE 2) (consL (varE 3) nilL)))
def b_slips_4_c0e : EM :=
    (binE (addD false) (varE 5) (cE (.int 1)))
def b_slips_4_c0t : BM :=
    (cmpB (binE neD (varE 6) (varE 7)))
def b_slips_4_c0 : EM :=
    compE false b_slips_4_c0i (tupG 2 (consG (nameG 5) (consG (tupG 2 (consG (nameG 6) (consG (nameG 7) nilG))) nilG))) b_slips_4_c0t b_slips_4_c0e [5, 6, 7]
def b_slips_4 : SM :=
    (retS (callNE tupleN (consL b_slips_4_c0 nilL)))
def b_slips : SM :=
    (seqS b_slips_0
    (seqS b_slips_1
    (seqS b_slips_2
    (seqS b_slips_3
    b_slips_4))))
def d_slips : List D → S → R D := defD 2 8 b_slips
def b_law_draw_0t_0 : SM :=
    (asgS (binE ixD (binE ixD (varE 0) (cE (.int 0))) (binE ixD (varE 0) (cE (.int 1)))) (nameG 2))
def b_law_draw_0t_1 : SM :=
    (asgS (binE (addD false) (binE ixD (varE 0) (cE (.int 1))) (cE (.int 1))) (subG (varE 0) (cE (.int 1))))
def b_law_draw_0t_2 : SM :=
    (asgS (binE modD (callNE intN (consL (binE (addD false) (binE (addD false) (binE (mulD false) (binE ixD (varE 0) (cE (.int 3))) (cE (.int 69621))) (binE (mulD false) (varE 2) (cE (.int 48271)))) (cE (.int 29))) nilL)) (cE (.int 2147483579))) (subG (varE 0) (cE (.int 3))))
def b_law_draw_0t_3t_0 : SM :=
    (asgS (varE 2) (subG (varE 0) (cE (.int 2))))
def b_law_draw_0t_3 : SM :=
    (ifS (cmpB (binE geD (varE 2) (binE powD (cE (.int 10)) (cE (.int 18))))) b_law_draw_0t_3t_0 skipS)
def b_law_draw_0 : SM :=
    (ifS (andB (cmpB (binE eqD (binE ixD (varE 0) (cE (.int 2))) (cE (.int 0)))) (cmpB (binE ltD (binE ixD (varE 0) (cE (.int 1))) (callNE lenN (consL (binE ixD (varE 0) (cE (.int 0))) nilL))))) (seqS b_law_draw_0t_0
    (seqS b_law_draw_0t_1
    (seqS b_law_draw_0t_2
    b_law_draw_0t_3))) skipS)
def b_law_draw_1t_0 : SM :=
    (asgS (binE modD (callNE intN (consL (binE ixD (varE 0) (cE (.int 2))) nilL)) (varE 1)) (nameG 3))
def b_law_draw_1t_1 : SM :=
    (asgS (binE divD (binE ixD (varE 0) (cE (.int 2))) (varE 1)) (subG (varE 0) (cE (.int 2))))
def b_law_draw_1t_2 : SM :=
    (retS (varE 3))
def b_law_draw_1 : SM :=
    (ifS (cmpB (binE gtD (binE ixD (varE 0) (cE (.int 2))) (cE (.int 0)))) (seqS b_law_draw_1t_0
    (seqS b_law_draw_1t_1
    b_law_draw_1t_2)) skipS)
def b_law_draw_2 : SM :=
    (asgS (binE (addD false) (binE ixD (varE 0) (cE (.int 4))) (cE (.int 1))) (subG (varE 0) (cE (.int 4))))
def b_law_draw_3 : SM :=
    (asgS (binE modD (callNE intN (consL (binE (mulD false) (callNE intN (consL (binE (addD false) (binE ixD (varE 0) (cE (.int 3))) (binE (mulD false) (cE (.int 8161)) (binE ixD (varE 0) (cE (.int 4))))) nilL)) (cE (.int 69621))) nilL)) (cE (.int 2147483647))) (nameG 4))
def b_law_draw_4 : SM :=
    (asgS (binE modD (callNE intN (consL (binE (mulD false) (varE 4) (binE (addD false) (binE divD (varE 4) (cE (.int 1013))) (cE (.int 48271)))) nilL)) (cE (.int 2147483647))) (nameG 4))
def b_law_draw_5 : SM :=
    (asgS (binE modD (callNE intN (consL (binE (mulD false) (varE 4) (binE (addD false) (binE divD (varE 4) (cE (.int 2011))) (cE (.int 40692)))) nilL)) (cE (.int 2147483563))) (nameG 4))
def b_law_draw_6 : SM :=
    (retS (binE modD (callNE intN (consL (binE divD (varE 4) (cE (.int 32))) nilL)) (varE 1)))
def b_law_draw : SM :=
    (seqS b_law_draw_0
    (seqS b_law_draw_1
    (seqS b_law_draw_2
    (seqS b_law_draw_3
    (seqS b_law_draw_4
    (seqS b_law_draw_5
    b_law_draw_6))))))
def d_law_draw : List D → S → R D := defD 2 5 b_law_draw
def b_law_sum_0 : SM :=
    (asgS (cE (.int 0)) (nameG 1))
def b_law_sum_1b_0 : SM :=
    (asgS (binE (addD false) (varE 1) (binE (mulD false) (methE "str" sindexM (cE (.str " ()-0123456789;abcdefghijklmnopqrstuvwxyz")) (consL (varE 3) nilL)) (binE (addD false) (binE modD (callNE intN (consL (varE 2) nilL)) (cE (.int 96))) (cE (.int 1))))) (nameG 1))
def b_law_sum_1 : SM :=
    (forS (enumI (consL (varE 0) nilL)) (tupG 2 (consG (nameG 2) (consG (nameG 3) nilG))) b_law_sum_1b_0)
def b_law_sum_2 : SM :=
    (retS (binE modD (callNE intN (consL (varE 1) nilL)) (cE (.int 97))))
def b_law_sum : SM :=
    (seqS b_law_sum_0
    (seqS b_law_sum_1
    b_law_sum_2))
def d_law_sum : List D → S → R D := defD 1 4 b_law_sum
def b_law_line_0 : SM :=
    (asgS (callFE d_law_sum (consL (varE 1) nilL)) (nameG 2))
def b_law_line_1 : SM :=
    (retS (binE (addD false) (binE (addD false) (binE (addD false) (binE (addD false) (binE (addD false) (varE 0) (cE (.str " "))) (callNE strN (consL (binE divD (varE 2) (cE (.int 10))) nilL))) (callNE strN (consL (binE modD (callNE intN (consL (varE 2) nilL)) (cE (.int 10))) nilL))) (cE (.str " "))) (varE 1)))
def b_law_line : SM :=
    (seqS b_law_line_0
    b_law_line_1)
def d_law_line : List D → S → R D := defD 2 3 b_law_line
def b_law_text_0t_0_c0i (self_ : List D → S → R D) : IM :=
    (seqI (binE ixD (varE 0) (cE (.int 1))))
def b_law_text_0t_0_c0e (self_ : List D → S → R D) : EM :=
    (callNE strN (consL (varE 2) nilL))
def b_law_text_0t_0_c0 (self_ : List D → S → R D) : EM :=
    compE false (b_law_text_0t_0_c0i self_) (nameG 2) trueB (b_law_text_0t_0_c0e self_) [2]
def b_law_text_0t_0 (self_ : List D → S → R D) : SM :=
    (asgS (binE (addD false) (b_law_text_0t_0_c0 self_) (lstE false (consL (cE (.str ";")) (consL (callNE strN (consL (binE ixD (varE 0) (cE (.int 2))) nilL)) (consL (callNE strN (consL (binE ixD (varE 0) (cE (.int 3))) nilL)) nilL))))) (nameG 1))
def b_law_text_0e_0_c0i (self_ : List D → S → R D) : IM :=
    (seqI (sliceE false (varE 0) (someP (cE (.int 1))) noP))
def b_law_text_0e_0_c0e (self_ : List D → S → R D) : EM :=
    (ifE (truE (callNE isiN (consL (varE 2) (consL (cE (.val (.ty "tuple"))) nilL)))) (callFE self_ (consL (varE 2) nilL)) (callNE strN (consL (varE 2) nilL)))
def b_law_text_0e_0_c0 (self_ : List D → S → R D) : EM :=
    compE false (b_law_text_0e_0_c0i self_) (nameG 2) trueB (b_law_text_0e_0_c0e self_) [2]
def b_law_text_0e_0 (self_ : List D → S → R D) : SM :=
    (asgS (b_law_text_0e_0_c0 self_) (nameG 1))
def b_law_text_0 (self_ : List D → S → R D) : SM :=
    (ifS (cmpB (binE eqD (binE ixD (varE 0) (cE (.int 0))) (cE (.str "list")))) (b_law_text_0t_0 self_) (b_law_text_0e_0 self_))
def b_law_text_1 (self_ : List D → S → R D) : SM :=
    (retS (methE "str" joinM (cE (.str " ")) (consL (binE (addD false) (binE (addD false) (lstE false (consL (cE (.str "(")) (consL (binE ixD (varE 0) (cE (.int 0))) nilL))) (varE 1)) (lstE false (consL (cE (.str ")")) nilL))) nilL)))
def b_law_text (self_ : List D → S → R D) : SM :=
    (seqS (b_law_text_0 self_)
    (b_law_text_1 self_))
def f_law_text : Nat → List D → S → R D
  | 0 => fun _ _ => .bad
  | n + 1 => defD 1 3 (b_law_text (f_law_text n))
def d_law_text : List D → S → R D := f_law_text 12
def b_law_leaf_0 : SM :=
    (asgS (callFE d_law_draw (consL (varE 0) (consL (cE (.int 6)) nilL))) (nameG 1))
def b_law_leaf_1t_0 : SM :=
    (retS (tupE (consL (cE (.str "flat")) (consL (binE subD (callFE d_law_draw (consL (varE 0) (consL (cE (.int 61)) nilL))) (cE (.int 30))) nilL))))
def b_law_leaf_1 : SM :=
    (ifS (cmpB (binE eqD (varE 1) (cE (.int 0)))) b_law_leaf_1t_0 skipS)
def b_law_leaf_2t_0 : SM :=
    (retS (tupE (consL (cE (.str "pieces")) nilL)))
def b_law_leaf_2 : SM :=
    (ifS (cmpB (binE eqD (varE 1) (cE (.int 1)))) b_law_leaf_2t_0 skipS)
def b_law_leaf_3t_0 : SM :=
    (retS (tupE (consL (cE (.str "step")) (consL (callFE d_law_draw (consL (varE 0) (consL (ifE (cmpB (binE gtD (callFE d_law_draw (consL (varE 0) (consL (cE (.int 4)) nilL))) (cE (.int 0)))) (cE (.int 9)) (cE (.int 30))) nilL))) nilL))))
def b_law_leaf_3 : SM :=
    (ifS (cmpB (binE eqD (varE 1) (cE (.int 2)))) b_law_leaf_3t_0 skipS)
def b_law_leaf_4_c0i : IM :=
    (range1I (consL (binE (addD false) (cE (.int 1)) (callFE d_law_draw (consL (varE 0) (consL (ifE (cmpB (binE eqD (varE 1) (cE (.int 3)))) (cE (.int 12)) (cE (.int 5))) nilL)))) nilL))
def b_law_leaf_4_c0e : EM :=
    (binE subD (callFE d_law_draw (consL (varE 0) (consL (cE (.int 41)) nilL))) (cE (.int 12)))
def b_law_leaf_4_c0 : EM :=
    compE false b_law_leaf_4_c0i (nameG 3) trueB b_law_leaf_4_c0e [3]
def b_law_leaf_4 : SM :=
    (asgS (callNE tupleN (consL b_law_leaf_4_c0 nilL)) (nameG 2))
def b_law_leaf_5 : SM :=
    (retS (tupE (consL (cE (.str "list")) (consL (varE 2) (consL (binE (addD false) (cE (.int 1)) (callFE d_law_draw (consL (varE 0) (consL (callNE minN (consL (cE (.int 6)) (consL (callNE lenN (consL (varE 2) nilL)) nilL))) nilL)))) (consL (binE subD (callFE d_law_draw (consL (varE 0) (consL (cE (.int 31)) nilL))) (cE (.int 8))) nilL))))))
def b_law_leaf : SM :=
    (seqS b_law_leaf_0
    (seqS b_law_leaf_1
    (seqS b_law_leaf_2
    (seqS b_law_leaf_3
    (seqS b_law_leaf_4
    b_law_leaf_5)))))
def d_law_leaf : List D → S → R D := defD 1 4 b_law_leaf
def b_law_lines_0 : SM :=
    (asgS (lstE false (consL (cE (.str "list")) (consL (cE (.str "plus")) (consL (cE (.str "named")) (consL (cE (.str "pieces")) (consL (cE (.str "into")) (consL (cE (.str "a")) (consL (cE (.str "ab")) (consL (cE (.str "z")) (consL (cE (.str "zzzzzzzz")) (consL (cE (.str "share")) (consL (cE (.str "min")) (consL (cE (.str "b")) nilL))))))))))))) (nameG 1))
def b_law_lines_1_c0i : IM :=
    (seqI (varE 1))
def b_law_lines_1_c0e : EM :=
    (varE 2)
def b_law_lines_1_c0t : BM :=
    (cmpB (binE gtD (callFE d_law_draw (consL (varE 0) (consL (cE (.int 3)) nilL))) (cE (.int 0))))
def b_law_lines_1_c0 : EM :=
    compE false b_law_lines_1_c0i (nameG 2) b_law_lines_1_c0t b_law_lines_1_c0e [2]
def b_law_lines_1 : SM :=
    (asgS (callNE (sortedN false) (consL b_law_lines_1_c0 nilL)) (nameG 1))
def b_law_lines_2_c0i : IM :=
    (seqI (varE 1))
def b_law_lines_2_c0e : EM :=
    (callFE d_law_line (consL (varE 2) (consL (callFE d_law_text (consL (callFE d_law_leaf (consL (varE 0) nilL)) nilL)) nilL)))
def b_law_lines_2_c0 : EM :=
    compE false b_law_lines_2_c0i (nameG 2) trueB b_law_lines_2_c0e [2]
def b_law_lines_2 : SM :=
    (retS b_law_lines_2_c0)
def b_law_lines : SM :=
    (seqS b_law_lines_0
    (seqS b_law_lines_1
    b_law_lines_2))
def d_law_lines : List D → S → R D := defD 1 3 b_law_lines
def b_law_some_0 : SM :=
    (retS (binE ixD (varE 1) (callFE d_law_draw (consL (varE 0) (consL (callNE lenN (consL (varE 1) nilL)) nilL)))))
def b_law_some : SM :=
    b_law_some_0
def d_law_some : List D → S → R D := defD 2 2 b_law_some
def b_law_other_0 : SM :=
    (asgS (varE 1) (nameG 2))
def b_law_other_1b_0 : SM :=
    (par2S 4 5 (consL (callFE d_law_draw (consL (varE 0) (consL (binE (addD false) (callNE lenN (consL (varE 2) nilL)) (cE (.int 1))) nilL))) (consL (callFE d_law_draw (consL (varE 0) (consL (binE (addD false) (callNE lenN (consL (varE 2) nilL)) (cE (.int 1))) nilL))) nilL)))
def b_law_other_1b_1 : SM :=
    (asgS (callFE d_law_draw (consL (varE 0) (consL (cE (.int 7)) nilL))) (nameG 6))
def b_law_other_1b_2t_0 : SM :=
    (asgS (binE (addD false) (binE (addD false) (sliceE false (varE 2) noP (someP (varE 4))) (callFE d_law_some (consL (varE 0) (consL (lstE false (consL (cE (.str "\n")) (consL (binE (addD false) (cE (.str "\n")) (cE (.str "\n"))) (consL (cE (.str "a")) (consL (cE (.str " ")) (consL (cE (.str "A_")) (consL (cE (.str "")) nilL))))))) nilL)))) (sliceE false (varE 2) (someP (varE 4)) noP)) (nameG 2))
def b_law_other_1b_2e_0t_0 : SM :=
    (asgS (binE (addD false) (sliceE false (varE 2) noP (someP (callNE minN (consL (varE 4) (consL (varE 5) nilL))))) (sliceE false (varE 2) (someP (callNE maxN (consL (varE 4) (consL (varE 5) nilL)))) noP)) (nameG 2))
def b_law_other_1b_2e_0e_0t_0 : SM :=
    (asgS (sliceE false (varE 2) noP (someP (varE 4))) (nameG 2))
def b_law_other_1b_2e_0e_0e_0t_0 : SM :=
    (asgS (binE (addD false) (varE 2) (callFE d_law_some (consL (varE 0) (consL (lstE false (consL (cE (.str "\n")) (consL (binE (addD false) (cE (.str "a 00 ( pieces )")) (cE (.str "\n"))) (consL (cE (.str "x")) nilL)))) nilL)))) (nameG 2))
def b_law_other_1b_2e_0e_0e_0e_0t_0 : SM :=
    (asgS (methE "str" (splitM false) (varE 2) (consL (cE (.str "\n")) nilL)) (nameG 7))
def b_law_other_1b_2e_0e_0e_0e_0t_1 : SM :=
    (asgS (callFE d_law_draw (consL (varE 0) (consL (callNE lenN (consL (varE 7) nilL)) nilL))) (nameG 8))
def b_law_other_1b_2e_0e_0e_0e_0t_2 : SM :=
    (asgS (methE "str" joinM (cE (.str "\n")) (consL (binE (addD false) (sliceE false (varE 7) noP (someP (varE 8))) (sliceE false (varE 7) (someP (binE (addD false) (varE 8) (cE (.int 1)))) noP)) nilL)) (nameG 2))
def b_law_other_1b_2e_0e_0e_0e_0e_0t_0 : SM :=
    (asgS (binE (addD false) (binE (addD false) (sliceE false (varE 2) noP (someP (varE 4))) (methE "str" upperM (sliceE false (varE 2) (someP (varE 4)) (someP (binE (addD false) (varE 4) (cE (.int 1))))) nilL)) (sliceE false (varE 2) (someP (binE (addD false) (varE 4) (cE (.int 1)))) noP)) (nameG 2))
def b_law_other_1b_2e_0e_0e_0e_0e_0e_0 : SM :=
    (asgS (callFE d_law_some (consL (varE 0) (consL (lstE false (consL (cE (.str "")) (consL (cE (.str "\n")) (consL (binE (addD false) (varE 2) (varE 2)) (consL (binE (addD false) (cE (.str "\n")) (varE 2)) nilL))))) nilL))) (nameG 2))
def b_law_other_1b_2e_0e_0e_0e_0e_0 : SM :=
    (ifS (cmpB (binE eqD (varE 6) (cE (.int 5)))) b_law_other_1b_2e_0e_0e_0e_0e_0t_0 b_law_other_1b_2e_0e_0e_0e_0e_0e_0)
def b_law_other_1b_2e_0e_0e_0e_0 : SM :=
    (ifS (cmpB (binE eqD (varE 6) (cE (.int 4)))) (seqS b_law_other_1b_2e_0e_0e_0e_0t_0
    (seqS b_law_other_1b_2e_0e_0e_0e_0t_1
    b_law_other_1b_2e_0e_0e_0e_0t_2)) b_law_other_1b_2e_0e_0e_0e_0e_0)
def b_law_other_1b_2e_0e_0e_0 : SM :=
    (ifS (cmpB (binE eqD (varE 6) (cE (.int 3)))) b_law_other_1b_2e_0e_0e_0t_0 b_law_other_1b_2e_0e_0e_0e_0)
def b_law_other_1b_2e_0e_0 : SM :=
    (ifS (cmpB (binE eqD (varE 6) (cE (.int 2)))) b_law_other_1b_2e_0e_0t_0 b_law_other_1b_2e_0e_0e_0)
def b_law_other_1b_2e_0 : SM :=
    (ifS (cmpB (binE eqD (varE 6) (cE (.int 1)))) b_law_other_1b_2e_0t_0 b_law_other_1b_2e_0e_0)
def b_law_other_1b_2 : SM :=
    (ifS (cmpB (binE eqD (varE 6) (cE (.int 0)))) b_law_other_1b_2t_0 b_law_other_1b_2e_0)
def b_law_other_1 : SM :=
    (forS (range1I (consL (callFE d_law_draw (consL (varE 0) (consL (cE (.int 4)) nilL))) nilL)) (nameG 3) (seqS b_law_other_1b_0
    (seqS b_law_other_1b_1
    b_law_other_1b_2)))
def b_law_other_2 : SM :=
    (retS (varE 2))
def b_law_other : SM :=
    (seqS b_law_other_0
    (seqS b_law_other_1
    b_law_other_2))
def d_law_other : List D → S → R D := defD 2 9 b_law_other
def b_law_slips_0 : SM :=
    (asgS (tupE (consL (lstE true (consL (lstE true nilL) nilL)) (consL (lstE true (consL (lstE true nilL) nilL)) nilL))) (tupG 2 (consG (nameG 2) (consG (nameG 3) nilG))))
def b_law_slips_1b_0b_0t_0 : SM :=
    (exprS (methE "list" appendM (varE 5) (consL (lstE true nilL) nilL)))
def b_law_slips_1b_0b_0e_0 : SM :=
    (exprS (methE "list" appendM (binE ixD (varE 5) (unE negD (cE (.int 1)))) (consL (varE 6) nilL)))
def b_law_slips_1b_0b_0 : SM :=
    (ifS (cmpB (binE eqD (varE 6) (cE (.str "\n")))) b_law_slips_1b_0b_0t_0 b_law_slips_1b_0b_0e_0)
def b_law_slips_1b_0 : SM :=
    (forS (seqI (varE 4)) (nameG 6) b_law_slips_1b_0b_0)
def b_law_slips_1 : SM :=
    (forS (seqI (tupE (consL (tupE (consL (varE 0) (consL (varE 2) nilL))) (consL (tupE (consL (varE 1) (consL (varE 3) nilL))) nilL)))) (tupG 2 (consG (nameG 4) (consG (nameG 5) nilG))) b_law_slips_1b_0)
def b_law_slips_2 : SM :=
    (asgS (callNE maxN (consL (callNE lenN (consL (varE 2) nilL)) (consL (callNE lenN (consL (varE 3) nilL)) nilL))) (nameG 7))
def b_law_slips_3_c0i : IM :=
    (range1I (consL (varE 7) nilL))
def b_law_slips_3_c0e : EM :=
    (binE (addD false) (varE 8) (cE (.int 1)))
def b_law_slips_3_c0t : BM :=
    (orB (cmpB (binE geD (varE 8) (callNE lenN (consL (varE 2) nilL)))) (orB (cmpB (binE geD (varE 8) (callNE lenN (consL (varE 3) nilL)))) (cmpB (binE neD (binE ixD (varE 2) (varE 8)) (binE ixD (varE 3) (varE 8))))))
def b_law_slips_3_c0 : EM :=
    compE false b_law_slips_3_c0i (nameG 8) b_law_slips_3_c0t b_law_slips_3_c0e [8]
def b_law_slips_3 : SM :=
    (retS (callNE tupleN (consL b_law_slips_3_c0 nilL)))
def b_law_slips : SM :=
    (seqS b_law_slips_0
    (seqS b_law_slips_1
    (seqS b_law_slips_2
    b_law_slips_3)))
def d_law_slips : List D → S → R D := defD 2 9 b_law_slips
def b_law_is_one_kind_0t_0 : SM :=
    (retS (cE (.bl false)))
def b_law_is_one_kind_0 : SM :=
    (ifS (orB (cmpB (binE neD (callNE isiN (consL (varE 0) (consL (cE (.val (.ty "bool"))) nilL))) (callNE isiN (consL (varE 1) (consL (cE (.val (.ty "bool"))) nilL))))) (cmpB (binE neD (callNE isiN (consL (varE 0) (consL (cE (.val (.ty "int"))) nilL))) (callNE isiN (consL (varE 1) (consL (cE (.val (.ty "int"))) nilL)))))) b_law_is_one_kind_0t_0 skipS)
def b_law_is_one_kind_1t_0 : SM :=
    (retS (cE (.bl false)))
def b_law_is_one_kind_1 : SM :=
    (ifS (orB (cmpB (binE neD (callNE isiN (consL (varE 0) (consL (cE (.val (.ty "tuple"))) nilL))) (callNE isiN (consL (varE 1) (consL (cE (.val (.ty "tuple"))) nilL))))) (cmpB (binE neD (callNE isiN (consL (varE 0) (consL (cE (.val (.ty "list"))) nilL))) (callNE isiN (consL (varE 1) (consL (cE (.val (.ty "list"))) nilL)))))) b_law_is_one_kind_1t_0 skipS)
def b_law_is_one_kind_2 : SM :=
    (retS (andE (binE eqD (callNE isiN (consL (varE 0) (consL (cE (.val (.ty "dict"))) nilL))) (callNE isiN (consL (varE 1) (consL (cE (.val (.ty "dict"))) nilL)))) (binE eqD (callNE isiN (consL (varE 0) (consL (cE (.val (.ty "str"))) nilL))) (callNE isiN (consL (varE 1) (consL (cE (.val (.ty "str"))) nilL))))))
def b_law_is_one_kind : SM :=
    (seqS b_law_is_one_kind_0
    (seqS b_law_is_one_kind_1
    b_law_is_one_kind_2))
def d_law_is_one_kind : List D → S → R D := defD 2 2 b_law_is_one_kind
def b_law_like_0 : SM :=
    (asgS (lstE true (consL (tupE (consL (varE 0) (consL (varE 1) nilL))) nilL)) (nameG 2))
def b_law_like_1b_0t_0 : SM :=
    (retS (cE (.bl true)))
def b_law_like_1b_0 : SM :=
    (ifS (cmpB (binE eqD (callNE lenN (consL (varE 2) nilL)) (cE (.int 0)))) b_law_like_1b_0t_0 skipS)
def b_law_like_1b_1 : SM :=
    (asgS (methE "list" popM (varE 2) nilL) (tupG 2 (consG (nameG 4) (consG (nameG 5) nilG))))
def b_law_like_1b_2t_0 : SM :=
    (retS (cE (.bl false)))
def b_law_like_1b_2 : SM :=
    (ifS (notB (truE (callFE d_law_is_one_kind (consL (varE 4) (consL (varE 5) nilL))))) b_law_like_1b_2t_0 skipS)
def b_law_like_1b_3t_0t_0 : SM :=
    (retS (cE (.bl false)))
def b_law_like_1b_3t_0 : SM :=
    (ifS (cmpB (binE neD (callNE lenN (consL (varE 4) nilL)) (callNE lenN (consL (varE 5) nilL)))) b_law_like_1b_3t_0t_0 skipS)
def b_law_like_1b_3t_1_c0i : IM :=
    (range1I (consL (callNE lenN (consL (varE 5) nilL)) nilL))
def b_law_like_1b_3t_1_c0e : EM :=
    (tupE (consL (binE ixD (varE 4) (varE 6)) (consL (binE ixD (varE 5) (varE 6)) nilL)))
def b_law_like_1b_3t_1_c0 : EM :=
    compE false b_law_like_1b_3t_1_c0i (nameG 6) trueB b_law_like_1b_3t_1_c0e [6]
def b_law_like_1b_3t_1 : SM :=
    (exprS (methE "list" extendM (varE 2) (consL b_law_like_1b_3t_1_c0 nilL)))
def b_law_like_1b_3e_0t_0_c0i : IM :=
    (seqI (varE 5))
def b_law_like_1b_3e_0t_0_c0e : EM :=
    badE
def b_law_like_1b_3e_0t_0_c0 : EM :=
    compE false b_law_like_1b_3e_0t_0_c0i (nameG 7) trueB b_law_like_1b_3e_0t_0_c0e [7]
def b_law_like_1b_3e_0t_0t_0 : SM :=
    (retS (cE (.bl false)))
def b_law_like_1b_3e_0t_0 : SM :=
    (ifS (orB (cmpB (binE neD (callNE lenN (consL (varE 4) nilL)) (callNE lenN (consL (varE 5) nilL)))) (notB (truE (callNE allN (consL b_law_like_1b_3e_0t_0_c0 nilL))))) b_law_like_1b_3e_0t_0t_0 skipS)
def b_law_like_1b_3e_0t_1_c0i : IM :=
    (seqI (varE 5))
def b_law_like_1b_3e_0t_1_c0e : EM :=
    (tupE (consL (binE ixD (varE 4) (varE 7)) (consL (binE ixD (varE 5) (varE 7)) nilL)))
def b_law_like_1b_3e_0t_1_c0 : EM :=
    compE false b_law_like_1b_3e_0t_1_c0i (nameG 7) trueB b_law_like_1b_3e_0t_1_c0e [7]
def b_law_like_1b_3e_0t_1 : SM :=
    (exprS (methE "list" extendM (varE 2) (consL b_law_like_1b_3e_0t_1_c0 nilL)))
def b_law_like_1b_3e_0e_0t_0 : SM :=
    (retS (cE (.bl false)))
def b_law_like_1b_3e_0e_0 : SM :=
    (ifS (cmpB (binE neD (varE 4) (varE 5))) b_law_like_1b_3e_0e_0t_0 skipS)
def b_law_like_1b_3e_0 : SM :=
    (ifS (truE (callNE isiN (consL (varE 5) (consL (cE (.val (.ty "dict"))) nilL)))) (seqS b_law_like_1b_3e_0t_0
    b_law_like_1b_3e_0t_1) b_law_like_1b_3e_0e_0)
def b_law_like_1b_3 : SM :=
    (ifS (orB (truE (callNE isiN (consL (varE 5) (consL (cE (.val (.ty "tuple"))) nilL)))) (truE (callNE isiN (consL (varE 5) (consL (cE (.val (.ty "list"))) nilL))))) (seqS b_law_like_1b_3t_0
    b_law_like_1b_3t_1) b_law_like_1b_3e_0)
def b_law_like_1 : SM :=
    (forS (range1I (consL (cE (.int 60000)) nilL)) (nameG 3) (seqS b_law_like_1b_0
    (seqS b_law_like_1b_1
    (seqS b_law_like_1b_2
    b_law_like_1b_3))))
def b_law_like_2 : SM :=
    (retS (cE (.bl false)))
def b_law_like : SM :=
    (seqS b_law_like_0
    (seqS b_law_like_1
    b_law_like_2))
def d_law_like : List D → S → R D := defD 2 8 b_law_like
def b_law_0 : SM :=
    (asgS (callFE d_law_hand (consL (varE 0) nilL)) (nameG 1))
def b_law_1t_0 : SM :=
    (retS (cE (.bl false)))
def b_law_1 : SM :=
    (ifS (orB (cmpB (binE neD (callFE d_slips (consL (cE (.str "")) (consL (cE (.str "")) nilL))) (tupE nilL))) (orB (cmpB (binE neD (callFE d_slips (consL (cE (.str "a")) (consL (binE (addD false) (cE (.str "a")) (cE (.str "\n"))) nilL))) (tupE (consL (cE (.int 2)) nilL)))) (cmpB (binE neD (callFE d_slips (consL (cE (.str "\n")) (consL (cE (.str "")) nilL))) (tupE (consL (cE (.int 2)) nilL)))))) b_law_1t_0 skipS)
def b_law_2b_0_c0i : IM :=
    (seqI (callFE d_law_lines (consL (varE 1) nilL)))
def b_law_2b_0_c0e : EM :=
    (binE (addD false) (varE 9) (cE (.str "\n")))
def b_law_2b_0_c0 : EM :=
    compE false b_law_2b_0_c0i (nameG 9) trueB b_law_2b_0_c0e [9]
def b_law_2b_0 : SM :=
    (asgS (methE "str" joinM (cE (.str "")) (consL b_law_2b_0_c0 nilL)) (nameG 3))
def b_law_2b_1 : SM :=
    (asgS (callFE d_law_other (consL (varE 1) (consL (varE 3) nilL))) (nameG 4))
def b_law_2b_2 : SM :=
    (asgS (ifE (cmpB (binE eqD (callFE d_law_draw (consL (varE 1) (consL (cE (.int 2)) nilL))) (cE (.int 0)))) (callFE d_law_other (consL (varE 1) (consL (varE 3) nilL))) (varE 3)) (nameG 3))
def b_law_2b_3 : SM :=
    (asgS (callFE d_law_slips (consL (varE 3) (consL (varE 4) nilL))) (nameG 5))
def b_law_2b_4t_0 : SM :=
    (retS (cE (.bl false)))
def b_law_2b_4 : SM :=
    (ifS (orB (notB (truE (callFE d_law_like (consL (callFE d_slips (consL (varE 3) (consL (varE 4) nilL))) (consL (varE 5) nilL))))) (notB (truE (callFE d_law_like (consL (callFE d_slips (consL (varE 4) (consL (varE 3) nilL))) (consL (varE 5) nilL)))))) b_law_2b_4t_0 skipS)
def b_law_2b_5t_0 : SM :=
    (retS (cE (.bl false)))
def b_law_2b_5 : SM :=
    (ifS (notB (truE (callFE d_law_like (consL (callFE d_slips (consL (varE 3) (consL (varE 3) nilL))) (consL (tupE nilL) nilL))))) b_law_2b_5t_0 skipS)
def b_law_2b_6 : SM :=
    (asgS (callFE d_law_some (consL (varE 1) (consL (lstE false (consL (cE .non) (consL (cE (.int 3)) (consL (lstE false (consL (varE 3) nilL)) (consL (tupE (consL (varE 3) nilL)) (consL (cE (.bl true)) (consL (dispE false [((cE (.str "a")), (varE 3))]) nilL))))))) nilL))) (nameG 6))
def b_law_2b_7b_0 : SM :=
    (asgS (cE (.str "told")) (nameG 8))
def b_law_2b_7b_1y_0 : SM :=
    (exprS (callFE d_slips (consL (binE ixD (varE 7) (cE (.int 0))) (consL (binE ixD (varE 7) (cE (.int 1))) nilL))))
def b_law_2b_7b_1x0_0 : SM :=
    (asgS (cE (.str "texts")) (nameG 8))
def b_law_2b_7b_1x1_0 : SM :=
    (asgS (cE (.str "other")) (nameG 8))
def b_law_2b_7b_1 : SM :=
    (tryS b_law_2b_7b_1y_0 [(tb_NoTexts, b_law_2b_7b_1x0_0), (tb_PriceError, b_law_2b_7b_1x1_0)])
def b_law_2b_7b_2t_0 : SM :=
    (retS (cE (.bl false)))
def b_law_2b_7b_2 : SM :=
    (ifS (cmpB (binE neD (varE 8) (cE (.str "texts")))) b_law_2b_7b_2t_0 skipS)
def b_law_2b_7 : SM :=
    (forS (seqI (tupE (consL (tupE (consL (varE 6) (consL (varE 3) nilL))) (consL (tupE (consL (varE 3) (consL (varE 6) nilL))) (consL (tupE (consL (varE 6) (consL (varE 6) nilL))) nilL))))) (nameG 7) (seqS b_law_2b_7b_0
    (seqS b_law_2b_7b_1
    b_law_2b_7b_2)))
def b_law_2 : SM :=
    (forS (range1I (consL (cE (.int 6)) nilL)) (nameG 2) (seqS b_law_2b_0
    (seqS b_law_2b_1
    (seqS b_law_2b_2
    (seqS b_law_2b_3
    (seqS b_law_2b_4
    (seqS b_law_2b_5
    (seqS b_law_2b_6
    b_law_2b_7))))))))
def b_law_3 : SM :=
    (retS (cE (.bl true)))
def b_law : SM :=
    (seqS b_law_0
    (seqS b_law_1
    (seqS b_law_2
    b_law_3)))
def d_law : List D → S → R D := defD 1 10 b_law
end
end Dn.k58
end

section
namespace Dn
open PySem L2
@[simp] theorem defD_ap' {n N : Nat} {s : SM} {ds : List D} {S : Dn.S} : defD n N s ds S = if ds.length = n then outR (s ⟨ds.map some ++ List.replicate (N - n) none, none⟩ S) else .bad := rfl
theorem set_same {S : Dn.S} {n : Nat} {o : O} (h : S[n]? = some o) : S.set n o = S := by
  apply List.ext_getElem?
  intro i
  by_cases e : n = i
  · subst e
    rw [List.getElem?_set_self (List.getElem?_eq_some_iff.mp h).1, h]
  · rw [List.getElem?_set_ne e]
namespace k58
/-! # the draws -/
structure Hand where
  cells : List Int
  pos : Int
  big : Int
  seed : Int
  cnt : Int
def Hand.o (h : Hand) : O := .lst [.lst (h.cells.map .int), .int h.pos, .int h.big, .int h.seed, .int h.cnt]
section
variable {S : Dn.S} {n : Nat} {h : Hand}
theorem ix_hand0 (hS : S[n]? = some h.o) : ixD (.ref n) (.int 0) S = some (.lst (h.cells.map .int), S) := ixD_ref hS rfl
theorem ix_hand1 (hS : S[n]? = some h.o) : ixD (.ref n) (.int 1) S = some (.int h.pos, S) := ixD_ref hS rfl
theorem ix_hand2 (hS : S[n]? = some h.o) : ixD (.ref n) (.int 2) S = some (.int h.big, S) := ixD_ref hS rfl
theorem ix_hand3 (hS : S[n]? = some h.o) : ixD (.ref n) (.int 3) S = some (.int h.seed, S) := ixD_ref hS rfl
theorem ix_hand4 (hS : S[n]? = some h.o) : ixD (.ref n) (.int 4) S = some (.int h.cnt, S) := ixD_ref hS rfl
theorem set_hand1 (hS : S[n]? = some h.o) {i : Int} : setD (.ref n) (.int 1) (.int i) S = some (S.set n (Hand.o { h with pos := i })) := setD_ref (j := 1) hS rfl
theorem set_hand2 (hS : S[n]? = some h.o) {i : Int} : setD (.ref n) (.int 2) (.int i) S = some (S.set n (Hand.o { h with big := i })) := setD_ref (j := 2) hS rfl
theorem set_hand3 (hS : S[n]? = some h.o) {i : Int} : setD (.ref n) (.int 3) (.int i) S = some (S.set n (Hand.o { h with seed := i })) := setD_ref (j := 3) hS rfl
theorem set_hand4 (hS : S[n]? = some h.o) {i : Int} : setD (.ref n) (.int 4) (.int i) S = some (S.set n (Hand.o { h with cnt := i })) := setD_ref (j := 4) hS rfl
theorem at_set {o o' : O} (hS : S[n]? = some o) : (S.set n o')[n]? = some o' := List.getElem?_set_self (List.getElem?_eq_some_iff.mp hS).1
theorem mulOk_c {i j : Int} (h : -(2 ^ 64) < j ∧ j < 2 ^ 64) : mulOk i j := .inr (.inr h)
theorem draw_0t_0 {a b c d : Option D} {cell : Int} (hS : S[n]? = some h.o) (h0 : 0 ≤ h.pos) (hc : h.cells[h.pos.toNat]? = some cell) : b_law_draw_0t_0 ⟨[some (.ref n), a, b, c, d], none⟩ S = .nx ⟨[some (.ref n), a, some (.int cell), c, d], none⟩ S := by
  have e1 : ixD (.lst (h.cells.map .int)) (.int h.pos) S = some (.int cell, S) := ixD_lst (atI_nat h0 (by rw [List.getElem?_map, hc]; rfl))
  simp [b_law_draw_0t_0, ix_hand0 hS, ix_hand1 hS, e1]
theorem draw_0t_1 {v : List (Option D)} (hS : S[n]? = some h.o) : b_law_draw_0t_1 ⟨some (.ref n) :: v, none⟩ S = .nx ⟨some (.ref n) :: v, none⟩ (S.set n (Hand.o { h with pos := h.pos + 1 })) := by
  simp [b_law_draw_0t_1, ix_hand1 hS, set_hand1 hS]
theorem draw_0t_2 {a c d : Option D} {cell : Int} (hS : S[n]? = some h.o) : b_law_draw_0t_2 ⟨[some (.ref n), a, some (.int cell), c, d], none⟩ S = .nx ⟨[some (.ref n), a, some (.int cell), c, d], none⟩ (S.set n (Hand.o { h with seed := (h.seed * 69621 + cell * 48271 + 29) % 2147483579 })) := by
  have m1 : mulOk h.seed 69621 := mulOk_c ⟨by decide, by decide⟩
  have m2 : mulOk cell 48271 := mulOk_c ⟨by decide, by decide⟩
  simp [b_law_draw_0t_2, ix_hand3 hS, set_hand3 hS, m1, m2]
theorem pow_10 {k : Nat} {S : Dn.S} (h : k ≤ 1000000) : powD (.int 10) (.int k) S = some (.int (10 ^ k), S) := by
  unfold powD
  have : powOk 10 k := ⟨by omega, by omega, by decide⟩
  simp [this]
theorem draw_0t_3 {a c d : Option D} {cell : Int} (hS : S[n]? = some h.o) : ∃ i, b_law_draw_0t_3 ⟨[some (.ref n), a, some (.int cell), c, d], none⟩ S = .nx ⟨[some (.ref n), a, some (.int cell), c, d], none⟩ (S.set n (Hand.o { h with big := i })) := by
  have p := pow_10 (k := 18) (S := S) (by decide)
  by_cases hc : (1000000000000000000 : Int) ≤ cell
  · exact ⟨cell, by simp [b_law_draw_0t_3, b_law_draw_0t_3t_0, show powD (.int 10) (.int 18) S = _ from p, hc, set_hand2 hS]⟩
  · exact ⟨h.big, by simp [b_law_draw_0t_3, b_law_draw_0t_3t_0, show powD (.int 10) (.int 18) S = _ from p, hc, set_same hS]⟩
theorem draw_0 {a b c d : Option D} (hS : S[n]? = some h.o) (h0 : 0 ≤ h.pos) : ∃ h' x, b_law_draw_0 ⟨[some (.ref n), a, b, c, d], none⟩ S = .nx ⟨[some (.ref n), a, x, c, d], none⟩ (S.set n (Hand.o h')) ∧ 0 ≤ h'.pos := by
  unfold b_law_draw_0
  by_cases c1 : h.big = 0
  · by_cases c2 : h.pos < h.cells.length
    · obtain ⟨cell, hc⟩ : ∃ cell, h.cells[h.pos.toNat]? = some cell := ⟨_, List.getElem?_eq_getElem (by omega)⟩
      have e1 := draw_0t_0 (a := a) (b := b) (c := c) (d := d) hS h0 hc
      have e2 := draw_0t_1 (v := [a, some (.int cell), c, d]) hS
      have e3 := draw_0t_2 (a := a) (c := c) (d := d) (cell := cell) (at_set hS (o' := Hand.o { h with pos := h.pos + 1 }))
      obtain ⟨i, e4⟩ := draw_0t_3 (a := a) (c := c) (d := d) (cell := cell) (at_set (at_set hS (o' := Hand.o { h with pos := h.pos + 1 })) (o' := Hand.o { h with pos := h.pos + 1, seed := (h.seed * 69621 + cell * 48271 + 29) % 2147483579 }))
      refine ⟨{ h with pos := h.pos + 1, seed := (h.seed * 69621 + cell * 48271 + 29) % 2147483579, big := i }, some (.int cell), ?_, ?_⟩
      · simp [ix_hand0 hS, ix_hand1 hS, ix_hand2 hS, c1, c2]
        rw [e1]
        simp only [rsb_nx, seqS_ap]
        rw [e2]
        simp only [rsb_nx, seqS_ap]
        rw [e3]
        simp only [rsb_nx, seqS_ap]
        rw [e4]
        simp only [List.set_set]
      · show 0 ≤ h.pos + 1
        omega
    · simp [ix_hand0 hS, ix_hand1 hS, ix_hand2 hS, c1, c2]
      exact ⟨h, by rw [set_same hS], h0⟩
  · simp [ix_hand2 hS, c1]
    exact ⟨h, by rw [set_same hS], h0⟩
theorem draw_ok {size : Int} (hS : S[n]? = some h.o) (h0 : 0 ≤ h.pos) (h1 : 0 < size) (h2 : size < 2 ^ 64) :
    ∃ r h', d_law_draw [.ref n, .int size] S = .ok (.int r) (S.set n (Hand.o h')) ∧ 0 ≤ h'.pos ∧ 0 ≤ r ∧ r < size := by
  obtain ⟨g, x, e0, p0⟩ := draw_0 (a := some (.int size)) (b := none) (c := none) (d := none) hS h0
  have hG := at_set hS (o' := g.o)
  have dv := divOk_of h1 h2
  unfold d_law_draw b_law_draw
  simp only [defD_ap', List.length_cons, List.length_nil, Nat.zero_add, Nat.reduceAdd, if_true, List.map_cons, List.map_nil, Nat.reduceSub, List.reduceReplicate, List.cons_append, List.nil_append, seqS_ap]
  rw [e0]
  simp only [rsb_nx, seqS_ap]
  by_cases c1 : 0 < g.big
  · have hd : divD (.int g.big) (.int size) (S.set n g.o) = some (.int (g.big / size), S.set n g.o) := by simp [dv]
    refine ⟨g.big % size, { g with big := g.big / size }, ?_, p0, Int.emod_nonneg _ (by omega), Int.emod_lt_of_pos _ h1⟩
    simp [b_law_draw_1, b_law_draw_1t_0, b_law_draw_1t_1, b_law_draw_1t_2, ix_hand2 hG, c1, h1, dv, set_hand2 hG]
  · have hG2 := at_set hS (o' := Hand.o { g with cnt := g.cnt + 1 })
    have m1 : ∀ i : Int, mulOk i 69621 := fun i => mulOk_c ⟨by decide, by decide⟩
    have m2 : ∀ i : Int, mulOk 8161 i := fun i => mulOk_l (by decide) (by decide)
    have d1 : divOk 1013 := divOk_of (by decide) (by decide)
    have d2 : divOk 2011 := divOk_of (by decide) (by decide)
    have d3 : divOk 32 := divOk_of (by decide) (by decide)
    have m3 : ∀ i j : Int, mulOk (i % 2147483647) j := fun i j => mulOk_l (by omega) (by omega)
    have key : ∃ a, ((b_law_draw_1 ⟨[some (.ref n), some (.int size), x, none, none], none⟩ (S.set n g.o)).bind (seqS b_law_draw_2 (seqS b_law_draw_3 (seqS b_law_draw_4 (seqS b_law_draw_5 b_law_draw_6))))) = .ret (.int (a % size)) ((S.set n g.o).set n (Hand.o { g with cnt := g.cnt + 1 })) := by
      refine ⟨(((((g.seed + 8161 * (g.cnt + 1)) * 69621) % 2147483647 * (((g.seed + 8161 * (g.cnt + 1)) * 69621) % 2147483647 / 1013 + 48271)) % 2147483647) * ((((g.seed + 8161 * (g.cnt + 1)) * 69621) % 2147483647 * (((g.seed + 8161 * (g.cnt + 1)) * 69621) % 2147483647 / 1013 + 48271)) % 2147483647 / 2011 + 40692)) % 2147483563 / 32, ?_⟩
      simp [b_law_draw_1, b_law_draw_2, b_law_draw_3, b_law_draw_4, b_law_draw_5, b_law_draw_6, ix_hand2 hG, c1, h1, ix_hand4 hG, set_hand4 hG, ix_hand3 hG2, ix_hand4 hG2, m1, m2, m3, d1, d2, d3]
    obtain ⟨a, ha⟩ := key
    refine ⟨a % size, { g with cnt := g.cnt + 1 }, ?_, p0, Int.emod_nonneg _ (by omega), Int.emod_lt_of_pos _ h1⟩
    rw [ha]
    simp
end
end k58
end Dn
end

section
namespace Dn
open PySem L2
/-! ### comprehensions, loops, reckoned out -/
section
variable {gd : Dn.S → Prop} {g : GM} {b : SM} {t : BM} {e : EM} {env : Sl}
/-- a comprehension's items, one by one -/
theorem compL_ok (I : Dn.S → Prop) (P : D → Prop) (hgd : ∀ S, I S → gd S) : ∀ (xs : List D) (S : Dn.S), I S →
    (∀ x ∈ xs, ∀ S, I S → ∃ env1 S1 k S2, g x env S = .nx env1 S1 ∧ t env1 S1 = .ok k S2 ∧ (k = true → ∃ y S3, e env1 S2 = .ok y S3 ∧ I S3 ∧ P y) ∧ (k = false → I S2)) →
    ∃ ys S', compL gd g t e env xs S = .ok ys S' ∧ I S' ∧ (∀ y ∈ ys, P y) ∧ ys.length ≤ xs.length
  | [], S, hI, _ => ⟨[], S, by unfold compL; rw [if_pos (hgd S hI)], hI, by simp, Nat.le_refl _⟩
  | x :: xs, S, hI, step => by
    obtain ⟨env1, S1, k, S2, h1, h2, h3, h4⟩ := step x List.mem_cons_self S hI
    unfold compL
    rw [if_pos (hgd S hI), h1]
    dsimp only
    rw [h2]
    dsimp only
    cases k with
    | true =>
      obtain ⟨y, S3, h5, h6, h7⟩ := h3 rfl
      rw [if_pos rfl, h5]
      obtain ⟨ys, S', q1, q2, q3, q4⟩ := compL_ok I P hgd xs S3 h6 fun x hx => step x (List.mem_cons_of_mem _ hx)
      dsimp only
      rw [q1]
      refine ⟨y :: ys, S', rfl, q2, fun z hz => ?_, by simp; omega⟩
      rcases List.mem_cons.mp hz with rfl | hz
      · exact h7
      · exact q3 z hz
    | false =>
      rw [if_neg Bool.false_ne_true]
      obtain ⟨ys, S', q1, q2, q3, q4⟩ := compL_ok I P hgd xs S2 (h4 rfl) fun x hx => step x (List.mem_cons_of_mem _ hx)
      exact ⟨ys, S', q1, q2, q3, by simp; omega⟩
/-- a comprehension that reckons without changing a thing, without a test -/
theorem compL_map {f : D → D} {S : Dn.S} (hgd : gd S) : ∀ (xs : List D), (∀ x ∈ xs, ∃ env1, g x env S = .nx env1 S ∧ t env1 S = .ok true S ∧ e env1 S = .ok (f x) S) → compL gd g t e env xs S = .ok (xs.map f) S
  | [], _ => by unfold compL; rw [if_pos hgd]; rfl
  | x :: xs, step => by
    obtain ⟨env1, h1, h2, h3⟩ := step x List.mem_cons_self
    unfold compL
    rw [if_pos hgd, h1]
    dsimp only
    rw [h2]
    dsimp only
    rw [if_pos rfl, h3]
    dsimp only
    rw [compL_map hgd xs fun x hx => step x (List.mem_cons_of_mem _ hx)]
    rfl
/-- .. with a test -/
theorem compL_fm {f : D → Option D} {S : Dn.S} (hgd : gd S) : ∀ (xs : List D), (∀ x ∈ xs, ∃ env1, g x env S = .nx env1 S ∧ ((∃ y, f x = some y ∧ t env1 S = .ok true S ∧ e env1 S = .ok y S) ∨ (f x = none ∧ t env1 S = .ok false S))) → compL gd g t e env xs S = .ok (xs.filterMap f) S
  | [], _ => by unfold compL; rw [if_pos hgd]; rfl
  | x :: xs, step => by
    obtain ⟨env1, h1, h2⟩ := step x List.mem_cons_self
    have ih := compL_fm hgd xs fun x hx => step x (List.mem_cons_of_mem _ hx)
    unfold compL
    rw [if_pos hgd, h1]
    dsimp only
    rcases h2 with ⟨y, h3, h4, h5⟩ | ⟨h3, h4⟩
    · rw [h4]
      dsimp only
      rw [if_pos rfl, h5]
      dsimp only
      rw [ih, List.filterMap_cons, h3]
      rfl
    · rw [h4]
      dsimp only
      rw [if_neg Bool.false_ne_true, ih, List.filterMap_cons, h3]
theorem compE_ap {st : Bool} {mi : IM} {sl : List Nat} {env : Sl} {S S1 : Dn.S} {xs : List D} (h : mi env S = .ok (xs, gd) S1) (hl : xs.length ≤ sizeLine) {ys : List D} {S2 : Dn.S} (hc : compL gd g t e (wipeE env sl) xs S1 = .ok ys S2) :
    compE st mi g t e sl env S = .ok (newL st ys S2).1 (newL st ys S2).2 := by
  unfold compE
  rw [h, R.bind_ok]
  dsimp only
  rw [if_pos hl, hc]
/-- a loop, turn by turn -/
theorem forL_ok (I : Sl → Dn.S → Prop) (hgd : ∀ env S, I env S → gd S) : ∀ (xs : List D) (env : Sl) (S : Dn.S), I env S →
    (∀ x ∈ xs, ∀ env S, I env S → ∃ env1 S1, (g x env S).only.bind b = .nx env1 S1 ∧ I env1 S1) → ∃ env' S', forL gd g b xs env S = .nx env' S' ∧ I env' S'
  | [], env, S, hI, _ => ⟨env, S, by unfold forL; rw [if_pos (hgd env S hI)], hI⟩
  | x :: xs, env, S, hI, step => by
    obtain ⟨env1, S1, h1, h2⟩ := step x List.mem_cons_self env S hI
    obtain ⟨env', S', q1, q2⟩ := forL_ok I hgd xs env1 S1 h2 fun x hx => step x (List.mem_cons_of_mem _ hx)
    refine ⟨env', S', ?_, q2⟩
    unfold forL
    rw [if_pos (hgd env S hI), h1]
    exact q1
theorem forS_ap {mi : IM} {env : Sl} {S S1 : Dn.S} {xs : List D} (h : mi env S = .ok (xs, gd) S1) : forS mi g b env S = forL gd g b xs env S1 := by
  unfold forS
  rw [h]
end
namespace k58
/-! # what the hand draws, as it is seen by the rest -/
abbrev H0 (S : Dn.S) : Prop := ∃ h : Hand, S[0]? = some h.o ∧ 0 ≤ h.pos
/-- the rest of the store stays -/
structure Same (S S' : Dn.S) : Prop where
  len : S'.length = S.length
  at_ : ∀ k, k ≠ 0 → S'[k]? = S[k]?
theorem Same.refl {S : Dn.S} : Same S S := ⟨rfl, fun _ _ => rfl⟩
theorem Same.trans {S S1 S2 : Dn.S} (a : Same S S1) (b : Same S1 S2) : Same S S2 := ⟨b.len.trans a.len, fun k h => (b.at_ k h).trans (a.at_ k h)⟩
section
variable {S : Dn.S}
theorem draw' {size : Int} (hS : H0 S) (h1 : 0 < size) (h2 : size < 2 ^ 64) : ∃ r S', d_law_draw [.ref 0, .int size] S = .ok (.int r) S' ∧ H0 S' ∧ 0 ≤ r ∧ r < size ∧ Same S S' := by
  obtain ⟨h, e, h0⟩ := hS
  obtain ⟨r, h', q1, q2, q3, q4⟩ := draw_ok e h0 h1 h2
  exact ⟨r, _, q1, ⟨h', at_set e, q2⟩, q3, q4, ⟨List.length_set, fun k hk => List.getElem?_set_ne (Ne.symm hk)⟩⟩
theorem some' {xs : List D} (hS : H0 S) (h1 : 0 < xs.length) (h2 : xs.length < 2 ^ 63) : ∃ x ∈ xs, ∃ S', d_law_some [.ref 0, .lst xs] S = .ok x S' ∧ H0 S' ∧ Same S S' := by
  obtain ⟨r, S', q1, q2, q3, q4, q5⟩ := draw' (size := xs.length) hS (by omega) (by omega)
  have hr : r.toNat < xs.length := by omega
  refine ⟨xs[r.toNat], List.getElem_mem hr, S', ?_, q2, q5⟩
  have e : ixD (.lst xs) (.int r) S' = some (xs[r.toNat], S') := ixD_lst (atI_nat q3 (List.getElem?_eq_getElem hr))
  simp [d_law_some, b_law_some, b_law_some_0, q1, e]
end
end k58
end Dn
end

section
namespace Dn.k58
open PySem L2 Dn
abbrev Small (i : Int) : Prop := -30 ≤ i ∧ i ≤ 30
/-- one item for each that is walked -/
theorem compL_okn {gd : Dn.S → Prop} {g : GM} {t : BM} {e : EM} {env : Sl} (I : Dn.S → Prop) (P : D → Prop) (hgd : ∀ S, I S → gd S) : ∀ (xs : List D) (S : Dn.S), I S →
    (∀ x ∈ xs, ∀ S, I S → ∃ env1 S1 S2, g x env S = .nx env1 S1 ∧ t env1 S1 = .ok true S2 ∧ ∃ y S3, e env1 S2 = .ok y S3 ∧ I S3 ∧ P y) →
    ∃ ys S', compL gd g t e env xs S = .ok ys S' ∧ I S' ∧ (∀ y ∈ ys, P y) ∧ ys.length = xs.length
  | [], S, hI, _ => ⟨[], S, by unfold compL; rw [if_pos (hgd S hI)], hI, by simp, rfl⟩
  | x :: xs, S, hI, step => by
    obtain ⟨env1, S1, S2, h1, h2, y, S3, h5, h6, h7⟩ := step x List.mem_cons_self S hI
    obtain ⟨ys, S', q1, q2, q3, q4⟩ := compL_okn I P hgd xs S3 h6 fun x hx => step x (List.mem_cons_of_mem _ hx)
    unfold compL
    rw [if_pos (hgd S hI), h1]
    dsimp only
    rw [h2]
    dsimp only
    rw [if_pos rfl, h5]
    dsimp only
    rw [q1]
    refine ⟨y :: ys, S', rfl, q2, fun z hz => ?_, by simp [q4]⟩
    rcases List.mem_cons.mp hz with rfl | hz
    · exact h7
    · exact q3 z hz
/-- a draft -/
inductive Leaf : D → Prop
  | flat {i : Int} (h : Small i) : Leaf (.tup [.str "flat", .int i])
  | pieces : Leaf (.tup [.str "pieces"])
  | step {i : Int} (h : Small i) : Leaf (.tup [.str "step", .int i])
  | list {ps : List Int} {k r : Int} (h0 : ps ≠ []) (h1 : ps.length ≤ 12) (h2 : ∀ p ∈ ps, Small p) (hk : Small k) (hr : Small r) : Leaf (.tup [.str "list", .tup (ps.map .int), .int k, .int r])
section
variable {S : Dn.S}
theorem range1_ap {env : Sl} {m : LM} {S1 : Dn.S} {j : Int} (h : m env S = .ok [.int j] S1) (h0 : 0 ≤ j) (h1 : j < 2 ^ 62) : range1I m env S = .ok (rangeL 0 j, fun _ => True) S1 := by
  unfold range1I
  rw [h, R.bind_ok]
  dsimp only
  rw [if_pos ⟨by omega, h1⟩]
theorem rangeL_len (j : Int) : (rangeL 0 j).length = j.toNat := by unfold rangeL; simp
theorem ints_of {ds : List D} {P : Int → Prop} (h : ∀ d ∈ ds, ∃ i, d = .int i ∧ P i) : ∃ is : List Int, ds = is.map .int ∧ ∀ i ∈ is, P i := by
  induction ds with
  | nil => exact ⟨[], rfl, by simp⟩
  | cons d ds ih =>
    obtain ⟨is, e, hi⟩ := ih fun d hd => h d (List.mem_cons_of_mem _ hd)
    obtain ⟨i, rfl, hp⟩ := h d List.mem_cons_self
    exact ⟨i :: is, by rw [e]; rfl, fun j hj => by rcases List.mem_cons.mp hj with rfl | hj; exact hp; exact hi j hj⟩
theorem leaf' (hS : H0 S) : ∃ d S', d_law_leaf [.ref 0] S = .ok d S' ∧ H0 S' ∧ Same S S' ∧ Leaf d := by
  obtain ⟨kind, S1, k1, k2, k3, k4, k5⟩ := draw' (size := 6) hS (by decide) (by decide)
  unfold d_law_leaf b_law_leaf
  by_cases c0 : kind = 0
  · subst c0
    obtain ⟨r, S2, q1, q2, q3, q4, q5⟩ := draw' (size := 61) k2 (by decide) (by decide)
    refine ⟨.tup [.str "flat", .int (r - 30)], S2, ?_, q2, k5.trans q5, .flat ⟨by omega, by omega⟩⟩
    simp [b_law_leaf_0, b_law_leaf_1, b_law_leaf_1t_0, k1, q1]
  by_cases c1 : kind = 1
  · subst c1
    refine ⟨.tup [.str "pieces"], S1, ?_, k2, k5, .pieces⟩
    simp [b_law_leaf_0, b_law_leaf_1, b_law_leaf_2, b_law_leaf_2t_0, k1]
  by_cases c2 : kind = 2
  · subst c2
    obtain ⟨r, S2, q1, q2, q3, q4, q5⟩ := draw' (size := 4) k2 (by decide) (by decide)
    obtain ⟨i, S3, p1, p2, p3, p4, p5⟩ : ∃ i S3, d_law_draw [.ref 0, .int (if 0 < r then 9 else 30)] S2 = .ok (.int i) S3 ∧ H0 S3 ∧ 0 ≤ i ∧ i < 30 ∧ Same S2 S3 := by
      by_cases hr : 0 < r
      · obtain ⟨i, S3, p1, p2, p3, p4, p5⟩ := draw' (size := 9) q2 (by decide) (by decide)
        exact ⟨i, S3, by rw [if_pos hr]; exact p1, p2, p3, by omega, p5⟩
      · obtain ⟨i, S3, p1, p2, p3, p4, p5⟩ := draw' (size := 30) q2 (by decide) (by decide)
        exact ⟨i, S3, by rw [if_neg hr]; exact p1, p2, p3, by omega, p5⟩
    refine ⟨.tup [.str "step", .int i], S3, ?_, p2, (k5.trans q5).trans p5, .step ⟨by omega, by omega⟩⟩
    by_cases hr : 0 < r
    · rw [if_pos hr] at p1
      simp [b_law_leaf_0, b_law_leaf_1, b_law_leaf_2, b_law_leaf_3, b_law_leaf_3t_0, k1, q1, hr, p1]
    · rw [if_neg hr] at p1
      simp [b_law_leaf_0, b_law_leaf_1, b_law_leaf_2, b_law_leaf_3, b_law_leaf_3t_0, k1, q1, hr, p1]
  · -- a list
    obtain ⟨m, S2, q1, q2, q3, q4, q5⟩ : ∃ i S3, d_law_draw [.ref 0, .int (if kind = 3 then 12 else 5)] S1 = .ok (.int i) S3 ∧ H0 S3 ∧ 0 ≤ i ∧ i < 12 ∧ Same S1 S3 := by
      by_cases hr : kind = 3
      · obtain ⟨i, S3, p1, p2, p3, p4, p5⟩ := draw' (size := 12) k2 (by decide) (by decide)
        exact ⟨i, S3, by rw [if_pos hr]; exact p1, p2, p3, by omega, p5⟩
      · obtain ⟨i, S3, p1, p2, p3, p4, p5⟩ := draw' (size := 5) k2 (by decide) (by decide)
        exact ⟨i, S3, by rw [if_neg hr]; exact p1, p2, p3, by omega, p5⟩
    obtain ⟨ds, S3, p1, p2, p3, p4⟩ : ∃ ds S3, b_law_leaf_4_c0 ⟨[some (.ref 0), some (.int kind), none, none], none⟩ S1 = .ok (.lst ds) S3 ∧ (H0 S3 ∧ Same S2 S3) ∧ (∀ y ∈ ds, ∃ i, y = .int i ∧ Small i) ∧ ds.length = m.toNat + 1 := by
      have hi : b_law_leaf_4_c0i ⟨[some (.ref 0), some (.int kind), none, none], none⟩ S1 = .ok (rangeL 0 (1 + m), fun _ => True) S2 := by
        refine range1_ap ?_ (by omega) (by omega)
        by_cases hr : kind = 3
        · rw [if_pos hr] at q1
          simp [hr, q1]
        · rw [if_neg hr] at q1
          simp [hr, q1]
      obtain ⟨ys, S', c1, c2, c3, c4⟩ := compL_okn (gd := fun _ => True) (g := nameG 3) (t := trueB) (e := b_law_leaf_4_c0e) (env := ⟨[some (.ref 0), some (.int kind), none, none], none⟩) (fun S' => H0 S' ∧ Same S2 S') (fun y => ∃ i, y = .int i ∧ Small i) (fun _ _ => trivial) (rangeL 0 (1 + m)) S2 ⟨q2, .refl⟩ fun x hx S4 hS4 => by
        obtain ⟨r, S5, r1, r2, r3, r4, r5⟩ := draw' (size := 41) hS4.1 (by decide) (by decide)
        refine ⟨_, _, _, rfl, rfl, .int (r - 12), S5, ?_, ⟨r2, hS4.2.trans r5⟩, r - 12, rfl, by omega, by omega⟩
        simp [b_law_leaf_4_c0e, r1]
      refine ⟨ys, S', ?_, c2, c3, ?_⟩
      · exact compE_ap hi (by rw [rangeL_len, sizeLine_eq]; omega) c1
      · rw [c4, rangeL_len]; omega
    obtain ⟨ps, rfl, hps⟩ := ints_of p3
    rw [List.length_map] at p4
    obtain ⟨k, S4, w1, w2, w3, w4, w5⟩ := draw' (size := min 6 (ps.length : Int)) p2.1 (by omega) (by omega)
    obtain ⟨r, S5, v1, v2, v3, v4, v5⟩ := draw' (size := 31) w2 (by decide) (by decide)
    refine ⟨.tup [.str "list", .tup (ps.map .int), .int (1 + k), .int (r - 8)], S5, ?_, v2, ((((k5.trans q5).trans p2.2).trans w5).trans v5), .list (by intro e; rw [e] at p4; simp at p4) (by omega) hps ⟨by omega, by omega⟩ ⟨by omega, by omega⟩⟩
    have z0 : ∀ S : Dn.S, b_law_leaf_0 ⟨[some (.ref 0), none, none, none], none⟩ S = (toRS (fun d S1 => RS.nx ⟨[some (.ref 0), some d, none, none], none⟩ S1) ⟨[some (.ref 0), none, none, none], none⟩ (d_law_draw [.ref 0, .int 6] S)) := fun S => by
      simp [b_law_leaf_0]
    simp [z0, b_law_leaf_1, b_law_leaf_2, b_law_leaf_3, b_law_leaf_4, b_law_leaf_5, k1, c0, c1, c2, p1, w1, v1, tupleN]
end
end Dn.k58
end

section
namespace Dn.k58
open PySem L2 Dn
/-! # texts -/
abbrev AlS : Str := " ()-0123456789;abcdefghijklmnopqrstuvwxyz"
abbrev Good (z : Str) : Prop := ∀ c ∈ z.cps.toList, c ∈ AlS.cps.toList
theorem app_cps (a b : Str) : (a ++ b).cps = a.cps ++ b.cps := rfl
theorem app_list (a b : Str) : (a ++ b).cps.toList = a.cps.toList ++ b.cps.toList := by rw [app_cps, Array.toList_append]
theorem app_len (a b : Str) : (a ++ b).length = a.length + b.length := Str.length_append a b
theorem good_app {P : Nat → Prop} {a b : Str} (h : ∀ c ∈ a.cps.toList, P c) (k : ∀ c ∈ b.cps.toList, P c) : ∀ c ∈ (a ++ b).cps.toList, P c := by
  intro c hc
  rw [app_list] at hc
  rcases List.mem_append.mp hc with hc | hc
  · exact h c hc
  · exact k c hc
theorem good_joinS {P : Nat → Prop} {sep : Str} (hs : ∀ c ∈ sep.cps.toList, P c) : ∀ xs : List Str, (∀ x ∈ xs, ∀ c ∈ x.cps.toList, P c) → ∀ c ∈ (Str.join sep xs).cps.toList, P c
  | [], _, c, hc => by simp [Str.join, Str.empty] at hc
  | [x], h, c, hc => h x List.mem_cons_self c hc
  | x :: y :: r, h, c, hc => good_app (good_app (h x List.mem_cons_self) hs) (good_joinS hs (y :: r) fun z hz => h z (List.mem_cons_of_mem _ hz)) c hc
theorem join_eq (sep : Str) (xs : List Str) : Txt.join sep xs = Str.join sep xs := StrLaws.glued_eq_join sep xs
theorem goodB_of (z : Str) (h : (z.cps.toList.all fun c => AlS.cps.toList.contains c) = true) : Good z := fun c hc => by
  have := List.all_eq_true.mp h c hc
  simpa using this
/-- a number's text -/
@[irreducible] def numS (i : Int) : Str := toString i
theorem nums_ok : (List.range 601).all (fun n => ((Str.ofString (toString ((n : Int) - 300))).cps.toList.all fun c => AlS.cps.toList.contains c) && decide ((Str.ofString (toString ((n : Int) - 300))).length ≤ 4)) = true := by decide +kernel
theorem num_ok {i : Int} (h1 : -300 ≤ i) (h2 : i ≤ 300) : Good (numS i) ∧ (numS i).length ≤ 4 := by
  unfold numS
  have := List.all_eq_true.mp nums_ok (i + 300).toNat (List.mem_range.mpr (by omega))
  rw [show (((i + 300).toNat : Nat) : Int) - 300 = i by omega] at this
  rw [Bool.and_eq_true] at this
  exact ⟨goodB_of _ this.1, of_decide_eq_true this.2⟩
section
variable {S : Dn.S}
theorem isi_ap {x : D} {T a : String} (h : (view S x).ty = some a) : isiN [x, .val (.ty T)] S = (isiB a T).map fun b => (.bl b, S) := by
  unfold isiN
  dsimp only
  rw [h]
  rfl
theorem strN_ap {i : Int} (h1 : -300 ≤ i) (h2 : i ≤ 300) : strN [.int i] S = some (.str (numS i), S) := by
  unfold strN numS
  dsimp only
  have h : i.natAbs.log2 < 1920 := by
    have : i.natAbs ≤ 300 := by omega
    by_cases h0 : i.natAbs = 0
    · rw [h0]; decide
    · have := (Nat.log2_lt h0).mpr (show i.natAbs < 2 ^ 10 by omega)
      omega
  rw [if_pos h]
theorem strsOf_map (zs : List Str) : strsOf (zs.map .str) = some zs := by
  induction zs with
  | nil => rfl
  | cons z zs ih => simp [strsOf, ih]
theorem sum_le (zs : List Str) (B : Nat) (h : ∀ z ∈ zs, z.length ≤ B) : (zs.map (·.length)).sum ≤ zs.length * B := StrLaws.sumLen_le zs h
theorem joinM_ap {sep : Str} {zs : List Str} (h : (zs.map (·.length)).sum + zs.length * sep.length ≤ 16777216) : joinM (.str sep) [.lst (zs.map .str)] S = some (.str (Str.join sep zs), S) := by
  unfold joinM
  simp only [view_lst', strsOf_map, Option.bind_some]
  rw [if_pos h, join_eq]
theorem seqI_tup {a : EM} {env : Sl} {xs : List D} {S1 : Dn.S} (h : a env S = .ok (.tup xs) S1) : seqI a env S = .ok (xs, fun _ => True) S1 := by
  unfold seqI
  rw [h, R.bind_ok]
  rfl
theorem seqI_lst {a : EM} {env : Sl} {xs : List D} {S1 : Dn.S} (h : a env S = .ok (.lst xs) S1) : seqI a env S = .ok (xs, fun _ => True) S1 := by
  unfold seqI
  rw [h, R.bind_ok]
  rfl
theorem seqI_str {a : EM} {env : Sl} {z : Str} {S1 : Dn.S} (h : a env S = .ok (.str z) S1) : seqI a env S = .ok (z.cps.toList.map fun c => .str ⟨#[c]⟩, fun _ => True) S1 := by
  unfold seqI
  rw [h, R.bind_ok]
  rfl
@[simp] theorem wipe_1 {v : List (Option D)} {i : Nat} {x : Option (Nat × Ex)} : wipeE ⟨v, x⟩ [i] = ⟨v.set i none, none⟩ := rfl
@[simp] theorem tyD_str {z : Str} : tyD "str" S (.str z) = true := rfl
theorem tyD_lst {n : Nat} {xs : List D} (h : S[n]? = some (.lst xs)) : tyD "list" S (.ref n) = true := by unfold tyD; simp [h]
theorem addD_lst {a b : List D} (h : a.length + b.length ≤ sizeLine) : addD false (.lst a) (.lst b) S = some (.lst (a ++ b), S) := by
  unfold addD
  simp only [view_lst']
  rw [if_pos h]
  rfl
theorem addD_str {st : Bool} {a b : Str} (h : a.length + b.length ≤ sizeLine) : addD st (.str a) (.str b) S = some (.str (a ++ b), S) := by
  unfold addD
  simp only [view_str']
  rw [if_pos h]
theorem text_end {w : Str} {zs : List Str} {rec : List D → Dn.S → R D} {d : D} (hd : ixD d (.int 0) S = some (.str w, S)) (hw : Good w) (hl : w.length ≤ 10) (hz : ∀ z ∈ zs, Good z ∧ z.length ≤ 10) (hn : zs.length ≤ 16) :
    ∃ z, b_law_text_1 rec ⟨[some d, some (.lst (zs.map .str)), none], none⟩ S = .ret (.str z) S ∧ Good z ∧ z.length ≤ 220 := by
  have e1 : addD false (.lst [.str "(", .str w]) (.lst (zs.map .str)) S = some (.lst (.str "(" :: .str w :: zs.map .str), S) := by
    rw [addD_lst (by simp [sizeLine_eq]; omega)]; rfl
  have e2 : addD false (.lst (.str "(" :: .str w :: zs.map .str)) (.lst [.str ")"]) S = some (.lst ((("(" : Str) :: w :: zs ++ [(")" : Str)]).map .str), S) := by
    rw [addD_lst (by simp [sizeLine_eq]; omega)]; simp
  have ok : ∀ z ∈ (("(" : Str) :: w :: zs ++ [(")" : Str)]), Good z ∧ z.length ≤ 10 := by
    intro z h
    simp only [List.cons_append, List.mem_cons, List.mem_append, List.not_mem_nil, or_false] at h
    rcases h with rfl | rfl | h | rfl
    · exact ⟨goodB_of _ (by decide +kernel), by decide⟩
    · exact ⟨hw, hl⟩
    · exact hz z h
    · exact ⟨goodB_of _ (by decide +kernel), by decide⟩
  have len : (("(" : Str) :: w :: zs ++ [(")" : Str)]).length ≤ 19 := by simp; omega
  have s1 := sum_le _ 10 fun z h => (ok z h).2
  have s2 : ((("(" : Str) :: w :: zs ++ [(")" : Str)]).map (·.length)).sum + (("(" : Str) :: w :: zs ++ [(")" : Str)]).length * (" " : Str).length ≤ 220 := by
    have : (" " : Str).length = 1 := rfl
    rw [this]; omega
  have e3 := joinM_ap (S := S) (sep := " ") (zs := ("(" : Str) :: w :: zs ++ [(")" : Str)]) (by omega)
  refine ⟨Str.join " " (("(" : Str) :: w :: zs ++ [(")" : Str)]), ?_, good_joinS (goodB_of _ (by decide +kernel)) _ fun z h => (ok z h).1, Nat.le_trans (StrLaws.join_length_le _ _) s2⟩
  simp only [List.cons_append, List.map_cons, List.map_append, List.map_nil] at e3
  simp [b_law_text_1, hd, e1, e2, e3]
theorem ixD_0 {w : D} {ds : List D} : ixD (.tup (w :: ds)) (.int 0) S = some (w, S) := ixD_tup (atI_nat (by decide) rfl)
/-- the words of a draft that is no list -/
theorem text_e {w : Str} {is : List Int} {rec : List D → Dn.S → R D} (hw : w ≠ "list") (hi : ∀ i ∈ is, Small i) (hn : is.length ≤ 3) (hg : Good w) (hl : w.length ≤ 10) :
    ∃ z, defD 1 3 (b_law_text rec) [.tup (.str w :: is.map .int)] S = .ok (.str z) S ∧ Good z ∧ z.length ≤ 220 := by
  have hc : b_law_text_0e_0_c0 rec ⟨[some (.tup (.str w :: is.map .int)), none, none], none⟩ S = .ok (.lst ((is.map fun i => numS i).map .str)) S := by
    have h1 : b_law_text_0e_0_c0i rec ⟨[some (.tup (.str w :: is.map .int)), none, none], none⟩ S = .ok (is.map .int, fun _ => True) S := by
      refine seqI_tup ?_
      have e : cutL (D.str w :: is.map D.int) (some 1) none = is.map .int := by
        unfold cutL
        simp only [HT.sIx, List.length_cons, List.length_map]
        rw [if_neg (by decide), show min (1 : Int).toNat (is.length + 1) = 1 by simp, List.drop_succ_cons, List.drop_zero]
        exact List.take_of_length_le (by simp)
      have e2 : someP (cE (.int 1)) ⟨[some (.tup (.str w :: is.map .int)), none, none], none⟩ S = .ok (some 1) S := rfl
      simp [e2, cutD, e]
    refine compE_ap h1 (by rw [List.length_map, sizeLine_eq]; omega) (ys := (is.map fun i => numS i).map .str) ?_
    have := compL_map (gd := fun _ => True) (g := nameG 2) (t := trueB) (e := b_law_text_0e_0_c0e rec) (env := wipeE ⟨[some (.tup (.str w :: is.map .int)), none, none], none⟩ [2]) (f := fun d => match d with
      | .int i => .str (numS i)
      | d => d) (S := S) trivial (is.map .int) (fun x hx => by
        obtain ⟨i, hi', rfl⟩ := List.mem_map.mp hx
        have hs := hi i hi'
        refine ⟨_, rfl, rfl, ?_⟩
        have e1 := isi_ap (S := S) (x := .int i) (T := "tuple") (a := "int") rfl
        simp [b_law_text_0e_0_c0e, e1, isiB, truD, strN_ap (S := S) (i := i) (by omega) (by omega)])
    rw [this, List.map_map, List.map_map]
    rfl
  obtain ⟨z, q1, q2, q3⟩ := text_end (S := S) (rec := rec) (d := .tup (.str w :: is.map .int)) (zs := is.map fun i => numS i) ixD_0 hg hl (fun z hz => by
    obtain ⟨i, hi', rfl⟩ := List.mem_map.mp hz
    have hs := hi i hi'
    obtain ⟨n1, n2⟩ := num_ok (i := i) (by omega) (by omega)
    exact ⟨n1, by omega⟩) (by rw [List.length_map]; omega)
  refine ⟨z, ?_, q2, q3⟩
  generalize is.map (fun i => numS i) = zs at hc q1
  simp [b_law_text, b_law_text_0, b_law_text_0e_0, ixD_0, hw, hc, q1]
/-- the words of a list -/
theorem text_t {ps : List Int} {k r : Int} {rec : List D → Dn.S → R D} (hi : ∀ i ∈ ps, Small i) (hn : ps.length ≤ 12) (hk : Small k) (hr : Small r) :
    ∃ z, defD 1 3 (b_law_text rec) [.tup [.str "list", .tup (ps.map .int), .int k, .int r]] S = .ok (.str z) S ∧ Good z ∧ z.length ≤ 220 := by
  have i1 : ixD (.tup [.str "list", .tup (ps.map .int), .int k, .int r]) (.int 1) S = some (.tup (ps.map .int), S) := ixD_tup (atI_nat (by decide) rfl)
  have i2 : ixD (.tup [.str "list", .tup (ps.map .int), .int k, .int r]) (.int 2) S = some (.int k, S) := ixD_tup (atI_nat (by decide) rfl)
  have i3 : ixD (.tup [.str "list", .tup (ps.map .int), .int k, .int r]) (.int 3) S = some (.int r, S) := ixD_tup (atI_nat (by decide) rfl)
  have hc : b_law_text_0t_0_c0 rec ⟨[some (.tup [.str "list", .tup (ps.map .int), .int k, .int r]), none, none], none⟩ S = .ok (.lst ((ps.map fun i => numS i).map .str)) S := by
    have h1 : b_law_text_0t_0_c0i rec ⟨[some (.tup [.str "list", .tup (ps.map .int), .int k, .int r]), none, none], none⟩ S = .ok (ps.map .int, fun _ => True) S := seqI_tup (by simp [i1])
    refine compE_ap h1 (by rw [List.length_map, sizeLine_eq]; omega) (ys := (ps.map fun i => numS i).map .str) ?_
    have := compL_map (gd := fun _ => True) (g := nameG 2) (t := trueB) (e := b_law_text_0t_0_c0e rec) (env := wipeE ⟨[some (.tup [.str "list", .tup (ps.map .int), .int k, .int r]), none, none], none⟩ [2]) (f := fun d => match d with
      | .int i => .str (numS i)
      | d => d) (S := S) trivial (ps.map .int) (fun x hx => by
        obtain ⟨i, hi', rfl⟩ := List.mem_map.mp hx
        have hs := hi i hi'
        refine ⟨_, rfl, rfl, ?_⟩
        simp [b_law_text_0t_0_c0e, strN_ap (S := S) (i := i) (by omega) (by omega)])
    rw [this, List.map_map, List.map_map]
    rfl
  obtain ⟨zs, hzs⟩ : ∃ zs, zs = ps.map fun i => numS i := ⟨_, rfl⟩
  have hzl : zs.length = ps.length := by rw [hzs, List.length_map]
  rw [← hzs] at hc
  have a1 : addD false (.lst (zs.map .str)) (.lst [.str ";", .str (numS k), .str (numS r)]) S = some (.lst ((zs ++ [(";" : Str), numS k, numS r]).map .str), S) := by
    rw [addD_lst (by simp [sizeLine_eq]; omega)]; simp
  obtain ⟨z, q1, q2, q3⟩ := text_end (S := S) (rec := rec) (d := .tup [.str "list", .tup (ps.map .int), .int k, .int r]) (w := "list") (zs := zs ++ [(";" : Str), numS k, numS r]) ixD_0 (goodB_of _ (by decide +kernel)) (by decide) (fun z hz => by
    simp only [List.mem_append, List.mem_cons, List.not_mem_nil, or_false] at hz
    rcases hz with hz | rfl | rfl | rfl
    · rw [hzs] at hz
      obtain ⟨i, hi', rfl⟩ := List.mem_map.mp hz
      have hs := hi i hi'
      obtain ⟨n1, n2⟩ := num_ok (i := i) (by omega) (by omega)
      exact ⟨n1, by omega⟩
    · exact ⟨goodB_of _ (by decide +kernel), by decide⟩
    · obtain ⟨n1, n2⟩ := num_ok (i := k) (by omega) (by omega)
      exact ⟨n1, by omega⟩
    · obtain ⟨n1, n2⟩ := num_ok (i := r) (by omega) (by omega)
      exact ⟨n1, by omega⟩) (by simp; omega)
  refine ⟨z, ?_, q2, q3⟩
  generalize hws : (zs ++ [(";" : Str), numS k, numS r]).map D.str = ws at a1 q1
  simp [b_law_text, b_law_text_0, b_law_text_0t_0, ixD_0, hc, i2, i3, strN_ap (S := S) (i := k) (by omega) (by omega), strN_ap (S := S) (i := r) (by omega) (by omega), a1, q1]
theorem text' {d : D} (h : Leaf d) : ∃ z, d_law_text [d] S = .ok (.str z) S ∧ Good z ∧ z.length ≤ 220 := by
  cases h with
  | flat h => exact text_e (is := [_]) (by decide) (by simpa using h) (by simp) (goodB_of _ (by decide +kernel)) (by decide)
  | pieces => exact text_e (is := []) (by decide) (by simp) (by simp) (goodB_of _ (by decide +kernel)) (by decide)
  | step h => exact text_e (is := [_]) (by decide) (by simpa using h) (by simp) (goodB_of _ (by decide +kernel)) (by decide)
  | list h0 h1 h2 hk hr => exact text_t h2 h1 hk hr
end
end Dn.k58
end

section
namespace Dn.k58
open PySem L2 Dn
section
variable {S : Dn.S}
theorem idx_ok : AlS.cps.toList.all (fun c => match Builtin.Str.occurrences AlS ⟨#[c]⟩ 0 AlS.length 1 with
  | i :: _ => decide (i < 43)
  | [] => false) = true := by decide +kernel
theorem idx_of {c : Nat} (h : c ∈ AlS.cps.toList) : ∃ i : Nat, sindexM (.str AlS) [.str ⟨#[c]⟩] S = some (.int i, S) ∧ i < 43 := by
  have := List.all_eq_true.mp idx_ok c h
  unfold sindexM
  dsimp only
  cases q : Builtin.Str.occurrences AlS ⟨#[c]⟩ 0 AlS.length 1 with
  | nil => rw [q] at this; cases this
  | cons i r => rw [q] at this; exact ⟨i, rfl, of_decide_eq_true this⟩
theorem enumI_str {m : LM} {env : Sl} {z : Str} {S1 : Dn.S} (h : m env S = .ok [.str z] S1) : enumI m env S = .ok (nums (z.cps.toList.map fun c => .str ⟨#[c]⟩), fun _ => True) S1 := by
  unfold enumI
  rw [h, R.bind_ok]
  rfl
theorem sum' {z : Str} (hg : Good z) : ∃ i : Int, d_law_sum [.str z] S = .ok (.int i) S ∧ 0 ≤ i ∧ i < 97 := by
  have h1 : b_law_sum_1 ⟨[some (.str z), some (.int 0), none, none], none⟩ S = forL (fun _ => True) (tupG 2 (consG (nameG 2) (consG (nameG 3) nilG))) b_law_sum_1b_0 (nums (z.cps.toList.map fun c => .str ⟨#[c]⟩)) ⟨[some (.str z), some (.int 0), none, none], none⟩ S := by
    unfold b_law_sum_1
    exact forS_ap (enumI_str (by simp))
  obtain ⟨env', S', q1, ⟨f, a, b, rfl⟩, rfl⟩ := forL_ok (gd := fun _ => True) (g := tupG 2 (consG (nameG 2) (consG (nameG 3) nilG))) (b := b_law_sum_1b_0)
    (fun env S' => (∃ f a b, env = ⟨[some (.str z), some (.int f), a, b], none⟩) ∧ S' = S) (fun _ _ _ => trivial) (nums (z.cps.toList.map fun c => .str ⟨#[c]⟩)) ⟨[some (.str z), some (.int 0), none, none], none⟩ S ⟨⟨_, _, _, rfl⟩, rfl⟩
    (by
      rintro x hx env S' ⟨⟨f, a, b, rfl⟩, rfl⟩
      obtain ⟨k, hk⟩ := List.getElem?_of_mem hx
      obtain ⟨y, hy, rfl⟩ := nums_get hk
      rw [List.getElem?_map] at hy
      cases hc : z.cps.toList[k]? with
      | none => rw [hc] at hy; cases hy
      | some c =>
        rw [hc] at hy
        have e : D.str ⟨#[c]⟩ = y := by simpa using hy
        subst e
        obtain ⟨i, e1, e2⟩ := idx_of (S := S') (hg c (List.mem_of_getElem? hc))
        have m1 : ∀ j : Int, mulOk (i : Nat) j := fun j => mulOk_l (by omega) (by omega)
        have m0 : mulOk (i : Int) ((k : Int) % 96 + 1) := m1 _
        refine ⟨⟨[some (.str z), some (.int (f + (i : Nat) * ((k : Nat) % 96 + 1))), some (.int (k : Nat)), some (.str ⟨#[c]⟩)], none⟩, S', ?_, ⟨_, _, _, rfl⟩, rfl⟩
        simp [b_law_sum_1b_0, e1, m0])
  refine ⟨f % 97, ?_, Int.emod_nonneg _ (by decide), Int.emod_lt_of_pos _ (by decide)⟩
  simp [d_law_sum, b_law_sum, b_law_sum_0, h1, q1, b_law_sum_2]
/-- plain signs, so many at most -/
structure Tx (B : Nat) (z : Str) : Prop where
  len : z.length ≤ B
  asc : ∀ c ∈ z.cps.toList, c < 128
theorem Tx.mono {B B' : Nat} {z : Str} (h : Tx B z) (k : B ≤ B') : Tx B' z := ⟨Nat.le_trans h.len k, h.asc⟩
theorem al_asc : AlS.cps.toList.all (fun c => decide (c < 128)) = true := by decide +kernel
theorem good_asc {z : Str} (h : Good z) : ∀ c ∈ z.cps.toList, c < 128 := fun c hc => of_decide_eq_true (List.all_eq_true.mp al_asc c (h c hc))
theorem tx_app {A B : Nat} {a b : Str} (h : Tx A a) (k : Tx B b) : Tx (A + B) (a ++ b) := ⟨by rw [app_len]; have := h.len; have := k.len; omega, good_app h.asc k.asc⟩
theorem tx_of (z : Str) (B : Nat) (h : (z.cps.toList.all (fun c => decide (c < 128)) && decide (z.length ≤ B)) = true) : Tx B z := by
  rw [Bool.and_eq_true] at h
  exact ⟨of_decide_eq_true h.2, fun c hc => of_decide_eq_true (List.all_eq_true.mp h.1 c hc)⟩
theorem num_tx {i : Int} (h1 : -300 ≤ i) (h2 : i ≤ 300) : Tx 4 (numS i) := ⟨(num_ok h1 h2).2, good_asc (num_ok h1 h2).1⟩
theorem add_tx {st : Bool} {A B : Nat} {a b : Str} (h : Tx A a) (k : Tx B b) (hl : A + B ≤ 100000) : addD st (.str a) (.str b) S = some (.str (a ++ b), S) := addD_str (by have := h.len; have := k.len; rw [sizeLine_eq]; omega)
theorem line' {n z : Str} (hn : Tx 8 n) (hz : Good z) (hl : z.length ≤ 220) : ∃ l, d_law_line [.str n, .str z] S = .ok (.str l) S ∧ Tx 240 l := by
  obtain ⟨i, q1, q2, q3⟩ := sum' (S := S) hz
  have hsp : Tx 1 " " := tx_of _ _ (by decide +kernel)
  have n1 := num_tx (i := i / 10) (by omega) (by omega)
  have n2 := num_tx (i := i % 10) (by omega) (by omega)
  have tz : Tx 220 z := ⟨hl, good_asc hz⟩
  have t1 := tx_app hn hsp
  have t2 := tx_app t1 n1
  have t3 := tx_app t2 n2
  have t4 := tx_app t3 hsp
  have t5 := tx_app t4 tz
  refine ⟨_, ?_, t5.mono (by decide)⟩
  have dv : divOk 10 := divOk_of (by decide) (by decide)
  simp [d_law_line, b_law_line, b_law_line_0, b_law_line_1, q1, dv, strN_ap (S := S) (i := i / 10) (by omega) (by omega), strN_ap (S := S) (i := i % 10) (by omega) (by omega),
    add_tx (S := S) hn hsp (by decide), add_tx (S := S) t1 n1 (by decide), add_tx (S := S) t2 n2 (by decide), add_tx (S := S) t3 hsp (by decide), add_tx (S := S) t4 tz (by decide)]
abbrev nameL : List Str := ["list", "plus", "named", "pieces", "into", "a", "ab", "z", "zzzzzzzz", "share", "min", "b"]
theorem names_ok : nameL.all (fun z => z.cps.toList.all (fun c => decide (c < 128)) && decide (z.length ≤ 8)) = true := by decide +kernel
theorem sorted_ap {zs : List Str} (h : zs.length < 64) : ∃ ys : List Str, sortedN false [.lst (zs.map .str)] S = some (.lst (ys.map .str), S) ∧ ys.Perm zs := by
  cases zs with
  | nil => exact ⟨[], by unfold sortedN; simp [intsOf, sortI], .refl _⟩
  | cons z zs =>
    refine ⟨sortS (z :: zs), ?_, List.mergeSort_perm _ _⟩
    unfold sortedN
    have e1 : intsOf ((z :: zs).map .str) = none := rfl
    simp only [view_lst', e1, strsOf_map]
    rw [if_pos h]
    rfl
theorem strs_of {ds : List D} {P : Str → Prop} (h : ∀ d ∈ ds, ∃ i, d = .str i ∧ P i) : ∃ is : List Str, ds = is.map .str ∧ ∀ i ∈ is, P i := by
  induction ds with
  | nil => exact ⟨[], rfl, by simp⟩
  | cons d ds ih =>
    obtain ⟨is, e, hi⟩ := ih fun d hd => h d (List.mem_cons_of_mem _ hd)
    obtain ⟨i, rfl, hp⟩ := h d List.mem_cons_self
    exact ⟨i :: is, by rw [e]; rfl, fun j hj => by rcases List.mem_cons.mp hj with rfl | hj; exact hp; exact hi j hj⟩
theorem lines' (hS : H0 S) : ∃ (zs : List Str) (S' : Dn.S), d_law_lines [.ref 0] S = .ok (.lst (zs.map .str)) S' ∧ H0 S' ∧ Same S S' ∧ zs.length ≤ 12 ∧ ∀ z ∈ zs, Tx 240 z := by
  obtain ⟨ys, S1, p1, p2, p3, p4⟩ : ∃ ys S1, b_law_lines_1_c0 ⟨[some (.ref 0), some (.lst (nameL.map .str)), none], none⟩ S = .ok (.lst ys) S1 ∧ (H0 S1 ∧ Same S S1) ∧ (∀ y ∈ ys, ∃ n, y = .str n ∧ Tx 8 n) ∧ ys.length ≤ 12 := by
    have hi : b_law_lines_1_c0i ⟨[some (.ref 0), some (.lst (nameL.map .str)), none], none⟩ S = .ok (nameL.map .str, fun _ => True) S := seqI_lst rfl
    obtain ⟨ys, S', c1, c2, c3, c4⟩ := compL_ok (gd := fun _ => True) (g := nameG 2) (t := b_law_lines_1_c0t) (e := b_law_lines_1_c0e) (env := ⟨[some (.ref 0), some (.lst (nameL.map .str)), none], none⟩) (fun S' => H0 S' ∧ Same S S') (fun y => ∃ n, y = .str n ∧ Tx 8 n) (fun _ _ => trivial) (nameL.map .str) S ⟨hS, .refl⟩ fun x hx S4 hS4 => by
      obtain ⟨n, hn, rfl⟩ := List.mem_map.mp hx
      obtain ⟨r, S5, r1, r2, r3, r4, r5⟩ := draw' (size := 3) hS4.1 (by decide) (by decide)
      refine ⟨⟨[some (.ref 0), some (.lst (nameL.map .str)), some (.str n)], none⟩, S4, decide (0 < r), S5, rfl, ?_, fun _ => ⟨.str n, S5, rfl, ⟨r2, hS4.2.trans r5⟩, n, rfl, tx_of _ _ (List.all_eq_true.mp names_ok n hn)⟩, fun _ => ⟨r2, hS4.2.trans r5⟩⟩
      simp [b_law_lines_1_c0t, r1]
    exact ⟨ys, S', compE_ap hi (by rw [sizeLine_eq]; decide) c1, c2, c3, c4⟩
  obtain ⟨ns, rfl, hns⟩ := strs_of p3
  rw [List.length_map] at p4
  obtain ⟨ms, s1, s2⟩ := sorted_ap (S := S1) (zs := ns) (by omega)
  have hml : ms.length ≤ 12 := by rw [s2.length_eq]; exact p4
  obtain ⟨ys, S2, v1, v2, v3, v4⟩ : ∃ ys S2, b_law_lines_2_c0 ⟨[some (.ref 0), some (.lst (ms.map .str)), none], none⟩ S1 = .ok (.lst ys) S2 ∧ (H0 S2 ∧ Same S S2) ∧ (∀ y ∈ ys, ∃ n, y = .str n ∧ Tx 240 n) ∧ ys.length = ms.length := by
    have hi : b_law_lines_2_c0i ⟨[some (.ref 0), some (.lst (ms.map .str)), none], none⟩ S1 = .ok (ms.map .str, fun _ => True) S1 := seqI_lst rfl
    obtain ⟨ys, S', c1, c2, c3, c4⟩ := compL_okn (gd := fun _ => True) (g := nameG 2) (t := trueB) (e := b_law_lines_2_c0e) (env := ⟨[some (.ref 0), some (.lst (ms.map .str)), none], none⟩) (fun S' => H0 S' ∧ Same S S') (fun y => ∃ n, y = .str n ∧ Tx 240 n) (fun _ _ => trivial) (ms.map .str) S1 p2 fun x hx S4 hS4 => by
      obtain ⟨n, hn, rfl⟩ := List.mem_map.mp hx
      obtain ⟨d, S5, r1, r2, r3, r4⟩ := leaf' hS4.1
      obtain ⟨z, z1, z2, z3⟩ := text' (S := S5) r4
      obtain ⟨l, l1, l2⟩ := line' (S := S5) (hns n (s2.mem_iff.mp hn)) z2 z3
      refine ⟨⟨[some (.ref 0), some (.lst (ms.map .str)), some (.str n)], none⟩, S4, S4, rfl, rfl, .str l, S5, ?_, ⟨r2, hS4.2.trans r3⟩, l, rfl, l2⟩
      simp [b_law_lines_2_c0e, r1, z1, l1]
    exact ⟨ys, S', compE_ap hi (by rw [List.length_map, sizeLine_eq]; omega) c1, c2, c3, by rw [c4, List.length_map]⟩
  obtain ⟨zs, rfl, hzs⟩ := strs_of v3
  rw [List.length_map] at v4
  refine ⟨zs, S2, ?_, v2.1, v2.2, by omega, hzs⟩
  have e0 : b_law_lines_0 ⟨[some (.ref 0), none, none], none⟩ S = .nx ⟨[some (.ref 0), some (.lst (nameL.map .str)), none], none⟩ S := rfl
  simp only [d_law_lines, b_law_lines, defD_ap', List.length_cons, List.length_nil, Nat.zero_add, if_true, List.map_cons, List.map_nil, Nat.reduceSub, List.reduceReplicate, List.cons_append, List.nil_append, seqS_ap]
  rw [e0]
  simp only [rsb_nx, seqS_ap]
  have e1 : b_law_lines_1 ⟨[some (.ref 0), some (.lst (nameL.map .str)), none], none⟩ S = .nx ⟨[some (.ref 0), some (.lst (ms.map .str)), none], none⟩ S1 := by
    unfold b_law_lines_1
    simp only [asgS_ap, callNE_ap, consL_ap, nilL_ap, p1, R.bind_ok, s1, R.of_some, trs_ok, nameG_ap, only_nx]
    rfl
  rw [e1]
  simp only [rsb_nx]
  unfold b_law_lines_2
  simp only [retS_ap, v1, trs_ok, outR_ret]
end
end Dn.k58
end

section
namespace Dn.k58
open PySem L2 Dn
/-! # texts that are bent -/
theorem forL_n {gd : Dn.S → Prop} {g : GM} {b : SM} (I : Nat → Sl → Dn.S → Prop) (hgd : ∀ n env S, I n env S → gd S) : ∀ (xs : List D) (n : Nat) (env : Sl) (S : Dn.S), I n env S →
    (∀ x ∈ xs, ∀ n env S, I n env S → ∃ env1 S1, (g x env S).only.bind b = .nx env1 S1 ∧ I (n + 1) env1 S1) → ∃ env' S', forL gd g b xs env S = .nx env' S' ∧ I (n + xs.length) env' S'
  | [], n, env, S, hI, _ => ⟨env, S, by unfold forL; rw [if_pos (hgd n env S hI)], hI⟩
  | x :: xs, n, env, S, hI, step => by
    obtain ⟨env1, S1, h1, h2⟩ := step x List.mem_cons_self n env S hI
    obtain ⟨env', S', q1, q2⟩ := forL_n I hgd xs (n + 1) env1 S1 h2 fun x hx => step x (List.mem_cons_of_mem _ hx)
    refine ⟨env', S', ?_, by rw [List.length_cons]; rw [show n + (xs.length + 1) = n + 1 + xs.length by omega]; exact q2⟩
    unfold forL
    rw [if_pos (hgd n env S hI), h1]
    exact q1
section
variable {S : Dn.S}
theorem tx_cut {B : Nat} {z : Str} (h : Tx B z) (lo hi : Option Int) : Tx B (cutS z lo hi) := by
  refine ⟨Nat.le_trans (cutS_length z lo hi) h.len, fun c hc => h.asc c ?_⟩
  unfold cutS at hc
  simp only at hc
  exact List.mem_of_mem_drop (List.mem_of_mem_take hc)
theorem cutD_str {st : Bool} {B : Nat} {z : Str} {lo hi : Option Int} (h : Tx B z) (hB : B ≤ 100000) : cutD st (.str z) lo hi S = some (.str (cutS z lo hi), S) := by
  unfold cutD
  simp only [view_str']
  rw [if_pos (by have := h.len; rw [sizeLine_eq]; omega)]
theorem someP_int {a : EM} {env : Sl} {i : Int} {S1 : Dn.S} (h : a env S = .ok (.int i) S1) : someP a env S = .ok (some i) S1 := by
  unfold someP
  rw [h]
  rfl
theorem len_tx {B : Nat} {z : Str} (h : Tx B z) (hB : B ≤ 100000) : lenN [.str z] S = some (.int z.length, S) := lenN_str (by have := h.len; rw [sizeLine_eq]; omega)
theorem up_ok : (List.range 128).all (fun c => (Txt.upper ⟨#[c]⟩).cps.toList.all (fun d => decide (d < 128)) && decide ((Txt.upper ⟨#[c]⟩).length ≤ 1)) = true := by decide +kernel
theorem up_tx {z : Str} (h : Tx 1 z) : Tx 1 (Txt.upper z) := by
  obtain ⟨⟨l⟩⟩ := z
  obtain ⟨h1, h2⟩ := h
  replace h1 : l.length ≤ 1 := h1
  cases l with
  | nil => exact tx_of _ _ (by decide +kernel)
  | cons c r =>
    cases r with
    | cons _ _ => simp at h1
    | nil =>
      have hc : c < 128 := h2 c (by simp)
      have := List.all_eq_true.mp up_ok c (List.mem_range.mpr hc)
      exact tx_of _ _ this
theorem cut_one {z : Str} {B : Nat} {i : Int} (h : Tx B z) (h0 : 0 ≤ i) : Tx 1 (cutS z (some i) (some (i + 1))) := by
  refine ⟨?_, (tx_cut h _ _).asc⟩
  show ((z.cps.toList.drop _).take _).toArray.size ≤ 1
  rw [List.size_toArray, List.length_take]
  simp only [HT.sIx]
  rw [if_neg (by omega), if_neg (by omega)]
  omega
abbrev OE (t i3 a b k c d : Option D) (z : Str) : Sl := ⟨[some (.ref 0), t, some (.str z), i3, a, b, k, c, d], none⟩
theorem tx1 : ∀ z ∈ ([("\n" : Str), ("\n" : Str) ++ ("\n" : Str), "a", " ", "A_", ""] : List Str), Tx 20 z := by
  intro z hz
  exact tx_of z 20 (List.all_eq_true.mp (show ([("\n" : Str), ("\n" : Str) ++ ("\n" : Str), "a", " ", "A_", ""] : List Str).all (fun z => z.cps.toList.all (fun c => decide (c < 128)) && decide (z.length ≤ 20)) = true by decide +kernel) z hz)
theorem tx2 : ∀ z ∈ ([("\n" : Str), ("a 00 ( pieces )" : Str) ++ ("\n" : Str), "x"] : List Str), Tx 20 z := by
  intro z hz
  exact tx_of z 20 (List.all_eq_true.mp (show ([("\n" : Str), ("a 00 ( pieces )" : Str) ++ ("\n" : Str), "x"] : List Str).all (fun z => z.cps.toList.all (fun c => decide (c < 128)) && decide (z.length ≤ 20)) = true by decide +kernel) z hz)
theorem nl_tx : Tx 1 "\n" := tx_of _ _ (by decide +kernel)
variable {t i3 a b k c d : Option D} {z : Str} {B : Nat}
theorem k0 (hS : H0 S) (hz : Tx B z) (hB : B ≤ 40000) {p : Int} : ∃ z' S', b_law_other_1b_2t_0 (OE t i3 (some (.int p)) b k c d z) S = .nx (OE t i3 (some (.int p)) b k c d z') S' ∧ H0 S' ∧ Same S S' ∧ Tx (2 * B + 20) z' := by
  obtain ⟨x, hx, S', q1, q2, q3⟩ := some' (S := S) (xs := ([("\n" : Str), ("\n" : Str) ++ ("\n" : Str), "a", " ", "A_", ""] : List Str).map .str) hS (by simp) (by simp)
  obtain ⟨y, hy, rfl⟩ := List.mem_map.mp hx
  have ty := tx1 y hy
  have c1 := tx_cut hz none (some p)
  have c2 := tx_cut hz (some p) none
  have t1 := tx_app c1 ty
  have t2 := tx_app t1 c2
  have nn := add_tx (S := S) (st := false) nl_tx nl_tx (by decide)
  refine ⟨cutS z none (some p) ++ y ++ cutS z (some p) none, S', ?_, q2, q3, t2.mono (by omega)⟩
  simp only [List.map_cons, List.map_nil] at q1
  have e1 : ∀ S : Dn.S, someP (varE 4) (OE t i3 (some (.int p)) b k c d z) S = .ok (some p) S := fun S => rfl
  simp [b_law_other_1b_2t_0, e1, cutD_str (S := S) hz (by omega), cutD_str (S := S') hz (by omega), nn, q1, add_tx (S := S') c1 ty (by omega), add_tx (S := S') t1 c2 (by omega)]
theorem k1 (hz : Tx B z) (hB : B ≤ 40000) {p q : Int} : ∃ z', b_law_other_1b_2e_0t_0 (OE t i3 (some (.int p)) (some (.int q)) k c d z) S = .nx (OE t i3 (some (.int p)) (some (.int q)) k c d z') S ∧ Tx (2 * B + 20) z' := by
  have c1 := tx_cut hz none (some (min p q))
  have c2 := tx_cut hz (some (max p q)) none
  refine ⟨_, ?_, (tx_app c1 c2).mono (by omega)⟩
  have e1 : someP (callNE minN (consL (varE 4) (consL (varE 5) nilL))) (OE t i3 (some (.int p)) (some (.int q)) k c d z) S = .ok (some (min p q)) S := rfl
  have e2 : someP (callNE maxN (consL (varE 4) (consL (varE 5) nilL))) (OE t i3 (some (.int p)) (some (.int q)) k c d z) S = .ok (some (max p q)) S := rfl
  simp [b_law_other_1b_2e_0t_0, e1, e2, cutD_str (S := S) hz (by omega), add_tx (S := S) c1 c2 (by omega)]
theorem k2 (hz : Tx B z) (hB : B ≤ 40000) {p : Int} : ∃ z', b_law_other_1b_2e_0e_0t_0 (OE t i3 (some (.int p)) b k c d z) S = .nx (OE t i3 (some (.int p)) b k c d z') S ∧ Tx (2 * B + 20) z' := by
  refine ⟨_, ?_, (tx_cut hz none (some p)).mono (by omega)⟩
  have e1 : someP (varE 4) (OE t i3 (some (.int p)) b k c d z) S = .ok (some p) S := rfl
  simp [b_law_other_1b_2e_0e_0t_0, e1, cutD_str (S := S) hz (by omega)]
theorem k3 (hS : H0 S) (hz : Tx B z) (hB : B ≤ 40000) : ∃ z' S', b_law_other_1b_2e_0e_0e_0t_0 (OE t i3 a b k c d z) S = .nx (OE t i3 a b k c d z') S' ∧ H0 S' ∧ Same S S' ∧ Tx (2 * B + 20) z' := by
  obtain ⟨x, hx, S', q1, q2, q3⟩ := some' (S := S) (xs := ([("\n" : Str), ("a 00 ( pieces )" : Str) ++ ("\n" : Str), "x"] : List Str).map .str) hS (by simp) (by simp)
  obtain ⟨y, hy, rfl⟩ := List.mem_map.mp hx
  have ty := tx2 y hy
  have tp : Tx 20 "a 00 ( pieces )" := tx_of _ _ (by decide +kernel)
  have nn := add_tx (S := S) (st := false) tp nl_tx (by decide)
  refine ⟨z ++ y, S', ?_, q2, q3, (tx_app hz ty).mono (by omega)⟩
  simp only [List.map_cons, List.map_nil] at q1
  simp [b_law_other_1b_2e_0e_0e_0t_0, nn, q1, add_tx (S := S') hz ty (by omega)]
theorem k5 (hz : Tx B z) (hB : B ≤ 40000) {p : Int} (h0 : 0 ≤ p) : ∃ z', b_law_other_1b_2e_0e_0e_0e_0e_0t_0 (OE t i3 (some (.int p)) b k c d z) S = .nx (OE t i3 (some (.int p)) b k c d z') S ∧ Tx (2 * B + 20) z' := by
  have c1 := tx_cut hz none (some p)
  have c2 := cut_one hz h0
  have c3 := up_tx c2
  have c4 := tx_cut hz (some (p + 1)) none
  have t1 := tx_app c1 c3
  refine ⟨_, ?_, (tx_app t1 c4).mono (by omega)⟩
  have e1 : someP (varE 4) (OE t i3 (some (.int p)) b k c d z) S = .ok (some p) S := rfl
  have e2 : someP (binE (addD false) (varE 4) (cE (.int 1))) (OE t i3 (some (.int p)) b k c d z) S = .ok (some (p + 1)) S := rfl
  have e3 : upperM (.str (cutS z (some p) (some (p + 1)))) [] S = some (.str (Txt.upper (cutS z (some p) (some (p + 1)))), S) := by
    unfold upperM
    dsimp only
    rw [if_pos (by have := c2.len; omega)]
  simp [b_law_other_1b_2e_0e_0e_0e_0e_0t_0, e1, e2, e3, cutD_str (S := S) hz (by omega), add_tx (S := S) c1 c3 (by omega), add_tx (S := S) t1 c4 (by omega)]
theorem k6 (hS : H0 S) (hz : Tx B z) (hB : B ≤ 40000) : ∃ z' S', b_law_other_1b_2e_0e_0e_0e_0e_0e_0 (OE t i3 a b k c d z) S = .nx (OE t i3 a b k c d z') S' ∧ H0 S' ∧ Same S S' ∧ Tx (2 * B + 20) z' := by
  obtain ⟨x, hx, S', q1, q2, q3⟩ := some' (S := S) (xs := ([("" : Str), ("\n" : Str), z ++ z, ("\n" : Str) ++ z] : List Str).map .str) hS (by simp) (by simp)
  obtain ⟨y, hy, rfl⟩ := List.mem_map.mp hx
  have ty : Tx (2 * B + 20) y := by
    simp only [List.mem_cons, List.not_mem_nil, or_false] at hy
    rcases hy with rfl | rfl | rfl | rfl
    · exact (tx_of "" 0 (by decide +kernel)).mono (by omega)
    · exact nl_tx.mono (by omega)
    · exact (tx_app hz hz).mono (by omega)
    · exact (tx_app nl_tx hz).mono (by omega)
  refine ⟨y, S', ?_, q2, q3, ty⟩
  simp only [List.map_cons, List.map_nil] at q1
  simp [b_law_other_1b_2e_0e_0e_0e_0e_0e_0, add_tx (S := S) (st := false) hz hz (by omega), add_tx (S := S) (st := false) nl_tx hz (by omega), q1]
theorem joinS_mem {P : Nat → Prop} {sep : Str} : ∀ (xs : List Str), (∀ c ∈ (Str.join sep xs).cps.toList, P c) → ∀ x ∈ xs, ∀ c ∈ x.cps.toList, P c
  | [], _, x, hx, _, _ => by simp at hx
  | [y], h, x, hx, c, hc => by
    have : x = y := by simpa using hx
    rw [this] at hc
    exact h c hc
  | y :: w :: r, h, x, hx, c, hc => by
    have e : (Str.join sep (y :: w :: r)).cps.toList = y.cps.toList ++ sep.cps.toList ++ (Str.join sep (w :: r)).cps.toList := by
      show (y ++ sep ++ Str.join sep (w :: r)).cps.toList = _
      rw [app_list, app_list]
    rw [e] at h
    rcases List.mem_cons.mp hx with rfl | hx
    · exact h c (List.mem_append_left _ (List.mem_append_left _ hc))
    · exact joinS_mem (w :: r) (fun c hc => h c (List.mem_append_right _ hc)) x hx c hc
theorem split_mem {z y : Str} {P : Nat → Prop} (h : ∀ c ∈ z.cps.toList, P c) : ∀ x ∈ Txt.split z y, ∀ c ∈ x.cps.toList, P c := by
  refine joinS_mem (sep := y) _ ?_
  rw [StrLaws.join_split]
  exact h
theorem k4 (hS : H0 S) (hz : Tx B z) (hB : B ≤ 40000) : ∃ z' S' c' d', (seqS b_law_other_1b_2e_0e_0e_0e_0t_0 (seqS b_law_other_1b_2e_0e_0e_0e_0t_1 b_law_other_1b_2e_0e_0e_0e_0t_2)) (OE t i3 a b k c d z) S = .nx (OE t i3 a b k c' d' z') S' ∧ H0 S' ∧ Same S S' ∧ Tx (2 * B + 20) z' := by
  obtain ⟨ps, hps⟩ : ∃ ps, ps = Txt.split z "\n" := ⟨_, rfl⟩
  have hlen := hz.len
  have e1 : splitM false (.str z) [.str "\n"] S = some (.lst (ps.map .str), S) := by
    unfold splitM
    dsimp only
    rw [if_pos ⟨by decide, by rw [sizeLine_eq]; omega⟩, hps]
    rfl
  have p1 : 1 ≤ ps.length := by rw [hps]; exact PyProof.Rows.split_pos z "\n"
  have p2 : (ps.map (·.length)).sum + ps.length ≤ z.length + 1 := by rw [hps]; exact PyProof.Rows.split_weight z "\n" (by decide)
  have p3 : ∀ x ∈ ps, ∀ c ∈ x.cps.toList, c < 128 := by rw [hps]; exact split_mem hz.asc
  obtain ⟨r, S', q1, q2, q3, q4, q5⟩ := draw' (size := ps.length) hS (by omega) (by omega)
  obtain ⟨n, rfl⟩ : ∃ n : Nat, r = n := ⟨r.toNat, by omega⟩
  have hn : n < ps.length := by omega
  have c1 : cutL (ps.map D.str) none (some (n : Int)) = (ps.take n).map .str := by
    unfold cutL
    simp only [HT.sIx, List.length_map]
    rw [if_neg (by omega), Int.toNat_natCast, List.drop_zero, Nat.sub_zero, show min n ps.length = n by omega, List.map_take]
  have c2 : cutL (ps.map D.str) (some ((n : Int) + 1)) none = (ps.drop (n + 1)).map .str := by
    unfold cutL
    simp only [HT.sIx, List.length_map]
    rw [if_neg (by omega), show ((n : Int) + 1).toNat = n + 1 by omega, show min (n + 1) ps.length = n + 1 by omega, ← List.map_drop]
    exact List.take_of_length_le (by simp)
  have d1 : cutD false (.lst (ps.map .str)) none (some (n : Int)) S' = some (.lst ((ps.take n).map .str), S') := by unfold cutD; simp only [view_lst']; rw [c1]; rfl
  have d2 : cutD false (.lst (ps.map .str)) (some ((n : Int) + 1)) none S' = some (.lst ((ps.drop (n + 1)).map .str), S') := by unfold cutD; simp only [view_lst']; rw [c2]; rfl
  have a1 : addD false (.lst ((ps.take n).map .str)) (.lst ((ps.drop (n + 1)).map .str)) S' = some (.lst ((ps.take n ++ ps.drop (n + 1)).map .str), S') := by
    rw [addD_lst (by simp [sizeLine_eq]; omega), List.map_append]
  have hsum : ((ps.take n ++ ps.drop (n + 1)).map (·.length)).sum + (ps.take n ++ ps.drop (n + 1)).length ≤ z.length + 1 := by
    have e : ps = ps.take n ++ ps[n] :: ps.drop (n + 1) := by
      rw [List.getElem_cons_drop hn, List.take_append_drop]
    have e2 : (ps.map (·.length)).sum = ((ps.take n).map (·.length)).sum + (ps[n].length + ((ps.drop (n + 1)).map (·.length)).sum) := by
      have := congrArg (fun l : List Str => (l.map (·.length)).sum) e
      simp only [List.map_append, List.map_cons, List.sum_append, List.sum_cons] at this
      exact this
    have e3 : ps.length = (ps.take n).length + (1 + (ps.drop (n + 1)).length) := by
      simp; omega
    rw [List.map_append, List.sum_append, List.length_append]
    omega
  have j1 := joinM_ap (S := S') (sep := "\n") (zs := ps.take n ++ ps.drop (n + 1)) (by
    have : ("\n" : Str).length = 1 := rfl
    rw [this]; omega)
  have tj : Tx (2 * B + 20) (Str.join "\n" (ps.take n ++ ps.drop (n + 1))) := by
    refine ⟨Nat.le_trans (StrLaws.join_length_le _ _) ?_, good_joinS nl_tx.asc _ fun x hx => p3 x ?_⟩
    · have : ("\n" : Str).length = 1 := rfl
      rw [this]; omega
    · rcases List.mem_append.mp hx with hx | hx
      · exact List.mem_of_mem_take hx
      · exact List.mem_of_mem_drop hx
  refine ⟨_, S', some (.lst (ps.map .str)), some (.int n), ?_, q2, q5, tj⟩
  have u1 : ∀ S : Dn.S, someP (varE 8) (OE t i3 a b k (some (.lst (ps.map .str))) (some (.int n)) z) S = .ok (some (n : Int)) S := fun _ => rfl
  have u2 : ∀ S : Dn.S, someP (binE (addD false) (varE 8) (cE (.int 1))) (OE t i3 a b k (some (.lst (ps.map .str))) (some (.int n)) z) S = .ok (some ((n : Int) + 1)) S := fun _ => rfl
  have hql : (ps.map D.str).length = ps.length := List.length_map ..
  generalize ps.map D.str = qs at e1 d1 d2 u1 u2 hql
  generalize (ps.take n).map D.str = as at d1 a1
  generalize (ps.drop (n + 1)).map D.str = bs at d2 a1
  generalize (ps.take n ++ ps.drop (n + 1)).map D.str = cs at a1 j1
  rw [← hql] at q1
  simp [b_law_other_1b_2e_0e_0e_0e_0t_0, b_law_other_1b_2e_0e_0e_0e_0t_1, b_law_other_1b_2e_0e_0e_0e_0t_2, e1, q1, u1, u2, d1, d2, a1, j1]
theorem other_turn (hS : H0 S) (hz : Tx B z) (hB : B ≤ 40000) : ∃ z' S' a' b' k' c' d', (seqS b_law_other_1b_0 (seqS b_law_other_1b_1 b_law_other_1b_2)) (OE t i3 a b k c d z) S = .nx (OE t i3 a' b' k' c' d' z') S' ∧ H0 S' ∧ Same S S' ∧ Tx (2 * B + 20) z' := by
  have hlen := hz.len
  obtain ⟨p, S1, p1, p2, p3, p4, p5⟩ := draw' (size := z.length + 1) hS (by omega) (by omega)
  obtain ⟨q, S2, q1, q2, q3, q4, q5⟩ := draw' (size := z.length + 1) p2 (by omega) (by omega)
  obtain ⟨kk, S3, r1, r2, r3, r4, r5⟩ := draw' (size := 7) q2 (by decide) (by decide)
  have h0 : b_law_other_1b_0 (OE t i3 a b k c d z) S = .nx (OE t i3 (some (.int p)) (some (.int q)) k c d z) S2 := by
    unfold b_law_other_1b_0 par2S
    simp [len_tx (S := S) hz (by omega), len_tx (S := S1) hz (by omega), p1, q1, Sl.put]
  have h1 : b_law_other_1b_1 (OE t i3 (some (.int p)) (some (.int q)) k c d z) S2 = .nx (OE t i3 (some (.int p)) (some (.int q)) (some (.int kk)) c d z) S3 := by
    simp [b_law_other_1b_1, r1]
  simp only [seqS_ap]
  rw [h0]
  simp only [rsb_nx, seqS_ap]
  rw [h1]
  simp only [rsb_nx]
  have ss := (p5.trans q5).trans r5
  by_cases c0 : kk = 0
  · subst c0
    obtain ⟨z', S', w1, w2, w3, w4⟩ := k0 (t := t) (i3 := i3) (b := some (.int q)) (k := some (.int 0)) (c := c) (d := d) r2 hz hB (p := p)
    exact ⟨z', S', _, _, _, _, _, by simp only [b_law_other_1b_2, ifS_ap, cmpB_ap, binE_ap, varE_ap, cE_ap]; simpa using w1, w2, ss.trans w3, w4⟩
  by_cases c1 : kk = 1
  · subst c1
    obtain ⟨z', w1, w4⟩ := k1 (S := S3) (t := t) (i3 := i3) (k := some (.int 1)) (c := c) (d := d) hz hB (p := p) (q := q)
    exact ⟨z', S3, _, _, _, _, _, by simpa [b_law_other_1b_2, b_law_other_1b_2e_0] using w1, r2, ss, w4⟩
  by_cases c2 : kk = 2
  · subst c2
    obtain ⟨z', w1, w4⟩ := k2 (S := S3) (t := t) (i3 := i3) (b := some (.int q)) (k := some (.int 2)) (c := c) (d := d) hz hB (p := p)
    exact ⟨z', S3, _, _, _, _, _, by simpa [b_law_other_1b_2, b_law_other_1b_2e_0, b_law_other_1b_2e_0e_0] using w1, r2, ss, w4⟩
  by_cases c3 : kk = 3
  · subst c3
    obtain ⟨z', S', w1, w2, w3, w4⟩ := k3 (t := t) (i3 := i3) (a := some (.int p)) (b := some (.int q)) (k := some (.int 3)) (c := c) (d := d) r2 hz hB
    exact ⟨z', S', _, _, _, _, _, by simpa [b_law_other_1b_2, b_law_other_1b_2e_0, b_law_other_1b_2e_0e_0, b_law_other_1b_2e_0e_0e_0] using w1, w2, ss.trans w3, w4⟩
  by_cases c4 : kk = 4
  · subst c4
    obtain ⟨z', S', c', d', w1, w2, w3, w4⟩ := k4 (t := t) (i3 := i3) (a := some (.int p)) (b := some (.int q)) (k := some (.int 4)) (c := c) (d := d) r2 hz hB
    exact ⟨z', S', _, _, _, c', d', by simpa [b_law_other_1b_2, b_law_other_1b_2e_0, b_law_other_1b_2e_0e_0, b_law_other_1b_2e_0e_0e_0, b_law_other_1b_2e_0e_0e_0e_0] using w1, w2, ss.trans w3, w4⟩
  by_cases c5 : kk = 5
  · subst c5
    obtain ⟨z', w1, w4⟩ := k5 (S := S3) (t := t) (i3 := i3) (b := some (.int q)) (k := some (.int 5)) (c := c) (d := d) hz hB (p := p) p3
    exact ⟨z', S3, _, _, _, _, _, by simpa [b_law_other_1b_2, b_law_other_1b_2e_0, b_law_other_1b_2e_0e_0, b_law_other_1b_2e_0e_0e_0, b_law_other_1b_2e_0e_0e_0e_0, b_law_other_1b_2e_0e_0e_0e_0e_0] using w1, r2, ss, w4⟩
  · obtain ⟨z', S', w1, w2, w3, w4⟩ := k6 (t := t) (i3 := i3) (a := some (.int p)) (b := some (.int q)) (k := some (.int kk)) (c := c) (d := d) r2 hz hB
    exact ⟨z', S', _, _, _, _, _, by simpa [b_law_other_1b_2, b_law_other_1b_2e_0, b_law_other_1b_2e_0e_0, b_law_other_1b_2e_0e_0e_0, b_law_other_1b_2e_0e_0e_0e_0, b_law_other_1b_2e_0e_0e_0e_0e_0, c0, c1, c2, c3, c4, c5] using w1, w2, ss.trans w3, w4⟩
theorem other' (hS : H0 S) (hz : Tx 3000 z) : ∃ z' S', d_law_other [.ref 0, .str z] S = .ok (.str z') S' ∧ H0 S' ∧ Same S S' ∧ Tx 24200 z' := by
  obtain ⟨m, S1, m1, m2, m3, m4, m5⟩ := draw' (size := 4) hS (by decide) (by decide)
  let Bd : Nat → Nat := fun n => 3020 * 2 ^ n - 20
  have hBd : ∀ n, n < 3 → Bd n ≤ 40000 ∧ 2 * Bd n + 20 ≤ Bd (n + 1) := by
    intro n hn
    have : n = 0 ∨ n = 1 ∨ n = 2 := by omega
    rcases this with rfl | rfl | rfl <;> decide
  have h0 : b_law_other_0 ⟨[some (.ref 0), some (.str z), none, none, none, none, none, none, none], none⟩ S = .nx (OE (some (.str z)) none none none none none none z) S := rfl
  have h1 : b_law_other_1 (OE (some (.str z)) none none none none none none z) S = forL (fun _ => True) (nameG 3) (seqS b_law_other_1b_0 (seqS b_law_other_1b_1 b_law_other_1b_2)) (rangeL 0 m) (OE (some (.str z)) none none none none none none z) S1 := by
    unfold b_law_other_1
    exact forS_ap (range1_ap (by simp [m1]) m3 (by omega))
  have hm : (rangeL 0 m).length ≤ 3 := by rw [rangeL_len]; omega
  obtain ⟨env', S', q1, z', i3, a, b, k, c, d, rfl, q2, q3, q4⟩ : ∃ env' S', forL (fun _ => True) (nameG 3) (seqS b_law_other_1b_0 (seqS b_law_other_1b_1 b_law_other_1b_2)) (rangeL 0 m) (OE (some (.str z)) none none none none none none z) S1 = .nx env' S' ∧
      ∃ z' i3 a b k c d, env' = OE (some (.str z)) i3 a b k c d z' ∧ H0 S' ∧ Same S1 S' ∧ Tx 24200 z' := by
    have key : ∀ (xs : List D) (n : Nat) (env : Sl) (S2 : Dn.S), n + xs.length ≤ 3 → (∃ z' i3 a b k c d, env = OE (some (.str z)) i3 a b k c d z' ∧ H0 S2 ∧ Same S1 S2 ∧ Tx (Bd n) z') →
        ∃ env' S', forL (fun _ => True) (nameG 3) (seqS b_law_other_1b_0 (seqS b_law_other_1b_1 b_law_other_1b_2)) xs env S2 = .nx env' S' ∧ ∃ z' i3 a b k c d, env' = OE (some (.str z)) i3 a b k c d z' ∧ H0 S' ∧ Same S1 S' ∧ Tx 24200 z' := by
      intro xs
      induction xs with
      | nil =>
        rintro n env S2 hn ⟨z', i3, a, b, k, c, d, rfl, w1, w2, w3⟩
        refine ⟨_, S2, by unfold forL; rw [if_pos trivial], z', i3, a, b, k, c, d, rfl, w1, w2, w3.mono ?_⟩
        have : n = 0 ∨ n = 1 ∨ n = 2 ∨ n = 3 := by simp at hn; omega
        rcases this with rfl | rfl | rfl | rfl <;> decide
      | cons x xs ih =>
        rintro n env S2 hn ⟨z', i3, a, b, k, c, d, rfl, w1, w2, w3⟩
        simp only [List.length_cons] at hn
        obtain ⟨hB1, hB2⟩ := hBd n (by omega)
        obtain ⟨z2, S3, a', b', k', c', d', v1, v2, v3, v4⟩ := other_turn (t := some (.str z)) (i3 := some x) (a := a) (b := b) (k := k) (c := c) (d := d) w1 w3 hB1
        obtain ⟨env', S', u1, u2⟩ := ih (n + 1) _ S3 (by omega) ⟨z2, some x, a', b', k', c', d', rfl, v2, w2.trans v3, v4.mono hB2⟩
        refine ⟨env', S', ?_, u2⟩
        unfold forL
        rw [if_pos trivial]
        have e : ((nameG 3 x (OE (some (.str z)) i3 a b k c d z') S2).only.bind (seqS b_law_other_1b_0 (seqS b_law_other_1b_1 b_law_other_1b_2))) = .nx (OE (some (.str z)) (some x) a' b' k' c' d' z2) S3 := v1
        rw [e]
        exact u1
    exact key _ 0 _ S1 (by omega) ⟨z, none, none, none, none, none, none, rfl, m2, .refl, hz.mono (by decide)⟩
  refine ⟨z', S', ?_, q2, m5.trans q3, q4⟩
  simp only [d_law_other, b_law_other, defD_ap', List.length_cons, List.length_nil, Nat.zero_add, Nat.reduceAdd, if_true, List.map_cons, List.map_nil, Nat.reduceSub, List.reduceReplicate, List.cons_append, List.nil_append, seqS_ap]
  rw [h0]
  simp only [rsb_nx, seqS_ap]
  rw [h1, q1]
  rfl
end
end Dn.k58
end

section
namespace Dn.k58
open PySem L2 Dn
/-! # lines -/
def linesC : List Nat → List (List Nat)
  | [] => [[]]
  | c :: r => if c = 10 then [] :: linesC r else match linesC r with
    | [] => [[c]]
    | l :: ls => (c :: l) :: ls
theorem linesC_ne : ∀ cs, linesC cs ≠ []
  | [] => by simp [linesC]
  | c :: r => by
    unfold linesC
    split
    · simp
    · split <;> simp
theorem linesC_free : ∀ p : List Nat, 10 ∉ p → linesC p = [p]
  | [], _ => rfl
  | c :: r, h => by
    have hc : c ≠ 10 := fun e => h (by simp [e])
    have hr : 10 ∉ r := fun e => h (List.mem_cons_of_mem _ e)
    unfold linesC
    rw [if_neg hc, linesC_free r hr]
theorem linesC_app (w : List Nat) : ∀ p : List Nat, 10 ∉ p → linesC (p ++ 10 :: w) = p :: linesC w
  | [], _ => by
    show linesC (10 :: w) = _
    rw [linesC, if_pos rfl]
  | c :: r, h => by
    have hc : c ≠ 10 := fun e => h (by simp [e])
    have hr : 10 ∉ r := fun e => h (List.mem_cons_of_mem _ e)
    show linesC (c :: (r ++ 10 :: w)) = _
    rw [linesC, if_neg hc, linesC_app w r hr]
theorem linesC_join : ∀ ps : List Str, ps ≠ [] → (∀ p ∈ ps, 10 ∉ p.cps.toList) → linesC (Str.join "\n" ps).cps.toList = ps.map (·.cps.toList)
  | [], h, _ => absurd rfl h
  | [p], _, h => linesC_free _ (h p List.mem_cons_self)
  | p :: q :: r, _, h => by
    have e : (Str.join "\n" (p :: q :: r)).cps.toList = p.cps.toList ++ 10 :: (Str.join "\n" (q :: r)).cps.toList := by
      show (p ++ ("\n" : Str) ++ Str.join "\n" (q :: r)).cps.toList = _
      rw [app_list, app_list]
      simp [show ("\n" : Str).cps.toList = [10] from rfl]
    rw [e, linesC_app _ _ (h p List.mem_cons_self), linesC_join (q :: r) (by simp) fun x hx => h x (List.mem_cons_of_mem _ hx)]
    rfl
def ofL (l : List Nat) : Str := ⟨l.toArray⟩
theorem split_lines (z : Str) : Txt.split z "\n" = (linesC z.cps.toList).map ofL := by
  have h1 := StrLaws.join_split z "\n"
  have h2 : ∀ p ∈ Txt.split z "\n", 10 ∉ p.cps.toList := StrLaws.split_free z 10
  have h3 : Txt.split z "\n" ≠ [] := by
    have := PyProof.Rows.split_pos z "\n"
    intro e
    rw [e] at this
    simp at this
  have h4 := linesC_join _ h3 h2
  rw [h1] at h4
  rw [h4, List.map_map]
  conv => lhs; rw [← List.map_id (Txt.split z "\n")]
  refine List.map_congr_left fun p _ => ?_
  cases p
  rfl
/-- the places at which two lists of lines differ -/
def dueL (A B : List (List Nat)) : List Int := (List.range (max A.length B.length)).filterMap fun i => if A[i]? = B[i]? then none else some ((i : Nat) + 1 : Int)
def cell (A : List (List Nat)) (i : Nat) : D := match A[i]? with
  | some l => .str (ofL l)
  | none => .non
theorem cell_ne {S : Dn.S} (A B : List (List Nat)) (i : Nat) : neD (cell A i) (cell B i) S = some (.bl (!decide (A[i]? = B[i]?)), S) := by
  unfold cell
  cases h1 : A[i]? with
  | none =>
    cases h2 : B[i]? with
    | none => rfl
    | some b => rfl
  | some a =>
    cases h2 : B[i]? with
    | none => rfl
    | some b =>
      show neD (.str (ofL a)) (.str (ofL b)) S = _
      rw [neD_str]
      congr 4
      rw [decide_eq_decide]
      constructor
      · intro e
        have : a.toArray = b.toArray := by injection e
        rw [show a = b by simpa using congrArg Array.toList this]
      · intro e
        injection e with e
        rw [e]
section
variable {S : Dn.S}
def padL (A : List (List Nat)) (n : Nat) : List D := A.map (fun l => .str (ofL l)) ++ List.replicate (n - A.length) .non
theorem padL_len {A : List (List Nat)} {n : Nat} (h : A.length ≤ n) : (padL A n).length = n := by unfold padL; simp; omega
theorem padL_get {A : List (List Nat)} {n i : Nat} (h : i < n) : (padL A n)[i]? = some (cell A i) := by
  unfold padL cell
  by_cases hi : i < A.length
  · rw [List.getElem?_append_left (by simpa using hi), List.getElem?_map, List.getElem?_eq_getElem hi]
    rfl
  · rw [List.getElem?_append_right (by simp; omega), List.getElem?_replicate, if_pos (by simp; omega), List.getElem?_eq_none_iff.mpr (by omega)]
theorem nums_pairs {A B : List (List Nat)} {n : Nat} (ha : A.length ≤ n) (hb : B.length ≤ n) : nums (pairs (padL A n) (padL B n)) = (List.range n).map fun i => .tup [.int (i : Nat), .tup [cell A i, cell B i]] := by
  apply List.ext_getElem?
  intro i
  by_cases hi : i < n
  · rw [List.getElem?_map, List.getElem?_range hi]
    have hl : i < (nums (pairs (padL A n) (padL B n))).length := by
      rw [nums_len]; unfold pairs; rw [List.length_zipWith, padL_len ha, padL_len hb]; omega
    obtain ⟨d, hd, e⟩ := nums_get (List.getElem?_eq_getElem hl)
    obtain ⟨x, y, hx, hy, e2⟩ := pairs_get hd
    rw [padL_get hi] at hx hy
    cases hx
    cases hy
    rw [List.getElem?_eq_getElem hl, e, e2]
    rfl
  · rw [List.getElem?_eq_none_iff.mpr (by rw [nums_len]; unfold pairs; rw [List.length_zipWith, padL_len ha, padL_len hb]; omega), List.getElem?_eq_none_iff.mpr (by simp; omega)]
theorem times_non (k : Int) : timesD k [D.non] = List.replicate k.toNat .non := by
  unfold timesD
  generalize k.toNat = n
  induction n with
  | zero => rfl
  | succ n ih => rw [List.replicate_succ, List.flatten_cons, ih, List.replicate_succ]; rfl
theorem isi_str (z : Str) : isiN [.str z, .val (.ty "str")] S = some (.bl true, S) := by
  rw [isi_ap (a := "str") rfl]
  simp [isiB]
theorem ez_ap {m : LM} {env : Sl} {xs ys : List D} {S1 : Dn.S} (h : m env S = .ok [.lst xs, .lst ys] S1) : ezI m env S = .ok (nums (pairs xs ys), fun S => gdOf (.lst xs) xs S ∧ gdOf (.lst ys) ys S) S1 := by
  unfold ezI
  rw [h, R.bind_ok]
  rfl
@[simp] theorem truD_bl {b : Bool} : truD S (.bl b) = some b := rfl
theorem mul_non {k : Int} (h : k ≤ 100000) : mulD false (.lst [.non]) (.int k) S = some (.lst (List.replicate k.toNat .non), S) ∨ k < -(2 ^ 63) := by
  by_cases h0 : -(2 ^ 63) ≤ k
  · left
    unfold mulD
    simp only [view_lst', view_int']
    rw [if_pos ⟨h0, by omega, by simp [sizeLine_eq]; omega⟩, times_non]
    rfl
  · right; omega
theorem fm_congr {α β : Type} {f g : α → Option β} : ∀ {l : List α}, (∀ x ∈ l, f x = g x) → l.filterMap f = l.filterMap g
  | [], _ => rfl
  | x :: l, h => by
    rw [List.filterMap_cons, List.filterMap_cons, h x List.mem_cons_self, fm_congr fun y hy => h y (List.mem_cons_of_mem _ hy)]
theorem due_eq {A B : List (List Nat)} {n : Nat} (hn : n = max A.length B.length) :
    ((List.range n).map fun i : Nat => D.tup [D.int (i : Int), D.tup [cell A i, cell B i]]).filterMap (fun d : D => match d with
      | .tup [.int i, .tup [x, y]] => if eqS x y = true then none else some (D.int (i + 1))
      | _ => (none : Option D)) = (dueL A B).map D.int := by
  unfold dueL
  rw [List.filterMap_map, List.map_filterMap, ← hn]
  refine fm_congr fun i _ => ?_
  have e : eqS (cell A i) (cell B i) = decide (A[i]? = B[i]?) := by
    have h := cell_ne (S := []) A B i
    have h2 : neD (cell A i) (cell B i) [] = some (.bl (!eqS (cell A i) (cell B i)), []) := by
      unfold neD likeD
      have : scalD (cell A i) (cell B i) = true := by
        unfold cell
        cases A[i]? <;> cases B[i]? <;> rfl
      rw [if_pos this]
      rfl
    rw [h2] at h
    simpa using h
  simp only [Function.comp_apply]
  rw [e]
  by_cases h : A[i]? = B[i]?
  · simp [h]
  · simp [h]
theorem slips' {z w : Str} (hz : Tx 24200 z) (hw : Tx 24200 w) : d_slips [.str z, .str w] S = .ok (.tup ((dueL (linesC z.cps.toList) (linesC w.cps.toList)).map .int)) S := by
  have lz := hz.len
  have lw := hw.len
  obtain ⟨A, hA⟩ : ∃ A, A = linesC z.cps.toList := ⟨_, rfl⟩
  obtain ⟨B, hB⟩ : ∃ B, B = linesC w.cps.toList := ⟨_, rfl⟩
  have sz := split_lines z
  have sw := split_lines w
  rw [← hA] at sz
  rw [← hB] at sw
  have la : A.length ≤ 24202 := by
    have := PyProof.Rows.split_le z "\n"
    rw [sz, List.length_map] at this
    omega
  have lb : B.length ≤ 24202 := by
    have := PyProof.Rows.split_le w "\n"
    rw [sw, List.length_map] at this
    omega
  have e1 : splitM false (.str z) [.str "\n"] S = some (.lst (A.map fun l => .str (ofL l)), S) := by
    unfold splitM
    dsimp only
    rw [if_pos ⟨by decide, by rw [sizeLine_eq]; omega⟩, sz, List.map_map]
    rfl
  have e2 : splitM false (.str w) [.str "\n"] S = some (.lst (B.map fun l => .str (ofL l)), S) := by
    unfold splitM
    dsimp only
    rw [if_pos ⟨by decide, by rw [sizeLine_eq]; omega⟩, sw, List.map_map]
    rfl
  obtain ⟨n, hn⟩ : ∃ n, n = max A.length B.length := ⟨_, rfl⟩
  have hnl : n ≤ 24202 := by omega
  rw [← hA, ← hB]
  have ll : (A.map fun l => D.str (ofL l)).length = A.length := List.length_map ..
  have lr : (B.map fun l => D.str (ofL l)).length = B.length := List.length_map ..
  have pa : padL A n = (A.map fun l => .str (ofL l)) ++ List.replicate (n - A.length) .non := rfl
  have pb : padL B n = (B.map fun l => .str (ofL l)) ++ List.replicate (n - B.length) .non := rfl
  have pal := padL_len (A := A) (n := n) (by omega)
  have pbl := padL_len (A := B) (n := n) (by omega)
  have np := nums_pairs (A := A) (B := B) (n := n) (by omega) (by omega)
  generalize (A.map fun l => D.str (ofL l)) = la' at *
  generalize (B.map fun l => D.str (ofL l)) = lb' at *
  have h0 : b_slips_0 ⟨[some (.str z), some (.str w), none, none, none, none, none, none], none⟩ S = .nx ⟨[some (.str z), some (.str w), none, none, none, none, none, none], none⟩ S := by
    simp [b_slips_0, isi_str]
  have h1 : b_slips_1 ⟨[some (.str z), some (.str w), none, none, none, none, none, none], none⟩ S = .nx ⟨[some (.str z), some (.str w), some (.lst la'), some (.lst lb'), none, none, none, none], none⟩ S := by
    unfold b_slips_1 par2S
    simp [e1, e2, Sl.put]
  have h2 : b_slips_2 ⟨[some (.str z), some (.str w), some (.lst la'), some (.lst lb'), none, none, none, none], none⟩ S = .nx ⟨[some (.str z), some (.str w), some (.lst la'), some (.lst lb'), some (.int n), none, none, none], none⟩ S := by
    have : max (la'.length : Int) (lb'.length : Int) = n := by omega
    simp [b_slips_2, this]
  have m1 : mulD false (.lst [.non]) (.int ((n : Int) - la'.length)) S = some (.lst (List.replicate (n - A.length) .non), S) := by
    rcases mul_non (S := S) (k := (n : Int) - la'.length) (by omega) with h | h
    · rw [h, show ((n : Int) - la'.length).toNat = n - A.length by omega]
    · omega
  have m2 : mulD false (.lst [.non]) (.int ((n : Int) - lb'.length)) S = some (.lst (List.replicate (n - B.length) .non), S) := by
    rcases mul_non (S := S) (k := (n : Int) - lb'.length) (by omega) with h | h
    · rw [h, show ((n : Int) - lb'.length).toNat = n - B.length by omega]
    · omega
  have a1 : addD false (.lst la') (.lst (List.replicate (n - A.length) .non)) S = some (.lst (padL A n), S) := by
    rw [addD_lst (by simp [sizeLine_eq]; omega), pa]
  have a2 : addD false (.lst lb') (.lst (List.replicate (n - B.length) .non)) S = some (.lst (padL B n), S) := by
    rw [addD_lst (by simp [sizeLine_eq]; omega), pb]
  have h3 : b_slips_3 ⟨[some (.str z), some (.str w), some (.lst la'), some (.lst lb'), some (.int n), none, none, none], none⟩ S = .nx ⟨[some (.str z), some (.str w), some (.lst (padL A n)), some (.lst (padL B n)), some (.int n), none, none, none], none⟩ S := by
    unfold b_slips_3 par2S
    simp [m1, m2, a1, a2, Sl.put]
  have hc : b_slips_4_c0 ⟨[some (.str z), some (.str w), some (.lst (padL A n)), some (.lst (padL B n)), some (.int n), none, none, none], none⟩ S = .ok (.lst ((dueL A B).map .int)) S := by
    have hi : b_slips_4_c0i ⟨[some (.str z), some (.str w), some (.lst (padL A n)), some (.lst (padL B n)), some (.int n), none, none, none], none⟩ S = .ok (nums (pairs (padL A n) (padL B n)), fun S => gdOf (.lst (padL A n)) (padL A n) S ∧ gdOf (.lst (padL B n)) (padL B n) S) S := ez_ap (by simp)
    have hl : (nums (pairs (padL A n) (padL B n))).length ≤ sizeLine := by
      rw [np, List.length_map, List.length_range, sizeLine_eq]; omega
    refine compE_ap hi hl ?_
    rw [np, ← due_eq hn]
    refine compL_fm ⟨trivial, trivial⟩ _ fun x hx => ?_
    obtain ⟨i, hi', rfl⟩ := List.mem_map.mp hx
    refine ⟨⟨[some (.str z), some (.str w), some (.lst (padL A n)), some (.lst (padL B n)), some (.int n), some (.int (i : Nat)), some (cell A i), some (cell B i)], none⟩, ?_, ?_⟩
    · simp [wipeE, wipeD]
    · have hc2 := cell_ne (S := S) A B i
      have e : eqS (cell A i) (cell B i) = decide (A[i]? = B[i]?) := by
        have h2 : neD (cell A i) (cell B i) S = some (.bl (!eqS (cell A i) (cell B i)), S) := by
          unfold neD likeD
          have : scalD (cell A i) (cell B i) = true := by
            unfold cell
            cases A[i]? <;> cases B[i]? <;> rfl
          rw [if_pos this]
          rfl
        rw [h2] at hc2
        simpa using hc2
      by_cases q : A[i]? = B[i]?
      · exact .inr ⟨by simp [e, q], by simp [b_slips_4_c0t, hc2, q]⟩
      · exact .inl ⟨.int ((i : Nat) + 1), by simp [e, q], by simp [b_slips_4_c0t, hc2, q], by simp [b_slips_4_c0e]⟩
  have h4 : b_slips_4 ⟨[some (.str z), some (.str w), some (.lst (padL A n)), some (.lst (padL B n)), some (.int n), none, none, none], none⟩ S = .ret (.tup ((dueL A B).map .int)) S := by
    unfold b_slips_4
    simp only [retS_ap, callNE_ap, consL_ap, nilL_ap, hc, R.bind_ok]
    rfl
  simp only [d_slips, b_slips, defD_ap', List.length_cons, List.length_nil, Nat.zero_add, Nat.reduceAdd, if_true, List.map_cons, List.map_nil, Nat.reduceSub, List.reduceReplicate, List.cons_append, List.nil_append, seqS_ap]
  rw [h0]
  simp only [rsb_nx, seqS_ap]
  rw [h1]
  simp only [rsb_nx, seqS_ap]
  rw [h2]
  simp only [rsb_nx, seqS_ap]
  rw [h3]
  simp only [rsb_nx]
  rw [h4]
  rfl
end
end Dn.k58
end

section
namespace Dn.k58
open PySem L2 Dn
/-! # the law's own lines -/
abbrev chr (c : Nat) : D := .str ⟨#[c]⟩
def goL : List (List Nat) → List Nat → List Nat → List (List Nat) × List Nat
  | L0, l, [] => (L0, l)
  | L0, l, c :: cs => if c = 10 then goL (L0 ++ [l]) [] cs else goL L0 (l ++ [c]) cs
theorem goL_lines : ∀ (cs : List Nat) (L0 : List (List Nat)) (l : List Nat), (goL L0 l cs).1 ++ [(goL L0 l cs).2] = L0 ++ (match linesC cs with
  | [] => [l]
  | h :: t => (l ++ h) :: t)
  | [], L0, l => by simp [goL, linesC]
  | c :: cs, L0, l => by
    unfold goL linesC
    by_cases hc : c = 10
    · rw [if_pos hc, if_pos hc, goL_lines cs]
      cases q : linesC cs with
      | nil => exact absurd q (linesC_ne cs)
      | cons h t => simp
    · rw [if_neg hc, if_neg hc, goL_lines cs]
      cases q : linesC cs with
      | nil => exact absurd q (linesC_ne cs)
      | cons h t => simp
theorem goL_all (cs : List Nat) : (goL [] [] cs).1 ++ [(goL [] [] cs).2] = linesC cs := by
  rw [goL_lines]
  cases q : linesC cs with
  | nil => exact absurd q (linesC_ne cs)
  | cons h t => simp
/-- the list at f holds lists, of which the last is at r -/
structure LA (S : Dn.S) (f : Nat) (rs : List Nat) (r : Nat) (L : List (List Nat)) (l : List Nat) : Prop where
  top : S[f]? = some (.lst ((rs ++ [r]).map .ref))
  len : rs.length = L.length
  at_ : ∀ (j q : Nat) (m : List Nat), rs[j]? = some q → L[j]? = some m → S[q]? = some (.lst (m.map chr))
  last : S[r]? = some (.lst (l.map chr))
  nd : (rs ++ [r]).Nodup
  nf : f ∉ rs ++ [r]
/-- what stays -/
structure Fr (S S' : Dn.S) (f : Nat) (ks ks' : List Nat) : Prop where
  len : S.length ≤ S'.length
  at_ : ∀ k, k < S.length → k ≠ f → k ∉ ks → S'[k]? = S[k]?
  new : ∀ k ∈ ks', k ∈ ks ∨ S.length ≤ k
theorem forL_nil {gd : Dn.S → Prop} {g : GM} {b : SM} {env : Sl} {S : Dn.S} (h : gd S) : forL gd g b [] env S = .nx env S := by unfold forL; rw [if_pos h]
theorem forL_cons {gd : Dn.S → Prop} {g : GM} {b : SM} {env : Sl} {S : Dn.S} {x : D} {xs : List D} (h : gd S) : forL gd g b (x :: xs) env S = loopB ((g x env S).only.bind b) (forL gd g b xs) := by
  rw [forL]
  exact if_pos h
@[simp] theorem loopB_nx {env : Sl} {S : Dn.S} {k : SM} : loopB (.nx env S) k = k env S := (rfl)
section
variable {S : Dn.S}
theorem appendM_ref {n : Nat} {xs : List D} {d : D} (h : S[n]? = some (.lst xs)) (hl : xs.length < 100000) : appendM (.ref n) [d] S = some (.non, S.set n (.lst (xs ++ [d]))) := by
  unfold appendM
  simp only [h]
  rw [if_pos (by rw [sizeLine_eq]; omega)]
theorem ix_last {n : Nat} {xs : List D} {d : D} (h : S[n]? = some (.lst (xs ++ [d]))) : ixD (.ref n) (.int (-1)) S = some (d, S) := by
  refine ixD_ref h ?_
  unfold atI ixN
  rw [if_neg (by decide), if_pos (by simp; omega)]
  show (xs ++ [d])[(-1 + ((xs ++ [d]).length : Int)).toNat]? = some d
  rw [show (-1 + ((xs ++ [d]).length : Int)).toNat = xs.length by simp; omega]
  simp
variable {e0 e1 e2 e3 e4 e6 e7 e8 : Option D}
theorem run_lines {f : Nat} : ∀ (cs : List Nat) (S : Dn.S) (rs : List Nat) (r : Nat) (L : List (List Nat)) (l : List Nat) (e6 : Option D), LA S f rs r L l → rs.length + cs.length < 99999 → l.length + cs.length < 99999 →
    ∃ S' rs' r' e6', forL (fun _ => True) (nameG 6) b_law_slips_1b_0b_0 (cs.map chr) ⟨[e0, e1, e2, e3, e4, some (.ref f), e6, e7, e8], none⟩ S = .nx ⟨[e0, e1, e2, e3, e4, some (.ref f), e6', e7, e8], none⟩ S' ∧
      LA S' f rs' r' (goL L l cs).1 (goL L l cs).2 ∧ Fr S S' f (rs ++ [r]) (rs' ++ [r']) ∧ rs'.length ≤ rs.length + cs.length
  | [], S, rs, r, L, l, e6, h, _, _ => ⟨S, rs, r, e6, forL_nil trivial, h, ⟨Nat.le_refl _, fun _ _ _ _ => rfl, fun _ h => .inl h⟩, by simp⟩
  | c :: cs, S, rs, r, L, l, e6, h, hn, hm => by
    simp only [List.length_cons] at hn hm
    have hfl : f < S.length := (List.getElem?_eq_some_iff.mp h.top).1
    have hrl : r < S.length := (List.getElem?_eq_some_iff.mp h.last).1
    have hfr : f ≠ r := fun e => h.nf (by simp [e])
    rw [List.map_cons, forL_cons trivial]
    by_cases hc : c = 10
    · subst hc
      have t1 : (S ++ [O.lst []])[f]? = some (.lst ((rs ++ [r]).map .ref)) := by rw [List.getElem?_append_left hfl]; exact h.top
      have a1 := appendM_ref (d := .ref S.length) t1 (by simp; omega)
      have hfl2 : f < (S ++ [O.lst []]).length := by simp; omega
      have h1 : ((nameG 6 (chr 10) ⟨[e0, e1, e2, e3, e4, some (.ref f), e6, e7, e8], none⟩ S).only.bind b_law_slips_1b_0b_0) = .nx ⟨[e0, e1, e2, e3, e4, some (.ref f), some (chr 10), e7, e8], none⟩ ((S ++ [O.lst []]).set f (.lst ((rs ++ [r]).map .ref ++ [.ref S.length]))) := by
        have e : (⟨#[10]⟩ : Str) = "\n" := rfl
        have ty := tyD_lst t1
        have ty2 := tyD_lst h.top
        generalize (rs ++ [r]).map D.ref = qs at a1 ty ty2
        simp [b_law_slips_1b_0b_0, b_law_slips_1b_0b_0t_0, e, ty2, a1]
      rw [h1, loopB_nx]
      have LA' : LA ((S ++ [O.lst []]).set f (.lst ((rs ++ [r]).map .ref ++ [.ref S.length]))) f (rs ++ [r]) S.length (L ++ [l]) [] := by
        refine ⟨?_, by simp [h.len], fun j q m hq hm' => ?_, ?_, ?_, ?_⟩
        · rw [List.getElem?_set_self hfl2]; simp
        · have hqf : q ≠ f := fun e => h.nf (e ▸ List.mem_of_getElem? hq)
          have hql : q < S.length := by
            by_cases hj : j < rs.length
            · rw [List.getElem?_append_left hj] at hq
              rw [List.getElem?_append_left (by rw [← h.len]; exact hj)] at hm'
              exact (List.getElem?_eq_some_iff.mp (h.at_ j q m hq hm')).1
            · rw [List.getElem?_append_right (by omega)] at hq
              cases k : j - rs.length with
              | zero => rw [k] at hq; simp at hq; rw [← hq]; exact hrl
              | succ n => rw [k] at hq; simp at hq
          rw [List.getElem?_set_ne (Ne.symm hqf), List.getElem?_append_left hql]
          by_cases hj : j < rs.length
          · rw [List.getElem?_append_left hj] at hq
            rw [List.getElem?_append_left (by rw [← h.len]; exact hj)] at hm'
            exact h.at_ j q m hq hm'
          · rw [List.getElem?_append_right (by omega)] at hq
            rw [List.getElem?_append_right (by rw [← h.len]; omega), ← h.len] at hm'
            cases k : j - rs.length with
            | zero =>
              rw [k] at hq hm'
              simp at hq hm'
              rw [← hq, ← hm']
              exact h.last
            | succ n => rw [k] at hq; simp at hq
        · rw [List.getElem?_set_ne (by omega)]; simp
        · have : ∀ q ∈ rs ++ [r], q < S.length := fun q hq => by
            obtain ⟨j, hj⟩ := List.getElem?_of_mem hq
            by_cases hjl : j < rs.length
            · rw [List.getElem?_append_left hjl] at hj
              exact (List.getElem?_eq_some_iff.mp (h.at_ j q _ hj (List.getElem?_eq_getElem (by rw [← h.len]; exact hjl)))).1
            · rw [List.getElem?_append_right (by omega)] at hj
              cases k : j - rs.length with
              | zero => rw [k] at hj; simp at hj; rw [← hj]; exact hrl
              | succ n => rw [k] at hj; simp at hj
          refine List.nodup_append.mpr ⟨h.nd, by simp, fun a ha b hb => ?_⟩
          rw [List.mem_singleton.mp hb]
          have := this a ha
          omega
        · intro hf
          rcases List.mem_append.mp hf with hf | hf
          · exact h.nf hf
          · rw [List.mem_singleton.mp hf] at hfl; omega
      obtain ⟨S', rs', r', e6', q1, q2, q3, q4⟩ := run_lines cs _ (rs ++ [r]) S.length (L ++ [l]) [] (some (chr 10)) LA' (by simp; omega) (by simp; omega)
      refine ⟨S', rs', r', e6', q1, ?_, ⟨?_, fun k hk h1 h2 => ?_, fun k hk => ?_⟩, by simp at q4 ⊢; omega⟩
      · unfold goL; rw [if_pos rfl]; exact q2
      · have := q3.len; simp at this; omega
      · rw [q3.at_ k (by simp; omega) h1 (by
          intro z
          rcases List.mem_append.mp z with z | z
          · exact h2 z
          · rw [List.mem_singleton.mp z] at hk; omega), List.getElem?_set_ne (Ne.symm h1), List.getElem?_append_left hk]
      · rcases q3.new k hk with z | z
        · rcases List.mem_append.mp z with z | z
          · exact .inl z
          · rw [List.mem_singleton.mp z]; exact .inr (Nat.le_refl _)
        · simp at z; exact .inr (by omega)
    · have top' : S[f]? = some (.lst (rs.map .ref ++ [.ref r])) := by rw [h.top]; simp
      have i1 := ix_last top'
      have a1 := appendM_ref (d := chr c) h.last (by simp; omega)
      have h1 : ((nameG 6 (chr c) ⟨[e0, e1, e2, e3, e4, some (.ref f), e6, e7, e8], none⟩ S).only.bind b_law_slips_1b_0b_0) = .nx ⟨[e0, e1, e2, e3, e4, some (.ref f), some (chr c), e7, e8], none⟩ (S.set r (.lst (l.map chr ++ [chr c]))) := by
        have e : ¬ ((⟨#[c]⟩ : Str) = "\n") := fun z => hc (by
          have z2 : (⟨#[c]⟩ : Str) = ⟨#[10]⟩ := z
          injection z2 with z2
          simpa using z2)
        have ty := tyD_lst h.last
        generalize l.map chr = qs at a1 ty
        simp [b_law_slips_1b_0b_0, b_law_slips_1b_0b_0e_0, e, i1, ty, a1]
      rw [h1, loopB_nx]
      have LA' : LA (S.set r (.lst (l.map chr ++ [chr c]))) f rs r L (l ++ [c]) := by
        refine ⟨by rw [List.getElem?_set_ne (Ne.symm hfr)]; exact h.top, h.len, fun j q m hq hm' => ?_, ?_, h.nd, h.nf⟩
        · have hqr : q ≠ r := fun e => by
            have := (List.nodup_append.mp h.nd).2.2 q (List.mem_of_getElem? hq) r (by simp)
            exact this e
          rw [List.getElem?_set_ne (Ne.symm hqr)]
          exact h.at_ j q m hq hm'
        · rw [List.getElem?_set_self hrl]; simp
      obtain ⟨S', rs', r', e6', q1, q2, q3, q4⟩ := run_lines cs _ rs r L (l ++ [c]) (some (chr c)) LA' (by omega) (by simp; omega)
      refine ⟨S', rs', r', e6', q1, ?_, ⟨?_, fun k hk h1 h2 => ?_, fun k hk => ?_⟩, by simp; omega⟩
      · unfold goL; rw [if_neg hc]; exact q2
      · have := q3.len; simp at this; omega
      · rw [q3.at_ k (by simp; omega) h1 h2, List.getElem?_set_ne (fun e => h2 (by simp [e]))]
      · rcases q3.new k hk with z | z
        · exact .inl z
        · simp at z; exact .inr z
theorem plain_strs : ∀ l : List Nat, plainL (l.map chr) = true
  | [] => rfl
  | c :: l => by
    show ((chr c).plain && plainL (l.map chr)) = true
    rw [plain_strs l]; rfl
theorem pd_strs : ∀ l : List Nat, pdL (l.map chr) = l.map fun c => PyData.str ⟨#[c]⟩
  | [] => rfl
  | c :: l => by
    show (chr c).pd :: pdL (l.map chr) = _
    rw [pd_strs l]; rfl
theorem canLay_strs : ∀ l : List Nat, (∀ c ∈ l, c < 128) → PyData.canLayAll0 (l.map fun c => PyData.str ⟨#[c]⟩) = true
  | [], _ => rfl
  | c :: l, h => by
    show (PyData.canLay0 (.str ⟨#[c]⟩) && PyData.canLayAll0 (l.map fun c => PyData.str ⟨#[c]⟩)) = true
    rw [canLay_strs l fun d hd => h d (List.mem_cons_of_mem _ hd), Bool.and_true]
    have := h c List.mem_cons_self
    show PyData.strOk ⟨#[c]⟩ = true
    simp [PyData.strOk]
    omega
theorem depth_strs : ∀ l : List Nat, PyData.depthAll (l.map fun c => PyData.str ⟨#[c]⟩) = 0
  | [] => rfl
  | c :: l => by
    show max (PyData.depth (.str ⟨#[c]⟩)) (PyData.depthAll (l.map fun c => PyData.str ⟨#[c]⟩)) = 0
    rw [depth_strs l]; rfl
theorem eqv_strs : ∀ l k : List Nat, PyData.eqvAll (l.map fun c => PyData.str ⟨#[c]⟩) (k.map fun c => PyData.str ⟨#[c]⟩) = decide (l = k)
  | [], [] => by simp [PyData.eqvAll]
  | [], _ :: _ => by simp [PyData.eqvAll]
  | _ :: _, [] => by simp [PyData.eqvAll]
  | a :: l, b :: k => by
    rw [List.map_cons, List.map_cons, PyData.eqvAll, eqv_strs l k]
    have : PyData.eqv (.str ⟨#[a]⟩) (.str ⟨#[b]⟩) = decide (a = b) := by
      rw [PyData.eqv]
      by_cases e : a = b
      · subst e; simp
      · have : ¬ ((⟨#[a]⟩ : Str) = ⟨#[b]⟩) := fun z => by
          injection z with z
          exact e (by simpa using z)
        simp [e, this]
    rw [this]
    by_cases e : a = b <;> by_cases f : l = k <;> simp [e, f]
theorem ne_lines {r q : Nat} {l k : List Nat} (h1 : S[r]? = some (.lst (l.map chr))) (h2 : S[q]? = some (.lst (k.map chr))) (a1 : ∀ c ∈ l, c < 128) (a2 : ∀ c ∈ k, c < 128) : neD (.ref r) (.ref q) S = some (.bl (!decide (l = k)), S) := by
  have v1 : view S (.ref r) = .lst (l.map chr) := by simp [h1]
  have v2 : view S (.ref q) = .lst (k.map chr) := by simp [h2]
  have sh : ∀ l : List Nat, (∀ c ∈ l, c < 128) → SeqAt.shaped (D.pd (.lst (l.map chr))) = true := by
    intro l hl
    show SeqAt.shaped (.list (pdL (l.map chr))) = true
    rw [pd_strs]
    unfold SeqAt.shaped
    rw [Bool.and_eq_true]
    refine ⟨canLay_strs l hl, ?_⟩
    show decide (PyData.depthAll (l.map fun c => PyData.str ⟨#[c]⟩) + 1 ≤ 64) = true
    rw [depth_strs]; rfl
  unfold neD likeD
  rw [if_neg (by simp [scalD]), v1, v2, if_pos ⟨plain_strs l, plain_strs k, sh l a1, sh k a2⟩]
  show some (D.bl (!PyData.eqv (.list (pdL (l.map chr))) (.list (pdL (k.map chr)))), S) = _
  rw [pd_strs, pd_strs, PyData.eqv, eqv_strs]
/-- the lists at f -/
structure LF (S : Dn.S) (f : Nat) (rs : List Nat) (L : List (List Nat)) : Prop where
  top : S[f]? = some (.lst (rs.map .ref))
  len : rs.length = L.length
  at_ : ∀ (j q : Nat) (m : List Nat), rs[j]? = some q → L[j]? = some m → S[q]? = some (.lst (m.map chr))
theorem LA.lf {f : Nat} {rs : List Nat} {r : Nat} {L : List (List Nat)} {l : List Nat} (h : LA S f rs r L l) : LF S f (rs ++ [r]) (L ++ [l]) := by
  refine ⟨h.top, by simp [h.len], fun j q m hq hm => ?_⟩
  by_cases hj : j < rs.length
  · rw [List.getElem?_append_left hj] at hq
    rw [List.getElem?_append_left (by rw [← h.len]; exact hj)] at hm
    exact h.at_ j q m hq hm
  · rw [List.getElem?_append_right (by omega)] at hq
    rw [List.getElem?_append_right (by rw [← h.len]; omega), ← h.len] at hm
    cases k : j - rs.length with
    | zero =>
      rw [k] at hq hm
      simp at hq hm
      rw [← hq, ← hm]
      exact h.last
    | succ n => rw [k] at hq; simp at hq
theorem linesC_asc : ∀ cs : List Nat, (∀ c ∈ cs, c < 128) → ∀ l ∈ linesC cs, ∀ c ∈ l, c < 128
  | [], _, l, hl, c, hc => by
    have : l = [] := by simpa [linesC] using hl
    rw [this] at hc
    simp at hc
  | a :: cs, h, l, hl, c, hc => by
    have ih := linesC_asc cs fun c hc => h c (List.mem_cons_of_mem _ hc)
    unfold linesC at hl
    by_cases ha : a = 10
    · rw [if_pos ha] at hl
      rcases List.mem_cons.mp hl with rfl | hl
      · simp at hc
      · exact ih l hl c hc
    · rw [if_neg ha] at hl
      cases q : linesC cs with
      | nil => exact absurd q (linesC_ne cs)
      | cons x t =>
        rw [q] at hl ih
        rcases List.mem_cons.mp hl with rfl | hl
        · rcases List.mem_cons.mp hc with rfl | hc
          · exact h _ List.mem_cons_self
          · exact ih x List.mem_cons_self c hc
        · exact ih l (List.mem_cons_of_mem _ hl) c hc
end
end Dn.k58
end

section
namespace Dn.k58
open PySem L2 Dn
section
variable {S : Dn.S}
theorem getL {A : List (List Nat)} {f : Nat} {rs : List Nat} (h : LF S f rs A) {i : Nat} (hi : i < A.length) : ∃ r, ixD (.ref f) (.int i) S = some (.ref r, S) ∧ S[r]? = some (.lst ((A[i]).map chr)) := by
  have hl : i < rs.length := by rw [h.len]; exact hi
  refine ⟨rs[i], ixD_ref h.top (atI_nat (by omega) ?_), h.at_ i rs[i] A[i] (List.getElem?_eq_getElem hl) (List.getElem?_eq_getElem hi)⟩
  rw [Int.toNat_natCast, List.getElem?_map, List.getElem?_eq_getElem hl]
  rfl
theorem tupleN_lst {xs : List D} : tupleN [.lst xs] S = some (.tup xs, S) := rfl
/-- the comparing -/
theorem cmp_lines {A B : List (List Nat)} {f g : Nat} {rs qs : List Nat} {e0 e1 e4 e5 e6 : Option D} (hA : LF S f rs A) (hB : LF S g qs B) (la : A.length ≤ 30000) (lb : B.length ≤ 30000) (aa : ∀ l ∈ A, ∀ c ∈ l, c < 128) (ab : ∀ l ∈ B, ∀ c ∈ l, c < 128) :
    (seqS b_law_slips_2 b_law_slips_3) ⟨[e0, e1, some (.ref f), some (.ref g), e4, e5, e6, none, none], none⟩ S = .ret (.tup ((dueL A B).map D.int)) S := by
  have l1 : lenN [.ref f] S = some (.int A.length, S) := by
    rw [lenN_ref hA.top, List.length_map, hA.len]
  have l2 : lenN [.ref g] S = some (.int B.length, S) := by
    rw [lenN_ref hB.top, List.length_map, hB.len]
  obtain ⟨n, hn⟩ : ∃ n, n = max A.length B.length := ⟨_, rfl⟩
  have hmax : max (A.length : Int) (B.length : Int) = n := by omega
  have h2 : b_law_slips_2 ⟨[e0, e1, some (.ref f), some (.ref g), e4, e5, e6, none, none], none⟩ S = .nx ⟨[e0, e1, some (.ref f), some (.ref g), e4, e5, e6, some (.int n), none], none⟩ S := by
    simp [b_law_slips_2, l1, l2, hmax]
  have hc : b_law_slips_3_c0 ⟨[e0, e1, some (.ref f), some (.ref g), e4, e5, e6, some (.int n), none], none⟩ S = .ok (.lst ((dueL A B).map .int)) S := by
    have hi : b_law_slips_3_c0i ⟨[e0, e1, some (.ref f), some (.ref g), e4, e5, e6, some (.int n), none], none⟩ S = .ok (rangeL 0 n, fun _ => True) S := range1_ap (by simp) (by omega) (by omega)
    refine compE_ap hi (by rw [rangeL_len, sizeLine_eq]; omega) ?_
    have e : (dueL A B).map D.int = (rangeL 0 n).filterMap fun d : D => match d with
      | .int i => if A[i.toNat]? = B[i.toNat]? then none else some (D.int (i + 1))
      | _ => (none : Option D) := by
      unfold dueL rangeL
      rw [List.filterMap_map, List.map_filterMap, ← hn, show ((n : Int) - 0).toNat = n by omega]
      refine fm_congr fun i _ => ?_
      simp only [Function.comp_apply, Int.zero_add, Int.toNat_natCast]
      by_cases q : A[i]? = B[i]?
      · simp [q]
      · simp [q]
    rw [e]
    refine compL_fm trivial _ fun x hx => ?_
    obtain ⟨i, hi', rfl⟩ := List.mem_map.mp (show x ∈ (List.range ((n : Int) - 0).toNat).map fun i : Nat => D.int (0 + (i : Int)) from hx)
    have hin : i < n := by have := List.mem_range.mp hi'; omega
    simp only [Int.zero_add]
    refine ⟨⟨[e0, e1, some (.ref f), some (.ref g), e4, e5, e6, some (.int n), some (.int i)], none⟩, rfl, ?_⟩
    simp only [Int.toNat_natCast]
    by_cases c1 : A.length ≤ i
    · refine .inl ⟨.int ((i : Int) + 1), ?_, ?_, by simp [b_law_slips_3_c0e]⟩
      · rw [if_neg]
        rw [List.getElem?_eq_none_iff.mpr c1, List.getElem?_eq_getElem (show i < B.length by omega)]
        simp
      · simp [b_law_slips_3_c0t, l1, c1]
    · by_cases c2 : B.length ≤ i
      · refine .inl ⟨.int ((i : Int) + 1), ?_, ?_, by simp [b_law_slips_3_c0e]⟩
        · rw [if_neg]
          rw [List.getElem?_eq_none_iff.mpr c2, List.getElem?_eq_getElem (show i < A.length by omega)]
          simp
        · simp [b_law_slips_3_c0t, l1, l2, c1, c2]
      · have hia : i < A.length := by omega
        have hib : i < B.length := by omega
        obtain ⟨r, r1, r2⟩ := getL hA hia
        obtain ⟨q, q1, q2⟩ := getL hB hib
        have ne := ne_lines r2 q2 (aa _ (List.getElem_mem hia)) (ab _ (List.getElem_mem hib))
        by_cases c3 : A[i] = B[i]
        · refine .inr ⟨?_, ?_⟩
          · rw [if_pos]
            rw [List.getElem?_eq_getElem hia, List.getElem?_eq_getElem hib, c3]
          · rw [c3] at ne
            simp [b_law_slips_3_c0t, l1, l2, c1, c2, r1, q1, ne]
        · refine .inl ⟨.int ((i : Int) + 1), ?_, ?_, by simp [b_law_slips_3_c0e]⟩
          · rw [if_neg]
            rw [List.getElem?_eq_getElem hia, List.getElem?_eq_getElem hib]
            simp [c3]
          · simp [b_law_slips_3_c0t, l1, l2, c1, c2, r1, q1, ne, c3]
  simp only [seqS_ap]
  rw [h2]
  simp only [rsb_nx]
  unfold b_law_slips_3
  simp only [retS_ap, callNE_ap, consL_ap, nilL_ap, hc, R.bind_ok, tupleN_lst, R.of_some, trs_ok]
theorem linesC_len : ∀ cs : List Nat, (linesC cs).length ≤ cs.length + 1
  | [] => by simp [linesC]
  | a :: cs => by
    have ih := linesC_len cs
    unfold linesC
    by_cases ha : a = 10
    · rw [if_pos ha]; simp; omega
    · rw [if_neg ha]
      cases q : linesC cs with
      | nil => simp
      | cons x t => rw [q] at ih; simp at ih ⊢; omega
/-- what was there stays -/
structure Ext (S S' : Dn.S) : Prop where
  len : S.length ≤ S'.length
  at_ : ∀ k, k < S.length → S'[k]? = S[k]?
theorem law_slips' {z w : Str} (hz : Tx 24200 z) (hw : Tx 24200 w) : ∃ S', d_law_slips [.str z, .str w] S = .ok (.tup ((dueL (linesC z.cps.toList) (linesC w.cps.toList)).map D.int)) S' ∧ Ext S S' := by
  have lz : z.cps.toList.length ≤ 24200 := by rw [Array.length_toList]; exact hz.len
  have lw : w.cps.toList.length ≤ 24200 := by rw [Array.length_toList]; exact hw.len
  obtain ⟨n, hn⟩ : ∃ n, n = S.length := ⟨_, rfl⟩
  let S1 : Dn.S := S ++ [.lst [], .lst [.ref n], .lst [], .lst [.ref (n + 2)]]
  have g : ∀ k, S1[n + k]? = ([O.lst [], .lst [.ref n], .lst [], .lst [.ref (n + 2)]] : Dn.S)[k]? := fun k => by
    show (S ++ _)[n + k]? = _
    rw [List.getElem?_append_right (by omega), show n + k - S.length = k by omega]
  have hlen : S1.length = n + 4 := by show (S ++ _).length = _; simp [hn]
  have h0 : b_law_slips_0 ⟨[some (.str z), some (.str w), none, none, none, none, none, none, none], none⟩ S = .nx ⟨[some (.str z), some (.str w), some (.ref (n + 1)), some (.ref (n + 3)), none, none, none, none, none], none⟩ S1 := by
    simp [b_law_slips_0, ← hn, S1]
  have LA1 : LA S1 (n + 1) [] n [] [] := ⟨g 1, rfl, fun j q m h => by simp at h, g 0, by simp, by simp⟩
  obtain ⟨S2, rs2, r2, e2, p1, p2, p3, p4⟩ := run_lines (e0 := some (.str z)) (e1 := some (.str w)) (e2 := some (.ref (n + 1))) (e3 := some (.ref (n + 3))) (e4 := some (.str z)) (e7 := none) (e8 := none) z.cps.toList S1 [] n [] [] none LA1 (by rw [List.length_nil]; omega) (by rw [List.length_nil]; omega)
  have LB2 : LA S2 (n + 3) [] (n + 2) [] [] := by
    refine ⟨?_, rfl, fun j q m h => by simp at h, ?_, by simp, by simp⟩
    · rw [p3.at_ (n + 3) (by omega) (by omega) (by simp)]; exact g 3
    · rw [p3.at_ (n + 2) (by omega) (by omega) (by simp)]; exact g 2
  obtain ⟨S3, rs3, r3, e3, q1, q2, q3, q4⟩ := run_lines (e0 := some (.str z)) (e1 := some (.str w)) (e2 := some (.ref (n + 1))) (e3 := some (.ref (n + 3))) (e4 := some (.str w)) (e7 := none) (e8 := none) w.cps.toList S2 [] (n + 2) [] [] e2 LB2 (by rw [List.length_nil]; omega) (by rw [List.length_nil]; omega)
  have fa := p2.lf
  have fb := q2.lf
  rw [goL_all] at fa fb
  have hnew : ∀ k ∈ rs2 ++ [r2], k ≠ n + 3 ∧ k ≠ n + 2 := fun k hk => by
    rcases p3.new k hk with h | h
    · have : k = n := by simpa using h
      omega
    · omega
  have hin : ∀ k ∈ rs2 ++ [r2], k < S2.length := fun k hk => by
    obtain ⟨j, hj⟩ := List.getElem?_of_mem hk
    have hjl : j < (rs2 ++ [r2]).length := (List.getElem?_eq_some_iff.mp hj).1
    have hjl2 : j < (linesC z.cps.toList).length := by rw [← fa.len]; exact hjl
    exact (List.getElem?_eq_some_iff.mp (fa.at_ j k _ hj (List.getElem?_eq_getElem hjl2))).1
  have hl2 := p3.len
  have fa3 : LF S3 (n + 1) (rs2 ++ [r2]) (linesC z.cps.toList) := by
    refine ⟨?_, fa.len, fun j k m hk hm => ?_⟩
    · rw [q3.at_ (n + 1) (by omega) (by omega) (by simp)]; exact fa.top
    · have hk' := List.mem_of_getElem? hk
      rw [q3.at_ k (hin k hk') (hnew k hk').1 (by simpa using (hnew k hk').2)]
      exact fa.at_ j k m hk hm
  have h1 : b_law_slips_1 ⟨[some (.str z), some (.str w), some (.ref (n + 1)), some (.ref (n + 3)), none, none, none, none, none], none⟩ S1 = .nx ⟨[some (.str z), some (.str w), some (.ref (n + 1)), some (.ref (n + 3)), some (.str w), some (.ref (n + 3)), e3, none, none], none⟩ S3 := by
    unfold b_law_slips_1
    rw [forS_ap (seqI_tup (xs := [.tup [.str z, .ref (n + 1)], .tup [.str w, .ref (n + 3)]]) (S1 := S1) (by simp)), forL_cons trivial]
    have b1 : b_law_slips_1b_0 ⟨[some (.str z), some (.str w), some (.ref (n + 1)), some (.ref (n + 3)), some (.str z), some (.ref (n + 1)), none, none, none], none⟩ S1 = .nx ⟨[some (.str z), some (.str w), some (.ref (n + 1)), some (.ref (n + 3)), some (.str z), some (.ref (n + 1)), e2, none, none], none⟩ S2 := by
      unfold b_law_slips_1b_0
      rw [forS_ap (seqI_str (z := z) (S1 := S1) (by simp))]
      exact p1
    have b2 : b_law_slips_1b_0 ⟨[some (.str z), some (.str w), some (.ref (n + 1)), some (.ref (n + 3)), some (.str w), some (.ref (n + 3)), e2, none, none], none⟩ S2 = .nx ⟨[some (.str z), some (.str w), some (.ref (n + 1)), some (.ref (n + 3)), some (.str w), some (.ref (n + 3)), e3, none, none], none⟩ S3 := by
      unfold b_law_slips_1b_0
      rw [forS_ap (seqI_str (z := w) (S1 := S2) (by simp))]
      exact q1
    simp only [tupG_tup, List.length_cons, List.length_nil, Nat.zero_add, Nat.reduceAdd, if_true, consG_ap, nameG_ap, rsb_nx, nilG_ap, List.set_cons_succ, List.set_cons_zero, only_nx]
    rw [b1, loopB_nx, forL_cons trivial]
    simp only [tupG_tup, List.length_cons, List.length_nil, Nat.zero_add, Nat.reduceAdd, if_true, consG_ap, nameG_ap, rsb_nx, nilG_ap, List.set_cons_succ, List.set_cons_zero, only_nx]
    rw [b2, loopB_nx, forL_nil trivial]
  have hcmp := cmp_lines (e0 := some (.str z)) (e1 := some (.str w)) (e4 := some (.str w)) (e5 := some (.ref (n + 3))) (e6 := e3) fa3 fb (by have := linesC_len z.cps.toList; omega) (by have := linesC_len w.cps.toList; omega) (linesC_asc _ hz.asc) (linesC_asc _ hw.asc)
  refine ⟨S3, ?_, by have := q3.len; omega, fun k hk => ?_⟩
  · simp only [d_law_slips, b_law_slips, defD_ap', List.length_cons, List.length_nil, Nat.zero_add, Nat.reduceAdd, if_true, List.map_cons, List.map_nil, Nat.reduceSub, List.reduceReplicate, List.cons_append, List.nil_append, seqS_ap]
    rw [h0]
    simp only [rsb_nx, seqS_ap]
    rw [h1]
    simp only [rsb_nx]
    have := hcmp
    simp only [seqS_ap] at this ⊢
    rw [this]
    rfl
  · rw [q3.at_ k (by omega) (by omega) (by simp; omega), p3.at_ k (by omega) (by omega) (by simp; omega)]
    show (S ++ _)[k]? = _
    rw [List.getElem?_append_left (by omega)]
end
end Dn.k58
end

section
namespace Dn.k58
open PySem L2 Dn
/-! # two things are alike: a thing and itself -/
mutual
def nodes : D → Nat
  | .tup xs => 1 + nodesL xs
  | .lst xs => 1 + nodesL xs
  | _ => 1
def nodesL : List D → Nat
  | [] => 0
  | x :: xs => nodes x + nodesL xs
end
theorem nodes_pos : ∀ d : D, 1 ≤ nodes d := fun d => by cases d <;> simp [nodes]
theorem nodesL_app : ∀ xs ys : List D, nodesL (xs ++ ys) = nodesL xs + nodesL ys
  | [], ys => by simp [nodesL]
  | x :: xs, ys => by
    show nodes x + nodesL (xs ++ ys) = nodes x + nodesL xs + nodesL ys
    rw [nodesL_app xs ys]; omega
theorem nodesL_len : ∀ xs : List D, xs.length ≤ nodesL xs
  | [] => by simp [nodesL]
  | x :: xs => by
    show xs.length + 1 ≤ nodes x + nodesL xs
    have := nodesL_len xs
    have := nodes_pos x
    omega
mutual
def flatD : D → Bool
  | .non => true | .bl _ => true | .int _ => true | .str _ => true
  | .tup xs => flatDL xs
  | .lst xs => flatDL xs
  | _ => false
def flatDL : List D → Bool
  | [] => true
  | x :: xs => flatD x && flatDL xs
end
theorem flatDL_mem : ∀ {xs : List D}, flatDL xs = true → ∀ x ∈ xs, flatD x = true
  | [], _, x, hx => by simp at hx
  | y :: xs, h, x, hx => by
    have h' : (flatD y && flatDL xs) = true := h
    rw [Bool.and_eq_true] at h'
    rcases List.mem_cons.mp hx with rfl | hx
    · exact h'.1
    · exact flatDL_mem h'.2 x hx
theorem flatDL_of : ∀ {xs : List D}, (∀ x ∈ xs, flatD x = true) → flatDL xs = true
  | [], _ => rfl
  | y :: xs, h => by
    show (flatD y && flatDL xs) = true
    rw [h y List.mem_cons_self, flatDL_of fun x hx => h x (List.mem_cons_of_mem _ hx)]
    rfl
section
variable {S : Dn.S}
theorem isi_b {d : D} {a T : String} (h : (view S d).ty = some a) (hT : T ∈ ["int", "bool", "str", "tuple", "list", "dict"]) : isiN [d, .val (.ty T)] S = some (.bl (decide (a = T) || (decide (a = "bool") && decide (T = "int"))), S) := by
  rw [isi_ap h]
  unfold isiB
  rw [if_pos hT]
  rfl
theorem kind_refl {d : D} {a : String} (h : (view S d).ty = some a) : d_law_is_one_kind [d, d] S = .ok (.bl true) S := by
  have b1 := isi_b (T := "bool") h (by decide)
  have b2 := isi_b (T := "int") h (by decide)
  have b3 := isi_b (T := "tuple") h (by decide)
  have b4 := isi_b (T := "list") h (by decide)
  have b5 := isi_b (T := "dict") h (by decide)
  have b6 := isi_b (T := "str") h (by decide)
  simp only [d_law_is_one_kind, b_law_is_one_kind, b_law_is_one_kind_0, b_law_is_one_kind_0t_0, b_law_is_one_kind_1, b_law_is_one_kind_1t_0, b_law_is_one_kind_2]
  simp [b1, b2, b3, b4, b5, b6]
abbrev LE_ (t o : D) (n : Nat) (lap one other : Option D) : Sl := ⟨[some t, some o, some (.ref n), lap, one, other, none, none], none⟩
abbrev wait (ws : List D) : O := .lst (ws.map fun d => .tup [d, d])
theorem like_turn {t o : D} {n : Nat} {lap one other : Option D} {ws : List D} {d : D} (hS : S[n]? = some (wait (ws ++ [d]))) (hd : flatD d = true) (hn : nodesL ws + nodes d < 100000) :
    ∃ ws', (seqS b_law_like_1b_0 (seqS b_law_like_1b_1 (seqS b_law_like_1b_2 b_law_like_1b_3))) (LE_ t o n lap one other) S = .nx (LE_ t o n lap (some d) (some d)) (S.set n (wait ws')) ∧ nodesL ws' < nodesL ws + nodes d ∧ ((∀ x ∈ ws, flatD x = true) → ∀ x ∈ ws', flatD x = true) := by
  have hnl : n < S.length := (List.getElem?_eq_some_iff.mp hS).1
  have l0 : lenN [.ref n] S = some (.int (ws.length + 1 : Nat), S) := by rw [lenN_ref hS]; simp
  have h0 : b_law_like_1b_0 (LE_ t o n lap one other) S = .nx (LE_ t o n lap one other) S := by
    simp [b_law_like_1b_0, l0]
    omega
  have p0 : popM (.ref n) [] S = some (.tup [d, d], S.set n (wait ws)) := by
    unfold popM
    simp only [hS]
    simp
  have h1 : b_law_like_1b_1 (LE_ t o n lap one other) S = .nx (LE_ t o n lap (some d) (some d)) (S.set n (wait ws)) := by
    have ty := tyD_lst hS
    simp [b_law_like_1b_1, ty, p0]
  have hS2 : (S.set n (wait ws))[n]? = some (wait ws) := List.getElem?_set_self hnl
  generalize hS2e : S.set n (wait ws) = S2 at *
  have set2 : ∀ x, S2.set n x = S.set n x := fun x => by rw [← hS2e, List.set_set]
  have h2 : ∀ a, (view S2 d).ty = some a → b_law_like_1b_2 (LE_ t o n lap (some d) (some d)) S2 = .nx (LE_ t o n lap (some d) (some d)) S2 := fun a h => by
    simp [b_law_like_1b_2, kind_refl h]
  have fin : ∀ ws', b_law_like_1b_3 (LE_ t o n lap (some d) (some d)) S2 = .nx (LE_ t o n lap (some d) (some d)) (S2.set n (wait ws')) → (∃ a, (view S2 d).ty = some a) → (seqS b_law_like_1b_0 (seqS b_law_like_1b_1 (seqS b_law_like_1b_2 b_law_like_1b_3))) (LE_ t o n lap one other) S = .nx (LE_ t o n lap (some d) (some d)) (S.set n (wait ws')) := fun ws' h3 ⟨a, ha⟩ => by
    rw [seqS_ap, h0, rsb_nx, seqS_ap, h1, rsb_nx, seqS_ap, h2 a ha, rsb_nx, h3, set2]
  -- what is no tuple, no list
  have scal : ∀ a : String, (view S2 d).ty = some a → a ≠ "tuple" → a ≠ "list" → a ≠ "dict" → neD d d S2 = some (.bl false, S2) → b_law_like_1b_3 (LE_ t o n lap (some d) (some d)) S2 = .nx (LE_ t o n lap (some d) (some d)) (S2.set n (wait ws)) := fun a ha n1 n2 n3 hne => by
    have b3 := isi_b (T := "tuple") ha (by decide)
    have b4 := isi_b (T := "list") ha (by decide)
    have b5 := isi_b (T := "dict") ha (by decide)
    rw [set_same hS2]
    simp [b_law_like_1b_3, b_law_like_1b_3e_0, b_law_like_1b_3e_0e_0, b3, b4, b5, n1, n2, n3, hne]
  -- a tuple, a list
  have deep : ∀ (a : String) (xs : List D), (view S2 d).ty = some a → (a = "tuple" ∨ a = "list") → xs.length < 100000 → (∀ S : Dn.S, lenN [d] S = some (.int xs.length, S)) → (∀ (S : Dn.S) (i : Nat) x, xs[i]? = some x → ixD d (.int i) S = some (x, S)) → ws.length < 100000 →
      b_law_like_1b_3 (LE_ t o n lap (some d) (some d)) S2 = .nx (LE_ t o n lap (some d) (some d)) (S2.set n (wait (ws ++ xs))) := fun a xs ha hor hxl hlen hix hwl => by
    have b3 := isi_b (T := "tuple") ha (by decide)
    have b4 := isi_b (T := "list") ha (by decide)
    have hc : b_law_like_1b_3t_1_c0 (LE_ t o n lap (some d) (some d)) S2 = .ok (.lst (xs.map fun d => .tup [d, d])) S2 := by
      have hi : b_law_like_1b_3t_1_c0i (LE_ t o n lap (some d) (some d)) S2 = .ok (rangeL 0 xs.length, fun _ => True) S2 := range1_ap (by simp [hlen]) (by omega) (by omega)
      refine compE_ap hi (by rw [rangeL_len, sizeLine_eq]; omega) ?_
      have e : (xs.map fun d => D.tup [d, d]) = (rangeL 0 xs.length).map fun x : D => match x with
        | .int i => (match xs[i.toNat]? with
          | some x => D.tup [x, x]
          | none => D.non)
        | _ => D.non := by
        unfold rangeL
        rw [List.map_map]
        apply List.ext_getElem?
        intro i
        rw [List.getElem?_map, List.getElem?_map, show ((xs.length : Int) - 0).toNat = xs.length by omega]
        by_cases hi' : i < xs.length
        · rw [List.getElem?_range hi', List.getElem?_eq_getElem hi']
          simp [List.getElem?_eq_getElem hi']
        · rw [List.getElem?_eq_none_iff.mpr (by omega), List.getElem?_eq_none_iff.mpr (by simp; omega)]
          rfl
      rw [e]
      refine compL_map trivial _ fun x hx => ?_
      obtain ⟨i, hi', rfl⟩ := List.mem_map.mp (show x ∈ (List.range ((xs.length : Int) - 0).toNat).map fun i : Nat => D.int (0 + (i : Int)) from hx)
      have hin : i < xs.length := by have := List.mem_range.mp hi'; omega
      simp only [Int.zero_add, Int.toNat_natCast]
      have hx' := List.getElem?_eq_getElem hin
      refine ⟨⟨[some t, some o, some (.ref n), lap, some d, some d, some (.int i), none], none⟩, rfl, rfl, ?_⟩
      rw [hx']
      simp [b_law_like_1b_3t_1_c0e, hix S2 i _ hx']
    have ex : extendM (.ref n) [.lst (xs.map fun d => .tup [d, d])] S2 = some (.non, S2.set n (wait (ws ++ xs))) := by
      unfold extendM
      simp only [hS2, view_lst']
      rw [if_pos (by simp [sizeLine_eq]; omega), ← List.map_append]
    have ty := tyD_lst hS2
    have hor' : (decide (a = "tuple") || decide (a = "list")) = true := by
      rcases hor with rfl | rfl <;> decide
    generalize (xs.map fun d => D.tup [d, d]) = qs at hc ex
    by_cases q : a = "tuple"
    · subst q
      simp [b_law_like_1b_3, b_law_like_1b_3t_0, b_law_like_1b_3t_0t_0, b_law_like_1b_3t_1, b3, hlen, hc, ty, ex]
    · have q2 : a = "list" := by
        rcases hor with h | h
        · exact absurd h q
        · exact h
      subst q2
      simp [b_law_like_1b_3, b_law_like_1b_3t_0, b_law_like_1b_3t_0t_0, b_law_like_1b_3t_1, b3, b4, hlen, hc, ty, ex]
  have hwl := nodesL_len ws
  have small : nodes d = 1 → (∃ a : String, (view S2 d).ty = some a ∧ a ≠ "tuple" ∧ a ≠ "list" ∧ a ≠ "dict") → neD d d S2 = some (.bl false, S2) → ∃ ws', (seqS b_law_like_1b_0 (seqS b_law_like_1b_1 (seqS b_law_like_1b_2 b_law_like_1b_3))) (LE_ t o n lap one other) S = .nx (LE_ t o n lap (some d) (some d)) (S.set n (wait ws')) ∧ nodesL ws' < nodesL ws + nodes d ∧ ((∀ x ∈ ws, flatD x = true) → ∀ x ∈ ws', flatD x = true) := fun h1 ⟨a, ha, n1, n2, n3⟩ hne =>
    ⟨ws, fin ws (scal a ha n1 n2 n3 hne) ⟨a, ha⟩, by omega, fun h => h⟩
  cases d with
  | non => exact small rfl ⟨"NoneType", rfl, by decide, by decide, by decide⟩ rfl
  | bl b => exact small rfl ⟨"bool", rfl, by decide, by decide, by decide⟩ (by simp)
  | int b => exact small rfl ⟨"int", rfl, by decide, by decide, by decide⟩ (by simp)
  | str b => exact small rfl ⟨"str", rfl, by decide, by decide, by decide⟩ (by simp)
  | tup xs =>
    have hxn : nodes (.tup xs) = 1 + nodesL xs := by rw [nodes]
    have hxl := nodesL_len xs
    refine ⟨ws ++ xs, fin _ (deep "tuple" xs rfl (.inl rfl) (by omega) (fun _ => rfl) (fun S i x hx => ixD_tup (atI_nat (by omega) (by simpa using hx))) (by omega)) ⟨_, rfl⟩, by rw [nodesL_app]; omega, fun h x hx => ?_⟩
    rcases List.mem_append.mp hx with hx | hx
    · exact h x hx
    · exact flatDL_mem hd x hx
  | lst xs =>
    have hxn : nodes (.lst xs) = 1 + nodesL xs := by rw [nodes]
    have hxl := nodesL_len xs
    refine ⟨ws ++ xs, fin _ (deep "list" xs rfl (.inr rfl) (by omega) (fun _ => rfl) (fun S i x hx => ixD_lst (atI_nat (by omega) (by simpa using hx))) (by omega)) ⟨_, rfl⟩, by rw [nodesL_app]; omega, fun h x hx => ?_⟩
    rcases List.mem_append.mp hx with hx | hx
    · exact h x hx
    · exact flatDL_mem hd x hx
  | dic _ _ => cases hd
  | ref _ => cases hd
  | scr _ => cases hd
  | val _ => cases hd
theorem like_loop {t o : D} {n : Nat} : ∀ (laps : List D) (S : Dn.S) (ws : List D) (lap one other : Option D), S[n]? = some (wait ws) → (∀ x ∈ ws, flatD x = true) → nodesL ws < laps.length → nodesL ws < 100000 →
    ∃ S', forL (fun _ => True) (nameG 3) (seqS b_law_like_1b_0 (seqS b_law_like_1b_1 (seqS b_law_like_1b_2 b_law_like_1b_3))) laps (LE_ t o n lap one other) S = .ret (.bl true) S' ∧ S'.length = S.length ∧ ∀ k, k ≠ n → S'[k]? = S[k]?
  | [], S, ws, lap, one, other, hS, hf, hl, _ => by simp at hl
  | x :: laps, S, ws, lap, one, other, hS, hf, hl, hm => by
    rw [forL_cons trivial]
    have e : nameG 3 x (LE_ t o n lap one other) S = .nx (LE_ t o n (some x) one other) S := rfl
    rw [e, only_nx, rsb_nx]
    rcases List.eq_nil_or_concat ws with rfl | ⟨ws0, d, rfl⟩
    · have l0 : lenN [.ref n] S = some (.int 0, S) := by rw [lenN_ref hS]; rfl
      have h0 : b_law_like_1b_0 (LE_ t o n (some x) one other) S = .ret (.bl true) S := by
        simp [b_law_like_1b_0, b_law_like_1b_0t_0, l0]
      rw [seqS_ap, h0, rsb_ret]
      exact ⟨S, rfl, rfl, fun _ _ => rfl⟩
    · rw [List.concat_eq_append] at hS hf hl hm
      have hd : flatD d = true := hf d (by simp)
      have hn1 : nodesL (ws0 ++ [d]) = nodesL ws0 + nodes d := by rw [nodesL_app]; simp [nodesL]
      obtain ⟨ws', q1, q2, q3⟩ := like_turn (t := t) (o := o) (lap := some x) (one := one) (other := other) hS hd (by omega)
      have hnl : n < S.length := (List.getElem?_eq_some_iff.mp hS).1
      rw [q1, loopB_nx]
      simp only [List.length_cons] at hl
      obtain ⟨S', p1, p2, p3⟩ := like_loop laps (S.set n (wait ws')) ws' (some x) (some d) (some d) (List.getElem?_set_self hnl) (q3 fun y hy => hf y (List.mem_append_left _ hy)) (by omega) (by omega)
      exact ⟨S', p1, by rw [p2, List.length_set], fun k hk => by rw [p3 k hk, List.getElem?_set_ne (Ne.symm hk)]⟩
/-- a thing is like itself -/
theorem like' {d : D} (hf : flatD d = true) (hn : nodes d < 60000) : ∃ S', d_law_like [d, d] S = .ok (.bl true) S' ∧ Ext S S' := by
  obtain ⟨n, hn'⟩ : ∃ n, n = S.length := ⟨_, rfl⟩
  have h0 : b_law_like_0 ⟨[some d, some d, none, none, none, none, none, none], none⟩ S = .nx (LE_ d d n none none none) (S ++ [wait [d]]) := by
    simp [b_law_like_0, hn']
  have hS : (S ++ [wait [d]])[n]? = some (wait [d]) := by rw [hn']; simp
  obtain ⟨S', p1, p2, p3⟩ := like_loop (t := d) (o := d) (rangeL 0 60000) (S ++ [wait [d]]) [d] none none none hS (fun x hx => by rw [List.mem_singleton.mp hx]; exact hf) (by rw [rangeL_len]; show nodes d + 0 < 60000; omega) (by show nodes d + 0 < _; omega)
  refine ⟨S', ?_, ⟨by rw [p2]; simp, fun k hk => ?_⟩⟩
  · have h1 : b_law_like_1 (LE_ d d n none none none) (S ++ [wait [d]]) = .ret (.bl true) S' := by
      unfold b_law_like_1
      rw [forS_ap (range1_ap (j := 60000) (S1 := S ++ [wait [d]]) (by simp) (by decide) (by decide))]
      exact p1
    simp only [d_law_like, b_law_like, defD_ap', List.length_cons, List.length_nil, Nat.zero_add, Nat.reduceAdd, if_true, List.map_cons, List.map_nil, Nat.reduceSub, List.reduceReplicate, List.cons_append, List.nil_append]
    rw [seqS_ap, h0, rsb_nx, seqS_ap, h1, rsb_ret, outR_ret]
  · rw [p3 k (by omega), List.getElem?_append_left hk]
end
end Dn.k58
end

section
namespace Dn.k58
open PySem L2 Dn
/-! # the law -/
theorem hand' (ns : List Int) (hn : ns.length ≤ 63) : ∃ h : Hand, d_law_hand [.scr ns] [] = .ok (.ref 0) [h.o] ∧ 0 ≤ h.pos := by
  let cells : List Int := (cutL ns none (some 63)).map fun i => (i.natAbs : Int) % 10 ^ 36
  have hcl : (cutL ns none (some 63)).length ≤ 63 := by
    unfold cutL
    rw [List.length_take, List.length_drop]
    omega
  have hc : b_law_hand_0_c0 ⟨[some (.scr ns), none, none], none⟩ [] = .ok (.lst (cells.map .int)) [] := by
    have hi : b_law_hand_0_c0i ⟨[some (.scr ns), none, none], none⟩ [] = .ok ((cutL ns none (some 63)).map .int, fun _ => True) [] := by
      refine seqI_lst ?_
      have e2 : someP (cE (.int 63)) ⟨[some (.scr ns), none, none], none⟩ [] = .ok (some 63) [] := rfl
      simp [e2, cutD]
    refine compE_ap hi (by rw [List.length_map, sizeLine_eq]; omega) (ys := cells.map .int) ?_
    have := compL_map (gd := fun _ => True) (g := nameG 2) (t := trueB) (e := b_law_hand_0_c0e) (env := wipeE ⟨[some (.scr ns), none, none], none⟩ [2]) (f := fun d => match d with
      | .int i => .int ((i.natAbs : Int) % 10 ^ 36)
      | d => d) (S := []) trivial ((cutL ns none (some 63)).map .int) (fun x hx => by
        obtain ⟨i, hi', rfl⟩ := List.mem_map.mp hx
        refine ⟨_, rfl, rfl, ?_⟩
        have p := pow_10 (k := 36) (S := []) (by decide)
        simp [b_law_hand_0_c0e, show powD (.int 10) (.int 36) [] = _ from p])
    rw [this, List.map_map, List.map_map]
    rfl
  refine ⟨⟨cells, 0, 0, 1409 + 23 * cells.length, 0⟩, ?_, Int.le_refl _⟩
  have m1 : mulOk 23 (cells.length : Int) := mulOk_l (by decide) (by decide)
  have hl : (cells.map D.int).length = cells.length := List.length_map ..
  unfold Hand.o
  generalize hcs : cells.map D.int = cs at *
  rw [← hl] at m1 ⊢
  simp [d_law_hand, b_law_hand, b_law_hand_0, b_law_hand_1, hc, m1]
section
variable {S : Dn.S}
theorem due_comm (A B : List (List Nat)) : dueL A B = dueL B A := by
  unfold dueL
  rw [Nat.max_comm]
  refine fm_congr fun i _ => ?_
  by_cases h : A[i]? = B[i]?
  · rw [if_pos h, if_pos h.symm]
  · rw [if_neg h, if_neg fun e => h e.symm]
theorem due_refl (A : List (List Nat)) : dueL A A = [] := by
  unfold dueL
  rw [List.filterMap_eq_nil_iff]
  intro i _
  rw [if_pos rfl]
theorem due_len (A B : List (List Nat)) : (dueL A B).length ≤ max A.length B.length := by
  unfold dueL
  refine Nat.le_trans (List.length_filterMap_le _ _) ?_
  rw [List.length_range]
  exact Nat.le_refl _
theorem flat_ints (is : List Int) : flatDL (is.map .int) = true := flatDL_of fun x hx => by
  obtain ⟨i, _, rfl⟩ := List.mem_map.mp hx
  rfl
theorem nodes_ints : ∀ is : List Int, nodesL (is.map .int) = is.length
  | [] => rfl
  | i :: is => by
    show 1 + nodesL (is.map .int) = _
    rw [nodes_ints is]
    simp
    omega
theorem like_ints {is : List Int} (h : is.length ≤ 50000) : ∃ S', d_law_like [.tup (is.map .int), .tup (is.map .int)] S = .ok (.bl true) S' ∧ Ext S S' := like' (flat_ints is) (by
  have : nodes (.tup (is.map .int)) = 1 + nodesL (is.map .int) := by rw [nodes]
  rw [this, nodes_ints]; omega)
theorem Ext.h0 {S' : Dn.S} (h : H0 S) (e : Ext S S') : H0 S' := by
  obtain ⟨g, h1, h2⟩ := h
  exact ⟨g, by rw [e.at_ 0 (List.getElem?_eq_some_iff.mp h1).1]; exact h1, h2⟩
/-- what is no text is refused -/
theorem refuse {a b : D} {ta tb : String} (ha : (view S a).ty = some ta) (hb : (view S b).ty = some tb) (h : ta ≠ "str" ∨ tb ≠ "str") : d_slips [a, b] S = .exc ⟨"NoTexts", []⟩ S := by
  have i1 := isi_b (T := "str") ha (by decide)
  have i2 := isi_b (T := "str") hb (by decide)
  have h0 : b_slips_0 ⟨[some a, some b, none, none, none, none, none, none], none⟩ S = .exc ⟨"NoTexts", []⟩ ⟨[some a, some b, none, none, none, none, none, none], none⟩ S := by
    by_cases q : ta = "str"
    · have q2 : tb ≠ "str" := by
        rcases h with h | h
        · exact absurd q h
        · exact h
      simp [b_slips_0, b_slips_0t_0, i1, i2, q, q2, raiseS]
    · simp [b_slips_0, b_slips_0t_0, i1, q, raiseS]
  simp only [d_slips, b_slips, defD_ap', List.length_cons, List.length_nil, Nat.zero_add, Nat.reduceAdd, if_true, List.map_cons, List.map_nil, Nat.reduceSub, List.reduceReplicate, List.cons_append, List.nil_append, seqS_ap]
  rw [h0]
  rfl
theorem pair_turn {e0 e1 e2 e3 e4 e5 e6 e8 e9 : Option D} {a b : D} {ta tb : String} (ha : (view S a).ty = some ta) (hb : (view S b).ty = some tb) (h : ta ≠ "str" ∨ tb ≠ "str") :
    (seqS b_law_2b_7b_0 (seqS b_law_2b_7b_1 b_law_2b_7b_2)) ⟨[e0, e1, e2, e3, e4, e5, e6, some (.tup [a, b]), e8, e9], none⟩ S = .nx ⟨[e0, e1, e2, e3, e4, e5, e6, some (.tup [a, b]), some (.str "texts"), e9], none⟩ S := by
  have i0 : ixD (.tup [a, b]) (.int 0) S = some (a, S) := ixD_tup (atI_nat (by decide) rfl)
  have i1 : ixD (.tup [a, b]) (.int 1) S = some (b, S) := ixD_tup (atI_nat (by decide) rfl)
  have r := refuse ha hb h
  have hy : b_law_2b_7b_1y_0 ⟨[e0, e1, e2, e3, e4, e5, e6, some (.tup [a, b]), some (.str "told"), e9], none⟩ S = .exc ⟨"NoTexts", []⟩ ⟨[e0, e1, e2, e3, e4, e5, e6, some (.tup [a, b]), some (.str "told"), e9], none⟩ S := by
    simp [b_law_2b_7b_1y_0, i0, i1, r]
  have h1 : b_law_2b_7b_1 ⟨[e0, e1, e2, e3, e4, e5, e6, some (.tup [a, b]), some (.str "told"), e9], none⟩ S = .nx ⟨[e0, e1, e2, e3, e4, e5, e6, some (.tup [a, b]), some (.str "texts"), e9], none⟩ S := by
    unfold b_law_2b_7b_1 tryS
    rw [hy]
    have l : tb_NoTexts.lookup ("NoTexts" : Str) = some true := by decide +kernel
    simp only [handS, l, if_true]
    rfl
  have h0 : b_law_2b_7b_0 ⟨[e0, e1, e2, e3, e4, e5, e6, some (.tup [a, b]), e8, e9], none⟩ S = .nx ⟨[e0, e1, e2, e3, e4, e5, e6, some (.tup [a, b]), some (.str "told"), e9], none⟩ S := rfl
  have h2 : b_law_2b_7b_2 ⟨[e0, e1, e2, e3, e4, e5, e6, some (.tup [a, b]), some (.str "texts"), e9], none⟩ S = .nx ⟨[e0, e1, e2, e3, e4, e5, e6, some (.tup [a, b]), some (.str "texts"), e9], none⟩ S := by
    simp [b_law_2b_7b_2]
  rw [seqS_ap, h0, rsb_nx, seqS_ap, h1, rsb_nx, h2]
theorem pairs_loop {e0 e1 e2 e4 e5 e7 e8 e9 : Option D} {z : Str} {a : D} {ta : String} (ha : (view S a).ty = some ta) (h : ta ≠ "str") :
    ∃ e7' e8', b_law_2b_7 ⟨[e0, e1, e2, some (.str z), e4, e5, some a, e7, e8, e9], none⟩ S = .nx ⟨[e0, e1, e2, some (.str z), e4, e5, some a, e7', e8', e9], none⟩ S := by
  have hz : (view S (.str z)).ty = some "str" := rfl
  refine ⟨some (.tup [a, a]), some (.str "texts"), ?_⟩
  unfold b_law_2b_7
  rw [forS_ap (seqI_tup (xs := [.tup [a, .str z], .tup [.str z, a], .tup [a, a]]) (S1 := S) (by simp)), forL_cons trivial]
  have n7 : ∀ (x : D) (e7 e8 : Option D), nameG 7 x ⟨[e0, e1, e2, some (.str z), e4, e5, some a, e7, e8, e9], none⟩ S = .nx ⟨[e0, e1, e2, some (.str z), e4, e5, some a, some x, e8, e9], none⟩ S := fun _ _ _ => rfl
  rw [n7, only_nx, rsb_nx, pair_turn ha hz (.inl h), loopB_nx, forL_cons trivial, n7, only_nx, rsb_nx, pair_turn hz ha (.inr h), loopB_nx, forL_cons trivial, n7, only_nx, rsb_nx, pair_turn ha ha (.inl h), loopB_nx, forL_nil trivial]
abbrev LW (ns : List Int) (turn text other due bad pair word line : Option D) : Sl := ⟨[some (.scr ns), some (.ref 0), turn, text, other, due, bad, pair, word, line], none⟩
theorem turn' {ns : List Int} {e2 e3 e4 e5 e6 e7 e8 e9 : Option D} (hS : H0 S) : ∃ e3' e4' e5' e6' e7' e8' S', (seqS b_law_2b_0 (seqS b_law_2b_1 (seqS b_law_2b_2 (seqS b_law_2b_3 (seqS b_law_2b_4 (seqS b_law_2b_5 (seqS b_law_2b_6 b_law_2b_7))))))) (LW ns e2 e3 e4 e5 e6 e7 e8 e9) S = .nx (LW ns e2 e3' e4' e5' e6' e7' e8' e9) S' ∧ H0 S' := by
  -- text
  obtain ⟨zs, S1, a1, a2, a3, a4, a5⟩ := lines' hS
  have hc : b_law_2b_0_c0 (LW ns e2 e3 e4 e5 e6 e7 e8 e9) S = .ok (.lst ((zs.map fun z => z ++ ("\n" : Str)).map .str)) S1 := by
    have hi : b_law_2b_0_c0i (LW ns e2 e3 e4 e5 e6 e7 e8 e9) S = .ok (zs.map .str, fun _ => True) S1 := seqI_lst (by simp [a1])
    refine compE_ap hi (by rw [List.length_map, sizeLine_eq]; omega) (ys := (zs.map fun z => z ++ ("\n" : Str)).map .str) ?_
    have := compL_map (gd := fun _ => True) (g := nameG 9) (t := trueB) (e := b_law_2b_0_c0e) (env := wipeE (LW ns e2 e3 e4 e5 e6 e7 e8 e9) [9]) (f := fun d => match d with
      | .str z => .str (z ++ ("\n" : Str))
      | d => d) (S := S1) trivial (zs.map .str) (fun x hx => by
        obtain ⟨z, hz, rfl⟩ := List.mem_map.mp hx
        refine ⟨_, rfl, rfl, ?_⟩
        simp [b_law_2b_0_c0e, add_tx (S := S1) (st := false) (a5 z hz) nl_tx (by decide)])
    rw [this, List.map_map, List.map_map]
    rfl
  obtain ⟨ts, hts⟩ : ∃ ts, ts = zs.map fun z => z ++ ("\n" : Str) := ⟨_, rfl⟩
  rw [← hts] at hc
  have tsl : ts.length ≤ 12 := by rw [hts, List.length_map]; exact a4
  have tst : ∀ t ∈ ts, Tx 241 t := fun t ht => by
    rw [hts] at ht
    obtain ⟨z, hz, rfl⟩ := List.mem_map.mp ht
    exact tx_app (a5 z hz) nl_tx
  have tsum := sum_le ts 241 fun t ht => (tst t ht).len
  have l0 : ("" : Str).length = 0 := rfl
  have j := joinM_ap (S := S1) (sep := "") (zs := ts) (by rw [l0]; omega)
  obtain ⟨text, htx⟩ : ∃ text, text = Str.join "" ts := ⟨_, rfl⟩
  rw [← htx] at j
  have tt : Tx 3000 text := by
    rw [htx]
    refine ⟨Nat.le_trans (StrLaws.join_length_le _ _) (by rw [l0]; omega), good_joinS (by intro c hc; simp [show ("" : Str).cps.toList = [] from rfl] at hc) _ fun x hx => (tst x hx).asc⟩
  have s0 : b_law_2b_0 (LW ns e2 e3 e4 e5 e6 e7 e8 e9) S = .nx (LW ns e2 (some (.str text)) e4 e5 e6 e7 e8 e9) S1 := by
    generalize ts.map D.str = qs at hc j
    simp [b_law_2b_0, hc, j]
  -- other
  obtain ⟨other, S2, b1, b2, b3, b4⟩ := other' a2 tt
  have s1 : b_law_2b_1 (LW ns e2 (some (.str text)) e4 e5 e6 e7 e8 e9) S1 = .nx (LW ns e2 (some (.str text)) (some (.str other)) e5 e6 e7 e8 e9) S2 := by
    simp [b_law_2b_1, b1]
  -- text again
  obtain ⟨text2, S4, c1, c2, c3⟩ : ∃ text2 S4, b_law_2b_2 (LW ns e2 (some (.str text)) (some (.str other)) e5 e6 e7 e8 e9) S2 = .nx (LW ns e2 (some (.str text2)) (some (.str other)) e5 e6 e7 e8 e9) S4 ∧ H0 S4 ∧ Tx 24200 text2 := by
    obtain ⟨r, S3, r1, r2, r3, r4, r5⟩ := draw' (size := 2) b2 (by decide) (by decide)
    by_cases h : r = 0
    · obtain ⟨o2, S4, d1, d2, d3, d4⟩ := other' r2 tt
      exact ⟨o2, S4, by simp [b_law_2b_2, r1, h, d1], d2, d4⟩
    · exact ⟨text, S3, by simp [b_law_2b_2, r1, h], r2, tt.mono (by decide)⟩
  -- due
  obtain ⟨S5, d1, d2⟩ := law_slips' (S := S4) c3 b4
  obtain ⟨A, hA⟩ : ∃ A, A = linesC text2.cps.toList := ⟨_, rfl⟩
  obtain ⟨B, hB⟩ : ∃ B, B = linesC other.cps.toList := ⟨_, rfl⟩
  have la : A.length ≤ 24201 := by
    have h1 := linesC_len text2.cps.toList
    have h2 := c3.len
    have h3 : text2.cps.toList.length = text2.length := by rw [Array.length_toList]; rfl
    rw [hA]; omega
  have lb : B.length ≤ 24201 := by
    have h1 := linesC_len other.cps.toList
    have h2 := b4.len
    have h3 : other.cps.toList.length = other.length := by rw [Array.length_toList]; rfl
    rw [hB]; omega
  have ld : (dueL A B).length ≤ 50000 := by have := due_len A B; omega
  rw [← hA, ← hB] at d1
  have s3 : b_law_2b_3 (LW ns e2 (some (.str text2)) (some (.str other)) e5 e6 e7 e8 e9) S4 = .nx (LW ns e2 (some (.str text2)) (some (.str other)) (some (.tup ((dueL A B).map .int))) e6 e7 e8 e9) S5 := by
    simp [b_law_2b_3, d1]
  -- the tests
  have sl1 : ∀ S : Dn.S, d_slips [.str text2, .str other] S = .ok (.tup ((dueL A B).map .int)) S := fun S => by rw [slips' c3 b4, ← hA, ← hB]
  have sl2 : ∀ S : Dn.S, d_slips [.str other, .str text2] S = .ok (.tup ((dueL A B).map .int)) S := fun S => by rw [slips' b4 c3, ← hA, ← hB, due_comm]
  have sl3 : ∀ S : Dn.S, d_slips [.str text2, .str text2] S = .ok (.tup []) S := fun S => by rw [slips' c3 c3, due_refl]; rfl
  obtain ⟨S6, f1, f2⟩ := like_ints (S := S5) ld
  obtain ⟨S7, g1, g2⟩ := like_ints (S := S6) ld
  obtain ⟨S8, h1, h2⟩ := like_ints (S := S7) (is := []) (by decide)
  replace h1 : d_law_like [.tup [], .tup []] S7 = .ok (.bl true) S8 := h1
  generalize (dueL A B).map D.int = due at *
  have s4 : b_law_2b_4 (LW ns e2 (some (.str text2)) (some (.str other)) (some (.tup due)) e6 e7 e8 e9) S5 = .nx (LW ns e2 (some (.str text2)) (some (.str other)) (some (.tup due)) e6 e7 e8 e9) S7 := by
    simp [b_law_2b_4, sl1, sl2, f1, g1]
  have s5 : b_law_2b_5 (LW ns e2 (some (.str text2)) (some (.str other)) (some (.tup due)) e6 e7 e8 e9) S7 = .nx (LW ns e2 (some (.str text2)) (some (.str other)) (some (.tup due)) e6 e7 e8 e9) S8 := by
    simp [b_law_2b_5, sl3, h1]
  have hS8 : H0 S8 := Ext.h0 (Ext.h0 (Ext.h0 (Ext.h0 c2 d2) f2) g2) h2
  -- the bad ones
  obtain ⟨bad, hbad, S9, i1, i2, i3⟩ := some' (S := S8) (xs := [.non, .int 3, .lst [.str text2], .tup [.str text2], .bl true, .dic [.inr "a"] [.str text2]]) hS8 (by simp) (by simp)
  have s6 : b_law_2b_6 (LW ns e2 (some (.str text2)) (some (.str other)) (some (.tup due)) e6 e7 e8 e9) S8 = .nx (LW ns e2 (some (.str text2)) (some (.str other)) (some (.tup due)) (some bad) e7 e8 e9) S9 := by
    have dd : dispE false [((cE (.str "a")), (varE 3))] (LW ns e2 (some (.str text2)) (some (.str other)) (some (.tup due)) e6 e7 e8 e9) S8 = .ok (.dic [.inr "a"] [.str text2]) S8 := rfl
    simp [b_law_2b_6, dd, i1]
  obtain ⟨tb, t1, t2⟩ : ∃ tb, (view S9 bad).ty = some tb ∧ tb ≠ "str" := by
    simp only [List.mem_cons, List.not_mem_nil, or_false] at hbad
    rcases hbad with rfl | rfl | rfl | rfl | rfl | rfl
    · exact ⟨"NoneType", rfl, by decide⟩
    · exact ⟨"int", rfl, by decide⟩
    · exact ⟨"list", rfl, by decide⟩
    · exact ⟨"tuple", rfl, by decide⟩
    · exact ⟨"bool", rfl, by decide⟩
    · exact ⟨"dict", rfl, by decide⟩
  obtain ⟨p1, p2, s7⟩ := pairs_loop (e0 := some (.scr ns)) (e1 := some (.ref 0)) (e2 := e2) (e4 := some (.str other)) (e5 := some (.tup due)) (e7 := e7) (e8 := e8) (e9 := e9) (z := text2) t1 t2
  refine ⟨some (.str text2), some (.str other), some (.tup due), some bad, p1, p2, S9, ?_, i2⟩
  rw [seqS_ap, s0, rsb_nx, seqS_ap, s1, rsb_nx, seqS_ap, c1, rsb_nx, seqS_ap, s3, rsb_nx, seqS_ap, s4, rsb_nx, seqS_ap, s5, rsb_nx, seqS_ap, s6, rsb_nx, s7]
end
theorem plain_law (ns : List Int) (hn : ns.length ≤ 63) : ∃ S', d_law [.scr ns] [] = .ok (.bl true) S' := by
  obtain ⟨h, q1, q2⟩ := hand' ns hn
  have hS : H0 [h.o] := ⟨h, rfl, q2⟩
  have s0 : b_law_0 ⟨[some (.scr ns), none, none, none, none, none, none, none, none, none], none⟩ [] = .nx (LW ns none none none none none none none none) [h.o] := by
    simp [b_law_0, q1]
  have n1 : Tx 24200 "" := tx_of _ _ (by decide +kernel)
  have n2 : Tx 24200 "a" := tx_of _ _ (by decide +kernel)
  have n3 : Tx 24200 (("a" : Str) ++ ("\n" : Str)) := tx_of _ _ (by decide +kernel)
  have n4 : Tx 24200 "\n" := tx_of _ _ (by decide +kernel)
  have c1 : d_slips [.str "", .str ""] [h.o] = .ok (.tup []) [h.o] := by rw [slips' n1 n1, due_refl]; rfl
  have c2 : d_slips [.str "a", .str (("a" : Str) ++ ("\n" : Str))] [h.o] = .ok (.tup [.int 2]) [h.o] := by
    rw [slips' n2 n3, show dueL (linesC ("a" : Str).cps.toList) (linesC (("a" : Str) ++ ("\n" : Str)).cps.toList) = [2] by decide +kernel]; rfl
  have c3 : d_slips [.str "\n", .str ""] [h.o] = .ok (.tup [.int 2]) [h.o] := by
    rw [slips' n4 n1, show dueL (linesC ("\n" : Str).cps.toList) (linesC ("" : Str).cps.toList) = [2] by decide +kernel]; rfl
  have ad : addD false (.str "a") (.str "\n") [h.o] = some (.str (("a" : Str) ++ ("\n" : Str)), [h.o]) := add_tx n2 n4 (by decide)
  have e1 : neD (.tup []) (.tup []) [h.o] = some (.bl false, [h.o]) := by
    unfold neD likeD
    rw [if_neg (by decide), if_pos ⟨rfl, rfl, rfl, rfl⟩]
    rfl
  have e2 : neD (.tup [.int 2]) (.tup [.int 2]) [h.o] = some (.bl false, [h.o]) := by
    unfold neD likeD
    rw [if_neg (by decide), if_pos ⟨rfl, rfl, rfl, rfl⟩]
    rfl
  have s1 : b_law_1 (LW ns none none none none none none none none) [h.o] = .nx (LW ns none none none none none none none none) [h.o] := by
    simp [b_law_1, c1, c2, c3, ad, e1, e2]
  obtain ⟨env', S', p1, p2, p3⟩ : ∃ env' S', b_law_2 (LW ns none none none none none none none none) [h.o] = .nx env' S' ∧ (∃ a b c d e f g i, env' = LW ns a b c d e f g i) ∧ H0 S' := by
    unfold b_law_2
    rw [forS_ap (range1_ap (j := 6) (S1 := [h.o]) (by simp) (by decide) (by decide))]
    obtain ⟨env', S', w1, w2, w3⟩ := forL_ok (gd := fun _ => True) (g := nameG 2) (b := seqS b_law_2b_0 (seqS b_law_2b_1 (seqS b_law_2b_2 (seqS b_law_2b_3 (seqS b_law_2b_4 (seqS b_law_2b_5 (seqS b_law_2b_6 b_law_2b_7)))))))
      (fun env S => (∃ a b c d e f g i, env = LW ns a b c d e f g i) ∧ H0 S) (fun _ _ _ => trivial) (rangeL 0 6) (LW ns none none none none none none none none) [h.o] ⟨⟨_, _, _, _, _, _, _, _, rfl⟩, hS⟩ (by
        rintro x hx env S ⟨⟨a, b, c, d, e, f, g, i, rfl⟩, hS⟩
        have n2 : nameG 2 x (LW ns a b c d e f g i) S = .nx (LW ns (some x) b c d e f g i) S := rfl
        obtain ⟨v3, v4, v5, v6, v7, v8, S', t1, t2⟩ := turn' (ns := ns) (e2 := some x) (e3 := b) (e4 := c) (e5 := d) (e6 := e) (e7 := f) (e8 := g) (e9 := i) hS
        refine ⟨LW ns (some x) v3 v4 v5 v6 v7 v8 i, S', ?_, ⟨some x, v3, v4, v5, v6, v7, v8, i, rfl⟩, t2⟩
        rw [n2, only_nx, rsb_nx]
        exact t1)
    exact ⟨env', S', w1, w2, w3⟩
  have s3 : b_law_3 env' S' = .ret (.bl true) S' := by simp [b_law_3]
  refine ⟨S', ?_⟩
  simp only [d_law, b_law, defD_ap', List.length_cons, List.length_nil, Nat.zero_add, Nat.reduceAdd, if_true, List.map_cons, List.map_nil, Nat.reduceSub, List.reduceReplicate, List.cons_append, List.nil_append]
  rw [seqS_ap, s0, rsb_nx, seqS_ap, s1, rsb_nx, seqS_ap, p1, rsb_nx, s3, outR_ret]
end Dn.k58
end

section
namespace Dn.k58
open PySem L2 Dn
def topS (i : Nat) : Stmt := PySem.Challenge.pw_pricesforever_k58_whole_slips_of_texts_o.main.body.getD i (.Pass ⟨0, 0, 0, 0⟩)
structure Gs (K : PySem.W.Frag) (mg : Str → Option Value) : Prop where
  b_abs : mg "abs" = none
  b_all : mg "all" = none
  b_bool : mg "bool" = none
  b_dict : mg "dict" = none
  b_enumerate : mg "enumerate" = none
  b_int : mg "int" = none
  b_isinstance : mg "isinstance" = none
  b_len : mg "len" = none
  b_list : mg "list" = none
  b_max : mg "max" = none
  b_min : mg "min" = none
  b_range : mg "range" = none
  b_sorted : mg "sorted" = none
  b_str : mg "str" = none
  b_tuple : mg "tuple" = none
  b_zip : mg "zip" = none
  x_NoTexts : ExcC K mg "NoTexts"
  x_PriceError : ExcC K mg "PriceError"
  m_NoTexts : ExmOk K (.ref (He.ga K "NoTexts")) tb_NoTexts
  m_PriceError : ExmOk K (.ref (He.ga K "PriceError")) tb_PriceError
section
variable {P : Program} {w : World} {K : PySem.W.Frag} {mg : Str → Option Value} {base : Heap}
abbrev s_law_hand : Stmt := topS 6
theorem sc_law_hand : FnScope ["script", "cells", "cell"] ["script"] (defScope s_law_hand) := ⟨rfl, rfl, rfl, by decide +kernel, rfl, by decide +kernel, by decide +kernel⟩
theorem ok_law_hand {f : Addr} {fd : FuncData} (g : Gs K mg) (F : FunD K "_law_hand" "_law_hand" (defArgs s_law_hand) (defBody s_law_hand) (defScope s_law_hand) [] [] f fd) (hm : mg "_law_hand" = some (.ref f))  : FnG P w K mg base "_law_hand" 1 d_law_hand := by
  refine fn_d (k := 0) (n := 1) (NN := 3) (m := b_law_hand) F sc_law_hand rfl rfl hm (fun _ _ _ _ _ _ us hl => match us, hl with | [_], _ => rfl) fun cdv A outer s H E hr => ?_
  have nd := sc_law_hand.nd
  have hu := hr.units
  refine dss_cons ?_ ?_
  · exact ds_comp (i := 1) (st := false) (own := [("cell", 2)]) rfl nd (di_seq (de_slice (st := false) (de_var (i := 0)) dp_none (dp_some de_int))) (blk_of (by kernel_rfl)) (fun _ _ _ _ _ => (dg_name (i := 2) nd)) (fun _ _ _ _ _ => dt_nil) (fun _ _ _ _ _ => (de_bin op_modD (de_callT fn_int rfl g.b_int (by rfl) (dl_cons (de_callB fn_abs rfl g.b_abs (by rfl) (dl_cons (de_callT fn_int rfl g.b_int (by rfl) (dl_cons (de_var (i := 2)) dl_nil)) dl_nil)) dl_nil)) (de_bin op_powD de_int de_int))) (L2.sw_true rfl rfl rfl (by kernel_rfl))
  refine dss_one ?_
  exact ds_ret (de_lst (st := true) (dl_cons (de_var (i := 1)) (dl_cons de_int (dl_cons de_int (dl_cons (de_bin op_addD de_int (de_bin op_mulD de_int (de_callB fn_len rfl g.b_len (by rfl) (dl_cons (de_var (i := 1)) dl_nil)))) (dl_cons de_int dl_nil))))))
abbrev s_slips : Stmt := topS 4
theorem sc_slips : FnScope ["text", "other", "one", "two", "many", "at", "here", "there"] ["text", "other"] (defScope s_slips) := ⟨rfl, rfl, rfl, by decide +kernel, rfl, by decide +kernel, by decide +kernel⟩
theorem ok_slips {f : Addr} {fd : FuncData} (g : Gs K mg) (F : FunD K "slips" "slips" (defArgs s_slips) (defBody s_slips) (defScope s_slips) [] [] f fd) (hm : mg "slips" = some (.ref f))  : FnG P w K mg base "slips" 1 d_slips := by
  refine fn_d (k := 0) (n := 2) (NN := 8) (m := b_slips) F sc_slips rfl rfl hm (fun _ _ _ _ _ _ us hl => match us, hl with | [_, _], _ => rfl) fun cdv A outer s H E hr => ?_
  have nd := sc_slips.nd
  have hu := hr.units
  refine dss_cons ?_ ?_
  · refine ds_if ?_ ?_ ?_
    · exact (db_w (dw_or (db_not (db_tru (de_callB fn_isi rfl g.b_isinstance (by rfl) (dl_cons (de_var (i := 0)) (dl_cons (de_ty rfl g.b_str (by rfl)) dl_nil))) (by intro _; rfl))) (dw_or1 (db_not (db_tru (de_callB fn_isi rfl g.b_isinstance (by rfl) (dl_cons (de_var (i := 1)) (dl_cons (de_ty rfl g.b_str (by rfl)) dl_nil))) (by intro _; rfl))))))
    · refine dss_one ?_
      exact ds_raise rfl (takes_of rfl rfl rfl rfl) g.x_NoTexts rfl
    · exact dss_nil
  refine dss_cons ?_ ?_
  · refine ds_par2 (i := 2) (j := 3) rfl nd (by decide) ?_
    exact (dl_cons (de_meth PySem.F.plainAttrs_str PySem.F.slot_str_split PySem.F.type_str_split (mt_splitD (st := false)) (de_var (i := 0)) (dl_cons de_str dl_nil)) (dl_cons (de_meth PySem.F.plainAttrs_str PySem.F.slot_str_split PySem.F.type_str_split (mt_splitD (st := false)) (de_var (i := 1)) (dl_cons de_str dl_nil)) dl_nil))
  refine dss_cons ?_ ?_
  · refine ds_asg (sl := [4]) ?_ (dg_name (i := 4) nd)
    exact (de_callB (fn_max rfl) rfl g.b_max (by rfl) (dl_cons (de_callB fn_len rfl g.b_len (by rfl) (dl_cons (de_var (i := 2)) dl_nil)) (dl_cons (de_callB fn_len rfl g.b_len (by rfl) (dl_cons (de_var (i := 3)) dl_nil)) dl_nil)))
  refine dss_cons ?_ ?_
  · refine ds_par2 (i := 2) (j := 3) rfl nd (by decide) ?_
    exact (dl_cons (de_bin op_addD (de_var (i := 2)) (de_bin op_mulD (de_lst (st := false) (dl_cons de_non dl_nil)) (de_bin op_subD (de_var (i := 4)) (de_callB fn_len rfl g.b_len (by rfl) (dl_cons (de_var (i := 2)) dl_nil))))) (dl_cons (de_bin op_addD (de_var (i := 3)) (de_bin op_mulD (de_lst (st := false) (dl_cons de_non dl_nil)) (de_bin op_subD (de_var (i := 4)) (de_callB fn_len rfl g.b_len (by rfl) (dl_cons (de_var (i := 3)) dl_nil))))) dl_nil))
  refine dss_one ?_
  exact ds_ret (de_callT fn_tuple rfl g.b_tuple (by rfl) (dl_cons (de_comp (st := false) (own := [("at", 5), ("here", 6), ("there", 7)]) rfl nd (di_ez rfl g.b_enumerate rfl g.b_zip (dl_cons (de_var (i := 2)) (dl_cons (de_var (i := 3)) dl_nil))) (blk_of (by kernel_rfl)) (fun _ _ _ _ _ => (dg_tup rfl (dgs_cons (dg_name (i := 5) nd) (dgs_cons (dg_tup rfl (dgs_cons (dg_name (i := 6) nd) (dgs_cons (dg_name (i := 7) nd) dgs_nil))) dgs_nil)))) (fun _ _ _ _ _ => (dt_one (db_cmp (op_neD' hu) (de_var (i := 6)) (de_var (i := 7))))) (fun _ _ _ _ _ => (de_bin op_addD (de_var (i := 5)) de_int))) dl_nil))
abbrev s_law_draw : Stmt := topS 7
theorem sc_law_draw : FnScope ["hand", "size", "cell", "digit", "number"] ["hand", "size"] (defScope s_law_draw) := ⟨rfl, rfl, rfl, by decide +kernel, rfl, by decide +kernel, by decide +kernel⟩
theorem ok_law_draw {f : Addr} {fd : FuncData} (g : Gs K mg) (F : FunD K "_law_draw" "_law_draw" (defArgs s_law_draw) (defBody s_law_draw) (defScope s_law_draw) [] [] f fd) (hm : mg "_law_draw" = some (.ref f))  : FnG P w K mg base "_law_draw" 1 d_law_draw := by
  refine fn_d (k := 0) (n := 2) (NN := 5) (m := b_law_draw) F sc_law_draw rfl rfl hm (fun _ _ _ _ _ _ us hl => match us, hl with | [_, _], _ => rfl) fun cdv A outer s H E hr => ?_
  have nd := sc_law_draw.nd
  have hu := hr.units
  refine dss_cons ?_ ?_
  · refine ds_if ?_ ?_ ?_
    · exact (db_w (dw_and (db_cmp (op_eqD' hu) (de_ix (de_var (i := 0)) de_int) de_int) (dw_and1 (db_cmp op_ltD (de_ix (de_var (i := 0)) de_int) (de_callB fn_len rfl g.b_len (by rfl) (dl_cons (de_ix (de_var (i := 0)) de_int) dl_nil))))))
    · refine dss_cons ?_ ?_
      · refine ds_asg (sl := [2]) ?_ (dg_name (i := 2) nd)
        exact (de_ix (de_ix (de_var (i := 0)) de_int) (de_ix (de_var (i := 0)) de_int))
      refine dss_cons ?_ ?_
      · refine ds_asg (sl := []) ?_ ?_
        · exact (de_bin op_addD (de_ix (de_var (i := 0)) de_int) de_int)
        · exact (dg_sub (de_var (i := 0)) de_int (fun _ => rfl))
      refine dss_cons ?_ ?_
      · refine ds_asg (sl := []) ?_ ?_
        · exact (de_bin op_modD (de_callT fn_int rfl g.b_int (by rfl) (dl_cons (de_bin op_addD (de_bin op_addD (de_bin op_mulD (de_ix (de_var (i := 0)) de_int) de_int) (de_bin op_mulD (de_var (i := 2)) de_int)) de_int) dl_nil)) de_int)
        · exact (dg_sub (de_var (i := 0)) de_int (fun _ => rfl))
      refine dss_one ?_
      refine ds_if ?_ ?_ ?_
      · exact (db_cmp op_geD (de_var (i := 2)) (de_bin op_powD de_int de_int))
      · refine dss_one ?_
        refine ds_asg (sl := []) ?_ ?_
        · exact (de_var (i := 2))
        · exact (dg_sub (de_var (i := 0)) de_int (fun _ => rfl))
      · exact dss_nil
    · exact dss_nil
  refine dss_cons ?_ ?_
  · refine ds_if ?_ ?_ ?_
    · exact (db_cmp op_gtD (de_ix (de_var (i := 0)) de_int) de_int)
    · refine dss_cons ?_ ?_
      · refine ds_asg (sl := [3]) ?_ (dg_name (i := 3) nd)
        exact (de_bin op_modD (de_callT fn_int rfl g.b_int (by rfl) (dl_cons (de_ix (de_var (i := 0)) de_int) dl_nil)) (de_var (i := 1)))
      refine dss_cons ?_ ?_
      · refine ds_asg (sl := []) ?_ ?_
        · exact (de_bin op_divD (de_ix (de_var (i := 0)) de_int) (de_var (i := 1)))
        · exact (dg_sub (de_var (i := 0)) de_int (fun _ => rfl))
      refine dss_one ?_
      exact ds_ret (de_var (i := 3))
    · exact dss_nil
  refine dss_cons ?_ ?_
  · refine ds_asg (sl := []) ?_ ?_
    · exact (de_bin op_addD (de_ix (de_var (i := 0)) de_int) de_int)
    · exact (dg_sub (de_var (i := 0)) de_int (fun _ => rfl))
  refine dss_cons ?_ ?_
  · refine ds_asg (sl := [4]) ?_ (dg_name (i := 4) nd)
    exact (de_bin op_modD (de_callT fn_int rfl g.b_int (by rfl) (dl_cons (de_bin op_mulD (de_callT fn_int rfl g.b_int (by rfl) (dl_cons (de_bin op_addD (de_ix (de_var (i := 0)) de_int) (de_bin op_mulD de_int (de_ix (de_var (i := 0)) de_int))) dl_nil)) de_int) dl_nil)) de_int)
  refine dss_cons ?_ ?_
  · refine ds_asg (sl := [4]) ?_ (dg_name (i := 4) nd)
    exact (de_bin op_modD (de_callT fn_int rfl g.b_int (by rfl) (dl_cons (de_bin op_mulD (de_var (i := 4)) (de_bin op_addD (de_bin op_divD (de_var (i := 4)) de_int) de_int)) dl_nil)) de_int)
  refine dss_cons ?_ ?_
  · refine ds_asg (sl := [4]) ?_ (dg_name (i := 4) nd)
    exact (de_bin op_modD (de_callT fn_int rfl g.b_int (by rfl) (dl_cons (de_bin op_mulD (de_var (i := 4)) (de_bin op_addD (de_bin op_divD (de_var (i := 4)) de_int) de_int)) dl_nil)) de_int)
  refine dss_one ?_
  exact ds_ret (de_bin op_modD (de_callT fn_int rfl g.b_int (by rfl) (dl_cons (de_bin op_divD (de_var (i := 4)) de_int) dl_nil)) (de_var (i := 1)))
abbrev s_law_sum : Stmt := topS 13
theorem sc_law_sum : FnScope ["line", "found", "at", "sign"] ["line"] (defScope s_law_sum) := ⟨rfl, rfl, rfl, by decide +kernel, rfl, by decide +kernel, by decide +kernel⟩
theorem ok_law_sum {f : Addr} {fd : FuncData} (g : Gs K mg) (F : FunD K "_law_sum" "_law_sum" (defArgs s_law_sum) (defBody s_law_sum) (defScope s_law_sum) [] [] f fd) (hm : mg "_law_sum" = some (.ref f))  : FnG P w K mg base "_law_sum" 1 d_law_sum := by
  refine fn_d (k := 0) (n := 1) (NN := 4) (m := b_law_sum) F sc_law_sum rfl rfl hm (fun _ _ _ _ _ _ us hl => match us, hl with | [_], _ => rfl) fun cdv A outer s H E hr => ?_
  have nd := sc_law_sum.nd
  have hu := hr.units
  refine dss_cons ?_ ?_
  · refine ds_asg (sl := [1]) ?_ (dg_name (i := 1) nd)
    exact de_int
  refine dss_cons ?_ ?_
  · refine ds_for (sl := [2, 3]) (passes_of rfl) rfl ?_ ?_ ?_
    · exact (di_enum rfl g.b_enumerate (dl_cons (de_var (i := 0)) dl_nil))
    · exact (dg_tup rfl (dgs_cons (dg_name (i := 2) nd) (dgs_cons (dg_name (i := 3) nd) dgs_nil)))
    · refine dss_one ?_
      refine ds_asg (sl := [1]) ?_ (dg_name (i := 1) nd)
      exact (de_bin op_addD (de_var (i := 1)) (de_bin op_mulD (de_meth PySem.F.plainAttrs_str PySem.F.slot_str_index PySem.F.type_str_index mt_sindexD de_str (dl_cons (de_var (i := 3)) dl_nil)) (de_bin op_addD (de_bin op_modD (de_callT fn_int rfl g.b_int (by rfl) (dl_cons (de_var (i := 2)) dl_nil)) de_int) de_int)))
  refine dss_one ?_
  exact ds_ret (de_bin op_modD (de_callT fn_int rfl g.b_int (by rfl) (dl_cons (de_var (i := 1)) dl_nil)) de_int)
abbrev s_law_line : Stmt := topS 14
theorem sc_law_line : FnScope ["name", "text", "total"] ["name", "text"] (defScope s_law_line) := ⟨rfl, rfl, rfl, by decide +kernel, rfl, by decide +kernel, by decide +kernel⟩
theorem ok_law_line {f : Addr} {fd : FuncData} (g : Gs K mg) (F : FunD K "_law_line" "_law_line" (defArgs s_law_line) (defBody s_law_line) (defScope s_law_line) [] [] f fd) (hm : mg "_law_line" = some (.ref f)) (G__law_sum : FnG P w K mg base "_law_sum" 1 d_law_sum) : FnG P w K mg base "_law_line" 2 d_law_line := by
  refine fn_d (k := 1) (n := 2) (NN := 3) (m := b_law_line) F sc_law_line rfl rfl hm (fun _ _ _ _ _ _ us hl => match us, hl with | [_, _], _ => rfl) fun cdv A outer s H E hr => ?_
  have nd := sc_law_line.nd
  have hu := hr.units
  refine dss_cons ?_ ?_
  · refine ds_asg (sl := [2]) ?_ (dg_name (i := 2) nd)
    exact (de_call G__law_sum (hr.mono (by decide)) rfl (takes_of rfl rfl rfl rfl) (dl_cons (de_var (i := 1)) dl_nil))
  refine dss_one ?_
  exact ds_ret (de_bin op_addD (de_bin op_addD (de_bin op_addD (de_bin op_addD (de_bin op_addD (de_var (i := 0)) de_str) (de_callT fn_str rfl g.b_str (by rfl) (dl_cons (de_bin op_divD (de_var (i := 2)) de_int) dl_nil))) (de_callT fn_str rfl g.b_str (by rfl) (dl_cons (de_bin op_modD (de_callT fn_int rfl g.b_int (by rfl) (dl_cons (de_var (i := 2)) dl_nil)) de_int) dl_nil))) de_str) (de_var (i := 1)))
abbrev s_law_text : Stmt := topS 12
theorem sc_law_text : FnScope ["draft", "words", "one"] ["draft"] (defScope s_law_text) := ⟨rfl, rfl, rfl, by decide +kernel, rfl, by decide +kernel, by decide +kernel⟩
theorem okb_law_text {f : Addr} {fd : FuncData} (g : Gs K mg) (F : FunD K "_law_text" "_law_text" (defArgs s_law_text) (defBody s_law_text) (defScope s_law_text) [] [] f fd) (hm : mg "_law_text" = some (.ref f))  : ∀ n, FnG P w K mg base "_law_text" (0 + n + 1) (f_law_text n)
  | 0 => fn_bad F sc_law_text hm (fun _ _ _ _ _ _ us hl => match us, hl with | [_], _ => rfl)
  | n + 1 => by
    have G__law_text := okb_law_text g F hm  n
    refine fn_d (n := 1) (NN := 3) (m := b_law_text (f_law_text n)) F sc_law_text rfl rfl hm (fun _ _ _ _ _ _ us hl => match us, hl with | [_], _ => rfl) fun cdv A outer s H E hr => ?_
    have nd := sc_law_text.nd
    have hu := hr.units
    refine dss_cons ?_ ?_
    · refine ds_if ?_ ?_ ?_
      · exact (db_cmp (op_eqD' hu) (de_ix (de_var (i := 0)) de_int) de_str)
      · refine dss_one ?_
        refine ds_asg (sl := [1]) ?_ (dg_name (i := 1) nd)
        exact (de_bin op_addD (de_comp (st := false) (own := [("one", 2)]) rfl nd (di_seq (de_ix (de_var (i := 0)) de_int)) (blk_of (by kernel_rfl)) (fun _ _ _ _ _ => (dg_name (i := 2) nd)) (fun _ _ _ _ _ => dt_nil) (fun _ _ _ _ _ => (de_callT fn_str rfl g.b_str (by rfl) (dl_cons (de_var (i := 2)) dl_nil)))) (de_lst (st := false) (dl_cons de_str (dl_cons (de_callT fn_str rfl g.b_str (by rfl) (dl_cons (de_ix (de_var (i := 0)) de_int) dl_nil)) (dl_cons (de_callT fn_str rfl g.b_str (by rfl) (dl_cons (de_ix (de_var (i := 0)) de_int) dl_nil)) dl_nil)))))
      · refine dss_one ?_
        exact ds_comp (i := 1) (st := false) (own := [("one", 2)]) rfl nd (di_seq (de_slice (st := false) (de_var (i := 0)) (dp_some de_int) dp_none)) (blk_of (by kernel_rfl)) (fun _ _ _ _ _ => (dg_name (i := 2) nd)) (fun _ _ _ _ _ => dt_nil) (fun _ _ _ _ _ => (de_if (db_tru (de_callB fn_isi rfl g.b_isinstance (by rfl) (dl_cons (de_var (i := 2)) (dl_cons (de_ty rfl g.b_tuple (by rfl)) dl_nil))) (by intro _; rfl)) (de_call G__law_text (hr.mono (by omega)) rfl takes0 (dl_cons (de_var (i := 2)) dl_nil)) (de_callT fn_str rfl g.b_str (by rfl) (dl_cons (de_var (i := 2)) dl_nil)))) (L2.sw_true rfl rfl rfl (by kernel_rfl))
    refine dss_one ?_
    exact ds_ret (de_meth PySem.F.plainAttrs_str PySem.F.slot_str_join PySem.F.type_str_join mt_joinD de_str (dl_cons (de_bin op_addD (de_bin op_addD (de_lst (st := false) (dl_cons de_str (dl_cons (de_ix (de_var (i := 0)) de_int) dl_nil))) (de_var (i := 1))) (de_lst (st := false) (dl_cons de_str dl_nil))) dl_nil))
theorem ok_law_text {f : Addr} {fd : FuncData} (g : Gs K mg) (F : FunD K "_law_text" "_law_text" (defArgs s_law_text) (defBody s_law_text) (defScope s_law_text) [] [] f fd) (hm : mg "_law_text" = some (.ref f))  : FnG P w K mg base "_law_text" 13 d_law_text := okb_law_text g F hm  12
abbrev s_law_leaf : Stmt := topS 11
theorem sc_law_leaf : FnScope ["hand", "kind", "prices", "at"] ["hand"] (defScope s_law_leaf) := ⟨rfl, rfl, rfl, by decide +kernel, rfl, by decide +kernel, by decide +kernel⟩
theorem ok_law_leaf {f : Addr} {fd : FuncData} (g : Gs K mg) (F : FunD K "_law_leaf" "_law_leaf" (defArgs s_law_leaf) (defBody s_law_leaf) (defScope s_law_leaf) [] [] f fd) (hm : mg "_law_leaf" = some (.ref f)) (G__law_draw : FnG P w K mg base "_law_draw" 1 d_law_draw) : FnG P w K mg base "_law_leaf" 2 d_law_leaf := by
  refine fn_d (k := 1) (n := 1) (NN := 4) (m := b_law_leaf) F sc_law_leaf rfl rfl hm (fun _ _ _ _ _ _ us hl => match us, hl with | [_], _ => rfl) fun cdv A outer s H E hr => ?_
  have nd := sc_law_leaf.nd
  have hu := hr.units
  refine dss_cons ?_ ?_
  · refine ds_asg (sl := [1]) ?_ (dg_name (i := 1) nd)
    exact (de_call G__law_draw (hr.mono (by decide)) rfl (takes_of rfl rfl rfl rfl) (dl_cons (de_var (i := 0)) (dl_cons de_int dl_nil)))
  refine dss_cons ?_ ?_
  · refine ds_if ?_ ?_ ?_
    · exact (db_cmp (op_eqD' hu) (de_var (i := 1)) de_int)
    · refine dss_one ?_
      exact ds_ret (de_tup (dl_cons de_str (dl_cons (de_bin op_subD (de_call G__law_draw (hr.mono (by decide)) rfl (takes_of rfl rfl rfl rfl) (dl_cons (de_var (i := 0)) (dl_cons de_int dl_nil))) de_int) dl_nil)))
    · exact dss_nil
  refine dss_cons ?_ ?_
  · refine ds_if ?_ ?_ ?_
    · exact (db_cmp (op_eqD' hu) (de_var (i := 1)) de_int)
    · refine dss_one ?_
      exact ds_ret (de_tup (dl_cons de_str dl_nil))
    · exact dss_nil
  refine dss_cons ?_ ?_
  · refine ds_if ?_ ?_ ?_
    · exact (db_cmp (op_eqD' hu) (de_var (i := 1)) de_int)
    · refine dss_one ?_
      exact ds_ret (de_tup (dl_cons de_str (dl_cons (de_call G__law_draw (hr.mono (by decide)) rfl (takes_of rfl rfl rfl rfl) (dl_cons (de_var (i := 0)) (dl_cons (de_if (db_cmp op_gtD (de_call G__law_draw (hr.mono (by decide)) rfl (takes_of rfl rfl rfl rfl) (dl_cons (de_var (i := 0)) (dl_cons de_int dl_nil))) de_int) de_int de_int) dl_nil))) dl_nil)))
    · exact dss_nil
  refine dss_cons ?_ ?_
  · refine ds_asg (sl := [2]) ?_ (dg_name (i := 2) nd)
    exact (de_callT fn_tuple rfl g.b_tuple (by rfl) (dl_cons (de_comp (st := false) (own := [("at", 3)]) rfl nd (di_range1 rfl g.b_range (dl_cons (de_bin op_addD de_int (de_call G__law_draw (hr.mono (by decide)) rfl (takes_of rfl rfl rfl rfl) (dl_cons (de_var (i := 0)) (dl_cons (de_if (db_cmp (op_eqD' hu) (de_var (i := 1)) de_int) de_int de_int) dl_nil)))) dl_nil)) (blk_of (by kernel_rfl)) (fun _ _ _ _ _ => (dg_name (i := 3) nd)) (fun _ _ _ _ _ => dt_nil) (fun _ _ _ _ _ => (de_bin op_subD (de_call G__law_draw (hr.mono (by decide)) rfl takes0 (dl_cons (de_var (i := 0)) (dl_cons de_int dl_nil))) de_int))) dl_nil))
  refine dss_one ?_
  exact ds_ret (de_tup (dl_cons de_str (dl_cons (de_var (i := 2)) (dl_cons (de_bin op_addD de_int (de_call G__law_draw (hr.mono (by decide)) rfl (takes_of rfl rfl rfl rfl) (dl_cons (de_var (i := 0)) (dl_cons (de_callB (fn_min rfl) rfl g.b_min (by rfl) (dl_cons de_int (dl_cons (de_callB fn_len rfl g.b_len (by rfl) (dl_cons (de_var (i := 2)) dl_nil)) dl_nil))) dl_nil)))) (dl_cons (de_bin op_subD (de_call G__law_draw (hr.mono (by decide)) rfl (takes_of rfl rfl rfl rfl) (dl_cons (de_var (i := 0)) (dl_cons de_int dl_nil))) de_int) dl_nil)))))
abbrev s_law_lines : Stmt := topS 15
theorem sc_law_lines : FnScope ["hand", "names", "name"] ["hand"] (defScope s_law_lines) := ⟨rfl, rfl, rfl, by decide +kernel, rfl, by decide +kernel, by decide +kernel⟩
theorem ok_law_lines {f : Addr} {fd : FuncData} (g : Gs K mg) (F : FunD K "_law_lines" "_law_lines" (defArgs s_law_lines) (defBody s_law_lines) (defScope s_law_lines) [] [] f fd) (hm : mg "_law_lines" = some (.ref f)) (G__law_draw : FnG P w K mg base "_law_draw" 1 d_law_draw) (G__law_line : FnG P w K mg base "_law_line" 2 d_law_line) (G__law_text : FnG P w K mg base "_law_text" 13 d_law_text) (G__law_leaf : FnG P w K mg base "_law_leaf" 2 d_law_leaf) : FnG P w K mg base "_law_lines" 14 d_law_lines := by
  refine fn_d (k := 13) (n := 1) (NN := 3) (m := b_law_lines) F sc_law_lines rfl rfl hm (fun _ _ _ _ _ _ us hl => match us, hl with | [_], _ => rfl) fun cdv A outer s H E hr => ?_
  have nd := sc_law_lines.nd
  have hu := hr.units
  refine dss_cons ?_ ?_
  · refine ds_asg (sl := [1]) ?_ (dg_name (i := 1) nd)
    exact (de_lst (st := false) (dl_cons de_str (dl_cons de_str (dl_cons de_str (dl_cons de_str (dl_cons de_str (dl_cons de_str (dl_cons de_str (dl_cons de_str (dl_cons de_str (dl_cons de_str (dl_cons de_str (dl_cons de_str dl_nil)))))))))))))
  refine dss_cons ?_ ?_
  · refine ds_asg (sl := [1]) ?_ (dg_name (i := 1) nd)
    exact (de_callB (fn_sorted (st := false)) rfl g.b_sorted (by rfl) (dl_cons (de_comp (st := false) (own := [("name", 2)]) rfl nd (di_seq (de_var (i := 1))) (blk_of (by kernel_rfl)) (fun _ _ _ _ _ => (dg_name (i := 2) nd)) (fun _ _ _ _ _ => (dt_one (db_cmp op_gtD (de_call G__law_draw (hr.mono (by decide)) rfl takes0 (dl_cons (de_var (i := 0)) (dl_cons de_int dl_nil))) de_int))) (fun _ _ _ _ _ => (de_var (i := 2)))) dl_nil))
  refine dss_one ?_
  exact ds_ret (de_comp (st := false) (own := [("name", 2)]) rfl nd (di_seq (de_var (i := 1))) (blk_of (by kernel_rfl)) (fun _ _ _ _ _ => (dg_name (i := 2) nd)) (fun _ _ _ _ _ => dt_nil) (fun _ _ _ _ _ => (de_call G__law_line (hr.mono (by decide)) rfl takes0 (dl_cons (de_var (i := 2)) (dl_cons (de_call G__law_text (hr.mono (by decide)) rfl takes0 (dl_cons (de_call G__law_leaf (hr.mono (by decide)) rfl takes0 (dl_cons (de_var (i := 0)) dl_nil)) dl_nil)) dl_nil)))))
abbrev s_law_some : Stmt := topS 8
theorem sc_law_some : FnScope ["hand", "things"] ["hand", "things"] (defScope s_law_some) := ⟨rfl, rfl, rfl, by decide +kernel, rfl, by decide +kernel, by decide +kernel⟩
theorem ok_law_some {f : Addr} {fd : FuncData} (g : Gs K mg) (F : FunD K "_law_some" "_law_some" (defArgs s_law_some) (defBody s_law_some) (defScope s_law_some) [] [] f fd) (hm : mg "_law_some" = some (.ref f)) (G__law_draw : FnG P w K mg base "_law_draw" 1 d_law_draw) : FnG P w K mg base "_law_some" 2 d_law_some := by
  refine fn_d (k := 1) (n := 2) (NN := 2) (m := b_law_some) F sc_law_some rfl rfl hm (fun _ _ _ _ _ _ us hl => match us, hl with | [_, _], _ => rfl) fun cdv A outer s H E hr => ?_
  have nd := sc_law_some.nd
  have hu := hr.units
  refine dss_one ?_
  exact ds_ret (de_ix (de_var (i := 1)) (de_call G__law_draw (hr.mono (by decide)) rfl (takes_of rfl rfl rfl rfl) (dl_cons (de_var (i := 0)) (dl_cons (de_callB fn_len rfl g.b_len (by rfl) (dl_cons (de_var (i := 1)) dl_nil)) dl_nil))))
abbrev s_law_other : Stmt := topS 16
theorem sc_law_other : FnScope ["hand", "text", "made", "turn", "spot", "to", "kind", "rows", "at"] ["hand", "text"] (defScope s_law_other) := ⟨rfl, rfl, rfl, by decide +kernel, rfl, by decide +kernel, by decide +kernel⟩
theorem ok_law_other {f : Addr} {fd : FuncData} (g : Gs K mg) (F : FunD K "_law_other" "_law_other" (defArgs s_law_other) (defBody s_law_other) (defScope s_law_other) [] [] f fd) (hm : mg "_law_other" = some (.ref f)) (G__law_draw : FnG P w K mg base "_law_draw" 1 d_law_draw) (G__law_some : FnG P w K mg base "_law_some" 2 d_law_some) : FnG P w K mg base "_law_other" 3 d_law_other := by
  refine fn_d (k := 2) (n := 2) (NN := 9) (m := b_law_other) F sc_law_other rfl rfl hm (fun _ _ _ _ _ _ us hl => match us, hl with | [_, _], _ => rfl) fun cdv A outer s H E hr => ?_
  have nd := sc_law_other.nd
  have hu := hr.units
  refine dss_cons ?_ ?_
  · refine ds_asg (sl := [2]) ?_ (dg_name (i := 2) nd)
    exact (de_var (i := 1))
  refine dss_cons ?_ ?_
  · refine ds_for (sl := [3]) (passes_of rfl) rfl ?_ ?_ ?_
    · exact (di_range1 rfl g.b_range (dl_cons (de_call G__law_draw (hr.mono (by decide)) rfl (takes_of rfl rfl rfl rfl) (dl_cons (de_var (i := 0)) (dl_cons de_int dl_nil))) dl_nil))
    · exact (dg_name (i := 3) nd)
    · refine dss_cons ?_ ?_
      · refine ds_par2 (i := 4) (j := 5) rfl nd (by decide) ?_
        exact (dl_cons (de_call G__law_draw (hr.mono (by decide)) rfl (takes_of rfl rfl rfl rfl) (dl_cons (de_var (i := 0)) (dl_cons (de_bin op_addD (de_callB fn_len rfl g.b_len (by rfl) (dl_cons (de_var (i := 2)) dl_nil)) de_int) dl_nil))) (dl_cons (de_call G__law_draw (hr.mono (by decide)) rfl (takes_of rfl rfl rfl rfl) (dl_cons (de_var (i := 0)) (dl_cons (de_bin op_addD (de_callB fn_len rfl g.b_len (by rfl) (dl_cons (de_var (i := 2)) dl_nil)) de_int) dl_nil))) dl_nil))
      refine dss_cons ?_ ?_
      · refine ds_asg (sl := [6]) ?_ (dg_name (i := 6) nd)
        exact (de_call G__law_draw (hr.mono (by decide)) rfl (takes_of rfl rfl rfl rfl) (dl_cons (de_var (i := 0)) (dl_cons de_int dl_nil)))
      refine dss_one ?_
      refine ds_if ?_ ?_ ?_
      · exact (db_cmp (op_eqD' hu) (de_var (i := 6)) de_int)
      · refine dss_one ?_
        refine ds_asg (sl := [2]) ?_ (dg_name (i := 2) nd)
        exact (de_bin op_addD (de_bin op_addD (de_slice (st := false) (de_var (i := 2)) dp_none (dp_some (de_var (i := 4)))) (de_call G__law_some (hr.mono (by decide)) rfl (takes_of rfl rfl rfl rfl) (dl_cons (de_var (i := 0)) (dl_cons (de_lst (st := false) (dl_cons de_str (dl_cons (de_bin op_addD de_str de_str) (dl_cons de_str (dl_cons de_str (dl_cons de_str (dl_cons de_str dl_nil))))))) dl_nil)))) (de_slice (st := false) (de_var (i := 2)) (dp_some (de_var (i := 4))) dp_none))
      · refine dss_one ?_
        refine ds_if ?_ ?_ ?_
        · exact (db_cmp (op_eqD' hu) (de_var (i := 6)) de_int)
        · refine dss_one ?_
          refine ds_asg (sl := [2]) ?_ (dg_name (i := 2) nd)
          exact (de_bin op_addD (de_slice (st := false) (de_var (i := 2)) dp_none (dp_some (de_callB (fn_min rfl) rfl g.b_min (by rfl) (dl_cons (de_var (i := 4)) (dl_cons (de_var (i := 5)) dl_nil))))) (de_slice (st := false) (de_var (i := 2)) (dp_some (de_callB (fn_max rfl) rfl g.b_max (by rfl) (dl_cons (de_var (i := 4)) (dl_cons (de_var (i := 5)) dl_nil)))) dp_none))
        · refine dss_one ?_
          refine ds_if ?_ ?_ ?_
          · exact (db_cmp (op_eqD' hu) (de_var (i := 6)) de_int)
          · refine dss_one ?_
            refine ds_asg (sl := [2]) ?_ (dg_name (i := 2) nd)
            exact (de_slice (st := false) (de_var (i := 2)) dp_none (dp_some (de_var (i := 4))))
          · refine dss_one ?_
            refine ds_if ?_ ?_ ?_
            · exact (db_cmp (op_eqD' hu) (de_var (i := 6)) de_int)
            · refine dss_one ?_
              refine ds_asg (sl := [2]) ?_ (dg_name (i := 2) nd)
              exact (de_bin op_addD (de_var (i := 2)) (de_call G__law_some (hr.mono (by decide)) rfl (takes_of rfl rfl rfl rfl) (dl_cons (de_var (i := 0)) (dl_cons (de_lst (st := false) (dl_cons de_str (dl_cons (de_bin op_addD de_str de_str) (dl_cons de_str dl_nil)))) dl_nil))))
            · refine dss_one ?_
              refine ds_if ?_ ?_ ?_
              · exact (db_cmp (op_eqD' hu) (de_var (i := 6)) de_int)
              · refine dss_cons ?_ ?_
                · refine ds_asg (sl := [7]) ?_ (dg_name (i := 7) nd)
                  exact (de_meth PySem.F.plainAttrs_str PySem.F.slot_str_split PySem.F.type_str_split (mt_splitD (st := false)) (de_var (i := 2)) (dl_cons de_str dl_nil))
                refine dss_cons ?_ ?_
                · refine ds_asg (sl := [8]) ?_ (dg_name (i := 8) nd)
                  exact (de_call G__law_draw (hr.mono (by decide)) rfl (takes_of rfl rfl rfl rfl) (dl_cons (de_var (i := 0)) (dl_cons (de_callB fn_len rfl g.b_len (by rfl) (dl_cons (de_var (i := 7)) dl_nil)) dl_nil)))
                refine dss_one ?_
                refine ds_asg (sl := [2]) ?_ (dg_name (i := 2) nd)
                exact (de_meth PySem.F.plainAttrs_str PySem.F.slot_str_join PySem.F.type_str_join mt_joinD de_str (dl_cons (de_bin op_addD (de_slice (st := false) (de_var (i := 7)) dp_none (dp_some (de_var (i := 8)))) (de_slice (st := false) (de_var (i := 7)) (dp_some (de_bin op_addD (de_var (i := 8)) de_int)) dp_none)) dl_nil))
              · refine dss_one ?_
                refine ds_if ?_ ?_ ?_
                · exact (db_cmp (op_eqD' hu) (de_var (i := 6)) de_int)
                · refine dss_one ?_
                  refine ds_asg (sl := [2]) ?_ (dg_name (i := 2) nd)
                  exact (de_bin op_addD (de_bin op_addD (de_slice (st := false) (de_var (i := 2)) dp_none (dp_some (de_var (i := 4)))) (de_meth0 PySem.F.plainAttrs_str PySem.F.slot_str_upper PySem.F.type_str_upper mt_upperD (de_slice (st := false) (de_var (i := 2)) (dp_some (de_var (i := 4))) (dp_some (de_bin op_addD (de_var (i := 4)) de_int))))) (de_slice (st := false) (de_var (i := 2)) (dp_some (de_bin op_addD (de_var (i := 4)) de_int)) dp_none))
                · refine dss_one ?_
                  refine ds_asg (sl := [2]) ?_ (dg_name (i := 2) nd)
                  exact (de_call G__law_some (hr.mono (by decide)) rfl (takes_of rfl rfl rfl rfl) (dl_cons (de_var (i := 0)) (dl_cons (de_lst (st := false) (dl_cons de_str (dl_cons de_str (dl_cons (de_bin op_addD (de_var (i := 2)) (de_var (i := 2))) (dl_cons (de_bin op_addD de_str (de_var (i := 2))) dl_nil))))) dl_nil)))
  refine dss_one ?_
  exact ds_ret (de_var (i := 2))
abbrev s_law_slips : Stmt := topS 17
theorem sc_law_slips : FnScope ["one", "other", "mine", "its", "text", "found", "sign", "many", "at"] ["one", "other"] (defScope s_law_slips) := ⟨rfl, rfl, rfl, by decide +kernel, rfl, by decide +kernel, by decide +kernel⟩
theorem ok_law_slips {f : Addr} {fd : FuncData} (g : Gs K mg) (F : FunD K "_law_slips" "_law_slips" (defArgs s_law_slips) (defBody s_law_slips) (defScope s_law_slips) [] [] f fd) (hm : mg "_law_slips" = some (.ref f))  : FnG P w K mg base "_law_slips" 1 d_law_slips := by
  refine fn_d (k := 0) (n := 2) (NN := 9) (m := b_law_slips) F sc_law_slips rfl rfl hm (fun _ _ _ _ _ _ us hl => match us, hl with | [_, _], _ => rfl) fun cdv A outer s H E hr => ?_
  have nd := sc_law_slips.nd
  have hu := hr.units
  refine dss_cons ?_ ?_
  · refine ds_asg (sl := [2, 3]) ?_ ?_
    · exact (de_tup (dl_cons (de_lst (st := true) (dl_cons (de_lst (st := true) dl_nil) dl_nil)) (dl_cons (de_lst (st := true) (dl_cons (de_lst (st := true) dl_nil) dl_nil)) dl_nil)))
    · exact (dg_tup rfl (dgs_cons (dg_name (i := 2) nd) (dgs_cons (dg_name (i := 3) nd) dgs_nil)))
  refine dss_cons ?_ ?_
  · refine ds_for (sl := [4, 5]) (passes_of rfl) rfl ?_ ?_ ?_
    · exact (di_seq (de_tup (dl_cons (de_tup (dl_cons (de_var (i := 0)) (dl_cons (de_var (i := 2)) dl_nil))) (dl_cons (de_tup (dl_cons (de_var (i := 1)) (dl_cons (de_var (i := 3)) dl_nil))) dl_nil))))
    · exact (dg_tup rfl (dgs_cons (dg_name (i := 4) nd) (dgs_cons (dg_name (i := 5) nd) dgs_nil)))
    · refine dss_one ?_
      refine ds_for (sl := [6]) (passes_of rfl) rfl ?_ ?_ ?_
      · exact (di_seq (de_var (i := 4)))
      · exact (dg_name (i := 6) nd)
      · refine dss_one ?_
        refine ds_if ?_ ?_ ?_
        · exact (db_cmp (op_eqD' hu) (de_var (i := 6)) de_str)
        · refine dss_one ?_
          exact ds_expr (de_meth PySem.F.plainAttrs_list PySem.F.slot_list_append PySem.F.type_list_append mt_appendD (de_var (i := 5)) (dl_cons (de_lst (st := true) dl_nil) dl_nil))
        · refine dss_one ?_
          exact ds_expr (de_meth PySem.F.plainAttrs_list PySem.F.slot_list_append PySem.F.type_list_append mt_appendD (de_ix (de_var (i := 5)) (de_un op_negD de_int)) (dl_cons (de_var (i := 6)) dl_nil))
  refine dss_cons ?_ ?_
  · refine ds_asg (sl := [7]) ?_ (dg_name (i := 7) nd)
    exact (de_callB (fn_max rfl) rfl g.b_max (by rfl) (dl_cons (de_callB fn_len rfl g.b_len (by rfl) (dl_cons (de_var (i := 2)) dl_nil)) (dl_cons (de_callB fn_len rfl g.b_len (by rfl) (dl_cons (de_var (i := 3)) dl_nil)) dl_nil)))
  refine dss_one ?_
  exact ds_ret (de_callT fn_tuple rfl g.b_tuple (by rfl) (dl_cons (de_comp (st := false) (own := [("at", 8)]) rfl nd (di_range1 rfl g.b_range (dl_cons (de_var (i := 7)) dl_nil)) (blk_of (by kernel_rfl)) (fun _ _ _ _ _ => (dg_name (i := 8) nd)) (fun _ _ _ _ _ => (dt_one (db_w (dw_or (db_cmp op_geD (de_var (i := 8)) (de_callB fn_len rfl g.b_len (by rfl) (dl_cons (de_var (i := 2)) dl_nil))) (dw_or (db_cmp op_geD (de_var (i := 8)) (de_callB fn_len rfl g.b_len (by rfl) (dl_cons (de_var (i := 3)) dl_nil))) (dw_or1 (db_cmp (op_neD' hu) (de_ix (de_var (i := 2)) (de_var (i := 8))) (de_ix (de_var (i := 3)) (de_var (i := 8)))))))))) (fun _ _ _ _ _ => (de_bin op_addD (de_var (i := 8)) de_int))) dl_nil))
abbrev s_law_is_one_kind : Stmt := topS 9
theorem sc_law_is_one_kind : FnScope ["one", "other"] ["one", "other"] (defScope s_law_is_one_kind) := ⟨rfl, rfl, rfl, by decide +kernel, rfl, by decide +kernel, by decide +kernel⟩
theorem ok_law_is_one_kind {f : Addr} {fd : FuncData} (g : Gs K mg) (F : FunD K "_law_is_one_kind" "_law_is_one_kind" (defArgs s_law_is_one_kind) (defBody s_law_is_one_kind) (defScope s_law_is_one_kind) [] [] f fd) (hm : mg "_law_is_one_kind" = some (.ref f))  : FnG P w K mg base "_law_is_one_kind" 1 d_law_is_one_kind := by
  refine fn_d (k := 0) (n := 2) (NN := 2) (m := b_law_is_one_kind) F sc_law_is_one_kind rfl rfl hm (fun _ _ _ _ _ _ us hl => match us, hl with | [_, _], _ => rfl) fun cdv A outer s H E hr => ?_
  have nd := sc_law_is_one_kind.nd
  have hu := hr.units
  refine dss_cons ?_ ?_
  · refine ds_if ?_ ?_ ?_
    · exact (db_w (dw_or (db_cmp (op_neD' hu) (de_callB fn_isi rfl g.b_isinstance (by rfl) (dl_cons (de_var (i := 0)) (dl_cons (de_ty rfl g.b_bool (by rfl)) dl_nil))) (de_callB fn_isi rfl g.b_isinstance (by rfl) (dl_cons (de_var (i := 1)) (dl_cons (de_ty rfl g.b_bool (by rfl)) dl_nil)))) (dw_or1 (db_cmp (op_neD' hu) (de_callB fn_isi rfl g.b_isinstance (by rfl) (dl_cons (de_var (i := 0)) (dl_cons (de_ty rfl g.b_int (by rfl)) dl_nil))) (de_callB fn_isi rfl g.b_isinstance (by rfl) (dl_cons (de_var (i := 1)) (dl_cons (de_ty rfl g.b_int (by rfl)) dl_nil)))))))
    · refine dss_one ?_
      exact ds_ret de_bl
    · exact dss_nil
  refine dss_cons ?_ ?_
  · refine ds_if ?_ ?_ ?_
    · exact (db_w (dw_or (db_cmp (op_neD' hu) (de_callB fn_isi rfl g.b_isinstance (by rfl) (dl_cons (de_var (i := 0)) (dl_cons (de_ty rfl g.b_tuple (by rfl)) dl_nil))) (de_callB fn_isi rfl g.b_isinstance (by rfl) (dl_cons (de_var (i := 1)) (dl_cons (de_ty rfl g.b_tuple (by rfl)) dl_nil)))) (dw_or1 (db_cmp (op_neD' hu) (de_callB fn_isi rfl g.b_isinstance (by rfl) (dl_cons (de_var (i := 0)) (dl_cons (de_ty rfl g.b_list (by rfl)) dl_nil))) (de_callB fn_isi rfl g.b_isinstance (by rfl) (dl_cons (de_var (i := 1)) (dl_cons (de_ty rfl g.b_list (by rfl)) dl_nil)))))))
    · refine dss_one ?_
      exact ds_ret de_bl
    · exact dss_nil
  refine dss_one ?_
  exact ds_ret (de_and (de_cmp (op_eqD' hu) (de_callB fn_isi rfl g.b_isinstance (by rfl) (dl_cons (de_var (i := 0)) (dl_cons (de_ty rfl g.b_dict (by rfl)) dl_nil))) (de_callB fn_isi rfl g.b_isinstance (by rfl) (dl_cons (de_var (i := 1)) (dl_cons (de_ty rfl g.b_dict (by rfl)) dl_nil)))) (de_one (de_cmp (op_eqD' hu) (de_callB fn_isi rfl g.b_isinstance (by rfl) (dl_cons (de_var (i := 0)) (dl_cons (de_ty rfl g.b_str (by rfl)) dl_nil))) (de_callB fn_isi rfl g.b_isinstance (by rfl) (dl_cons (de_var (i := 1)) (dl_cons (de_ty rfl g.b_str (by rfl)) dl_nil))))))
abbrev s_law_like : Stmt := topS 10
theorem sc_law_like : FnScope ["told", "due", "waiting", "lap", "one", "other", "at", "key"] ["told", "due"] (defScope s_law_like) := ⟨rfl, rfl, rfl, by decide +kernel, rfl, by decide +kernel, by decide +kernel⟩
theorem ok_law_like {f : Addr} {fd : FuncData} (g : Gs K mg) (F : FunD K "_law_like" "_law_like" (defArgs s_law_like) (defBody s_law_like) (defScope s_law_like) [] [] f fd) (hm : mg "_law_like" = some (.ref f)) (G__law_is_one_kind : FnG P w K mg base "_law_is_one_kind" 1 d_law_is_one_kind) : FnG P w K mg base "_law_like" 2 d_law_like := by
  refine fn_d (k := 1) (n := 2) (NN := 8) (m := b_law_like) F sc_law_like rfl rfl hm (fun _ _ _ _ _ _ us hl => match us, hl with | [_, _], _ => rfl) fun cdv A outer s H E hr => ?_
  have nd := sc_law_like.nd
  have hu := hr.units
  refine dss_cons ?_ ?_
  · refine ds_asg (sl := [2]) ?_ (dg_name (i := 2) nd)
    exact (de_lst (st := true) (dl_cons (de_tup (dl_cons (de_var (i := 0)) (dl_cons (de_var (i := 1)) dl_nil))) dl_nil))
  refine dss_cons ?_ ?_
  · refine ds_for (sl := [3]) (passes_of rfl) rfl ?_ ?_ ?_
    · exact (di_range1 rfl g.b_range (dl_cons de_int dl_nil))
    · exact (dg_name (i := 3) nd)
    · refine dss_cons ?_ ?_
      · refine ds_if ?_ ?_ ?_
        · exact (db_cmp (op_eqD' hu) (de_callB fn_len rfl g.b_len (by rfl) (dl_cons (de_var (i := 2)) dl_nil)) de_int)
        · refine dss_one ?_
          exact ds_ret de_bl
        · exact dss_nil
      refine dss_cons ?_ ?_
      · refine ds_asg (sl := [4, 5]) ?_ ?_
        · exact (de_meth0 PySem.F.plainAttrs_list PySem.F.slot_list_pop PySem.F.type_list_pop mt_popD (de_var (i := 2)))
        · exact (dg_tup rfl (dgs_cons (dg_name (i := 4) nd) (dgs_cons (dg_name (i := 5) nd) dgs_nil)))
      refine dss_cons ?_ ?_
      · refine ds_if ?_ ?_ ?_
        · exact (db_not (db_tru (de_call G__law_is_one_kind (hr.mono (by decide)) rfl (takes_of rfl rfl rfl rfl) (dl_cons (de_var (i := 4)) (dl_cons (de_var (i := 5)) dl_nil))) (by intro _; rfl)))
        · refine dss_one ?_
          exact ds_ret de_bl
        · exact dss_nil
      refine dss_one ?_
      refine ds_if ?_ ?_ ?_
      · exact (db_w (dw_or (db_tru (de_callB fn_isi rfl g.b_isinstance (by rfl) (dl_cons (de_var (i := 5)) (dl_cons (de_ty rfl g.b_tuple (by rfl)) dl_nil))) (by intro _; rfl)) (dw_or1 (db_tru (de_callB fn_isi rfl g.b_isinstance (by rfl) (dl_cons (de_var (i := 5)) (dl_cons (de_ty rfl g.b_list (by rfl)) dl_nil))) (by intro _; rfl)))))
      · refine dss_cons ?_ ?_
        · refine ds_if ?_ ?_ ?_
          · exact (db_cmp (op_neD' hu) (de_callB fn_len rfl g.b_len (by rfl) (dl_cons (de_var (i := 4)) dl_nil)) (de_callB fn_len rfl g.b_len (by rfl) (dl_cons (de_var (i := 5)) dl_nil)))
          · refine dss_one ?_
            exact ds_ret de_bl
          · exact dss_nil
        refine dss_one ?_
        exact ds_expr (de_meth PySem.F.plainAttrs_list PySem.F.slot_list_extend PySem.F.type_list_extend mt_extendD (de_var (i := 2)) (dl_cons (de_comp (st := false) (own := [("at", 6)]) rfl nd (di_range1 rfl g.b_range (dl_cons (de_callB fn_len rfl g.b_len (by rfl) (dl_cons (de_var (i := 5)) dl_nil)) dl_nil)) (blk_of (by kernel_rfl)) (fun _ _ _ _ _ => (dg_name (i := 6) nd)) (fun _ _ _ _ _ => dt_nil) (fun _ _ _ _ _ => (de_tup (dl_cons (de_ix (de_var (i := 4)) (de_var (i := 6))) (dl_cons (de_ix (de_var (i := 5)) (de_var (i := 6))) dl_nil))))) dl_nil))
      · refine dss_one ?_
        refine ds_if ?_ ?_ ?_
        · exact (db_tru (de_callB fn_isi rfl g.b_isinstance (by rfl) (dl_cons (de_var (i := 5)) (dl_cons (de_ty rfl g.b_dict (by rfl)) dl_nil))) (by intro _; rfl))
        · refine dss_cons ?_ ?_
          · refine ds_if ?_ ?_ ?_
            · exact (db_w (dw_or (db_cmp (op_neD' hu) (de_callB fn_len rfl g.b_len (by rfl) (dl_cons (de_var (i := 4)) dl_nil)) (de_callB fn_len rfl g.b_len (by rfl) (dl_cons (de_var (i := 5)) dl_nil))) (dw_or1 (db_not (db_tru (de_callB (fn_all rfl) rfl g.b_all (by rfl) (dl_cons (de_comp (st := false) (own := [("key", 7)]) rfl nd (di_seq (de_var (i := 5))) (blk_of (by kernel_rfl)) (fun _ _ _ _ _ => (dg_name (i := 7) nd)) (fun _ _ _ _ _ => dt_nil) (fun _ _ _ _ _ => de_bad)) dl_nil)) (by intro _; rfl))))))
            · refine dss_one ?_
              exact ds_ret de_bl
            · exact dss_nil
          refine dss_one ?_
          exact ds_expr (de_meth PySem.F.plainAttrs_list PySem.F.slot_list_extend PySem.F.type_list_extend mt_extendD (de_var (i := 2)) (dl_cons (de_comp (st := false) (own := [("key", 7)]) rfl nd (di_seq (de_var (i := 5))) (blk_of (by kernel_rfl)) (fun _ _ _ _ _ => (dg_name (i := 7) nd)) (fun _ _ _ _ _ => dt_nil) (fun _ _ _ _ _ => (de_tup (dl_cons (de_ix (de_var (i := 4)) (de_var (i := 7))) (dl_cons (de_ix (de_var (i := 5)) (de_var (i := 7))) dl_nil))))) dl_nil))
        · refine dss_one ?_
          refine ds_if ?_ ?_ ?_
          · exact (db_cmp (op_neD' hu) (de_var (i := 4)) (de_var (i := 5)))
          · refine dss_one ?_
            exact ds_ret de_bl
          · exact dss_nil
  refine dss_one ?_
  exact ds_ret de_bl
abbrev s_law : Stmt := topS 18
theorem sc_law : FnScope ["script", "hand", "turn", "text", "other", "due", "bad", "pair", "word", "line"] ["script"] (defScope s_law) := ⟨rfl, rfl, rfl, by decide +kernel, rfl, by decide +kernel, by decide +kernel⟩
theorem okF_law {f : Addr} {fd : FuncData} (g : Gs K mg) (F : FunD K "law" "law" (defArgs s_law) (defBody s_law) (defScope s_law) [] [] f fd) (hm : mg "law" = some (.ref f)) (G__law_hand : FnG P w K mg base "_law_hand" 1 d_law_hand) (G_slips : FnG P w K mg base "slips" 1 d_slips) (G__law_lines : FnG P w K mg base "_law_lines" 14 d_law_lines) (G__law_other : FnG P w K mg base "_law_other" 3 d_law_other) (G__law_draw : FnG P w K mg base "_law_draw" 1 d_law_draw) (G__law_slips : FnG P w K mg base "_law_slips" 1 d_law_slips) (G__law_like : FnG P w K mg base "_law_like" 2 d_law_like) (G__law_some : FnG P w K mg base "_law_some" 2 d_law_some) : FnOk P w K mg base (L2.CX P w) 15 f fd ["script"] (spD K d_law) := by
  refine fn_dF (k := 14) (n := 1) (NN := 10) (m := b_law) F sc_law rfl rfl fun cdv A outer s H E hr => ?_
  have nd := sc_law.nd
  have hu := hr.units
  refine dss_cons ?_ ?_
  · refine ds_asg (sl := [1]) ?_ (dg_name (i := 1) nd)
    exact (de_call G__law_hand (hr.mono (by decide)) rfl (takes_of rfl rfl rfl rfl) (dl_cons (de_var (i := 0)) dl_nil))
  refine dss_cons ?_ ?_
  · refine ds_if ?_ ?_ ?_
    · exact (db_w (dw_or (db_cmp (op_neD' hu) (de_call G_slips (hr.mono (by decide)) rfl (takes_of rfl rfl rfl rfl) (dl_cons de_str (dl_cons de_str dl_nil))) (de_tup dl_nil)) (dw_or (db_cmp (op_neD' hu) (de_call G_slips (hr.mono (by decide)) rfl (takes_of rfl rfl rfl rfl) (dl_cons de_str (dl_cons (de_bin op_addD de_str de_str) dl_nil))) (de_tup (dl_cons de_int dl_nil))) (dw_or1 (db_cmp (op_neD' hu) (de_call G_slips (hr.mono (by decide)) rfl (takes_of rfl rfl rfl rfl) (dl_cons de_str (dl_cons de_str dl_nil))) (de_tup (dl_cons de_int dl_nil)))))))
    · refine dss_one ?_
      exact ds_ret de_bl
    · exact dss_nil
  refine dss_cons ?_ ?_
  · refine ds_for (sl := [2]) (passes_of rfl) rfl ?_ ?_ ?_
    · exact (di_range1 rfl g.b_range (dl_cons de_int dl_nil))
    · exact (dg_name (i := 2) nd)
    · refine dss_cons ?_ ?_
      · refine ds_asg (sl := [3]) ?_ (dg_name (i := 3) nd)
        exact (de_meth PySem.F.plainAttrs_str PySem.F.slot_str_join PySem.F.type_str_join mt_joinD de_str (dl_cons (de_comp (st := false) (own := [("line", 9)]) rfl nd (di_seq (de_call G__law_lines (hr.mono (by decide)) rfl (takes_of rfl rfl rfl rfl) (dl_cons (de_var (i := 1)) dl_nil))) (blk_of (by kernel_rfl)) (fun _ _ _ _ _ => (dg_name (i := 9) nd)) (fun _ _ _ _ _ => dt_nil) (fun _ _ _ _ _ => (de_bin op_addD (de_var (i := 9)) de_str))) dl_nil))
      refine dss_cons ?_ ?_
      · refine ds_asg (sl := [4]) ?_ (dg_name (i := 4) nd)
        exact (de_call G__law_other (hr.mono (by decide)) rfl (takes_of rfl rfl rfl rfl) (dl_cons (de_var (i := 1)) (dl_cons (de_var (i := 3)) dl_nil)))
      refine dss_cons ?_ ?_
      · refine ds_asg (sl := [3]) ?_ (dg_name (i := 3) nd)
        exact (de_if (db_cmp (op_eqD' hu) (de_call G__law_draw (hr.mono (by decide)) rfl (takes_of rfl rfl rfl rfl) (dl_cons (de_var (i := 1)) (dl_cons de_int dl_nil))) de_int) (de_call G__law_other (hr.mono (by decide)) rfl (takes_of rfl rfl rfl rfl) (dl_cons (de_var (i := 1)) (dl_cons (de_var (i := 3)) dl_nil))) (de_var (i := 3)))
      refine dss_cons ?_ ?_
      · refine ds_asg (sl := [5]) ?_ (dg_name (i := 5) nd)
        exact (de_call G__law_slips (hr.mono (by decide)) rfl (takes_of rfl rfl rfl rfl) (dl_cons (de_var (i := 3)) (dl_cons (de_var (i := 4)) dl_nil)))
      refine dss_cons ?_ ?_
      · refine ds_if ?_ ?_ ?_
        · exact (db_w (dw_or (db_not (db_tru (de_call G__law_like (hr.mono (by decide)) rfl (takes_of rfl rfl rfl rfl) (dl_cons (de_call G_slips (hr.mono (by decide)) rfl (takes_of rfl rfl rfl rfl) (dl_cons (de_var (i := 3)) (dl_cons (de_var (i := 4)) dl_nil))) (dl_cons (de_var (i := 5)) dl_nil))) (by intro _; rfl))) (dw_or1 (db_not (db_tru (de_call G__law_like (hr.mono (by decide)) rfl (takes_of rfl rfl rfl rfl) (dl_cons (de_call G_slips (hr.mono (by decide)) rfl (takes_of rfl rfl rfl rfl) (dl_cons (de_var (i := 4)) (dl_cons (de_var (i := 3)) dl_nil))) (dl_cons (de_var (i := 5)) dl_nil))) (by intro _; rfl))))))
        · refine dss_one ?_
          exact ds_ret de_bl
        · exact dss_nil
      refine dss_cons ?_ ?_
      · refine ds_if ?_ ?_ ?_
        · exact (db_not (db_tru (de_call G__law_like (hr.mono (by decide)) rfl (takes_of rfl rfl rfl rfl) (dl_cons (de_call G_slips (hr.mono (by decide)) rfl (takes_of rfl rfl rfl rfl) (dl_cons (de_var (i := 3)) (dl_cons (de_var (i := 3)) dl_nil))) (dl_cons (de_tup dl_nil) dl_nil))) (by intro _; rfl)))
        · refine dss_one ?_
          exact ds_ret de_bl
        · exact dss_nil
      refine dss_cons ?_ ?_
      · refine ds_asg (sl := [6]) ?_ (dg_name (i := 6) nd)
        exact (de_call G__law_some (hr.mono (by decide)) rfl (takes_of rfl rfl rfl rfl) (dl_cons (de_var (i := 1)) (dl_cons (de_lst (st := false) (dl_cons de_non (dl_cons de_int (dl_cons (de_lst (st := false) (dl_cons (de_var (i := 3)) dl_nil)) (dl_cons (de_tup (dl_cons (de_var (i := 3)) dl_nil)) (dl_cons de_bl (dl_cons (de_disp (st := false) (.cons de_str (de_var (i := 3)) .nil)) dl_nil))))))) dl_nil)))
      refine dss_one ?_
      refine ds_for (sl := [7]) (passes_of rfl) rfl ?_ ?_ ?_
      · exact (di_seq (de_tup (dl_cons (de_tup (dl_cons (de_var (i := 6)) (dl_cons (de_var (i := 3)) dl_nil))) (dl_cons (de_tup (dl_cons (de_var (i := 3)) (dl_cons (de_var (i := 6)) dl_nil))) (dl_cons (de_tup (dl_cons (de_var (i := 6)) (dl_cons (de_var (i := 6)) dl_nil))) dl_nil)))))
      · exact (dg_name (i := 7) nd)
      · refine dss_cons ?_ ?_
        · refine ds_asg (sl := [8]) ?_ (dg_name (i := 8) nd)
          exact de_str
        refine dss_cons ?_ ?_
        · refine ds_try rfl rfl (takes_of rfl rfl rfl rfl) (fun W pn xe tk1 hp1 => ?_) ?_
          · refine dss_one ?_
            exact ds_expr (de_call G_slips (hr.mono (by decide)) rfl tk1 (dl_cons (de_ix (de_var (i := 7)) de_int) (dl_cons (de_ix (de_var (i := 7)) de_int) dl_nil)))
          · refine .cons (c := .ref (He.ga K "NoTexts")) ⟨rfl, by decide, .inl g.x_NoTexts.g⟩ g.m_NoTexts (fun a oe cls d pn hz hf => ?_) ?_
            · refine dss_one ?_
              refine ds_asg (sl := [8]) ?_ (dg_name (i := 8) nd)
              exact de_str
            refine .cons (c := .ref (He.ga K "PriceError")) ⟨rfl, by decide, .inl g.x_PriceError.g⟩ g.m_PriceError (fun a oe cls d pn hz hf => ?_) ?_
            · refine dss_one ?_
              refine ds_asg (sl := [8]) ?_ (dg_name (i := 8) nd)
              exact de_str
            exact .nil
        refine dss_one ?_
        refine ds_if ?_ ?_ ?_
        · exact (db_cmp (op_neD' hu) (de_var (i := 8)) de_str)
        · refine dss_one ?_
          exact ds_ret de_bl
        · exact dss_nil
  refine dss_one ?_
  exact ds_ret de_bl
def D_law_hand : He.DefD := ⟨("_law_hand", none), "_law_hand", "_law_hand", defArgs s_law_hand, defBody s_law_hand, defScope s_law_hand, [], []⟩
def D_slips : He.DefD := ⟨("slips", none), "slips", "slips", defArgs s_slips, defBody s_slips, defScope s_slips, [], []⟩
def D_law_draw : He.DefD := ⟨("_law_draw", none), "_law_draw", "_law_draw", defArgs s_law_draw, defBody s_law_draw, defScope s_law_draw, [], []⟩
def D_law_sum : He.DefD := ⟨("_law_sum", none), "_law_sum", "_law_sum", defArgs s_law_sum, defBody s_law_sum, defScope s_law_sum, [], []⟩
def D_law_line : He.DefD := ⟨("_law_line", none), "_law_line", "_law_line", defArgs s_law_line, defBody s_law_line, defScope s_law_line, [], []⟩
def D_law_text : He.DefD := ⟨("_law_text", none), "_law_text", "_law_text", defArgs s_law_text, defBody s_law_text, defScope s_law_text, [], []⟩
def D_law_leaf : He.DefD := ⟨("_law_leaf", none), "_law_leaf", "_law_leaf", defArgs s_law_leaf, defBody s_law_leaf, defScope s_law_leaf, [], []⟩
def D_law_lines : He.DefD := ⟨("_law_lines", none), "_law_lines", "_law_lines", defArgs s_law_lines, defBody s_law_lines, defScope s_law_lines, [], []⟩
def D_law_some : He.DefD := ⟨("_law_some", none), "_law_some", "_law_some", defArgs s_law_some, defBody s_law_some, defScope s_law_some, [], []⟩
def D_law_other : He.DefD := ⟨("_law_other", none), "_law_other", "_law_other", defArgs s_law_other, defBody s_law_other, defScope s_law_other, [], []⟩
def D_law_slips : He.DefD := ⟨("_law_slips", none), "_law_slips", "_law_slips", defArgs s_law_slips, defBody s_law_slips, defScope s_law_slips, [], []⟩
def D_law_is_one_kind : He.DefD := ⟨("_law_is_one_kind", none), "_law_is_one_kind", "_law_is_one_kind", defArgs s_law_is_one_kind, defBody s_law_is_one_kind, defScope s_law_is_one_kind, [], []⟩
def D_law_like : He.DefD := ⟨("_law_like", none), "_law_like", "_law_like", defArgs s_law_like, defBody s_law_like, defScope s_law_like, [], []⟩
def D_law : He.DefD := ⟨("law", none), "law", "law", defArgs s_law, defBody s_law, defScope s_law, [], []⟩
def fnL : List He.DefD := [D_law_hand, D_slips, D_law_draw, D_law_sum, D_law_line, D_law_text, D_law_leaf, D_law_lines, D_law_some, D_law_other, D_law_slips, D_law_is_one_kind, D_law_like, D_law]
def faL : List He.Fa := [.glo "_law_hand", .glo "slips", .glo "_law_draw", .glo "_law_sum", .glo "_law_line", .glo "_law_text", .glo "_law_leaf", .glo "_law_lines", .glo "_law_some", .glo "_law_other", .glo "_law_slips", .glo "_law_is_one_kind", .glo "_law_like", .glo "law", .free "abs", .free "all", .free "bool", .free "dict", .free "enumerate", .free "int", .free "isinstance", .free "len", .free "list", .free "max", .free "min", .free "range", .free "sorted", .free "str", .free "tuple", .free "zip", .glo "NoTexts", .glo "PriceError", .exc "NoTexts", .exc "PriceError", .exm "PriceError" "NoTexts" false, .exm "NoTexts" "NoTexts" true, .exm "PriceError" "PriceError" true, .exm "NoTexts" "PriceError" true]
abbrev hk : PySem.W.Hook := He.hookD 4 faL fnL
def ob (s : PySem.W.SharedT) : He.AlD := He.obsDG 4 faL fnL (HandSHeadRun.getT s)
theorem ob_eq (s : PySem.W.SharedT) : ob s = hk.obs s.abs := He.obsDG_eq (HandSHeadRun.getT_eq s)
def loose0 : List Str := ["PriceError", "NoTexts", "slips", "_law_hand", "_law_draw", "_law_some", "_law_is_one_kind", "_law_like", "_law_leaf", "_law_text", "_law_sum", "_law_line", "_law_lines", "_law_other", "_law_slips"]
abbrev looseL : List Str := loose0
abbrev R : PySem.W.OpenRow := PySem.W.OpenLaw.row PySem.Challenge.rw_pricesforever_k58_whole_slips_of_texts_o
theorem run (w : World) : HandSHeadRun.RunEq R (PySem.W.view R.prog [18]) hk ob 6000 looseL w := by
  intro os
  kernel_rfl
theorem gs_of {h : Heap} (X : K.In h) (G : h.Ns mainGlobals mg) (c : He.SaysD faL fnL K) : Gs K mg where
  b_abs := He.free_ok X G (c.fact 14 (f := .free "abs") rfl)
  b_all := He.free_ok X G (c.fact 15 (f := .free "all") rfl)
  b_bool := He.free_ok X G (c.fact 16 (f := .free "bool") rfl)
  b_dict := He.free_ok X G (c.fact 17 (f := .free "dict") rfl)
  b_enumerate := He.free_ok X G (c.fact 18 (f := .free "enumerate") rfl)
  b_int := He.free_ok X G (c.fact 19 (f := .free "int") rfl)
  b_isinstance := He.free_ok X G (c.fact 20 (f := .free "isinstance") rfl)
  b_len := He.free_ok X G (c.fact 21 (f := .free "len") rfl)
  b_list := He.free_ok X G (c.fact 22 (f := .free "list") rfl)
  b_max := He.free_ok X G (c.fact 23 (f := .free "max") rfl)
  b_min := He.free_ok X G (c.fact 24 (f := .free "min") rfl)
  b_range := He.free_ok X G (c.fact 25 (f := .free "range") rfl)
  b_sorted := He.free_ok X G (c.fact 26 (f := .free "sorted") rfl)
  b_str := He.free_ok X G (c.fact 27 (f := .free "str") rfl)
  b_tuple := He.free_ok X G (c.fact 28 (f := .free "tuple") rfl)
  b_zip := He.free_ok X G (c.fact 29 (f := .free "zip") rfl)
  x_NoTexts := by
    obtain ⟨q, k, b, t⟩ := He.exc_ok (c.fact 32 (f := .exc "NoTexts") rfl)
    exact ⟨q, He.glo_ok X G (c.fact 30 (f := .glo "NoTexts") rfl), k, b, t⟩
  x_PriceError := by
    obtain ⟨q, k, b, t⟩ := He.exc_ok (c.fact 33 (f := .exc "PriceError") rfl)
    exact ⟨q, He.glo_ok X G (c.fact 31 (f := .glo "PriceError") rfl), k, b, t⟩
  m_NoTexts := by
    unfold tb_NoTexts
    exact (exm_cons (He.exm_ok (c.fact 34 (f := .exm "PriceError" "NoTexts" false) rfl)) (exm_cons (He.exm_ok (c.fact 35 (f := .exm "NoTexts" "NoTexts" true) rfl)) exm_nil))
  m_PriceError := by
    unfold tb_PriceError
    exact (exm_cons (He.exm_ok (c.fact 36 (f := .exm "PriceError" "PriceError" true) rfl)) (exm_cons (He.exm_ok (c.fact 37 (f := .exm "NoTexts" "PriceError" true) rfl)) exm_nil))
theorem facts {h : Heap} {f : Addr} (hL : ∀ ns : List Int, ns.length ≤ 63 → ∃ S', d_law [.scr ns] [] = .ok (.bl true) S') (X : K.In h) (G : h.Ns mainGlobals mg) (hfa : mg ("law" : Str) = some (.ref f)) (c : He.SaysD faL fnL K) :
    ∃ fd : FuncData, (∀ (s : Shared) (v : Value), BindsTo s fd ⟨[v], []⟩ [("script", v)]) ∧ ∀ base : Heap, K.In base → base.Ns mainGlobals mg → FnOk P w K mg base L2.CX0 15 f fd ["script"] (spL K) := by
  have g := gs_of X G c
  obtain ⟨fd_law_hand, F_law_hand⟩ := c.def_ 0 (d := D_law_hand) rfl
  have m_law_hand : mg "_law_hand" = some (.ref (He.ga K "_law_hand")) := He.glo_ok X G (c.fact 0 (f := .glo "_law_hand") rfl)
  obtain ⟨fd_slips, F_slips⟩ := c.def_ 1 (d := D_slips) rfl
  have m_slips : mg "slips" = some (.ref (He.ga K "slips")) := He.glo_ok X G (c.fact 1 (f := .glo "slips") rfl)
  obtain ⟨fd_law_draw, F_law_draw⟩ := c.def_ 2 (d := D_law_draw) rfl
  have m_law_draw : mg "_law_draw" = some (.ref (He.ga K "_law_draw")) := He.glo_ok X G (c.fact 2 (f := .glo "_law_draw") rfl)
  obtain ⟨fd_law_sum, F_law_sum⟩ := c.def_ 3 (d := D_law_sum) rfl
  have m_law_sum : mg "_law_sum" = some (.ref (He.ga K "_law_sum")) := He.glo_ok X G (c.fact 3 (f := .glo "_law_sum") rfl)
  obtain ⟨fd_law_line, F_law_line⟩ := c.def_ 4 (d := D_law_line) rfl
  have m_law_line : mg "_law_line" = some (.ref (He.ga K "_law_line")) := He.glo_ok X G (c.fact 4 (f := .glo "_law_line") rfl)
  obtain ⟨fd_law_text, F_law_text⟩ := c.def_ 5 (d := D_law_text) rfl
  have m_law_text : mg "_law_text" = some (.ref (He.ga K "_law_text")) := He.glo_ok X G (c.fact 5 (f := .glo "_law_text") rfl)
  obtain ⟨fd_law_leaf, F_law_leaf⟩ := c.def_ 6 (d := D_law_leaf) rfl
  have m_law_leaf : mg "_law_leaf" = some (.ref (He.ga K "_law_leaf")) := He.glo_ok X G (c.fact 6 (f := .glo "_law_leaf") rfl)
  obtain ⟨fd_law_lines, F_law_lines⟩ := c.def_ 7 (d := D_law_lines) rfl
  have m_law_lines : mg "_law_lines" = some (.ref (He.ga K "_law_lines")) := He.glo_ok X G (c.fact 7 (f := .glo "_law_lines") rfl)
  obtain ⟨fd_law_some, F_law_some⟩ := c.def_ 8 (d := D_law_some) rfl
  have m_law_some : mg "_law_some" = some (.ref (He.ga K "_law_some")) := He.glo_ok X G (c.fact 8 (f := .glo "_law_some") rfl)
  obtain ⟨fd_law_other, F_law_other⟩ := c.def_ 9 (d := D_law_other) rfl
  have m_law_other : mg "_law_other" = some (.ref (He.ga K "_law_other")) := He.glo_ok X G (c.fact 9 (f := .glo "_law_other") rfl)
  obtain ⟨fd_law_slips, F_law_slips⟩ := c.def_ 10 (d := D_law_slips) rfl
  have m_law_slips : mg "_law_slips" = some (.ref (He.ga K "_law_slips")) := He.glo_ok X G (c.fact 10 (f := .glo "_law_slips") rfl)
  obtain ⟨fd_law_is_one_kind, F_law_is_one_kind⟩ := c.def_ 11 (d := D_law_is_one_kind) rfl
  have m_law_is_one_kind : mg "_law_is_one_kind" = some (.ref (He.ga K "_law_is_one_kind")) := He.glo_ok X G (c.fact 11 (f := .glo "_law_is_one_kind") rfl)
  obtain ⟨fd_law_like, F_law_like⟩ := c.def_ 12 (d := D_law_like) rfl
  have m_law_like : mg "_law_like" = some (.ref (He.ga K "_law_like")) := He.glo_ok X G (c.fact 12 (f := .glo "_law_like") rfl)
  obtain ⟨fd_law, F_law⟩ := c.def_ 13 (d := D_law) rfl
  have m_law : mg "law" = some (.ref (He.ga K "law")) := He.glo_ok X G (c.fact 13 (f := .glo "law") rfl)
  have e := hfa.symm.trans m_law
  cases e
  have b := FunD.bindsA (ps := ["script"]) F_law fun _ _ _ _ _ _ us hl => match us, hl with | [_], _ => rfl
  refine ⟨fd_law, fun s v => b s [v] rfl, fun base _ _ => ?_⟩
  have G__law_hand := ok_law_hand (P := P) (w := w) (base := base) g F_law_hand m_law_hand 
  have G_slips := ok_slips (P := P) (w := w) (base := base) g F_slips m_slips 
  have G__law_draw := ok_law_draw (P := P) (w := w) (base := base) g F_law_draw m_law_draw 
  have G__law_sum := ok_law_sum (P := P) (w := w) (base := base) g F_law_sum m_law_sum 
  have G__law_line := ok_law_line (P := P) (w := w) (base := base) g F_law_line m_law_line G__law_sum
  have G__law_text := ok_law_text (P := P) (w := w) (base := base) g F_law_text m_law_text 
  have G__law_leaf := ok_law_leaf (P := P) (w := w) (base := base) g F_law_leaf m_law_leaf G__law_draw
  have G__law_lines := ok_law_lines (P := P) (w := w) (base := base) g F_law_lines m_law_lines G__law_draw G__law_line G__law_text G__law_leaf
  have G__law_some := ok_law_some (P := P) (w := w) (base := base) g F_law_some m_law_some G__law_draw
  have G__law_other := ok_law_other (P := P) (w := w) (base := base) g F_law_other m_law_other G__law_draw G__law_some
  have G__law_slips := ok_law_slips (P := P) (w := w) (base := base) g F_law_slips m_law_slips 
  have G__law_is_one_kind := ok_law_is_one_kind (P := P) (w := w) (base := base) g F_law_is_one_kind m_law_is_one_kind 
  have G__law_like := ok_law_like (P := P) (w := w) (base := base) g F_law_like m_law_like G__law_is_one_kind
  have G_law := okF_law (P := P) (w := w) (base := base) g F_law m_law G__law_hand G_slips G__law_lines G__law_other G__law_draw G__law_slips G__law_like G__law_some
  exact fn_lawF G_law hL
end
end Dn.k58
open PySem PySem.W PySem.Calls PyProof.Rows
theorem Dn.k58.holds (hL : ∀ ns : List Int, ns.length ≤ 63 → ∃ S', Dn.k58.d_law [.scr ns] [] = .ok (.bl true) S') : PySem.Challenge.rw_pricesforever_k58_whole_slips_of_texts_o.Holds := by
  w_on; o_law
  refine HandSHeadRun.head_any (r := OpenLaw.row PySem.Challenge.rw_pricesforever_k58_whole_slips_of_texts_o) (q := PySem.W.view (OpenLaw.row PySem.Challenge.rw_pricesforever_k58_whole_slips_of_texts_o).prog [18]) (H := Dn.k58.hk) (ob := Dn.k58.ob) (M := 6000) (loose := Dn.k58.looseL) (d := HandSHeadRun.topDef (OpenLaw.row PySem.Challenge.rw_pricesforever_k58_whole_slips_of_texts_o).prog 18) (kwd := []) Dn.k58.ob_eq
    (by kernel_rfl) (fun s => by kernel_rfl) Dn.k58.run (by kernel_rfl) (by kernel_rfl) (by kernel_rfl) (by rfl) (by first | assumption | decide +kernel) (by decide +kernel) ⟨rfl, rfl, rfl, rfl, rfl, by decide +kernel⟩ ?hw ?hc
  case hw => w_witness2
  case hc =>
    refine L2.walk_ofE (l := PySem.Challenge.rw_pricesforever_k58_whole_slips_of_texts_o) (n := 63) (k := 15) (x := "script") (CX := L2.CX0) rfl (by decide) (by kernel_rfl) ⟨rfl, by decide, by decide⟩ ?F (fun _ _ _ _ z => z)
    intro w mg fa h Y G hmg0
    obtain ⟨K, KX, c⟩ := Y
    have hmg : mg ("law" : PySem.Str) = some (.ref fa) := by
      have e : (HandSHeadRun.topDef (OpenLaw.row PySem.Challenge.rw_pricesforever_k58_whole_slips_of_texts_o).prog 18).name = ("law" : PySem.Str) := by kernel_rfl
      rw [← e]
      exact hmg0
    obtain ⟨fd, hb, hF⟩ := Dn.k58.facts (P := (PySem.Challenge.rw_pricesforever_k58_whole_slips_of_texts_o).prog) (w := w) hL KX G hmg c
    exact ⟨K, fd, Dn.spL K, KX, hb, fun H a ns hl ho hS => ⟨a, ns, rfl, hl, ho, hS, fun _ => rfl⟩, hF⟩
end

section
theorem PySem.Challenge.cw_pricesforever_k58_whole_slips_of_texts_o_holds : PySem.Challenge.rw_pricesforever_k58_whole_slips_of_texts_o.Holds := by
  exact Dn.k58.holds Dn.k58.plain_law
end
