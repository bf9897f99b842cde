import PyProof.Rows.All
import HandS.ForMost
import HandS.Exc
import HandS.WordsExc
import HandS.Wide
import HandS.IsInst
import KE.KDictKeyed
import KE.KDictDisplayH
import KE.KDictWalk
import KE.KeyNested
import HandS.Dict
import PyProof.DictTruth
import PyProof.Rows.SeqRoads
import HandS.Conv
import HandS.TupAny
import HandS.Style
import HandS.Deep
import HandS.TupLe
import HandS.Walk
import KE.GoesEnum
import KE.GoesMore
import KE.GoesZip
import KE.KExcSuper
import HandS.ExcInit
import HandS.ExcIs
import HandS.ExcField
import KE.KExcIs
import HandS.TupMul
import HandS.Ends
import HandS.CallSlots
import HandS.Defaults
import HandS.More
import HandS.Rev
import KE.DataMinMax
import PyProof.P3Eq
import KE.KDictZip
import KE.DataAny
import HandS.SortInts
import HandS.TryOnly
import PySem.Challenge.RW_wordsworth_k71_looking_ahead
set_option Elab.async false
set_option linter.all false
set_option maxRecDepth 100000
set_option maxHeartbeats 4000000
/-! Sx1: pure values, slots, results; the state relation; composition. -/
namespace Sx
open PySem L2

/-! ### values -/
inductive M where
  | non | bl (b : Bool) | int (i : Int) | str (s : Str) | tup (xs : List M) | lst (xs : List M) | ro (xs : List M)
/-- how a list stands at a slot: to be changed and frozen; a caller's, to be changed alone; walked, to be read alone -/
inductive Pin where
  | free | pin | lock
  deriving DecidableEq
/-- what an own object holds: a list of values; a list of own lists; a dict by numbers; a dict by tuples -/
inductive Cont where
  | l (xs : List M) | ll (xss : List (List M)) | di (kvs : List (Int × M)) | dt (kvs : List (M × M))
instance : Coe (List M) Cont := ⟨Cont.l⟩
inductive Slot where
  | un | v (m : M) | o (p : Pin) (xs : Cont)
abbrev Ro := List Slot
inductive EV where
  | fr (m : M) | tmp (xs : Cont) | bor (i : Nat)
inductive R (α : Type) where
  | ok (a : α) (r : Ro) | ex (c : String) (m : M) (r : Ro) | bad
abbrev Ev (α : Type) := Ro → R α
def get (r : Ro) (i : Nat) : Slot := r.getD i .un
def bnd {α β : Type} (x : Ev α) (f : α → Ev β) : Ev β := fun r => match x r with
  | .ok a r' => f a r'
  | .ex c m r' => .ex c m r'
  | .bad => .bad
def ret {α : Type} (a : α) : Ev α := fun r => .ok a r
def bad {α : Type} : Ev α := fun _ => .bad

/-! ### representation -/
mutual
def Rep (K : PySem.W.Frag) (G : Hp) : M → V → Prop
  | .non, v => v = .non
  | .bl b, v => v = .bl b
  | .int i, v => v = .int i
  | .str s, v => v = .str s
  | .tup ms, v => ∃ a vs, v = .ref a ∧ SqT K G a vs ∧ RepL K G ms vs
  | .lst ms, v => ∃ a vs, v = .ref a ∧ G a = some (.lst vs) ∧ RepL K G ms vs
  | .ro ms, v => ∃ a vs, v = .ref a ∧ SqL K G a vs ∧ RepL K G ms vs
def RepL (K : PySem.W.Frag) (G : Hp) : List M → List V → Prop
  | [], vs => vs = []
  | m :: ms, vs => ∃ v vr, vs = v :: vr ∧ Rep K G m v ∧ RepL K G ms vr
end
section
variable {K : PySem.W.Frag} {G G' : Hp}
theorem sqT_mono (g : Same G G') {a : Addr} {vs : List V} (h : SqT K G a vs) : SqT K G' a vs := by
  rcases h with (h | ⟨o, h⟩) | h
  · exact .inl (.inl (g _ _ h))
  · exact .inl (.inr ⟨o, g _ _ h⟩)
  · exact .inr h
mutual
theorem Rep.mono (g : Same G G') : ∀ {m : M} {v : V}, Rep K G m v → Rep K G' m v
  | .non, _, h => h
  | .bl _, _, h => h
  | .int _, _, h => h
  | .str _, _, h => h
  | .tup _, _, ⟨a, vs, e, s, r⟩ => ⟨a, vs, e, sqT_mono g s, RepL.mono g r⟩
  | .lst _, _, ⟨a, vs, e, s, r⟩ => ⟨a, vs, e, g _ _ s, RepL.mono g r⟩
  | .ro _, _, ⟨a, vs, e, s, r⟩ => ⟨a, vs, e, g.seq s, RepL.mono g r⟩
theorem RepL.mono (g : Same G G') : ∀ {ms : List M} {vs : List V}, RepL K G ms vs → RepL K G' ms vs
  | [], _, h => h
  | _ :: _, _, ⟨v, vr, e, h1, h2⟩ => ⟨v, vr, e, Rep.mono g h1, RepL.mono g h2⟩
end
theorem RepL.len : ∀ {ms : List M} {vs : List V}, RepL K G ms vs → ms.length = vs.length
  | [], _, h => by cases h; rfl
  | _ :: _, _, ⟨_, _, e, _, h2⟩ => by subst e; simp [RepL.len h2]
theorem RepL.at : ∀ {ms : List M} {vs : List V} {i : Nat} {m : M}, RepL K G ms vs → ms[i]? = some m → ∃ v, vs[i]? = some v ∧ Rep K G m v
  | [], _, _, _, _, e => by simp at e
  | _ :: _, _, 0, _, ⟨v, vr, e, h1, h2⟩, q => by
    subst e
    simp at q
    subst q
    exact ⟨v, rfl, h1⟩
  | _ :: _, _, i + 1, _, ⟨v, vr, e, h1, h2⟩, q => by
    subst e
    obtain ⟨w, p1, p2⟩ := RepL.at (i := i) h2 (by simpa using q)
    exact ⟨w, by simpa using p1, p2⟩
theorem RepL.app : ∀ {ms ns : List M} {vs ws : List V}, RepL K G ms vs → RepL K G ns ws → RepL K G (ms ++ ns) (vs ++ ws)
  | [], _, _, _, h, k => by cases h; exact k
  | _ :: _, _, _, _, ⟨v, vr, e, h1, h2⟩, k => by subst e; exact ⟨v, vr ++ _, rfl, h1, RepL.app h2 k⟩
theorem RepL.one {m : M} {v : V} (h : Rep K G m v) : RepL K G [m] [v] := ⟨v, [], rfl, h, rfl⟩
theorem RepL.setAt : ∀ {ms : List M} {vs : List V} {m : M} {v : V} (i : Nat), RepL K G ms vs → Rep K G m v → RepL K G (ms.set i m) (vs.set i v)
  | [], _, _, _, _, h, _ => by cases h; rfl
  | _ :: _, _, _, _, 0, ⟨w, vr, e, h1, h2⟩, k => by subst e; exact ⟨_, vr, rfl, k, h2⟩
  | _ :: _, _, _, _, i + 1, ⟨w, vr, e, h1, h2⟩, k => by subst e; exact ⟨w, vr.set i _, rfl, h1, RepL.setAt i h2 k⟩
theorem RepL.tk : ∀ {ms : List M} {vs : List V} (i : Nat), RepL K G ms vs → RepL K G (ms.take i) (vs.take i)
  | [], _, i, h => by cases h; simp [RepL]
  | _ :: _, _, 0, _ => by simp [RepL]
  | _ :: _, _, i + 1, ⟨w, vr, e, h1, h2⟩ => by subst e; exact ⟨w, vr.take i, rfl, h1, RepL.tk i h2⟩
theorem RepL.dp : ∀ {ms : List M} {vs : List V} (i : Nat), RepL K G ms vs → RepL K G (ms.drop i) (vs.drop i)
  | [], _, i, h => by cases h; simp [RepL]
  | _ :: _, _, 0, h => h
  | _ :: _, _, i + 1, ⟨w, vr, e, h1, h2⟩ => by subst e; exact RepL.dp i h2
end

/-! ### own objects -/
mutual
/-- a tuple as a key -/
def keyM : M → Option NestedKey
  | .non => some .none
  | .int i => some (.num i)
  | .bl b => some (.num (if b = true then 1 else 0))
  | .tup xs => (keyMs xs).map .tup
  | _ => none
def keyMs : List M → Option (List NestedKey)
  | [] => some []
  | x :: xs => match keyM x, keyMs xs with
    | some k, some ks => some (k :: ks)
    | _, _ => none
end
mutual
/-- hash(k) of a key without texts -/
def hashK : NestedKey → Int
  | .none => reduceHash 0xFCA86420
  | .num i => hashInt i
  | .text _ => 0
  | .tup ks => reduceHash (Builtin.Tuple.tupleHashOf (hashKs ks))
def hashKs : List NestedKey → List Int
  | [] => []
  | k :: ks => hashK k :: hashKs ks
end
abbrev KAV := NestedKey × Addr × V
/-- the object at a is a dict with these entries -/
def DictP (a : Addr) (es : List KAV) (h : Heap) : Prop := es.length ≤ sizeLine ∧ (a == sysModules) = false ∧ ∃ o ents ep, h.get? a = some o ∧ o.ExactDict ∧ o.data = .dict ents ep ∧
  Paired (fun (x : KAV) (e : DictEntry) => e.hash = hashK x.1 ∧ e.key = .ref x.2.1 ∧ RelV x.2.2 e.val) es ents.toList
def DictO (a : Addr) (es : List KAV) : HO := .ext (DictP a es)
def RepK (K : PySem.W.Frag) (G : Hp) (kv : M × M) (e : KAV) : Prop := keyM kv.1 = some e.1 ∧ e.1.depth ≤ 8 ∧ Rep K G kv.1 (.ref e.2.1) ∧ Rep K G kv.2 e.2.2
def RepI (K : PySem.W.Frag) (G : Hp) (kv : Int × M) (e : Key × V) : Prop := e.1 = .inl kv.1 ∧ Rep K G kv.2 e.2
section
variable {K : PySem.W.Frag} {G G' : Hp}
theorem RepK.mono (g : Same G G') {kv : M × M} {e : KAV} (h : RepK K G kv e) : RepK K G' kv e := ⟨h.1, h.2.1, h.2.2.1.mono g, h.2.2.2.mono g⟩
theorem RepI.mono (g : Same G G') {kv : Int × M} {e : Key × V} (h : RepI K G kv e) : RepI K G' kv e := ⟨h.1, h.2.mono g⟩
end
/-- lists at these places -/
def Rows (K : PySem.W.Frag) (G H : Hp) : List (List M) → List Addr → Prop
  | [], bs => bs = []
  | xs :: xss, bs => ∃ b br vs, bs = b :: br ∧ H b = some (.lst vs) ∧ RepL K G xs vs ∧ Rows K G H xss br
/-- the object at a holds b -/
def Body (K : PySem.W.Frag) (G H : Hp) (a : Addr) : Cont → Prop
  | .l xs => ∃ vs, H a = some (.lst vs) ∧ RepL K G xs vs
  | .ll xss => ∃ bs : List Addr, H a = some (.lst (bs.map V.ref)) ∧ (a :: bs).Nodup ∧ Rows K G H xss bs
  | .di kvs => ∃ es, H a = some (.dK es) ∧ Paired (RepI K G) kvs es ∧ (kvs.map (·.1)).Nodup
  | .dt kvs => ∃ es, H a = some (DictO a es) ∧ Paired (RepK K G) kvs es ∧ (es.map (·.1)).Nodup
/-- the places that it takes -/
def Foot (H : Hp) (a : Addr) : Cont → Addr → Prop
  | .ll _, c => c = a ∨ ∃ vs, H a = some (.lst vs) ∧ V.ref c ∈ vs
  | _, c => c = a
def Bx (K : PySem.W.Frag) (G H : Hp) (a : Addr) (b : Cont) : Prop := (∀ c, Foot H a b c → G c = none) ∧ Body K G H a b
section
variable {K : PySem.W.Frag} {G G' H H' : Hp} {a c : Addr} {b : Cont}
theorem Foot.self : Foot H a b a := by
  cases b with
  | ll _ => exact .inl rfl
  | _ => exact rfl
theorem foot_keep (h : ∀ o, H a = some o → H' a = some o) (f : Foot H a b c) : Foot H' a b c := by
  cases b with
  | ll _ => rcases f with f | ⟨vs, e, m⟩
            · exact .inl f
            · exact .inr ⟨vs, h _ e, m⟩
  | _ => exact f
theorem Rows.len : ∀ {xss : List (List M)} {bs : List Addr}, Rows K G H xss bs → bs.length = xss.length
  | [], _, h => by cases h; rfl
  | _ :: _, _, ⟨_, _, _, e, _, _, r⟩ => by subst e; simp [Rows.len r]
theorem Rows.at : ∀ {xss : List (List M)} {bs : List Addr}, Rows K G H xss bs → ∀ c ∈ bs, ∃ o, H c = some o
  | [], _, h, c, m => by cases h; cases m
  | _ :: _, _, ⟨b, br, vs, e, h, _, r⟩, c, m => by
    subst e
    rcases List.mem_cons.mp m with z | z
    · exact ⟨_, z ▸ h⟩
    · exact Rows.at r c z
theorem Rows.nth : ∀ {xss : List (List M)} {bs : List Addr} {i : Nat} {xs : List M}, Rows K G H xss bs → xss[i]? = some xs → ∃ b vs, bs[i]? = some b ∧ H b = some (.lst vs) ∧ RepL K G xs vs
  | [], _, _, _, _, e => by simp at e
  | _ :: _, _, 0, _, ⟨b, br, vs, e, h, rl, r⟩, q => by
    subst e
    simp at q
    subst q
    exact ⟨b, vs, rfl, h, rl⟩
  | _ :: _, _, i + 1, _, ⟨b, br, vs, e, h, rl, r⟩, q => by
    subst e
    obtain ⟨b', vs', e1, e2, e3⟩ := Rows.nth (i := i) r (by simpa using q)
    exact ⟨b', vs', by simpa using e1, e2, e3⟩
theorem Rows.keep (g : Same G G') : ∀ {xss : List (List M)} {bs : List Addr}, Rows K G H xss bs → (∀ c ∈ bs, ∀ o, H c = some o → H' c = some o) → Rows K G' H' xss bs
  | [], _, h, _ => h
  | _ :: _, _, ⟨b, br, vs, e, h, rl, r⟩, k => by
    subst e
    exact ⟨b, br, vs, rfl, k b (List.mem_cons_self ..) _ h, rl.mono g, Rows.keep g r fun c m => k c (List.mem_cons_of_mem _ m)⟩
theorem paired_map {α β γ δ : Type} {F : α → β → Prop} {F' : γ → δ → Prop} {f : α → γ} {g : β → δ} : ∀ {l : List α} {m : List β}, Paired F l m → (∀ x y, F x y → F' (f x) (g y)) → Paired F' (l.map f) (m.map g)
  | _, _, .nil, _ => .nil
  | _, _, .cons r t, k => .cons (k _ _ r) (paired_map t k)
/-- what is taken stands -/
theorem Body.dom (h : Body K G H a b) (f : Foot H a b c) : ∃ o, H c = some o := by
  cases b with
  | l xs => obtain ⟨vs, e, _⟩ := h; cases f; exact ⟨_, e⟩
  | di xs => obtain ⟨vs, e, _⟩ := h; cases f; exact ⟨_, e⟩
  | dt xs => obtain ⟨vs, e, _⟩ := h; cases f; exact ⟨_, e⟩
  | ll xss =>
    obtain ⟨bs, e, nd, r⟩ := h
    rcases f with f | ⟨vs, e2, m⟩
    · exact ⟨_, f ▸ e⟩
    · rw [e] at e2; cases e2
      obtain ⟨d, m, z⟩ := List.mem_map.mp m
      cases z
      exact r.at _ m
theorem Body.keep (h : Body K G H a b) (g : Same G G') (k : ∀ c o, Foot H a b c → H c = some o → H' c = some o) : Body K G' H' a b := by
  have ka : ∀ o, H a = some o → H' a = some o := fun o => k a o Foot.self
  cases b with
  | l xs => obtain ⟨vs, e, r⟩ := h; exact ⟨vs, ka _ e, r.mono g⟩
  | di xs => obtain ⟨vs, e, r, n⟩ := h; exact ⟨vs, ka _ e, Paired.mapP r fun _ _ z => z.mono g, n⟩
  | dt xs => obtain ⟨vs, e, r, n⟩ := h; exact ⟨vs, ka _ e, Paired.mapP r fun _ _ z => z.mono g, n⟩
  | ll xss =>
    obtain ⟨bs, e, nd, r⟩ := h
    exact ⟨bs, ka _ e, nd, r.keep g fun c m o => k c o (.inr ⟨_, e, List.mem_map_of_mem m⟩)⟩
theorem Body.foot (h : Body K G H a b) (k : ∀ o, H a = some o → H' a = some o) : Foot H' a b c ↔ Foot H a b c := by
  refine ⟨fun f => ?_, foot_keep k⟩
  obtain ⟨o, e⟩ := h.dom Foot.self
  exact foot_keep (fun u q => by rw [k o e] at q; rw [e, q]) f
theorem Bx.keep (h : Bx K G H a b) (g : Same G G') (n : ∀ c, Foot H a b c → G' c = none) (k : ∀ c o, Foot H a b c → H c = some o → H' c = some o) : Bx K G' H' a b :=
  ⟨fun c f => n c ((h.2.foot fun o => k a o Foot.self).mp f), h.2.keep g k⟩
theorem Bx.self (h : Bx K G H a b) : G a = none := h.1 a Foot.self
end
/-! ### the state -/
theorem same_up {H : Hp} {p : Addr} {o : HO} (h : H p = none) : Same H (upd H p o) := fun b x e => by
  rw [upd_ne (ne_of_none e h)]
  exact e
def Own (r : Ro) (σ : St) (H : Hp) (c : Addr) : Prop := ∃ i p b a, get r i = .o p b ∧ σ[i]? = some (some (.ref a)) ∧ Foot H a b c
structure Sim (K : PySem.W.Frag) (r : Ro) (G : Hp) (σ : St) (H : Hp) : Prop where
  sub : Same G H
  len : r.length = σ.length
  val : ∀ i m, get r i = .v m → ∃ v, σ[i]? = some (some v) ∧ Rep K G m v
  own : ∀ i p b, get r i = .o p b → ∃ a, σ[i]? = some (some (.ref a)) ∧ Bx K G H a b
  inj : ∀ i j p q b d a a' c, get r i = .o p b → get r j = .o q d → σ[i]? = some (some (.ref a)) → σ[j]? = some (some (.ref a')) → Foot H a b c → Foot H a' d c → i = j
/-- what a piece of code may take: its own lists, what is new -/
def A0 (r : Ro) (σ : St) (H : Hp) (b : Addr) : Prop := Own r σ H b ∨ H b = none
structure Step (A : Addr → Prop) (r : Ro) (G : Hp) (σ : St) (H : Hp) (r' : Ro) (G' : Hp) (σ' : St) (H' : Hp) : Prop where
  grow : Same G G'
  keep : ∀ b o, H b = some o → ¬ A b → H' b = some o
  gnew : ∀ b, G' b ≠ none → G b ≠ none ∨ A b
  onew : ∀ b, Own r' σ' H' b → A b
  pin : ∀ i p xs, get r i = .o p xs → p ≠ .free → σ'[i]? = σ[i]? ∧ ∃ xs', get r' i = .o p xs' ∧ (p = .lock → xs' = xs)
  free : ∀ b, H' b = none → H b = none
section
variable {K : PySem.W.Frag} {A A' : Addr → Prop} {r r1 r2 : Ro} {G G1 G2 : Hp} {σ σ1 σ2 : St} {H H1 H2 : Hp}
theorem Step.mono (h : ∀ b, A b → A' b) (s : Step A r G σ H r1 G1 σ1 H1) : Step A' r G σ H r1 G1 σ1 H1 :=
  ⟨s.grow, fun b o e n => s.keep b o e fun z => n (h b z), fun b e => (s.gnew b e).imp id (h b), fun b e => h b (s.onew b e), s.pin, s.free⟩
theorem Step.refl (hA : ∀ b, A0 r σ H b → A b) : Step A r G σ H r G σ H :=
  ⟨Same.refl _, fun _ _ e _ => e, fun _ e => .inl e, fun b o => hA b (.inl o), fun _ _ xs e _ => ⟨rfl, xs, e, fun _ => rfl⟩, fun _ e => e⟩
theorem Step.trans (a : Step A r G σ H r1 G1 σ1 H1) (b : Step A r1 G1 σ1 H1 r2 G2 σ2 H2) : Step A r G σ H r2 G2 σ2 H2 :=
  ⟨a.grow.trans b.grow, fun c o e n => b.keep c o (a.keep c o e n) n, fun c e => (b.gnew c e).elim (fun z => a.gnew c z) .inr, fun c o => b.onew c o,
    fun i p xs e n => by
      obtain ⟨e1, xs1, e2, l1⟩ := a.pin i p xs e n
      obtain ⟨e3, xs3, e4, l3⟩ := b.pin i p xs1 e2 n
      exact ⟨e3.trans e1, xs3, e4, fun z => (l3 z).trans (l1 z)⟩, fun c e => a.free c (b.free c e)⟩
theorem Step.allow (s : Step (A0 r σ H) r G σ H r1 G1 σ1 H1) (hA : ∀ b, A0 r σ H b → A b) : ∀ b, A0 r1 σ1 H1 b → A b := fun b h => by
  rcases h with h | h
  · exact hA b (s.onew b h)
  · exact hA b (.inr (s.free b h))
theorem Step.allow' (s : Step A r G σ H r1 G1 σ1 H1) (hA : ∀ b, A0 r σ H b → A b) : ∀ b, A0 r1 σ1 H1 b → A b := fun b h => by
  rcases h with h | h
  · exact s.onew b h
  · exact hA b (.inr (s.free b h))

/-- what a value of an expression is -/
def EvRep (K : PySem.W.Frag) (A : Addr → Prop) (r : Ro) (G : Hp) (σ : St) (H : Hp) : EV → V → Prop
  | .fr m, v => Rep K G m v
  | .tmp b, v => ∃ a, v = .ref a ∧ Bx K G H a b ∧ ∀ c, Foot H a b c → ¬ Own r σ H c ∧ A c
  | .bor i, v => ∃ a, v = .ref a ∧ σ[i]? = some (some (.ref a))
/-- what no code may take stays as it is -/
theorem Step.hold {b : Cont} {a : Addr} (s : Step (A0 r σ H) r G σ H r1 G1 σ1 H1) (x : Bx K G H a b) (n : ∀ c, Foot H a b c → ¬ Own r σ H c) : Bx K G1 H1 a b ∧ (∀ c, Foot H1 a b c ↔ Foot H a b c) ∧ ∀ c, Foot H a b c → ¬ Own r1 σ1 H1 c := by
  have nA : ∀ c, Foot H a b c → ¬ A0 r σ H c := fun c f z => by
    rcases z with z | z
    · exact n c f z
    · obtain ⟨o, e⟩ := x.2.dom f
      rw [e] at z; cases z
  have kp : ∀ c o, Foot H a b c → H c = some o → H1 c = some o := fun c o f e => s.keep c o e (nA c f)
  refine ⟨x.keep s.grow (fun c f => ?_) kp, fun c => x.2.foot fun o => kp a o Foot.self, fun c f z => nA c f (s.onew c z)⟩
  cases q : G1 c with
  | none => rfl
  | some o =>
    rcases s.gnew c (by rw [q]; exact fun z => nomatch z) with z | z
    · exact absurd (x.1 c f) z
    · exact absurd z (nA c f)
theorem EvRep.step {ev : EV} {v : V} (h : EvRep K A r G σ H ev v) (s : Step (A0 r σ H) r G σ H r1 G1 σ H1) : EvRep K A r1 G1 σ H1 ev v := by
  cases ev with
  | fr m => exact Rep.mono s.grow h
  | bor i => exact h
  | tmp b =>
    obtain ⟨a, e, x, al⟩ := h
    obtain ⟨x1, f1, n1⟩ := s.hold x fun c f => (al c f).1
    exact ⟨a, e, x1, fun c f => ⟨n1 c ((f1 c).mp f), (al c ((f1 c).mp f)).2⟩⟩
theorem EvRep.imp {ev : EV} {v : V} (h : EvRep K A r G σ H ev v) (hA : ∀ b, A b → A' b) : EvRep K A' r G σ H ev v := by
  cases ev with
  | fr m => exact h
  | bor i => exact h
  | tmp b =>
    obtain ⟨a, e, x, al⟩ := h
    exact ⟨a, e, x, fun c f => ⟨(al c f).1, hA c (al c f).2⟩⟩

/-! ### exceptions: by the class's name -/
/-- the field of an own exception -/
def fieldOf (c : String) : Str := if c = "Refused" then "value" else "at"
/-- an own exception of the class c with the argument m -/
def ExRep (K : PySem.W.Frag) (mg : Str → Option Value) (G H : Hp) (c : String) (m : M) (cls : Value) (d : Option Addr) : Prop :=
  mg (Str.ofString c) = some cls ∧ ∃ dx v, d = some dx ∧ G dx = some (.xd [(fieldOf c, v)]) ∧ Rep K G m v

end
abbrev W4 := Value → Option Addr → St → Hp → Prop
def ExPost (K : PySem.W.Frag) (mg : Str → Option Value) (W : W4) (A : Addr → Prop) (r : Ro) (G : Hp) (σ : St) (H : Hp) (c : String) (m : M) (r' : Ro) : Prop :=
  ∀ σ' G' H' cls d, Sim K r' G' σ' H' → Step A r G σ H r' G' σ' H' → ExRep K mg G' H' c m cls d → W cls d σ' H'
/-- how results lie: what may be taken, the slots, the frozen part, the heap -/
abbrev RP (α β : Type) := (Addr → Prop) → Ro → Hp → Hp → α → β → Prop
/-- what is wanted behind an expression's result -/
def Post {α β : Type} (rp : RP α β) (K : PySem.W.Frag) (mg : Str → Option Value) (W : W4) (A : Addr → Prop) (r : Ro) (G : Hp) (σ : St) (H : Hp) (Q : β → Hp → Prop) : R α → Prop
  | .ok a r' => ∀ b G' H', Sim K r' G' σ H' → Step A r G σ H r' G' σ H' → rp A r' G' H' a b → Q b H'
  | .ex c m r' => ExPost K mg W A r G σ H c m r'
  | .bad => False
def tG {α β : Type} (rp : RP α β) (K : PySem.W.Frag) (mg : Str → Option Value) (W : W4) (f : Ev α) : St → Hp → (β → Hp → Prop) → Prop := fun σ H Q => ∃ r G, Sim K r G σ H ∧ Post rp K mg W (A0 r σ H) r G σ H Q (f r)
abbrev rpE (K : PySem.W.Frag) (σ : St) : RP EV V := fun A r G H => EvRep K A r G σ H
inductive EvsRep (K : PySem.W.Frag) (A : Addr → Prop) (r : Ro) (G : Hp) (σ : St) (H : Hp) : List EV → List V → Prop
  | nil : EvsRep K A r G σ H [] []
  | cons {e : EV} {es : List EV} {v : V} {vs : List V} : EvRep K A r G σ H e v → EvsRep K A r G σ H es vs → EvsRep K A r G σ H (e :: es) (v :: vs)
abbrev rpL (K : PySem.W.Frag) (σ : St) : RP (List EV) (List V) := fun A r G H => EvsRep K A r G σ H
abbrev rpB : RP Bool Bool := fun _ _ _ _ a b => a = b
section
variable {K : PySem.W.Frag} {A A' : Addr → Prop} {r r1 r2 : Ro} {G G1 G2 : Hp} {σ σ1 σ2 : St} {H H1 H2 : Hp} {mg : Str → Option Value} {W : W4} {α β γ δ : Type}
theorem EvsRep.step {evs : List EV} {vs : List V} (h : EvsRep K A r G σ H evs vs) (s : Step (A0 r σ H) r G σ H r1 G1 σ H1) : EvsRep K A r1 G1 σ H1 evs vs := by
  induction h with
  | nil => exact .nil
  | cons h1 _ ih => exact .cons (h1.step s) ih
theorem EvsRep.imp {evs : List EV} {vs : List V} (h : EvsRep K A r G σ H evs vs) (hA : ∀ b, A b → A' b) : EvsRep K A' r G σ H evs vs := by
  induction h with
  | nil => exact .nil
  | cons h1 _ ih => exact .cons (h1.imp hA) ih
theorem EvsRep.len {evs : List EV} {vs : List V} (h : EvsRep K A r G σ H evs vs) : evs.length = vs.length := by
  induction h with
  | nil => rfl
  | cons h1 _ ih => simp [ih]
/-- a representation that minds what may be taken in one direction only -/
def Up (rp : RP α β) : Prop := ∀ (A A' : Addr → Prop) (r : Ro) (G H : Hp) (a : α) (b : β), (∀ c, A c → A' c) → rp A r G H a b → rp A' r G H a b
theorem upE : Up (rpE K σ) := fun _ _ _ _ _ _ _ h x => EvRep.imp x h
theorem upL : Up (rpL K σ) := fun _ _ _ _ _ _ _ h x => EvsRep.imp x h
theorem upB : Up rpB := fun _ _ _ _ _ _ _ _ x => x
theorem ExPost.rebase {c : String} {m : M} {r' : Ro} (st : Step A r G σ H r1 G1 σ1 H1) (h : ExPost K mg W A r G σ H c m r') : ExPost K mg W A r1 G1 σ1 H1 c m r' :=
  fun σ' G' H' cls d S' s' x => h σ' G' H' cls d S' (st.trans s') x
theorem Post.rebase {rp : RP α β} {x : R α} {Q : β → Hp → Prop} (st : Step A r G σ H r1 G1 σ H1) (h : Post rp K mg W A r G σ H Q x) : Post rp K mg W A r1 G1 σ H1 Q x := by
  cases x with
  | bad => exact h
  | ex c m r' => exact ExPost.rebase st h
  | ok a r' => exact fun b G' H' S' s' e => h b G' H' S' (st.trans s') e
/-- one after another, any goal -/
theorem into0 {rp : RP α β} (up : Up rp) {fa : Ev α} {k : α → Ev γ} {Q1 : β → Hp → Prop} (P : R γ → Prop) (hb : ¬ P .bad) (hx : ∀ c m r', P (.ex c m r') → ExPost K mg W A r G σ H c m r')
    (S : Sim K r G σ H) (hA : ∀ b, A0 r σ H b → A b) (h : P (bnd fa k r))
    (hk : ∀ a r1 b G1 H1, Sim K r1 G1 σ H1 → (∀ b, A0 r1 σ H1 b → A b) → Step (A0 r σ H) r G σ H r1 G1 σ H1 → Step A r G σ H r1 G1 σ H1 → rp A r1 G1 H1 a b → P (k a r1) → Q1 b H1) :
    tG rp K mg W fa σ H Q1 := by
  refine ⟨r, G, S, ?_⟩
  unfold bnd at h
  cases q : fa r with
  | bad => rw [q] at h; exact absurd h hb
  | ex c m r' =>
    rw [q] at h
    exact fun σ' G' H' cls d S' st x => hx c m r' h σ' G' H' cls d S' (st.mono hA) x
  | ok a r' =>
    rw [q] at h
    exact fun b G' H' S' st e => hk a r' b G' H' S' (st.allow hA) st (st.mono hA) (up _ _ _ _ _ _ _ hA e) h
theorem into {rp : RP α β} {rq : RP γ δ} (up : Up rp) {fa : Ev α} {k : α → Ev γ} {Q : δ → Hp → Prop} {Q1 : β → Hp → Prop} (S : Sim K r G σ H) (hA : ∀ b, A0 r σ H b → A b) (h : Post rq K mg W A r G σ H Q (bnd fa k r))
    (hk : ∀ a r1 b G1 H1, Sim K r1 G1 σ H1 → (∀ b, A0 r1 σ H1 b → A b) → Step (A0 r σ H) r G σ H r1 G1 σ H1 → rp A r1 G1 H1 a b → Post rq K mg W A r1 G1 σ H1 Q (k a r1) → Q1 b H1) :
    tG rp K mg W fa σ H Q1 :=
  into0 up (Post rq K mg W A r G σ H Q) (fun z => z) (fun _ _ _ z => z) S hA h fun a r1 b G1 H1 S1 a1 s1 s2 e p => hk a r1 b G1 H1 S1 a1 s1 e (p.rebase s2)
/-- the last one -/
theorem last {rp : RP α β} {fa : Ev α} {Q : β → Hp → Prop} (S : Sim K r G σ H) (hA : ∀ b, A0 r σ H b → A b) (up : Up rp) (h : Post rp K mg W A r G σ H Q (fa r)) : tG rp K mg W fa σ H Q := by
  refine ⟨r, G, S, ?_⟩
  cases q : fa r with
  | bad => rw [q] at h; exact h
  | ex c m r' => rw [q] at h; exact fun σ' G' H' cls d S' st x => h σ' G' H' cls d S' (st.mono hA) x
  | ok a r' => rw [q] at h; exact fun b G' H' S' st e => h b G' H' S' (st.mono hA) (up _ _ _ _ _ _ _ hA e)
theorem A0.self : ∀ b, A0 r σ H b → A0 r σ H b := fun _ h => h

/-! ### statements -/
end
inductive Fl where
  | nx | rt (e : EV) | bk | ct
def PostS (K : PySem.W.Frag) (mg : Str → Option Value) (W : W4) (A : Addr → Prop) (r : Ro) (G : Hp) (σ : St) (H : Hp) (D : Ends) : R Fl → Prop
  | .ok .nx r' => ∀ σ' G' H', Sim K r' G' σ' H' → Step A r G σ H r' G' σ' H' → D.nx σ' H'
  | .ok .bk r' => ∀ σ' G' H', Sim K r' G' σ' H' → Step A r G σ H r' G' σ' H' → D.bk σ' H'
  | .ok .ct r' => ∀ σ' G' H', Sim K r' G' σ' H' → Step A r G σ H r' G' σ' H' → D.ct σ' H'
  | .ok (.rt ev) r' => ∀ v σ' G' H', Sim K r' G' σ' H' → Step A r G σ H r' G' σ' H' → EvRep K A r' G' σ' H' ev v → D.rt v H'
  | .ex c m r' => ExPost K mg W A r G σ H c m r'
  | .bad => False
def tS (K : PySem.W.Frag) (mg : Str → Option Value) (W : W4) (f : Ev Fl) : TS := fun D σ H => ∃ r G, Sim K r G σ H ∧ PostS K mg W (A0 r σ H) r G σ H D (f r)
section
variable {K : PySem.W.Frag} {A A' : Addr → Prop} {r r1 r2 : Ro} {G G1 G2 : Hp} {σ σ1 σ2 : St} {H H1 H2 : Hp} {mg : Str → Option Value} {W : W4} {α β γ δ : Type}
theorem PostS.rebase {x : R Fl} {D : Ends} (st : Step A r G σ H r1 G1 σ1 H1) (h : PostS K mg W A r G σ H D x) : PostS K mg W A r1 G1 σ1 H1 D x := by
  cases x with
  | bad => exact h
  | ex c m r' => exact ExPost.rebase st h
  | ok a r' =>
    cases a with
    | nx => exact fun σ' G' H' S' s' => h σ' G' H' S' (st.trans s')
    | bk => exact fun σ' G' H' S' s' => h σ' G' H' S' (st.trans s')
    | ct => exact fun σ' G' H' S' s' => h σ' G' H' S' (st.trans s')
    | rt ev => exact fun v σ' G' H' S' s' e => h v σ' G' H' S' (st.trans s') e
theorem intoS {rp : RP α β} (up : Up rp) {fa : Ev α} {k : α → Ev Fl} {D : Ends} {Q1 : β → Hp → Prop} (S : Sim K r G σ H) (hA : ∀ b, A0 r σ H b → A b) (h : PostS K mg W A r G σ H D (bnd fa k r))
    (hk : ∀ a r1 b G1 H1, Sim K r1 G1 σ H1 → (∀ b, A0 r1 σ H1 b → A b) → Step (A0 r σ H) r G σ H r1 G1 σ H1 → rp A r1 G1 H1 a b → PostS K mg W A r1 G1 σ H1 D (k a r1) → Q1 b H1) :
    tG rp K mg W fa σ H Q1 :=
  into0 up (PostS K mg W A r G σ H D) (fun z => z) (fun _ _ _ z => z) S hA h fun a r1 b G1 H1 S1 a1 s1 s2 e p => hk a r1 b G1 H1 S1 a1 s1 e (p.rebase s2)
theorem lastS {fa : Ev Fl} {D : Ends} (S : Sim K r G σ H) (hA : ∀ b, A0 r σ H b → A b) (h : PostS K mg W A r G σ H D (fa r)) : tS K mg W fa D σ H := by
  refine ⟨r, G, S, ?_⟩
  cases q : fa r with
  | bad => rw [q] at h; exact h
  | ex c m r' => rw [q] at h; exact fun σ' G' H' cls d S' st x => h σ' G' H' cls d S' (st.mono hA) x
  | ok a r' =>
    rw [q] at h
    cases a with
    | nx => exact fun σ' G' H' S' s' => h σ' G' H' S' (s'.mono hA)
    | bk => exact fun σ' G' H' S' s' => h σ' G' H' S' (s'.mono hA)
    | ct => exact fun σ' G' H' S' s' => h σ' G' H' S' (s'.mono hA)
    | rt ev => exact fun v σ' G' H' S' s' e => h v σ' G' H' S' (s'.mono hA) (e.imp hA)
end

/-! ### the judgements -/
abbrev tE (K : PySem.W.Frag) (mg : Str → Option Value) (W : W4) (f : Ev EV) : TE := fun σ H Q => tG (rpE K σ) K mg W f σ H Q
abbrev tL (K : PySem.W.Frag) (mg : Str → Option Value) (W : W4) (f : Ev (List EV)) : TA := fun σ H Q => tG (rpL K σ) K mg W f σ H Q
abbrev tB (K : PySem.W.Frag) (mg : Str → Option Value) (W : W4) (f : Ev Bool) : TT := fun σ H Q => tG rpB K mg W f σ H Q
def SE (X : Cx) (W : W4) (e : Expr) (f : Ev EV) : Prop := PE X e (tE X.K X.mg W f)
def SA (X : Cx) (W : W4) (es : List Expr) (f : Ev (List EV)) : Prop := PA X es (tL X.K X.mg W f)
def ST (X : Cx) (W : W4) (e : Expr) (f : Ev Bool) : Prop := PT X e (tB X.K X.mg W f)
def SW (X : Cx) (W : W4) (e : Expr) (f : Ev Bool) : Prop := PW X e (tB X.K X.mg W f)
def SS (X : Cx) (W : W4) (s : Stmt) (f : Ev Fl) : Prop := PS X s (tS X.K X.mg W f)
def SSs (X : Cx) (W : W4) (s : List Stmt) (f : Ev Fl) : Prop := PSs X s (tS X.K X.mg W f)
theorem peW {X : Cx} {e : Expr} {t t' : TE} (h : PE X e t) (w : ∀ σ H Q, t' σ H Q → t σ H Q) : PE X e t' := ⟨fun pins s σ H Q I q => h.run pins s σ H Q I (w σ H Q q)⟩
theorem paW {X : Cx} {e : List Expr} {t t' : TA} (h : PA X e t) (w : ∀ σ H Q, t' σ H Q → t σ H Q) : PA X e t' := ⟨fun pos pins s σ H Q I q => h.run pos pins s σ H Q I (w σ H Q q)⟩
theorem ptW {X : Cx} {e : Expr} {t t' : TT} (h : PT X e t) (w : ∀ σ H Q, t' σ H Q → t σ H Q) : PT X e t' := ⟨fun pins s σ H Q I q => h.run pins s σ H Q I (w σ H Q q)⟩
theorem pwW {X : Cx} {e : Expr} {t t' : TT} (h : PW X e t) (w : ∀ σ H Q, t' σ H Q → t σ H Q) : PW X e t' := ⟨fun wh pins s σ H Q I q => h.run wh pins s σ H Q I (w σ H Q q)⟩
theorem psW {X : Cx} {e : Stmt} {t t' : TS} (h : PS X e t) (w : ∀ D σ H, t' D σ H → t D σ H) : PS X e t' := ⟨fun pins s σ H D I q => h.run pins s σ H D I (w D σ H q)⟩
theorem pssW {X : Cx} {e : List Stmt} {t t' : TS} (h : PSs X e t) (w : ∀ D σ H, t' D σ H → t D σ H) : PSs X e t' := ⟨fun pins s σ H D I q => h.run pins s σ H D I (w D σ H q)⟩
end Sx

set_option Elab.async false
set_option linter.all false
set_option maxRecDepth 100000
set_option maxHeartbeats 4000000
/-! Sx2: freezing, reading; names, constants, displays, operators. -/
namespace Sx
open PySem L2

/-! ### slots -/
theorem get_set {r : Ro} {i j : Nat} {s : Slot} : get (r.set i s) j = if i = j ∧ i < r.length then s else get r j := by
  unfold get
  rw [List.getD_eq_getElem?_getD, List.getD_eq_getElem?_getD]
  by_cases h : i = j
  · subst h
    by_cases l : i < r.length
    · rw [if_pos ⟨rfl, l⟩, List.getElem?_set_self l]; rfl
    · rw [if_neg (fun z => l z.2), List.getElem?_eq_none (by simpa using Nat.le_of_not_lt l), List.getElem?_eq_none (Nat.le_of_not_lt l)]
  · rw [if_neg (fun z => h z.1), List.getElem?_set_ne h]
theorem get_lt {r : Ro} {i : Nat} (h : get r i ≠ .un) : i < r.length := by
  rcases Nat.lt_or_ge i r.length with l | l
  · exact l
  · exact absurd (by unfold get; rw [List.getD_eq_getElem?_getD, List.getElem?_eq_none l]; rfl) h

/-! ### freezing: a list is not changed from now on -/
def frzB : Cont → Option M
  | .l xs => some (.lst xs)
  | .ll xss => some (.lst (xss.map M.lst))
  | _ => none
def frzI (i : Nat) : Ev M := fun r => match get r i with
  | .v m => .ok m r
  | .o .free b => match frzB b with
    | some m => .ok m (r.set i (.v m))
    | none => .bad
  | _ => .bad
def frz : EV → Ev M
  | .fr m => ret m
  | .tmp b => match frzB b with
    | some m => ret m
    | none => bad
  | .bor i => frzI i
theorem bnd_ok {α β : Type} {f : Ev α} {k : α → Ev β} {r r' : Ro} {a : α} (h : f r = .ok a r') : bnd f k r = k a r' := by unfold bnd; rw [h]
theorem bnd_ex {α β : Type} {f : Ev α} {k : α → Ev β} {r r' : Ro} {c : String} {m : M} (h : f r = .ex c m r') : bnd f k r = .ex c m r' := by unfold bnd; rw [h]
theorem bnd_bad {α β : Type} {f : Ev α} {k : α → Ev β} {r : Ro} (h : f r = .bad) : bnd f k r = .bad := by unfold bnd; rw [h]
def frzL : List EV → Ev (List M)
  | [] => ret []
  | e :: es => bnd (frz e) fun m => bnd (frzL es) fun ms => ret (m :: ms)
theorem frzI_ok {i : Nat} {r r' : Ro} {m : M} (e : frzI i r = .ok m r') : (get r i = .v m ∧ r' = r) ∨ ∃ b, get r i = .o .free b ∧ frzB b = some m ∧ r' = r.set i (.v m) := by
  unfold frzI at e
  cases q : get r i with
  | un => rw [q] at e; cases e
  | v m' => rw [q] at e; cases e; exact .inl ⟨rfl, rfl⟩
  | o p b =>
    rw [q] at e
    cases p with
    | pin => cases e
    | lock => cases e
    | free =>
      have e : (match frzB b with
        | some m => R.ok m (r.set i (.v m))
        | none => .bad) = .ok m r' := e
      cases q2 : frzB b with
      | none => rw [q2] at e; cases e
      | some m2 => rw [q2] at e; cases e; exact .inr ⟨b, rfl, q2, rfl⟩
theorem frzT_ok {b : Cont} {r r' : Ro} {m : M} (e : frz (.tmp b) r = .ok m r') : frzB b = some m ∧ r' = r := by
  have e : (match frzB b with
    | some m => ret m
    | none => bad : Ev M) r = .ok m r' := e
  cases q2 : frzB b with
  | none => rw [q2] at e; cases e
  | some m2 => rw [q2] at e; cases e; exact ⟨rfl, rfl⟩
open Classical in
/-- what the object at a takes is frozen -/
noncomputable def frzG (G H : Hp) (a : Addr) (b : Cont) : Hp := fun c => if Foot H a b c then H c else G c
section
variable {K : PySem.W.Frag} {A A' : Addr → Prop} {r r1 r2 : Ro} {G G1 G2 : Hp} {σ σ1 σ2 : St} {H H1 H2 : Hp} {mg : Str → Option Value} {W : W4} {α β γ δ : Type}
theorem frzG_in {a c : Addr} {b : Cont} (f : Foot H a b c) : frzG G H a b c = H c := if_pos f
theorem frzG_out {a c : Addr} {b : Cont} (f : ¬ Foot H a b c) : frzG G H a b c = G c := if_neg f
/-- as EvRep, a list that may have been frozen since -/
def Wk (K : PySem.W.Frag) (A : Addr → Prop) (r : Ro) (G : Hp) (σ : St) (H : Hp) : EV → V → Prop
  | .fr m, v => Rep K G m v
  | .tmp b, v => ∃ a, v = .ref a ∧ Body K G H a b ∧ ∀ c, Foot H a b c → ¬ Own r σ H c ∧ A c
  | .bor i, v => ∃ a, v = .ref a ∧ σ[i]? = some (some (.ref a))
theorem EvRep.wk {ev : EV} {v : V} (h : EvRep K A r G σ H ev v) : Wk K A r G σ H ev v := by
  cases ev with
  | fr m => exact h
  | bor i => exact h
  | tmp b =>
    obtain ⟨a, e, x, al⟩ := h
    exact ⟨a, e, x.2, al⟩
theorem same_frz {a : Addr} {b : Cont} (S : Sim K r G σ H) : Same G (frzG G H a b) := fun c o e => by
  by_cases f : Foot H a b c
  · rw [frzG_in f]; exact S.sub c o e
  · rw [frzG_out f]; exact e
/-- what is frozen is a value -/
theorem rep_frz {a : Addr} {b : Cont} {m : M} (S : Sim K r G σ H) (x : Body K G H a b) (e : frzB b = some m) : Rep K (frzG G H a b) m (.ref a) := by
  have gg := same_frz S (a := a) (b := b)
  cases b with
  | di _ => cases e
  | dt _ => cases e
  | l xs =>
    cases e
    obtain ⟨vs, ha, rl⟩ := x
    exact ⟨a, vs, rfl, (frzG_in Foot.self).trans ha, rl.mono gg⟩
  | ll xss =>
    cases e
    obtain ⟨bs, ha, nd, rr⟩ := x
    refine ⟨a, _, rfl, (frzG_in Foot.self).trans ha, ?_⟩
    have key : ∀ (xss' : List (List M)) (bs' : List Addr), (∀ c ∈ bs', c ∈ bs) → Rows K G H xss' bs' → RepL K (frzG G H a (.ll xss)) (xss'.map M.lst) (bs'.map V.ref) := by
      intro xss'
      induction xss' with
      | nil => intro bs' _ r; cases r; rfl
      | cons xs xss' ih =>
        rintro bs' hm ⟨d, br, vs, rfl, hd, rl, r⟩
        exact ⟨.ref d, _, rfl, ⟨d, vs, rfl, (frzG_in (a := a) (b := .ll xss) (show Foot H a (.ll xss) d from Or.inr ⟨_, ha, List.mem_map_of_mem (hm d (List.mem_cons_self ..))⟩)).trans hd, rl.mono gg⟩, ih br (fun c m => hm c (List.mem_cons_of_mem _ m)) r⟩
    exact key xss bs (fun _ m => m) rr
/-- the frozen part grows by an object as it stands -/
theorem Sim.freeze {a : Addr} {b : Cont} {r' : Ro} (S : Sim K r G σ H) (ho : ∀ c, Own r' σ H c → Own r σ H c ∧ ¬ Foot H a b c)
    (hr : ∀ i, get r' i = get r i ∨ ∃ m v, get r' i = .v m ∧ σ[i]? = some (some v) ∧ Rep K (frzG G H a b) m v) (hn : r'.length = r.length) : Sim K r' (frzG G H a b) σ H := by
  have gg := same_frz S (a := a) (b := b)
  refine ⟨fun c o e => ?_, hn.trans S.len, fun i m e => ?_, fun i p d e => ?_, fun i j p q xs ys d d' c e1 e2 s1 s2 => ?_⟩
  · by_cases f : Foot H a b c
    · rw [frzG_in f] at e; exact e
    · rw [frzG_out f] at e; exact S.sub c o e
  · rcases hr i with z | ⟨m', v, z, sv, rp⟩
    · obtain ⟨v, sv, rp⟩ := S.val i m (z.symm.trans e)
      exact ⟨v, sv, rp.mono gg⟩
    · rw [z] at e; cases e
      exact ⟨v, sv, rp⟩
  · rcases hr i with z | ⟨m', v, z, _⟩
    · obtain ⟨a', sv, x⟩ := S.own i p d (z.symm.trans e)
      exact ⟨a', sv, x.keep gg (fun c f => by rw [frzG_out (ho c ⟨i, p, d, a', e, sv, f⟩).2]; exact x.1 c f) fun c o _ q => q⟩
    · rw [z] at e; cases e
  · rcases hr i with z | ⟨m', v, z, _⟩
    · rcases hr j with z2 | ⟨m', v, z2, _⟩
      · exact S.inj i j p q xs ys d d' c (z.symm.trans e1) (z2.symm.trans e2) s1 s2
      · rw [z2] at e2; cases e2
    · rw [z] at e1; cases e1
theorem step_frz {a : Addr} {b : Cont} {r' : Ro} (S : Sim K r G σ H) (hA : ∀ b, A0 r σ H b → A b) (al : ∀ c, Foot H a b c → A c) (ho : ∀ b, Own r' σ H b → Own r σ H b) (hp : ∀ i p xs, get r i = .o p xs → p ≠ .free → get r' i = .o p xs) :
    Step A r G σ H r' (frzG G H a b) σ H := by
  refine ⟨same_frz S, fun _ _ e _ => e, fun c e => ?_, fun b o => hA b (.inl (ho b o)), fun i p xs e n => ⟨rfl, xs, hp i p xs e n, fun _ => rfl⟩, fun _ e => e⟩
  by_cases f : Foot H a b c
  · exact .inr (al c f)
  · rw [frzG_out f] at e; exact .inl e
theorem frz_ok {ev : EV} {v : V} {m : M} {r' : Ro} (S : Sim K r G σ H) (hA : ∀ b, A0 r σ H b → A b) (h : Wk K A r G σ H ev v) (e : frz ev r = .ok m r') :
    ∃ G', Sim K r' G' σ H ∧ Step A r G σ H r' G' σ H ∧ Rep K G' m v ∧ ∀ b, Own r' σ H b → Own r σ H b := by
  cases ev with
  | fr m' => cases e; exact ⟨G, S, .refl hA, h, fun _ z => z⟩
  | tmp b =>
    obtain ⟨e2, rfl⟩ := frzT_ok e
    obtain ⟨a, rfl, x, al⟩ := h
    exact ⟨frzG G H a b, S.freeze (fun c o => ⟨o, fun f => (al c f).1 o⟩) (fun i => .inl rfl) rfl, step_frz S hA (fun c f => (al c f).2) (fun _ z => z) (fun _ _ _ z _ => z), rep_frz S x e2, fun _ z => z⟩
  | bor i =>
    obtain ⟨a, rfl, sv⟩ := h
    rcases frzI_ok (show frzI i r = .ok m r' from e) with ⟨q, rfl⟩ | ⟨b, q, eb, rfl⟩
    · obtain ⟨v, sv', rp⟩ := S.val i m q
      rw [sv] at sv'; cases sv'
      exact ⟨G, S, .refl hA, rp, fun _ z => z⟩
    · obtain ⟨a', sv', x⟩ := S.own i .free b q
      rw [sv] at sv'; cases sv'
      have hi : i < r.length := get_lt (by rw [q]; exact fun z => nomatch z)
      have own' : ∀ c, Own (r.set i (.v m)) σ H c → Own r σ H c ∧ ¬ Foot H a b c := fun c ⟨j, p, d, a', e1, e2, f⟩ => by
        rw [get_set] at e1
        by_cases hj : i = j
        · rw [if_pos ⟨hj, hi⟩] at e1; cases e1
        · rw [if_neg (fun z => hj z.1)] at e1
          exact ⟨⟨j, p, d, a', e1, e2, f⟩, fun z => hj (S.inj i j _ _ _ _ _ _ c q e1 sv e2 z f)⟩
      have rp := rep_frz S x.2 eb
      refine ⟨frzG G H a b, S.freeze own' (fun j => ?_) (by simp), step_frz S hA (fun c f => hA c (.inl ⟨i, .free, b, a, q, sv, f⟩)) (fun b o => (own' b o).1) (fun j pp ys z nf => ?_), rp, fun b o => (own' b o).1⟩
      · rw [get_set]
        by_cases hj : i = j
        · subst hj
          rw [if_pos ⟨rfl, hi⟩]
          exact .inr ⟨_, _, rfl, sv, rp⟩
        · rw [if_neg (fun z => hj z.1)]
          exact .inl rfl
      · rw [get_set]
        by_cases hj : i = j
        · subst hj
          rw [q] at z; cases z
          exact absurd rfl nf
        · rw [if_neg (fun z => hj z.1)]
          exact z
theorem Wk.stepF {ev : EV} {v : V} {r' : Ro} {G' : Hp} (h : Wk K A r G σ H ev v) (g : Same G G') (ho : ∀ b, Own r' σ H b → Own r σ H b) : Wk K A r' G' σ H ev v := by
  cases ev with
  | fr m => exact Rep.mono g h
  | bor i => exact h
  | tmp b =>
    obtain ⟨a, e, x, al⟩ := h
    exact ⟨a, e, x.keep g fun _ _ _ q => q, fun c f => ⟨fun z => (al c f).1 (ho c z), (al c f).2⟩⟩
inductive WkL (K : PySem.W.Frag) (A : Addr → Prop) (r : Ro) (G : Hp) (σ : St) (H : Hp) : List EV → List V → Prop
  | nil : WkL K A r G σ H [] []
  | cons {e : EV} {es : List EV} {v : V} {vs : List V} : Wk K A r G σ H e v → WkL K A r G σ H es vs → WkL K A r G σ H (e :: es) (v :: vs)
theorem EvsRep.wk {evs : List EV} {vs : List V} (h : EvsRep K A r G σ H evs vs) : WkL K A r G σ H evs vs := by
  induction h with
  | nil => exact .nil
  | cons h1 _ ih => exact .cons h1.wk ih
theorem WkL.stepF {evs : List EV} {vs : List V} {r' : Ro} {G' : Hp} (h : WkL K A r G σ H evs vs) (g : Same G G') (ho : ∀ b, Own r' σ H b → Own r σ H b) : WkL K A r' G' σ H evs vs := by
  induction h with
  | nil => exact .nil
  | cons h1 _ ih => exact .cons (h1.stepF g ho) ih
theorem frzL_ok : ∀ {evs : List EV} {vs : List V} {ms : List M} {r r' : Ro} {G : Hp}, Sim K r G σ H → (∀ b, A0 r σ H b → A b) → WkL K A r G σ H evs vs → frzL evs r = .ok ms r' →
    ∃ G', Sim K r' G' σ H ∧ Step A r G σ H r' G' σ H ∧ RepL K G' ms vs ∧ ∀ b, Own r' σ H b → Own r σ H b
  | [], _, _, _, _, G, S, hA, h, e => by
    cases h; cases e
    exact ⟨G, S, .refl hA, rfl, fun _ z => z⟩
  | ev :: evs, _, ms, r, r', G, S, hA, .cons h1 h2, e => by
    unfold frzL at e
    cases q : frz ev r with
    | bad => rw [bnd_bad q] at e; cases e
    | ex c m r1 => rw [bnd_ex q] at e; cases e
    | ok m r1 =>
      rw [bnd_ok q] at e
      obtain ⟨G1, S1, st1, rp1, o1⟩ := frz_ok S hA h1 q
      cases q2 : frzL evs r1 with
      | bad => rw [bnd_bad q2] at e; cases e
      | ex c m r2 => rw [bnd_ex q2] at e; cases e
      | ok ms' r2 =>
        rw [bnd_ok q2] at e
        cases e
        obtain ⟨G2, S2, st2, rp2, o2⟩ := frzL_ok S1 (st1.allow' hA) (h2.stepF st1.grow o1) q2
        exact ⟨G2, S2, st1.trans st2, ⟨_, _, rfl, rp1.mono st2.grow, rp2⟩, fun b z => o1 b (o2 b z)⟩
theorem frz_noex {ev : EV} {c : String} {m : M} {r' : Ro} : frz ev r ≠ .ex c m r' := by
  intro e
  cases ev with
  | fr _ => cases e
  | tmp b =>
    have e : (match frzB b with
      | some m => ret m
      | none => bad : Ev M) r = .ex c m r' := e
    cases q2 : frzB b <;> (rw [q2] at e; cases e)
  | bor i =>
    have e : frzI i r = .ex c m r' := e
    unfold frzI at e
    cases q : get r i with
    | un => rw [q] at e; cases e
    | v _ => rw [q] at e; cases e
    | o p b =>
      rw [q] at e
      cases p with
      | pin => cases e
      | lock => cases e
      | free =>
        have e : (match frzB b with
          | some m => R.ok m (r.set i (.v m))
          | none => .bad) = .ex c m r' := e
        cases q2 : frzB b <;> (rw [q2] at e; cases e)
theorem frzL_noex : ∀ {evs : List EV} {r : Ro} {c : String} {m : M} {r' : Ro}, frzL evs r ≠ .ex c m r'
  | [], _, _, _, _, e => by cases e
  | ev :: evs, r, _, _, _, e => by
    unfold frzL at e
    cases q : frz ev r with
    | bad => rw [bnd_bad q] at e; cases e
    | ex c m r1 => exact frz_noex q
    | ok m r1 =>
      rw [bnd_ok q] at e
      cases q2 : frzL evs r1 with
      | bad => rw [bnd_bad q2] at e; cases e
      | ex c m r2 => exact frzL_noex q2
      | ok ms' r2 => rw [bnd_ok q2] at e; cases e

/-! ### reading -/
inductive Kd where
  | t | l | ro
  deriving DecidableEq
/-- a tuple's, a list's items -/
def seqM : M → Option (Kd × List M)
  | .tup xs => some (.t, xs)
  | .lst xs => some (.l, xs)
  | .ro xs => some (.ro, xs)
  | _ => none
def seqB : Cont → Option (Kd × List M)
  | .l xs => some (.l, xs)
  | _ => none
def seqS : Slot → Option (Kd × List M)
  | .o _ b => seqB b
  | .v m => seqM m
  | .un => none
def seqOf (r : Ro) : EV → Option (Kd × List M)
  | .fr m => seqM m
  | .tmp b => seqB b
  | .bor i => seqS (get r i)
theorem seqB_some {b : Cont} {k : Kd} {xs : List M} (e : seqB b = some (k, xs)) : b = .l xs ∧ k = .l := by
  cases b <;> cases e
  exact ⟨rfl, rfl⟩
def SqK (K : PySem.W.Frag) (H : Hp) (a : Addr) (vs : List V) : Kd → Prop
  | .t => SqT K H a vs
  | .l => H a = some (.lst vs)
  | .ro => SqL K H a vs
theorem seqM_ok {m : M} {v : V} {k : Kd} {xs : List M} (h : Rep K G m v) (e : seqM m = some (k, xs)) : ∃ a vs, v = .ref a ∧ SqK K G a vs k ∧ RepL K G xs vs := by
  cases m with
  | tup ys => cases e; exact h
  | lst ys => cases e; exact h
  | ro ys => cases e; exact h
  | non => cases e
  | bl _ => cases e
  | int _ => cases e
  | str _ => cases e
theorem SqK.mono {a : Addr} {vs : List V} {k : Kd} (g : Same G G1) (h : SqK K G a vs k) : SqK K G1 a vs k := by
  cases k with
  | t => exact sqT_mono g h
  | l => exact g _ _ h
  | ro => exact g.seq h
theorem seq_ok {ev : EV} {v : V} {k : Kd} {xs : List M} (S : Sim K r G σ H) (h : Wk K A r G σ H ev v) (e : seqOf r ev = some (k, xs)) :
    ∃ a vs, v = .ref a ∧ SqK K H a vs k ∧ RepL K G xs vs := by
  cases ev with
  | tmp b =>
    obtain ⟨a, rfl, x, _⟩ := h
    obtain ⟨rfl, rfl⟩ := seqB_some (show seqB b = some (k, xs) from e)
    obtain ⟨vs, hl, rl⟩ := x
    exact ⟨a, vs, rfl, hl, rl⟩
  | bor i =>
    obtain ⟨a, rfl, sv⟩ := h
    have e : seqS (get r i) = some (k, xs) := e
    cases q : get r i with
    | un => rw [q] at e; cases e
    | o p b =>
      rw [q] at e
      obtain ⟨rfl, rfl⟩ := seqB_some (show seqB b = some (k, xs) from e)
      obtain ⟨c, sv', _, vs, hl, rl⟩ := S.own i p _ q
      rw [sv] at sv'; cases sv'
      exact ⟨a, vs, rfl, hl, rl⟩
    | v m =>
      rw [q] at e
      obtain ⟨w, sv', rp⟩ := S.val i m q
      rw [sv] at sv'; cases sv'
      obtain ⟨a', vs, e', s, rl⟩ := seqM_ok rp e
      exact ⟨a', vs, e', s.mono S.sub, rl⟩
  | fr m =>
    obtain ⟨a', vs, e', s, rl⟩ := seqM_ok h e
    exact ⟨a', vs, e', s.mono S.sub, rl⟩
/-- a plain value that needs no heap -/
def EV.m : EV → M
  | .fr m => m
  | _ => .non
/-! ### new objects -/
theorem Sim.gnone {p : Addr} (S : Sim K r G σ H) (n : H p = none) : G p = none := by
  cases q : G p with
  | none => rfl
  | some u => rw [S.sub p u q] at n; cases n
theorem Body.up {p a : Addr} {b : Cont} {o : HO} (x : Body K G H a b) (n : H p = none) : Body K G (upd H p o) a b ∧ ∀ c, Foot (upd H p o) a b c ↔ Foot H a b c := by
  have k : ∀ c u, H c = some u → upd H p o c = some u := fun c u e => by
    rw [upd_ne (fun z => by subst z; rw [e] at n; cases n)]; exact e
  exact ⟨x.keep (Same.refl _) fun c u _ e => k c u e, fun c => x.foot fun u e => k a u e⟩
theorem Sim.own_up {p c : Addr} {o : HO} (S : Sim K r G σ H) (n : H p = none) : Own r σ (upd H p o) c ↔ Own r σ H c := by
  constructor
  · rintro ⟨i, q, b, a, e1, e2, f⟩
    obtain ⟨a', sv, x⟩ := S.own i q b e1
    rw [e2] at sv; cases sv
    exact ⟨i, q, b, a, e1, e2, ((x.2.up n).2 c).mp f⟩
  · rintro ⟨i, q, b, a, e1, e2, f⟩
    obtain ⟨a', sv, x⟩ := S.own i q b e1
    rw [e2] at sv; cases sv
    exact ⟨i, q, b, a, e1, e2, ((x.2.up n).2 c).mpr f⟩
theorem Sim.nown {p : Addr} (S : Sim K r G σ H) (n : H p = none) : ¬ Own r σ H p := fun ⟨i, q, xs, a, e1, e2, f⟩ => by
  obtain ⟨a', sv, x⟩ := S.own i q xs e1
  rw [e2] at sv; cases sv
  obtain ⟨o, e⟩ := x.2.dom f
  rw [e] at n; cases n
theorem Sim.fresh {p : Addr} {o : HO} (S : Sim K r G σ H) (n : H p = none) : Sim K r G σ (upd H p o) := by
  refine ⟨fun b u e => ?_, S.len, S.val, fun i q b e => ?_, fun i j q q2 b d a a' c e1 e2 s1 s2 f1 f2 => ?_⟩
  · have hb : b ≠ p := fun z => by subst z; rw [S.sub b u e] at n; cases n
    rw [upd_ne hb]; exact S.sub b u e
  · obtain ⟨a, sv, x⟩ := S.own i q b e
    exact ⟨a, sv, fun c f => x.1 c (((x.2.up n).2 c).mp f), (x.2.up n).1⟩
  · obtain ⟨b1, sv1, x1⟩ := S.own i q b e1
    obtain ⟨b2, sv2, x2⟩ := S.own j q2 d e2
    rw [s1] at sv1; cases sv1
    rw [s2] at sv2; cases sv2
    exact S.inj i j q q2 b d a a' c e1 e2 s1 s2 (((x1.2.up n).2 c).mp f1) (((x2.2.up n).2 c).mp f2)
theorem Sim.alloc {p : Addr} {o : HO} (S : Sim K r G σ H) (n : H p = none) : Sim K r (upd G p o) σ (upd H p o) := by
  have ng := S.gnone n
  have S1 := S.fresh (o := o) n
  refine ⟨fun b u e => ?_, S.len, fun i m e => ?_, fun i q b e => ?_, S1.inj⟩
  · by_cases hb : b = p
    · subst hb; rw [upd_same] at e ⊢; exact e
    · rw [upd_ne hb] at e ⊢; exact S.sub b u e
  · obtain ⟨v, sv, rp⟩ := S.val i m e
    exact ⟨v, sv, rp.mono (same_up ng)⟩
  · obtain ⟨a, sv, x⟩ := S1.own i q b e
    refine ⟨a, sv, x.keep (same_up ng) (fun c f => ?_) fun _ _ _ e => e⟩
    have nc : c ≠ p := fun z => by
      subst z
      exact S.nown n ((S.own_up n).mp ⟨i, q, b, a, e, sv, f⟩)
    rw [upd_ne nc]
    exact x.1 c f
theorem step_alloc {p : Addr} {o : HO} (S : Sim K r G σ H) (hA : ∀ b, A0 r σ H b → A b) (n : H p = none) : Step A r G σ H r (upd G p o) σ (upd H p o) := by
  refine ⟨same_up (S.gnone n), fun b u e _ => same_up n b u e, fun b e => ?_, fun b z => hA b (.inl ((S.own_up n).mp z)), fun _ _ xs e _ => ⟨rfl, xs, e, fun _ => rfl⟩, fun b e => ?_⟩
  · by_cases hb : b = p
    · subst hb; exact .inr (hA b (.inr n))
    · rw [upd_ne hb] at e; exact .inl e
  · by_cases hb : b = p
    · subst hb; exact n
    · rw [upd_ne hb] at e; exact e
theorem step_fresh {p : Addr} {o : HO} (S : Sim K r G σ H) (hA : ∀ b, A0 r σ H b → A b) (n : H p = none) : Step A r G σ H r G σ (upd H p o) := by
  refine ⟨Same.refl _, fun b u e _ => same_up n b u e, fun b e => .inl e, fun b z => hA b (.inl ((S.own_up n).mp z)), fun _ _ xs e _ => ⟨rfl, xs, e, fun _ => rfl⟩, fun b e => ?_⟩
  by_cases hb : b = p
  · subst hb; exact n
  · rw [upd_ne hb] at e; exact e
/-- a result that is a plain value -/
theorem fin_plain {ev : EV} {v : V} {Q : VK} (S : Sim K r G σ H) (hA : ∀ b, A0 r σ H b → A b) (h : Post (rpE K σ) K mg W A r G σ H Q (.ok ev r)) (e : EvRep K A r G σ H ev v) : Q v H :=
  h v G H S (.refl hA) e
/-- a result that is a new tuple, a new frozen list -/
theorem fin_tup {ms : List M} {vs : List V} {p : Addr} {Q : VK} (S : Sim K r G σ H) (hA : ∀ b, A0 r σ H b → A b) (h : Post (rpE K σ) K mg W A r G σ H Q (.ok (.fr (.tup ms)) r)) (e : RepL K G ms vs) (n : H p = none) : Q (.ref p) (upd H p (.tup vs)) :=
  h _ _ _ (S.alloc n) (step_alloc S hA n) ⟨p, vs, rfl, .of upd_same, e.mono (same_up (S.gnone n))⟩
/-- a result that is a new list -/
theorem fin_lst {ms : List M} {vs : List V} {p : Addr} {Q : VK} (S : Sim K r G σ H) (hA : ∀ b, A0 r σ H b → A b) (h : Post (rpE K σ) K mg W A r G σ H Q (.ok (.tmp ms) r)) (e : RepL K G ms vs) (n : H p = none) : Q (.ref p) (upd H p (.lst vs)) :=
  h _ _ _ (S.fresh n) (step_fresh S hA n) ⟨p, rfl, ⟨fun c f => by cases f; exact S.gnone n, vs, upd_same, e⟩, fun c f => by cases f; exact ⟨fun z => S.nown n ((S.own_up n).mp z), hA p (.inr n)⟩⟩
end

/-! ### names and constants -/
def vVar (i : Nat) : Ev EV := fun r => match get r i with
  | .v m => .ok (.fr m) r
  | .o _ _ => .ok (.bor i) r
  | .un => .bad
def vLit (m : M) : Ev EV := ret (.fr m)
section
variable {X : Cx} {W : W4} {a b e : Expr} {es : List Expr} {pos : Pos}
theorem se_name (i : Nat) {x : Str} (hN : X.N[i]? = some x := by rfl) (hv : Vis X.env.scope x := by first | exact Or.inl rfl | exact Or.inr (Or.inl rfl) | exact Or.inr (Or.inr rfl)) (hd : (x == ("__debug__" : Str)) = false := by decide)
    (hcd : (x == ("__classdict__" : Str)) = false := by decide) : SE X W (.Name x pos) (vVar i) := by
  refine peW (pe_var hN hv hd hcd) fun σ H Q ⟨r, G, S, h⟩ => ?_
  unfold vVar at h
  cases q : get r i with
  | un => rw [q] at h; exact h.elim
  | v m =>
    rw [q] at h
    obtain ⟨v, sv, rp⟩ := S.val i m q
    exact ⟨v, sv, fin_plain S A0.self h rp⟩
  | o p xs =>
    rw [q] at h
    obtain ⟨c, sv, _⟩ := S.own i p xs q
    exact ⟨_, sv, fin_plain S A0.self h ⟨c, rfl, sv⟩⟩
theorem se_int {i : Int} {j} : SE X W (.Constant (.int i) j pos) (vLit (.int i)) := peW pe_int fun σ H Q ⟨r, G, S, h⟩ => fin_plain S A0.self h rfl
theorem se_bl {i : Bool} {j} : SE X W (.Constant (.bool i) j pos) (vLit (.bl i)) := peW pe_bl fun σ H Q ⟨r, G, S, h⟩ => fin_plain S A0.self h rfl
theorem se_non {j} : SE X W (.Constant .none j pos) (vLit .non) := peW pe_non fun σ H Q ⟨r, G, S, h⟩ => fin_plain S A0.self h rfl
theorem se_str {x : Str} {j} : SE X W (.Constant (.str x) j pos) (vLit (.str x)) := peW pe_str fun σ H Q ⟨r, G, S, h⟩ => fin_plain S A0.self h rfl
/-- a constant of the module -/
theorem se_glob {x : Str} {v : V} {u : Value} {m : M} (hg : Gl X x) (hm : X.mg x = some u) (rv : RelV v u) (rp : Rep X.K (fun _ => none) m v) (hd : (x == ("__debug__" : Str)) = false := by decide) : SE X W (.Name x pos) (vLit m) :=
  peW (pe_glob hg hm rv hd) fun σ H Q ⟨r, G, S, h⟩ => fin_plain S A0.self h (rp.mono (fun _ _ e => by cases e))

/-! ### lists of expressions, displays -/
def vNil : Ev (List EV) := ret []
def vCons (f : Ev EV) (g : Ev (List EV)) : Ev (List EV) := bnd f fun e => bnd g fun es => ret (e :: es)
theorem sa_nil : SA X W [] vNil := paW pa_nil fun σ H Q h => by
  obtain ⟨r, G, S, h⟩ := h
  exact h _ G H S (.refl A0.self) .nil
theorem sa_cons {f : Ev EV} {g : Ev (List EV)} (ha : SE X W e f) (hr : SA X W es g) (hs : starEach (e :: es) X.env = (false, eval e X.env) :: starEach es X.env := by rfl) : SA X W (e :: es) (vCons f g) := by
  refine paW (pa_cons ha hr hs) fun σ H Q ⟨r, G, S, h⟩ => ?_
  refine into upE S A0.self h fun ev r1 v G1 H1 S1 a1 st1 e1 h1 => ?_
  refine into upL S1 a1 h1 fun evs r2 vs G2 H2 S2 a2 st2 e2 h2 => ?_
  exact h2 _ G2 H2 S2 (.refl a2) (.cons (e1.step st2) e2)
/-- the number of values that a list of expressions gives -/
def Many (n : Nat) (f : Ev (List EV)) : Prop := ∀ r es r', f r = .ok es r' → es.length = n
def vTup (f : Ev (List EV)) : Ev EV := bnd f fun es => bnd (frzL es) fun ms => if ms.length ≤ 1000 then ret (.fr (.tup ms)) else bad
def vLst (f : Ev (List EV)) : Ev EV := bnd f fun es => bnd (frzL es) fun ms => if ms.length ≤ 1000 then ret (.tmp ms) else bad
theorem small {n : Nat} (h : n ≤ 1000) : n ≤ sizeLine := Nat.le_trans h (by decide)
theorem post_frzL {K : PySem.W.Frag} {A : Addr → Prop} {r : Ro} {G : Hp} {σ : St} {H : Hp} {mg : Str → Option Value} {α β : Type} {rp : RP α β} {Q : β → Hp → Prop} {evs : List EV} {vs : List V} {k : List M → Ev α} (S : Sim K r G σ H) (hA : ∀ b, A0 r σ H b → A b)
    (w : WkL K A r G σ H evs vs) (h : Post rp K mg W A r G σ H Q (bnd (frzL evs) k r)) :
    ∃ ms r' G', Sim K r' G' σ H ∧ (∀ b, A0 r' σ H b → A b) ∧ RepL K G' ms vs ∧ Post rp K mg W A r' G' σ H Q (k ms r') := by
  unfold bnd at h
  cases q : frzL evs r with
  | bad => rw [q] at h; exact h.elim
  | ex c m r' => exact (frzL_noex q).elim
  | ok ms r' =>
    rw [q] at h
    obtain ⟨G', S', st, rl, _⟩ := frzL_ok S hA w q
    exact ⟨ms, r', G', S', st.allow' hA, rl, h.rebase st⟩
theorem post_frz {K : PySem.W.Frag} {A : Addr → Prop} {r : Ro} {G : Hp} {σ : St} {H : Hp} {mg : Str → Option Value} {α β : Type} {rp : RP α β} {Q : β → Hp → Prop} {ev : EV} {v : V} {k : M → Ev α} (S : Sim K r G σ H) (hA : ∀ b, A0 r σ H b → A b)
    (w : Wk K A r G σ H ev v) (h : Post rp K mg W A r G σ H Q (bnd (frz ev) k r)) :
    ∃ m r' G', Sim K r' G' σ H ∧ (∀ b, A0 r' σ H b → A b) ∧ Rep K G' m v ∧ Post rp K mg W A r' G' σ H Q (k m r') ∧ Step A r G σ H r' G' σ H ∧ ∀ b, Own r' σ H b → Own r σ H b := by
  unfold bnd at h
  cases q : frz ev r with
  | bad => rw [q] at h; exact h.elim
  | ex c m r' => exact (frz_noex q).elim
  | ok m r' =>
    rw [q] at h
    obtain ⟨G', S', st, rl, so⟩ := frz_ok S hA w q
    exact ⟨m, r', G', S', st.allow' hA, rl, h.rebase st, st, so⟩
theorem se_tup {x1} {f : Ev (List EV)} (h : SA X W es f) : SE X W (.Tuple es x1 pos) (vTup f) := by
  refine peW (pe_tup h) fun σ H Q ⟨r, G, S, h⟩ => ?_
  refine into upL S A0.self h fun evs r1 vs G1 H1 S1 a1 st1 e1 h1 => ?_
  obtain ⟨ms, r2, G2, S2, a2, rl, h2⟩ := post_frzL S1 a1 e1.wk h1
  by_cases c : ms.length ≤ 1000
  · rw [if_pos c] at h2
    exact ⟨by rw [← rl.len]; exact small c, fun p n => fin_tup S2 a2 h2 rl n⟩
  · rw [if_neg c] at h2
    exact h2.elim
theorem se_lst {f : Ev (List EV)} (h : SA X W es f) : SE X W (.List es pos) (vLst f) := by
  refine peW (pe_lst h) fun σ H Q ⟨r, G, S, h⟩ => ?_
  refine into upL S A0.self h fun evs r1 vs G1 H1 S1 a1 st1 e1 h1 => ?_
  obtain ⟨ms, r2, G2, S2, a2, rl, h2⟩ := post_frzL S1 a1 e1.wk h1
  by_cases c : ms.length ≤ 1000
  · rw [if_pos c] at h2
    exact ⟨by rw [← rl.len]; exact small c, fun p n => fin_lst S2 a2 h2 rl n⟩
  · rw [if_neg c] at h2
    exact h2.elim

/-! ### operators -/
/-- r carries out g -/
def Imp2 (X : Cx) (W : W4) (t : R2) (g : EV → EV → Ev EV) : Prop := ∀ (A : Addr → Prop) (r : Ro) (G : Hp) (σ : St) (H : Hp) (ex ey : EV) (x y : V) (Q : VK), Sim X.K r G σ H → (∀ b, A0 r σ H b → A b) →
  EvRep X.K A r G σ H ex x → EvRep X.K A r G σ H ey y → Post (rpE X.K σ) X.K X.mg W A r G σ H Q (g ex ey r) → t x y H Q
def Imp1 (X : Cx) (W : W4) (t : V → Hp → VK → Prop) (g : EV → Ev EV) : Prop := ∀ (A : Addr → Prop) (r : Ro) (G : Hp) (σ : St) (H : Hp) (ex : EV) (x : V) (Q : VK), Sim X.K r G σ H → (∀ b, A0 r σ H b → A b) →
  EvRep X.K A r G σ H ex x → Post (rpE X.K σ) X.K X.mg W A r G σ H Q (g ex r) → t x H Q
def v2 (g : EV → EV → Ev EV) (f1 f2 : Ev EV) : Ev EV := bnd f1 fun a => bnd f2 fun b => g a b
def v1 (g : EV → Ev EV) (f1 : Ev EV) : Ev EV := bnd f1 g
theorem op2_read {t : R2} {g : EV → EV → Ev EV} {fa fb : Ev EV} (hi : Imp2 X W t g) {σ : St} {H : Hp} {Q : VK} (h : tE X.K X.mg W (v2 g fa fb) σ H Q) : tOp t (tE X.K X.mg W fa) (tE X.K X.mg W fb) σ H Q := by
  obtain ⟨r, G, S, h⟩ := h
  refine into upE S A0.self h fun ea r1 x G1 H1 S1 a1 st1 e1 h1 => ?_
  refine into upE S1 a1 h1 fun eb r2 y G2 H2 S2 a2 st2 e2 h2 => ?_
  exact hi _ r2 G2 σ H2 ea eb x y Q S2 a2 (e1.step st2) e2 h2
theorem se_op2 {op : Operator} {t : R2} {g : EV → EV → Ev EV} {fa fb : Ev EV} (ho : OpR X (binaryOp op) t) (hi : Imp2 X W t g) (ha : SE X W a fa) (hb : SE X W b fb) : SE X W (.BinOp a op b pos) (v2 g fa fb) :=
  peW (pe_op ho ha hb) fun _ _ _ h => op2_read hi h
theorem se_un {op : UnaryOp} {t : V → Hp → VK → Prop} {g : EV → Ev EV} {fa : Ev EV} (ho : UnR X (unaryOp op) t) (hi : Imp1 X W t g) (ha : SE X W a fa) : SE X W (.UnaryOp op a pos) (v1 g fa) := by
  refine peW (pe_un ho ha) fun σ H Q ⟨r, G, S, h⟩ => ?_
  exact into upE S A0.self h fun ea r1 x G1 H1 S1 a1 st1 e1 h1 => hi _ r1 G1 σ H1 ea x Q S1 a1 e1 h1
theorem se_cmp {op : CmpOp} {t : R2} {g : EV → EV → Ev EV} {fa fb : Ev EV} (ho : OpR X (compareOp op) t) (hi : Imp2 X W t g) (ha : SE X W a fa) (hb : SE X W b fb) (hm : behindInMarks op b = false) : SE X W (.Compare a [op] [b] pos) (v2 g fa fb) :=
  peW (pe_cmpR ho ha hb hm) fun _ _ _ h => op2_read hi h
/-- a value as a test: a bool -/
def boolT : EV → Ev Bool
  | .fr (.bl c) => ret c
  | _ => bad
def tst (f : Ev EV) : Ev Bool := bnd f boolT
theorem st_cmp {op : CmpOp} {t : R2} {g : EV → EV → Ev EV} {fa fb : Ev EV} (ho : OpR X (compareOp op) t) (hi : Imp2 X W t g) (ha : SE X W a fa) (hb : SE X W b fb) (hm : behindInMarks op b = false) : ST X W (.Compare a [op] [b] pos) (tst (v2 g fa fb)) := by
  refine ptW (pt_cmpR ho ha hb hm) fun σ H Q ⟨r, G, S, h⟩ => ?_
  refine op2_read hi ?_
  refine into upE S A0.self h fun ev r1 v G1 H1 S1 a1 st1 e1 h1 => ?_
  unfold boolT at h1
  split at h1
  · exact ⟨_, e1, h1 _ G1 H1 S1 (.refl a1) rfl⟩
  · exact h1.elim
/-- a value's truth -/
def trueM (r : Ro) : EV → Option Bool
  | .fr .non => some false
  | .fr (.bl c) => some c
  | .fr (.int i) => some (i != 0)
  | e => (seqOf r e).map fun p => !p.2.isEmpty
def truT (e : EV) : Ev Bool := fun r => match trueM r e with
  | some c => .ok c r
  | none => .bad
def tru (f : Ev EV) : Ev Bool := bnd f truT
end
end Sx

set_option Elab.async false
set_option linter.all false
set_option maxRecDepth 100000
set_option maxHeartbeats 4000000
/-! SxK: dicts by tuples: keys, reading, storing. -/
namespace Sx
open PySem L2
mutual
theorem hash_eq (w : World) : ∀ {m : M} {k : NestedKey}, keyM m = some k → k.hash w = hashK k
  | .non, _, e => by cases e; simp only [NestedKey.hash, hashK]
  | .int i, _, e => by cases e; simp only [NestedKey.hash, hashK]
  | .bl b, _, e => by cases e; simp only [NestedKey.hash, hashK]
  | .tup xs, k, e => by
    have e : (keyMs xs).map NestedKey.tup = some k := by rw [keyM] at e; exact e
    cases q : keyMs xs with
    | none => rw [q] at e; cases e
    | some ks =>
      rw [q] at e
      cases e
      simp only [NestedKey.hash, hashK, hash_eqs w q]
  | .str _, _, e => by rw [keyM] at e <;> first | cases e | (intros; contradiction)
  | .lst _, _, e => by rw [keyM] at e <;> first | cases e | (intros; contradiction)
  | .ro _, _, e => by rw [keyM] at e <;> first | cases e | (intros; contradiction)
theorem hash_eqs (w : World) : ∀ {ms : List M} {ks : List NestedKey}, keyMs ms = some ks → NestedKey.hashes w ks = hashKs ks
  | [], _, e => by cases e; simp only [NestedKey.hashes, hashKs]
  | m :: ms, ks, e => by
    rw [keyMs] at e
    cases q : keyM m with
    | none => rw [q] at e; cases e
    | some k =>
      cases q2 : keyMs ms with
      | none => rw [q, q2] at e; cases e
      | some ks2 =>
        rw [q, q2] at e
        cases e
        simp only [NestedKey.hashes, hashKs, hash_eq w q, hash_eqs w q2]
end
section
variable {X : Cx} {pins : List (Addr × Obj)} {σ : St} {H : Hp} {s : Shared}
mutual
theorem key_is (I : Inv X pins σ H s) : ∀ {m : M} {k : NestedKey} {v : V} {u : Value}, keyM m = some k → Rep X.K H m v → RelV v u → NestedIs s.heap k u
  | .non, _, _, _, e, h, r => by cases e; cases h; cases r; exact .none
  | .int i, _, _, _, e, h, r => by cases e; cases h; obtain ⟨t, rfl⟩ := r; exact .int i t
  | .bl b, _, _, _, e, h, r => by cases e; cases h; cases r; exact .bool rfl
  | .tup xs, k, v, u, e, h, r => by
    have e : (keyMs xs).map NestedKey.tup = some k := by rw [keyM] at e; exact e
    cases q : keyMs xs with
    | none => rw [q] at e; cases e
    | some ks =>
      rw [q] at e
      cases e
      obtain ⟨a, vs, rfl, sq, rl⟩ := h
      cases r
      obtain ⟨its, rv, ⟨o, ho, hc, n, hd⟩, _⟩ := I.tuple sq
      exact .tup ho hc hd (by simpa using keys_is I q rl rv)
  | .str _, _, _, _, e, _, _ => by rw [keyM] at e <;> first | cases e | (intros; contradiction)
  | .lst _, _, _, _, e, _, _ => by rw [keyM] at e <;> first | cases e | (intros; contradiction)
  | .ro _, _, _, _, e, _, _ => by rw [keyM] at e <;> first | cases e | (intros; contradiction)
theorem keys_is (I : Inv X pins σ H s) : ∀ {ms : List M} {ks : List NestedKey} {vs : List V} {us : List Value}, keyMs ms = some ks → RepL X.K H ms vs → Vals vs us → NestedAll s.heap ks us
  | [], _, _, _, e, h, r => by cases e; cases h; cases r; exact .nil
  | m :: ms, ks, _, _, e, h, r => by
    rw [keyMs] at e
    obtain ⟨v, vr, rfl, h1, h2⟩ := h
    cases q : keyM m with
    | none => rw [q] at e; cases e
    | some k =>
      cases q2 : keyMs ms with
      | none => rw [q, q2] at e; cases e
      | some ks2 =>
        rw [q, q2] at e
        cases e
        cases r with
        | cons r1 r2 => exact .cons (key_is I q h1 r1) (keys_is I q2 h2 r2)
end
/-- the entry for a key -/
def findT (kvs : List (M × M)) (k : NestedKey) : Option M := (kvs.find? fun kv => decide (keyM kv.1 = some k)).map (·.2)
def putT (kvs : List (M × M)) (x : M) (k : NestedKey) (m : M) : List (M × M) :=
  if (findT kvs k).isSome then kvs.map (fun kv => if keyM kv.1 = some k then (kv.1, m) else kv) else kvs ++ [(x, m)]
/-- a dict by tuples at a -/
structure DtAt (K : PySem.W.Frag) (H : Hp) (a : Addr) (kvs : List (M × M)) (es : List KAV) : Prop where
  at_ : H a = some (DictO a es)
  rep : Paired (RepK K H) kvs es
  nd : (es.map (·.1)).Nodup
/-- the entries as they are -/
theorem paired_ents : ∀ {es : List KAV} {ents : List DictEntry}, Paired (fun (x : KAV) (e : DictEntry) => e.hash = hashK x.1 ∧ e.key = .ref x.2.1 ∧ RelV x.2.2 e.val) es ents →
    ∃ xs : List (NestedKey × Addr × Value), ents = xs.map (fun x => ⟨hashK x.1, .ref x.2.1, x.2.2⟩) ∧ Paired (fun (x : KAV) (y : NestedKey × Addr × Value) => x.1 = y.1 ∧ x.2.1 = y.2.1 ∧ RelV x.2.2 y.2.2) es xs
  | _, _, .nil => ⟨[], rfl, .nil⟩
  | _, _, .cons (a := a) (b := b) h t => by
    obtain ⟨xs, e, p⟩ := paired_ents t
    refine ⟨(a.1, a.2.1, b.val) :: xs, ?_, .cons ⟨rfl, rfl, h.2.2⟩ p⟩
    obtain ⟨bh, bk, bv⟩ := b
    obtain ⟨h1, h2, h3⟩ := h
    cases h1
    cases h2
    rw [List.map_cons, e]
theorem paired_keys : ∀ {es : List KAV} {xs : List (NestedKey × Addr × Value)}, Paired (fun (x : KAV) (y : NestedKey × Addr × Value) => x.1 = y.1 ∧ x.2.1 = y.2.1 ∧ RelV x.2.2 y.2.2) es xs → xs.map (·.1) = es.map (·.1)
  | _, _, .nil => rfl
  | _, _, .cons h t => by simp [h.1, paired_keys t]
theorem paired_mem {α β : Type} {F : α → β → Prop} : ∀ {l : List α} {m : List β}, Paired F l m → ∀ y ∈ m, ∃ x ∈ l, F x y
  | _, _, .nil, y, h => nomatch h
  | _, _, .cons r t, y, h => by
    rcases List.mem_cons.mp h with z | z
    · subst z; exact ⟨_, List.mem_cons_self .., r⟩
    · obtain ⟨x, hx, q⟩ := paired_mem t y z
      exact ⟨x, List.mem_cons_of_mem _ hx, q⟩
abbrev PX := Paired (fun (x : KAV) (y : NestedKey × Addr × Value) => x.1 = y.1 ∧ x.2.1 = y.2.1 ∧ RelV x.2.2 y.2.2)
/-- as the library has it -/
theorem dt_lib {a : Addr} {kvs : List (M × M)} {es : List KAV} (I : Inv X pins σ H s) (d : DtAt X.K H a kvs es) :
    es.length ≤ sizeLine ∧ (a == sysModules) = false ∧ ∃ xs, PX es xs ∧ s.heap.DictOfH (nestedKind X.prog X.w) a xs := by
  obtain ⟨⟨z, hs, o, ents, ep, ho, hc, hd, pr⟩, _, _⟩ := I.hok a _ d.at_
  obtain ⟨xs, e, p⟩ := paired_ents pr
  have keyOk : ∀ x ∈ xs, ∃ m : M, keyM m = some x.1 ∧ x.1.depth ≤ 8 ∧ Rep X.K H m (.ref x.2.1) := fun x hx => by
    obtain ⟨e1, he1, q1, q2, q3⟩ := paired_mem p x hx
    obtain ⟨kv, hkv, r1, r2, r3, r4⟩ := paired_mem d.rep e1 he1
    exact ⟨kv.1, by rw [r1, q1], by rw [← q1]; exact r2, by rw [← q2]; exact r3⟩
  refine ⟨z, hs, xs, p, o, ents, ep, ho, hc, hd, ?_, fun x hx => ?_, by rw [paired_keys p]; exact d.nd⟩
  · rw [e]
    refine List.map_congr_left fun x hx => ?_
    obtain ⟨m, k1, _, _⟩ := keyOk x hx
    show (⟨hashK x.1, .ref x.2.1, x.2.2⟩ : DictEntry) = ⟨x.1.hash X.w, .ref x.2.1, x.2.2⟩
    rw [hash_eq X.w k1]
  · obtain ⟨m, k1, k2, k3⟩ := keyOk x hx
    exact ⟨key_is I k1 k3 rfl, k2⟩
/-- .. and back -/
theorem dt_back {a : Addr} {es : List KAV} {xs : List (NestedKey × Addr × Value)} {h' : Heap} (p : PX es xs) (q : h'.DictOfH (nestedKind X.prog X.w) a xs) (z : es.length ≤ sizeLine) (hs : (a == sysModules) = false)
    (hk : ∀ x ∈ es, ∃ m, keyM m = some x.1) : DictP a es h' := by
  obtain ⟨o, ents, ep, ho, hc, hd, he, _, _⟩ := q
  refine ⟨z, hs, o, ents, ep, ho, hc, hd, ?_⟩
  rw [he]
  have key : ∀ {es : List KAV} {xs : List (NestedKey × Addr × Value)}, PX es xs → (∀ x ∈ es, ∃ m, keyM m = some x.1) →
      Paired (fun (x : KAV) (e : DictEntry) => e.hash = hashK x.1 ∧ e.key = .ref x.2.1 ∧ RelV x.2.2 e.val) es (xs.map (entryOfKey (nestedKind X.prog X.w))) := by
    intro es xs p hk
    induction p with
    | nil => exact .nil
    | cons h t ih =>
      rename_i a b _ _
      rw [List.map_cons]
      obtain ⟨m, e⟩ := hk a (List.mem_cons_self ..)
      refine .cons ⟨?_, ?_, h.2.2⟩ (ih fun x hx => hk x (List.mem_cons_of_mem _ hx))
      · show b.1.hash X.w = hashK a.1
        rw [← h.1, hash_eq X.w e]
      · show Value.ref b.2.1 = .ref a.2.1
        rw [h.2.1]
  exact key p hk
/-- the entry at a key, on every side -/
theorem find_sides {k : NestedKey} : ∀ {kvs : List (M × M)} {es : List KAV} {xs : List (NestedKey × Addr × Value)}, Paired (RepK X.K H) kvs es → PX es xs →
    (findT kvs k = none ∧ atKey xs k = none) ∨ ∃ m p v, findT kvs k = some m ∧ atKey xs k = some p ∧ RelV v p.2 ∧ Rep X.K H m v
  | _, _, _, .nil, .nil => .inl ⟨rfl, rfl⟩
  | _, _, _, .cons (a := kv) (b := e) h t, .cons (b := x) h2 t2 => by
    have e1 : keyM kv.1 = some x.1 := by rw [h.1, h2.1]
    by_cases c : x.1 = k
    · refine .inr ⟨kv.2, x.2, e.2.2, ?_, ?_, h2.2.2, h.2.2.2⟩
      · unfold findT
        rw [List.find?_cons_of_pos (by rw [e1, c]; simp)]
        rfl
      · unfold atKey
        rw [List.find?_cons_of_pos (by simpa using c)]
        rfl
    · have := find_sides (k := k) t t2
      have f1 : ∀ l, findT (kv :: l) k = findT l k := fun l => by
        unfold findT
        rw [List.find?_cons_of_neg (by rw [e1]; simpa using c)]
      have f2 : ∀ l, atKey (x :: l) k = atKey l k := fun l => by
        unfold atKey
        rw [List.find?_cons_of_neg (by simpa using c)]
      rw [f1, f2]
      exact this
/-- a value as a key -/
structure KeyAt (K : PySem.W.Frag) (H : Hp) (m : M) (k : NestedKey) (y : V) : Prop where
  key : keyM m = some k
  dep : k.depth ≤ 8
  rep : Rep K H m y
  tup : ∃ b, y = .ref b
theorem key_kind {m : M} {k : NestedKey} {b : Addr} (I : Inv X pins σ H s) (h : KeyAt X.K H m k (.ref b)) : (nestedKind X.prog X.w).is s.heap k b := ⟨key_is I h.key h.rep rfl, h.dep⟩
def rInT (K : PySem.W.Frag) : R2 := fun x y H Q => ∃ a kvs es m k, y = .ref a ∧ DtAt K H a kvs es ∧ KeyAt K H m k x ∧ Q (.bl (findT kvs k).isSome) H
def rNotInT (K : PySem.W.Frag) : R2 := fun x y H Q => ∃ a kvs es m k, y = .ref a ∧ DtAt K H a kvs es ∧ KeyAt K H m k x ∧ Q (.bl (!(findT kvs k).isSome)) H
theorem op_inT (hu : X.A.units + 65 < cLine) : OpR X (compareOp .In) (rInT X.K) := by
  intro pins s σ H x y v u Q I rx ry h
  obtain ⟨a, kvs, es, m, k, rfl, d, hk, q⟩ := h
  obtain ⟨b, rfl⟩ := hk.tup
  cases rx
  cases ry
  obtain ⟨z, hs, xs, p, dd⟩ := dt_lib I d
  refine wpAny_in_heap (knd := nestedKind X.prog X.w) (show X.A.in1.units + 8 < cLine by rw [Around.in1_units]; omega) (key_kind I hk) hs dd ?_
  have e : (findT kvs k).isSome = (atKey xs k).isSome := by
    rcases find_sides d.rep p (k := k) with ⟨e1, e2⟩ | ⟨_, _, _, e1, e2, _⟩ <;> rw [e1, e2] <;> rfl
  rw [← e]
  exact ⟨.bl (findT kvs k).isSome, H, I.tok _, rfl, q⟩
theorem op_notInT (hu : X.A.units + 65 < cLine) : OpR X (compareOp .NotIn) (rNotInT X.K) := by
  intro pins s σ H x y v u Q I rx ry h
  obtain ⟨a, kvs, es, m, k, rfl, d, hk, q⟩ := h
  obtain ⟨b, rfl⟩ := hk.tup
  cases rx
  cases ry
  obtain ⟨z, hs, xs, p, dd⟩ := dt_lib I d
  refine PyProof.Rows.wpAny_notIn_heap (knd := nestedKind X.prog X.w) (show X.A.in1.units + 8 < cLine by rw [Around.in1_units]; omega) (key_kind I hk) hs dd ?_
  have e : (findT kvs k).isSome = (atKey xs k).isSome := by
    rcases find_sides d.rep p (k := k) with ⟨e1, e2⟩ | ⟨_, _, _, e1, e2, _⟩ <;> rw [e1, e2] <;> rfl
  rw [← e]
  exact ⟨.bl (!(findT kvs k).isSome), H, I.tok _, rfl, q⟩
def findE (es : List KAV) (k : NestedKey) : Option V := (es.find? fun e => decide (e.1 = k)).map (·.2.2)
def rIxD (K : PySem.W.Frag) : R2 := fun x y H Q => ∃ a kvs es m k v, x = .ref a ∧ DtAt K H a kvs es ∧ KeyAt K H m k y ∧ findE es k = some v ∧ Q v H
theorem findE_rep {K : PySem.W.Frag} {G : Hp} {k : NestedKey} : ∀ {kvs : List (M × M)} {es : List KAV} {n : M}, Paired (RepK K G) kvs es → findT kvs k = some n → ∃ v, findE es k = some v ∧ Rep K G n v
  | _, _, _, .nil, f => nomatch f
  | _, _, n, .cons (a := kv) (b := e) h t, f => by
    have e1 : keyM kv.1 = some e.1 := h.1
    by_cases c : e.1 = k
    · unfold findT at f
      rw [List.find?_cons_of_pos (by rw [e1, c]; simp)] at f
      cases f
      refine ⟨e.2.2, ?_, h.2.2.2⟩
      unfold findE
      rw [List.find?_cons_of_pos (by simpa using c)]
      rfl
    · unfold findT at f
      rw [List.find?_cons_of_neg (by rw [e1]; simpa using c)] at f
      obtain ⟨v, a1, a2⟩ := findE_rep t (show findT _ k = some n from f)
      refine ⟨v, ?_, a2⟩
      unfold findE
      rw [List.find?_cons_of_neg (by simpa using c)]
      exact a1
theorem find_at {k : NestedKey} : ∀ {es : List KAV} {xs : List (NestedKey × Addr × Value)} {v : V}, PX es xs → findE es k = some v → ∃ p, atKey xs k = some p ∧ RelV v p.2
  | _, _, _, .nil, f => nomatch f
  | _, _, v, .cons (a := e) (b := x) h2 t2, f => by
    by_cases c : x.1 = k
    · unfold findE at f
      rw [List.find?_cons_of_pos (by rw [h2.1, c]; simp)] at f
      cases f
      refine ⟨x.2, ?_, h2.2.2⟩
      unfold atKey
      rw [List.find?_cons_of_pos (by simpa using c)]
      rfl
    · unfold findE at f
      rw [List.find?_cons_of_neg (by rw [h2.1]; simpa using c)] at f
      obtain ⟨p, a1, a2⟩ := find_at t2 (show findE _ k = some v from f)
      refine ⟨p, ?_, a2⟩
      unfold atKey
      rw [List.find?_cons_of_neg (by simpa using c)]
      exact a1
theorem ix_dictT (hu : X.A.units + 65 < cLine) : IxR X (rIxD X.K) := by
  intro value slice pins s σ H x y v u Q I rx ry h hs
  obtain ⟨a, kvs, es, m, k, w, rfl, d, hk, hf, q⟩ := h
  obtain ⟨b, rfl⟩ := hk.tup
  cases rx
  cases ry
  obtain ⟨z, hsm, xs, p, dd⟩ := dt_lib I d
  obtain ⟨pr, hp, rw'⟩ := find_at p hf
  exact PyProof.Rows.tail_any dd.typeIs PySem.F.slot_dict_getitem.lookup (wpAny_getItem_heap (knd := nestedKind X.prog X.w) (show X.A.in1.units + 8 < cLine by rw [Around.in1_units]; omega) (key_kind I hk) dd hp ⟨w, H, I.tok _, rw', q⟩) hs
/-! storing -/
theorem length_putT {kvs : List (M × M)} {x : M} {k : NestedKey} {m : M} : (putT kvs x k m).length ≤ kvs.length + 1 := by
  unfold putT
  split <;> simp
def putE (es : List KAV) (b : Addr) (k : NestedKey) (v : V) : List KAV :=
  if es.any (fun e => decide (e.1 = k)) then es.map (fun e => if e.1 = k then (e.1, e.2.1, v) else e) else es ++ [(k, b, v)]
theorem any_find {k : NestedKey} {K : PySem.W.Frag} : ∀ {kvs : List (M × M)} {es : List KAV}, Paired (RepK K H) kvs es → (findT kvs k).isSome = es.any fun e => decide (e.1 = k)
  | _, _, .nil => rfl
  | _, _, .cons (a := kv) (b := e) h t => by
    have e1 : keyM kv.1 = some e.1 := h.1
    rw [List.any_cons, ← any_find t]
    by_cases c : e.1 = k
    · unfold findT
      rw [List.find?_cons_of_pos (by rw [e1, c]; simp)]
      simp [c]
    · unfold findT
      rw [List.find?_cons_of_neg (by rw [e1]; simpa using c)]
      simp [c]
theorem paired_snoc {α β : Type} {F : α → β → Prop} : ∀ {l : List α} {m : List β} {a : α} {b : β}, Paired F l m → F a b → Paired F (l ++ [a]) (m ++ [b])
  | _, _, _, _, .nil, h => .cons h .nil
  | _, _, _, _, .cons r t, h => .cons r (paired_snoc t h)
theorem put_rep {K : PySem.W.Frag} {kvs : List (M × M)} {es : List KAV} {x m : M} {k : NestedKey} {b : Addr} {v : V} (p : Paired (RepK K H) kvs es) (hk : keyM x = some k) (hd : k.depth ≤ 8) (hx : Rep K H x (.ref b)) (hm : Rep K H m v) : Paired (RepK K H) (putT kvs x k m) (putE es b k v) := by
  unfold putT putE
  rw [any_find p]
  by_cases c : es.any (fun e => decide (e.1 = k)) = true
  · rw [if_pos c, if_pos c]
    refine paired_map p fun kv e h => ?_
    by_cases c2 : e.1 = k
    · rw [if_pos (by rw [h.1, c2]), if_pos c2]
      exact ⟨h.1, h.2.1, h.2.2.1, hm⟩
    · rw [if_neg (fun z => c2 (Option.some.inj (h.1.symm.trans z))), if_neg c2]
      exact h
  · rw [if_neg c, if_neg c]
    exact paired_snoc p ⟨hk, hd, hx, hm⟩
theorem put_nd {es : List KAV} {b : Addr} {k : NestedKey} {v : V} (h : (es.map (·.1)).Nodup) : ((putE es b k v).map (·.1)).Nodup := by
  unfold putE
  by_cases c : es.any (fun e => decide (e.1 = k)) = true
  · rw [if_pos c, List.map_map]
    have : (es.map ((fun x => x.1) ∘ fun e : KAV => if e.1 = k then (e.1, e.2.1, v) else e)) = es.map (·.1) := by
      refine List.map_congr_left fun e _ => ?_
      show (if e.1 = k then (e.1, e.2.1, v) else e).1 = e.1
      split <;> rfl
    rw [this]; exact h
  · rw [if_neg c, List.map_append, List.nodup_append]
    refine ⟨h, by simp, fun x hx y hy e => ?_⟩
    have hy : y = k := by simpa using hy
    subst hy
    subst e
    obtain ⟨e, he, ee⟩ := List.mem_map.mp hx
    exact c (List.any_eq_true.mpr ⟨e, he, by simpa using ee⟩)
theorem atKey_any {k : NestedKey} : ∀ {es : List KAV} {xs : List (NestedKey × Addr × Value)}, PX es xs → (atKey xs k).isSome = es.any fun e => decide (e.1 = k)
  | _, _, .nil => rfl
  | _, _, .cons (a := e) (b := x) h t => by
    rw [List.any_cons, ← atKey_any t, h.1]
    by_cases c : x.1 = k
    · unfold atKey
      rw [List.find?_cons_of_pos (by simpa using c)]
      simp [c]
    · unfold atKey
      rw [List.find?_cons_of_neg (by simpa using c)]
      simp [c]
theorem put_px {es : List KAV} {xs : List (NestedKey × Addr × Value)} {b : Addr} {k : NestedKey} {v : V} {u : Value} (p : PX es xs) (rv : RelV v u) : PX (putE es b k v) (storedH xs k b u) := by
  unfold putE storedH
  rw [atKey_any p]
  by_cases c : es.any (fun e => decide (e.1 = k)) = true
  · rw [if_pos c, if_pos c]
    refine paired_map p fun e x h => ?_
    unfold putAt
    rw [← h.1]
    by_cases c2 : e.1 = k
    · rw [if_pos c2, if_pos c2]; exact ⟨rfl, h.2.1, rv⟩
    · rw [if_neg c2, if_neg c2]; exact h
  · rw [if_neg c, if_neg c]
    exact paired_snoc p ⟨rfl, rfl, rv⟩
def rSetD (K : PySem.W.Frag) : V → V → V → Hp → (Hp → Prop) → Prop := fun o i v H Q => ∃ a kvs es m k b, o = .ref a ∧ i = .ref b ∧ DtAt K H a kvs es ∧ KeyAt K H m k i ∧ es.length < sizeLine ∧ Q (upd H a (DictO a (putE es b k v)))
theorem len_putE {es : List KAV} {b : Addr} {k : NestedKey} {v : V} : (putE es b k v).length ≤ es.length + 1 := by
  unfold putE
  split <;> simp
theorem dictP_stay {a : Addr} {es : List KAV} : ∀ h1 h2 : Heap, DictP a es h1 → (∀ o, h1.get? a = some o → h2.get? a = some o) → DictP a es h2 := fun h1 h2 ⟨z, hs, o, ents, ep, ho, r⟩ k => ⟨z, hs, o, ents, ep, k o ho, r⟩
theorem dictO_ok {P : Program} {w : World} {H : Hp} {h : Heap} {a : Addr} {es : List KAV} (p : DictP a es h) : ObjOk P w H h a (DictO a es) := by
  have p' := p
  obtain ⟨_, _, o, _, _, ho, _⟩ := p'
  exact ⟨p, ⟨o, ho⟩, dictP_stay⟩
theorem set_dictT (hu : X.A.units + 65 < cLine) : PSet X (rSetD X.K) := by
  intro pins s σ H o i v ov iv u Q I ro ri rv h
  obtain ⟨a, kvs, es, m, k, b, rfl, rfl, d, hk, hz, q⟩ := h
  cases ro
  cases ri
  obtain ⟨z, hsm, xs, p, dd⟩ := dt_lib I d
  have hlen : xs.length = es.length := by rw [← List.length_map (f := (·.1)), paired_keys p, List.length_map]
  refine wpAny_setItem_heap (hsz := by rw [hlen]; exact z) (knd := nestedKind X.prog X.w) (show X.A.in1.units + 8 < cLine by rw [Around.in1_units]; omega) (key_kind I hk) dd fun h' dd' hs => ⟨_, ?_, q⟩
  have keys : ∀ x ∈ putE es b k v, ∃ m, keyM m = some x.1 := by
    intro x hx
    have old : ∀ e ∈ es, ∃ m, keyM m = some e.1 := fun e he => by
      obtain ⟨kv, _, r1, _⟩ := paired_mem d.rep e he
      exact ⟨kv.1, r1⟩
    unfold putE at hx
    split at hx
    · obtain ⟨e, he, rfl⟩ := List.mem_map.mp hx
      split
      · exact old e he
      · exact old e he
    · rcases List.mem_append.mp hx with z | z
      · exact old x z
      · rw [List.mem_singleton.mp z]; exact ⟨m, hk.key⟩
  have dp := dt_back (X := X) (put_px (b := b) (k := k) p rv) dd' (by have := len_putE (es := es) (b := b) (k := k) (v := v); omega) hsm keys
  refine d_write I (by rw [d.at_]; trivial) hs ?_ (dictO_ok dp)
  obtain ⟨_, _, o, _, _, ho, _⟩ := dp
  exact ⟨o, ho⟩
theorem PSet.or {t t' : TSet} (h : PSet X t) (h' : PSet X t') : PSet X (fun o i v H Q => t o i v H Q ∨ t' o i v H Q) := by
  intro pins s σ H o i v ov iv u Q I ro ri rv q
  rcases q with q | q
  · exact h pins s σ H o i v ov iv u Q I ro ri rv q
  · exact h' pins s σ H o i v ov iv u Q I ro ri rv q
/-! by numbers -/
def findI (kvs : List (Int × M)) (k : Int) : Option M := (kvs.find? fun kv => decide (kv.1 = k)).map (·.2)
def putI (kvs : List (Int × M)) (k : Int) (m : M) : List (Int × M) :=
  if (findI kvs k).isSome then kvs.map (fun kv => if kv.1 = k then (kv.1, m) else kv) else kvs ++ [(k, m)]
theorem findI_rep {K : PySem.W.Frag} {G : Hp} {k : Int} : ∀ {kvs : List (Int × M)} {es : List (Key × V)}, Paired (RepI K G) kvs es → (findI kvs k = none ∧ valV es (.inl k) = none) ∨ ∃ n v, findI kvs k = some n ∧ valV es (.inl k) = some v ∧ Rep K G n v
  | _, _, .nil => .inl ⟨rfl, rfl⟩
  | _, _, .cons (a := kv) (b := e) h t => by
    by_cases c : kv.1 = k
    · refine .inr ⟨kv.2, e.2, ?_, valV_pos (by rw [h.1, c]), h.2⟩
      unfold findI
      rw [List.find?_cons_of_pos (by simpa using c)]
      rfl
    · have f1 : ∀ l, findI (kv :: l) k = findI l k := fun l => by
        unfold findI
        rw [List.find?_cons_of_neg (by simpa using c)]
      have f2 : ∀ l, valV (e :: l) (.inl k) = valV l (.inl k) := fun l => valV_neg fun z => c (by rw [h.1] at z; exact Sum.inl.inj z)
      rw [f1, f2]
      exact findI_rep t
theorem findI_some {K : PySem.W.Frag} {G : Hp} {k : Int} {kvs : List (Int × M)} {es : List (Key × V)} (p : Paired (RepI K G) kvs es) : (findI kvs k).isSome = (valV es (.inl k)).isSome := by
  rcases findI_rep p (k := k) with ⟨a, b⟩ | ⟨_, _, a, b, _⟩ <;> rw [a, b] <;> rfl
theorem putI_rep {K : PySem.W.Frag} {G : Hp} {k : Int} {kvs : List (Int × M)} {es : List (Key × V)} {m : M} {v : V} (p : Paired (RepI K G) kvs es) (hm : Rep K G m v) : Paired (RepI K G) (putI kvs k m) (putK es (.inl k) v) := by
  unfold putI putK
  rw [valV_any, findI_some p]
  by_cases c : (valV es (.inl k)).isSome = true
  · rw [if_pos c, if_pos c]
    refine paired_map p fun kv e h => ?_
    by_cases c2 : kv.1 = k
    · rw [if_pos c2, if_pos (by rw [h.1, c2])]
      exact ⟨h.1, hm⟩
    · rw [if_neg c2, if_neg (fun z => c2 (by rw [h.1] at z; exact Sum.inl.inj z))]
      exact h
  · rw [if_neg c, if_neg c]
    exact paired_snoc p ⟨rfl, hm⟩
theorem findI_mem {kvs : List (Int × M)} {k : Int} (h : (findI kvs k).isSome = false) : k ∉ kvs.map (·.1) := fun z => by
  obtain ⟨kv, hkv, e⟩ := List.mem_map.mp z
  have : findI kvs k = none := by
    cases q : findI kvs k with
    | none => rfl
    | some m => rw [q] at h; cases h
  unfold findI at this
  rw [Option.map_eq_none_iff, List.find?_eq_none] at this
  exact this kv hkv (by simpa using e)
theorem putI_nd {kvs : List (Int × M)} {k : Int} {m : M} (h : (kvs.map (·.1)).Nodup) : ((putI kvs k m).map (·.1)).Nodup := by
  unfold putI
  by_cases c : (findI kvs k).isSome = true
  · rw [if_pos c, List.map_map]
    have : (kvs.map ((fun x => x.1) ∘ fun kv : Int × M => if kv.1 = k then (kv.1, m) else kv)) = kvs.map (·.1) := by
      refine List.map_congr_left fun e _ => ?_
      show (if e.1 = k then (e.1, m) else e).1 = e.1
      split <;> rfl
    rw [this]; exact h
  · rw [if_neg c, List.map_append, List.nodup_append]
    have c' : (findI kvs k).isSome = false := by simpa using c
    refine ⟨h, by simp, fun x hx y hy e => ?_⟩
    have hy : y = k := by simpa using hy
    subst hy
    subst e
    exact findI_mem c' hx
theorem length_putI {kvs : List (Int × M)} {k : Int} {m : M} : (putI kvs k m).length ≤ kvs.length + 1 := by
  unfold putI
  split <;> simp
def rInI : R2 := fun x y H Q => ∃ a es k, y = .ref a ∧ x = .int k ∧ H a = some (.dK es) ∧ Q (.bl (valV es (.inl k)).isSome) H
def rNotInI : R2 := fun x y H Q => ∃ a es k, y = .ref a ∧ x = .int k ∧ H a = some (.dK es) ∧ Q (.bl (!(valV es (.inl k)).isSome)) H
theorem op_inI (hu : X.A.units + 65 < cLine) : OpR X (compareOp .In) rInI := by
  intro pins s σ H x y v u Q I rx ry h
  obtain ⟨a, es, k, rfl, rfl, e, q⟩ := h
  cases ry
  exact d_in (by omega) I (DGet.k (k := .inl k) e) rx fun s' I' => ⟨.bl (valV es (.inl k)).isSome, H, I', rfl, q⟩
theorem op_notInI (hu : X.A.units + 65 < cLine) : OpR X (compareOp .NotIn) rNotInI := by
  intro pins s σ H x y v u Q I rx ry h
  obtain ⟨a, es, k, rfl, rfl, e, q⟩ := h
  cases ry
  exact d_notIn (by omega) I (DGet.k (k := .inl k) e) rx fun s' I' => ⟨.bl (!(valV es (.inl k)).isSome), H, I', rfl, q⟩
def rIxI : R2 := fun x y H Q => ∃ a es k v, x = .ref a ∧ y = .int k ∧ H a = some (.dK es) ∧ valV es (.inl k) = some v ∧ Q v H
theorem ix_dictI (hu : X.A.units + 65 < cLine) : IxR X rIxI := by
  intro value slice pins s σ H x y v u Q I rx ry h hs
  obtain ⟨a, es, k, w, rfl, rfl, e, hv, q⟩ := h
  cases rx
  obtain ⟨_, _, vs, _, dd⟩ := dk_rd I.hok (.inl e)
  exact PyProof.Rows.tail_any dd.typeIs PySem.F.slot_dict_getitem.lookup (d_getItem (by omega) I (by rw [← hv]; exact DGet.k (k := .inl k) e) ry fun w' s' I' rw' => ⟨w, H, I', rw', q⟩) hs
def rSetI : V → V → V → Hp → (Hp → Prop) → Prop := fun o i v H Q => ∃ a es k, o = .ref a ∧ i = .int k ∧ H a = some (.dK es) ∧ es.length < sizeLine ∧ Q (upd H a (.dK (putK es (.inl k) v)))
theorem set_dictI (hu : X.A.units + 65 < cLine) : PSet X rSetI := by
  intro pins s σ H o i v ov iv u Q I ro ri rv h
  obtain ⟨a, es, k, rfl, rfl, e, hz, q⟩ := h
  cases ro
  exact d_setItem (by omega) I (DPut.k (k := .inl k) e hz) ri rv fun s' I' => ⟨_, I', q⟩
/-! len -/
def rLenD (K : PySem.W.Frag) : List V → Hp → VK → Prop := fun xs H Q => ∃ a, xs = [.ref a] ∧ ((∃ es, H a = some (.dK es) ∧ Q (.int es.length) H) ∨ ∃ kvs es, DtAt K H a kvs es ∧ Q (.int es.length) H)
theorem call_len_dict (hu : X.A.units + 65 < cLine) : CallR X (.builtin "len") (rLenD X.K) := by
  intro pins s σ H xs us Q I rs h
  obtain ⟨a, rfl, h⟩ := h
  cases rs with
  | cons r1 r2 =>
    cases r2
    cases r1
    rcases h with ⟨es, e, q⟩ | ⟨kvs, es, d, q⟩
    · exact d_len I (.inl e) fun t s' I' => ⟨.int es.length, H, I', ⟨t, rfl⟩, q⟩
    · obtain ⟨z, hsm, ws, p, dd⟩ := dt_lib I d
      have hlen : ws.length = es.length := by rw [← List.length_map (f := (·.1)), paired_keys p, List.length_map]
      have kd : s.heap.DictKeyed (nestedKind X.prog X.w) a (pairsH ws) := ⟨ws, dd, rfl⟩
      have z2 : es.length ≤ 16777216 := z
      have hl : (pairsH ws).length = es.length := by rw [pairsH_length, hlen]
      refine PyProof.Rows.call_len_slot (n := (pairsH ws).length) dd.typeIs PySem.F.slot_dict_len (fun Q' hq => len_keyed hsm kd hq) (by omega) (by omega) ?_
      rw [hl]
      exact ⟨.int es.length, H, I.tok _, ⟨_, rfl⟩, q⟩
/-! list(d) -/
theorem vals_refs : ∀ es : List KAV, Vals (es.map fun e => V.ref e.2.1) (es.map fun e => Value.ref e.2.1)
  | [] => .nil
  | _ :: r => .cons rfl (vals_refs r)
def rListT (K : PySem.W.Frag) : List V → Hp → VK → Prop := fun xs H Q => ∃ a kvs es, xs = [.ref a] ∧ DtAt K H a kvs es ∧ ∀ p, H p = none → Q (.ref p) (upd H p (.lst (es.map fun e => V.ref e.2.1)))
theorem call_listT (hc : X.calm = true) : CallR X (.type "list") (rListT X.K) := by
  intro pins s σ H xs us Q I r h
  obtain ⟨d, kvs, ks, rfl, hd, q⟩ := h
  obtain ⟨u, rfl, rx⟩ := r.one
  cases rx
  obtain ⟨⟨z, hs, o, es, ep, ho, hx, hdt, pr⟩, _, _⟩ := I.hok d _ hd.at_
  have l1 : es.size = ks.length := by rw [← Array.length_toList]; exact (Paired.length pr).symm
  refine PySem.W.kdl_call (kdl_raw hs hx hdt) (I.ok.hd hc) ho (by omega) fun h' tk acc' c' kp e it => ?_
  have ea : acc'.toList = ks.map fun x => Value.ref x.2.1 := by
    have hl : acc'.toList.length = ks.length := by rw [Array.length_toList, it.1]; exact l1
    apply List.ext_getElem?
    intro j
    rw [List.getElem?_map]
    cases hj : acc'.toList[j]? with
    | none =>
      have h1 := List.getElem?_eq_none_iff.mp hj
      rw [List.getElem?_eq_none (by omega)]
      all_goals rfl
    | some v =>
      obtain ⟨en, hen, hv⟩ := it.2 j v (by rw [← Array.getElem?_toList]; exact hj)
      have hen : es.toList[j]? = some en := by rw [Array.getElem?_toList]; exact hen
      have key : ∀ {l : List KAV} {m : List DictEntry} (j : Nat) {en : DictEntry}, Paired (fun (x : KAV) (e : DictEntry) => e.hash = hashK x.1 ∧ e.key = .ref x.2.1 ∧ RelV x.2.2 e.val) l m → m[j]? = some en → ∃ x, l[j]? = some x ∧ en.key = .ref x.2.1 := by
        intro l m j en p
        induction p generalizing j with
        | nil => intro h; simp at h
        | cons h t ih =>
          intro q
          cases j with
          | zero => simp at q; subst q; exact ⟨_, rfl, h.2.1⟩
          | succ j => obtain ⟨x, a, b⟩ := ih j (by simpa using q); exact ⟨x, by simpa using a, b⟩
      obtain ⟨x, h1, h2⟩ := key j pr hen
      rw [h1, hv, h2]
      rfl
  refine ⟨.ref s.heap.objs.size, upd H s.heap.objs.size (.lst (ks.map fun e => V.ref e.2.1)), I.laid kp (Nat.le_refl _) (show ObjOk X.prog X.w _ _ _ (.lst (ks.map fun e => V.ref e.2.1)) from ⟨?_, acc'.toList, c', ?_, ?_⟩), rfl, q _ (I.hok.fresh (Nat.le_refl _))⟩
  · rw [List.length_map]; exact z
  · rw [ea]; exact vals_refs ks
  · rw [Array.toArray_toList]; exact e
end
end Sx

set_option Elab.async false
set_option linter.all false
set_option maxRecDepth 100000
set_option maxHeartbeats 4000000
/-! Sx3: operators on values, comparisons, truth, and, or, not, if. -/
namespace Sx
open PySem L2

/-! ### plain values -/
def intOf : EV → Option Int
  | .fr (.int i) => some i
  | _ => none
def strOf : EV → Option Str
  | .fr (.str x) => some x
  | _ => none
def blOf : EV → Option Bool
  | .fr (.bl x) => some x
  | _ => none
/-- the value as it stands -/
def slotM : Slot → Option M
  | .v m => some m
  | .o _ b => frzB b
  | .un => none
def datOf (r : Ro) : EV → Option M
  | .fr m => some m
  | .tmp b => frzB b
  | .bor i => slotM (get r i)
/-- the own object -/
def slotB : Slot → Option Cont
  | .o _ b => some b
  | _ => none
def boxOf (r : Ro) : EV → Option Cont
  | .fr _ => none
  | .tmp b => some b
  | .bor i => slotB (get r i)
/-- a tuple that may be a key -/
def keyT (m : M) : Option NestedKey := match m with
  | .tup _ => match keyM m with
    | some k => if k.depth ≤ 8 then some k else none
    | none => none
  | _ => none
def keyE : EV → Option NestedKey
  | .fr m => keyT m
  | _ => none
section
variable {K : PySem.W.Frag} {A A' : Addr → Prop} {r r1 r2 : Ro} {G G1 G2 : Hp} {σ σ1 σ2 : St} {H H1 H2 : Hp} {mg : Str → Option Value} {W : W4}
theorem int_ok {ev : EV} {v : V} {i : Int} (h : EvRep K A r G σ H ev v) (e : intOf ev = some i) : v = .int i := by
  cases ev with
  | fr m =>
    cases m with
    | int j => cases e; exact h
    | _ => cases e
  | _ => cases e
theorem str_ok {ev : EV} {v : V} {i : Str} (h : EvRep K A r G σ H ev v) (e : strOf ev = some i) : v = .str i := by
  cases ev with
  | fr m =>
    cases m with
    | str j => cases e; exact h
    | _ => cases e
  | _ => cases e
theorem bl_ok {ev : EV} {v : V} {i : Bool} (h : EvRep K A r G σ H ev v) (e : blOf ev = some i) : v = .bl i := by
  cases ev with
  | fr m =>
    cases m with
    | bl j => cases e; exact h
    | _ => cases e
  | _ => cases e
theorem tup_ok {ev : EV} {v : V} {xs : List M} (S : Sim K r G σ H) (h : Wk K A r G σ H ev v) (e : seqOf r ev = some (.t, xs)) : Rep K G (.tup xs) v := by
  have key : ∀ {m : M}, Rep K G m v → seqM m = some (.t, xs) → Rep K G (.tup xs) v := fun {m} h e => by
    cases m with
    | tup ys => cases e; exact h
    | _ => cases e
  cases ev with
  | tmp b => obtain ⟨_, z⟩ := seqB_some (show seqB b = some (.t, xs) from e); cases z
  | bor i =>
    obtain ⟨a, rfl, sv⟩ := h
    have e : seqS (get r i) = some (.t, xs) := e
    cases q : get r i with
    | un => rw [q] at e; cases e
    | o p b => rw [q] at e; obtain ⟨_, z⟩ := seqB_some (show seqB b = some (.t, xs) from e); cases z
    | v m =>
      rw [q] at e
      obtain ⟨w, sv', rp⟩ := S.val i m q
      rw [sv] at sv'; cases sv'
      exact key rp e
  | fr m => exact key h e
theorem rep_now {a : Addr} {b : Cont} {m : M} (S : Sim K r G σ H) (x : Body K G H a b) (e : frzB b = some m) : Rep K H m (.ref a) := by
  refine (rep_frz S x e).mono fun c o q => ?_
  by_cases f : Foot H a b c
  · rw [frzG_in f] at q; exact q
  · rw [frzG_out f] at q; exact S.sub c o q
/-- what stands now, by the whole heap -/
theorem dat_ok {ev : EV} {v : V} {m : M} (S : Sim K r G σ H) (h : Wk K A r G σ H ev v) (e : datOf r ev = some m) : Rep K H m v := by
  cases ev with
  | fr m' => cases e; exact Rep.mono S.sub h
  | tmp b =>
    obtain ⟨a, rfl, x, _⟩ := h
    exact rep_now S x e
  | bor i =>
    obtain ⟨a, rfl, sv⟩ := h
    have e : slotM (get r i) = some m := e
    cases q : get r i with
    | un => rw [q] at e; cases e
    | v m' =>
      rw [q] at e; cases e
      obtain ⟨w, sv', rp⟩ := S.val i _ q
      rw [sv] at sv'; cases sv'
      exact rp.mono S.sub
    | o p b =>
      rw [q] at e
      obtain ⟨c, sv', x⟩ := S.own i p _ q
      rw [sv] at sv'; cases sv'
      exact rep_now S x.2 e
theorem box_ok {ev : EV} {v : V} {b : Cont} (S : Sim K r G σ H) (h : Wk K A r G σ H ev v) (e : boxOf r ev = some b) : ∃ a, v = .ref a ∧ Body K G H a b := by
  cases ev with
  | fr m => cases e
  | tmp d =>
    cases e
    obtain ⟨a, rfl, x, _⟩ := h
    exact ⟨a, rfl, x⟩
  | bor i =>
    obtain ⟨a, rfl, sv⟩ := h
    have e : slotB (get r i) = some b := e
    cases q : get r i with
    | un => rw [q] at e; cases e
    | v m' => rw [q] at e; cases e
    | o p d =>
      rw [q] at e
      cases e
      obtain ⟨c, sv', x⟩ := S.own i p _ q
      rw [sv] at sv'; cases sv'
      exact ⟨a, rfl, x.2⟩
theorem dt_ok {a : Addr} {kvs : List (M × M)} (S : Sim K r G σ H) (x : Body K G H a (.dt kvs)) : ∃ es, DtAt K H a kvs es ∧ Paired (RepK K G) kvs es := by
  obtain ⟨es, e, p, n⟩ := x
  exact ⟨es, ⟨e, Paired.mapP p fun _ _ z => z.mono S.sub, n⟩, p⟩
theorem keyT_ok {m : M} {k : NestedKey} (e : keyT m = some k) : keyM m = some k ∧ k.depth ≤ 8 ∧ ∃ xs, m = .tup xs := by
  cases m with
  | tup xs =>
    have e : (match keyM (.tup xs) with
      | some k => if k.depth ≤ 8 then some k else none
      | none => none) = some k := e
    cases q : keyM (.tup xs) with
    | none => rw [q] at e; cases e
    | some k' =>
      rw [q] at e
      by_cases c : k'.depth ≤ 8
      · have e : (if k'.depth ≤ 8 then some k' else none) = some k := e
        rw [if_pos c] at e
        cases e
        exact ⟨rfl, c, xs, rfl⟩
      · have e : (if k'.depth ≤ 8 then some k' else none) = some k := e
        rw [if_neg c] at e
        cases e
  | _ => cases e
theorem keyE_ok {ev : EV} {v : V} {k : NestedKey} (S : Sim K r G σ H) (h : EvRep K A r G σ H ev v) (e : keyE ev = some k) : ∃ m, KeyAt K H m k v ∧ ev = .fr m ∧ Rep K G m v := by
  cases ev with
  | fr m =>
    obtain ⟨e1, e2, xs, rfl⟩ := keyT_ok (show keyT m = some k from e)
    have h' : Rep K G (.tup xs) v := h
    obtain ⟨a, vs, rfl, s, rl⟩ := h'
    exact ⟨_, ⟨e1, e2, Rep.mono S.sub h, a, rfl⟩, rfl, h⟩
  | _ => cases e
end

/-! ### data, and its equality -/
mutual
def toD : M → PyData
  | .non => .none
  | .bl b => .bool b
  | .int i => .int i
  | .str s => .str s
  | .tup xs => .tuple (toDs xs)
  | .lst xs => .list (toDs xs)
  | .ro xs => .list (toDs xs)
def toDs : List M → List PyData
  | [] => []
  | x :: xs => toD x :: toDs xs
end
mutual
/-- nested at most n deep, its texts well made -/
def flat : Nat → M → Bool
  | _, .non => true
  | _, .bl _ => true
  | _, .int _ => true
  | _, .str s => PyData.strOk s
  | 0, .tup _ => false
  | 0, .lst _ => false
  | 0, .ro _ => false
  | n + 1, .tup xs => flats n xs
  | n + 1, .lst xs => flats n xs
  | n + 1, .ro xs => flats n xs
def flats : Nat → List M → Bool
  | _, [] => true
  | n, x :: xs => flat n x && flats n xs
end
mutual
theorem flat_lay : ∀ (n : Nat) (m : M), flat n m = true → (toD m).canLay0 = true ∧ (toD m).depth ≤ n
  | _, .non, _ => ⟨rfl, Nat.zero_le _⟩
  | _, .bl _, _ => ⟨rfl, Nat.zero_le _⟩
  | _, .int _, _ => ⟨rfl, Nat.zero_le _⟩
  | _, .str s, h => ⟨by simpa only [toD, PyData.canLay0, flat] using h, Nat.zero_le _⟩
  | n + 1, .tup xs, h => by
    obtain ⟨a, b⟩ := flats_lay n xs (by simpa only [flat] using h)
    exact ⟨by simpa only [toD, PyData.canLay0] using a, by simpa only [toD, PyData.depth] using Nat.succ_le_succ b⟩
  | n + 1, .lst xs, h => by
    obtain ⟨a, b⟩ := flats_lay n xs (by simpa only [flat] using h)
    exact ⟨by simpa only [toD, PyData.canLay0] using a, by simpa only [toD, PyData.depth] using Nat.succ_le_succ b⟩
  | n + 1, .ro xs, h => by
    obtain ⟨a, b⟩ := flats_lay n xs (by simpa only [flat] using h)
    exact ⟨by simpa only [toD, PyData.canLay0] using a, by simpa only [toD, PyData.depth] using Nat.succ_le_succ b⟩
  | 0, .tup _, h => by simp only [flat, Bool.false_eq_true] at h
  | 0, .lst _, h => by simp only [flat, Bool.false_eq_true] at h
  | 0, .ro _, h => by simp only [flat, Bool.false_eq_true] at h
theorem flats_lay : ∀ (n : Nat) (xs : List M), flats n xs = true → PyData.canLayAll0 (toDs xs) = true ∧ PyData.depthAll (toDs xs) ≤ n
  | _, [], _ => ⟨rfl, Nat.zero_le _⟩
  | n, x :: xs, h => by
    rw [flats, Bool.and_eq_true] at h
    obtain ⟨a, b⟩ := flat_lay n x h.1
    obtain ⟨c, d⟩ := flats_lay n xs h.2
    exact ⟨by rw [toDs, PyData.canLayAll0, a, c]; rfl, by rw [toDs, PyData.depthAll]; exact Nat.max_le.mpr ⟨b, d⟩⟩
end
theorem flat_shaped {m : M} (h : flat 60 m = true) : SeqAt.shaped (toD m) = true := by
  obtain ⟨a, b⟩ := flat_lay 60 m h
  show ((toD m).canLay0 && decide ((toD m).depth ≤ 64)) = true
  rw [a, decide_eq_true (by omega)]
  rfl
mutual
theorem rep_dp {K : PySem.W.Frag} {H : Hp} : ∀ {m : M} {v : V}, Rep K H m v → Dp K H v (toD m)
  | .non, _, h => by cases h; exact .non
  | .bl b, _, h => by cases h; exact .bl b
  | .int i, _, h => by cases h; exact .int i
  | .str s, _, h => by cases h; exact .str s
  | .tup xs, _, ⟨a, vs, e, s, rl⟩ => by subst e; exact .tup s (rep_dps rl)
  | .lst xs, _, ⟨a, vs, e, s, rl⟩ => by subst e; exact .lst (.of s) (rep_dps rl)
  | .ro xs, _, ⟨a, vs, e, s, rl⟩ => by subst e; exact .lst s (rep_dps rl)
theorem rep_dps {K : PySem.W.Frag} {H : Hp} : ∀ {ms : List M} {vs : List V}, RepL K H ms vs → DpAll K H vs (toDs ms)
  | [], _, h => by cases h; exact .nil
  | _ :: _, _, ⟨v, vr, e, h1, h2⟩ => by subst e; exact .cons (rep_dp h1) (rep_dps h2)
end
def eqv (a b : M) : Bool := PyData.eqv (toD a) (toD b)

/-! ### operators -/
abbrev big : Nat := 16777216
theorem big_le {n : Nat} (h : n ≤ big) : n ≤ sizeLine := h
def gAdd (a b : EV) : Ev EV := fun r => match intOf a, intOf b with
  | some i, some j => .ok (.fr (.int (i + j))) r
  | _, _ => match strOf a, strOf b with
    | some i, some j => if i.length + j.length ≤ big then .ok (.fr (.str (i ++ j))) r else .bad
    | _, _ => match seqOf r a, seqOf r b with
      | some (.t, xs), some (.t, ys) => if xs.length + ys.length ≤ big then .ok (.fr (.tup (xs ++ ys))) r else .bad
      | some (.l, xs), some (.l, ys) => if xs.length + ys.length ≤ big then .ok (.tmp (xs ++ ys)) r else .bad
      | _, _ => .bad
def MulOk (i j : Int) : Prop := (i.natAbs < 18446744073709551616 ∨ j.natAbs < 18446744073709551616) ∨ i.natAbs.log2 + j.natAbs.log2 < 1000000
instance {i j : Int} : Decidable (MulOk i j) := by unfold MulOk; infer_instance
def DivOk (j : Int) : Prop := j ≠ 0 ∧ j.natAbs.log2 < 9000
instance {j : Int} : Decidable (DivOk j) := by unfold DivOk; infer_instance
def PowOk (i j : Int) : Prop := 0 ≤ j ∧ j ≤ 1000000 ∧ i.natAbs < 18446744073709551616
instance {i j : Int} : Decidable (PowOk i j) := by unfold PowOk; infer_instance
/-- an operation on two ints -/
def gInt (f : Int → Int → M) (C : Int → Int → Prop) [∀ i j, Decidable (C i j)] (a b : EV) : Ev EV := fun r => match intOf a, intOf b with
  | some i, some j => if C i j then .ok (.fr (f i j)) r else .bad
  | _, _ => .bad
abbrev gSub := gInt (fun i j => .int (i - j)) (fun _ _ => True)
abbrev gMulI := gInt (fun i j => .int (i * j)) MulOk
abbrev gFdiv := gInt (fun i j => .int (i.fdiv j)) (fun _ j => DivOk j)
abbrev gMod := gInt (fun i j => .int (i.fmod j)) (fun _ j => j ≠ 0)
abbrev gPow := gInt (fun i j => .int (i ^ j.toNat)) PowOk
abbrev gLt := gInt (fun i j => .bl (decide (i < j))) (fun _ _ => True)
abbrev gLe := gInt (fun i j => .bl (decide (i ≤ j))) (fun _ _ => True)
abbrev gGt := gInt (fun i j => .bl (decide (j < i))) (fun _ _ => True)
abbrev gGe := gInt (fun i j => .bl (decide (j ≤ i))) (fun _ _ => True)
/-- a list times an int -/
def gMul (a b : EV) : Ev EV := fun r => match intOf a, intOf b with
  | some i, some j => if MulOk i j then .ok (.fr (.int (i * j))) r else .bad
  | _, some k => match seqOf r a with
    | some (.l, xs) => if 0 ≤ k ∧ k ≤ 1000000 ∧ xs.length * k.toNat ≤ big then .ok (.tmp (List.replicate k.toNat xs).flatten) r else .bad
    | _ => .bad
  | _, _ => .bad
def gEq (a b : EV) : Ev EV := fun r => match datOf r a, datOf r b with
  | some x, some y => if flat 60 x = true ∧ flat 60 y = true then .ok (.fr (.bl (eqv x y))) r else .bad
  | _, _ => .bad
def gNe (a b : EV) : Ev EV := fun r => match datOf r a, datOf r b with
  | some x, some y => if flat 60 x = true ∧ flat 60 y = true then .ok (.fr (.bl (!eqv x y))) r else .bad
  | _, _ => .bad
def isNon : EV → Bool
  | .fr .non => true
  | _ => false
def gIsN (a b : EV) : Ev EV := fun r => if isNon b = true then .ok (.fr (.bl (isNon a))) r else .bad
def gNotN (a b : EV) : Ev EV := fun r => if isNon b = true then .ok (.fr (.bl (!isNon a))) r else .bad
/-- is True, is False -/
def isBl (c : Bool) : EV → Bool
  | .fr (.bl b) => b == c
  | _ => false
def gIsB (a b : EV) : Ev EV := fun r => match blOf b with
  | some c => .ok (.fr (.bl (isBl c a))) r
  | none => .bad
def gNotB (a b : EV) : Ev EV := fun r => match blOf b with
  | some c => .ok (.fr (.bl (!isBl c a))) r
  | none => .bad
def gNeg (a : EV) : Ev EV := fun r => match intOf a with
  | some i => .ok (.fr (.int (-i))) r
  | none => .bad

section
variable {X : Cx} {W : W4} {a b e : Expr} {es : List Expr} {pos : Pos}
theorem op_fdivL : OpR X (binaryOp .FloorDiv) (rI (fun _ j => DivOk j) fun i j => .int (i.fdiv j)) := opI fun _ _ _ _ _ _ _ hc q => PyProof.Rows.floordiv_int hc.1 q (.inl (PyProof.noPylong_of_log2 hc.2))
theorem op_mulL : OpR X (binaryOp .Mult) (rI MulOk fun i j => .int (i * j)) := by
  intro pins s σ H x y v u Q I rx ry h
  obtain ⟨i, j, rfl, rfl, h, q⟩ := h
  rcases h with h | h
  · exact op_mul pins s σ H _ _ v u Q I rx ry ⟨i, j, rfl, rfl, h.imp (fun z => by omega) (fun z => by omega), q⟩
  · exact op_mulW pins s σ H _ _ v u Q I rx ry ⟨i, j, rfl, rfl, h, q⟩
theorem imp_add : Imp2 X W (fun x y H Q => (rI0 fun i j => .int (i + j)) x y H Q ∨ ((∃ i j, x = .str i ∧ y = .str j ∧ i.length + j.length ≤ sizeLine ∧ Q (.str (i ++ j)) H) ∨ (rCatA X.K x y H Q ∨ rCat x y H Q))) gAdd := by
  intro A r G σ H ex ey x y Q S hA rx ry h
  unfold gAdd at h
  split at h
  · rename_i i j e1 e2
    have hx := int_ok rx e1
    have hy := int_ok ry e2
    exact .inl ⟨i, j, hx, hy, fin_plain S hA h rfl⟩
  · split at h
    · rename_i i j e1 e2
      have hx := str_ok rx e1
      have hy := str_ok ry e2
      by_cases c : i.length + j.length ≤ big
      · rw [if_pos c] at h
        exact .inr (.inl ⟨i, j, hx, hy, c, fin_plain S hA h rfl⟩)
      · rw [if_neg c] at h; exact h.elim
    · split at h
      · rename_i xs ys e1 e2
        obtain ⟨p, vs, rfl, sp, rl⟩ := seq_ok S rx.wk e1
        obtain ⟨p2, vs2, rfl, sp2, rl2⟩ := seq_ok S ry.wk e2
        by_cases c : xs.length + ys.length ≤ big
        · rw [if_pos c] at h
          refine .inr (.inr (.inl ⟨p, p2, vs, vs2, rfl, rfl, sp, sp2, by rw [← rl.len, ← rl2.len]; exact c, fun z => ?_, fun _ z => ?_, fun _ _ p3 n => fin_tup S hA h (rl.app rl2) n⟩))
          · subst z
            have e0 : xs = [] := List.eq_nil_of_length_eq_zero rl.len
            subst e0
            exact fin_plain S hA h (tup_ok S ry.wk e2)
          · subst z
            have e0 : ys = [] := List.eq_nil_of_length_eq_zero rl2.len
            subst e0
            rw [List.append_nil] at h
            exact fin_plain S hA h (tup_ok S rx.wk e1)
        · rw [if_neg c] at h; exact h.elim
      · rename_i xs ys e1 e2
        obtain ⟨p, vs, rfl, sp, rl⟩ := seq_ok S rx.wk e1
        obtain ⟨p2, vs2, rfl, sp2, rl2⟩ := seq_ok S ry.wk e2
        by_cases c : xs.length + ys.length ≤ big
        · rw [if_pos c] at h
          exact .inr (.inr (.inr ⟨p, p2, vs, vs2, rfl, rfl, sp, sp2, by rw [← rl.len, ← rl2.len]; exact c, fun p3 n => fin_lst S hA h (rl.app rl2) n⟩))
        · rw [if_neg c] at h; exact h.elim
      · exact h.elim
/-- ints in, under C -/
theorem imp_int {f : Int → Int → M} {g : Int → Int → V} {C : Int → Int → Prop} [∀ i j, Decidable (C i j)] (hf : ∀ (K : PySem.W.Frag) (G : Hp) i j, Rep K G (f i j) (g i j)) : Imp2 X W (rI C g) (gInt f C) := by
  intro A r G σ H ex ey x y Q S hA rx ry h
  unfold gInt at h
  split at h
  · rename_i i j e1 e2
    by_cases c : C i j
    · rw [if_pos c] at h
      exact ⟨i, j, int_ok rx e1, int_ok ry e2, c, fin_plain S hA h (hf _ _ i j)⟩
    · rw [if_neg c] at h; exact h.elim
  · exact h.elim
theorem rI_of {f : Value → Value → Sem Value} {g : Int → Int → V} (h : OpR X f (rI0 g)) : OpR X f (rI (fun _ _ => True) g) := by
  intro pins s σ H x y v u Q I rx ry q
  obtain ⟨i, j, e1, e2, _, q⟩ := q
  exact h pins s σ H x y v u Q I rx ry ⟨i, j, e1, e2, q⟩
theorem op_powL : OpR X (binaryOp .Pow) (rI PowOk fun i j => .int (i ^ j.toNat)) := op_pow
theorem imp_mul : Imp2 X W (fun x y H Q => (rI MulOk fun i j => .int (i * j)) x y H Q ∨ rRep x y H Q) gMul := by
  intro A r G σ H ex ey x y Q S hA rx ry h
  unfold gMul at h
  split at h
  · rename_i i j e1 e2
    by_cases c : MulOk i j
    · rw [if_pos c] at h
      exact .inl ⟨i, j, int_ok rx e1, int_ok ry e2, c, fin_plain S hA h rfl⟩
    · rw [if_neg c] at h; exact h.elim
  · rename_i k e2 _
    split at h
    · rename_i xs e1
      obtain ⟨p, vs, rfl, sp, rl⟩ := seq_ok S rx.wk e1
      by_cases c : 0 ≤ k ∧ k ≤ 1000000 ∧ xs.length * k.toNat ≤ big
      · rw [if_pos c] at h
        refine .inr ⟨p, k, vs, rfl, int_ok ry e2, sp, by omega, by omega, by rw [← rl.len]; exact c.2.2, fun p3 n => fin_lst S hA h ?_ n⟩
        clear h c
        generalize k.toNat = n
        induction n with
        | zero => exact rfl
        | succ n ih => rw [List.replicate_succ, List.replicate_succ, List.flatten_cons, List.flatten_cons]; exact rl.app ih
      · rw [if_neg c] at h; exact h.elim
    · exact h.elim
  · exact h.elim
theorem canLay_of {m : M} (h : flat 60 m = true) : (toD m).canLay0 = true := (flat_lay 60 m h).1
theorem imp_eq : Imp2 X W (rEqD X.K) gEq := by
  intro A r G σ H ex ey x y Q S hA rx ry h
  unfold gEq at h
  split at h
  · rename_i m n e1 e2
    by_cases c : flat 60 m = true ∧ flat 60 n = true
    · rw [if_pos c] at h
      exact ⟨toD m, toD n, rep_dp (dat_ok S rx.wk e1), rep_dp (dat_ok S ry.wk e2), flat_shaped c.1, flat_shaped c.2, fin_plain S hA h rfl⟩
    · rw [if_neg c] at h; exact h.elim
  · exact h.elim
theorem imp_ne : Imp2 X W (rNeD X.K) gNe := by
  intro A r G σ H ex ey x y Q S hA rx ry h
  unfold gNe at h
  split at h
  · rename_i m n e1 e2
    by_cases c : flat 60 m = true ∧ flat 60 n = true
    · rw [if_pos c] at h
      exact ⟨toD m, toD n, rep_dp (dat_ok S rx.wk e1), rep_dp (dat_ok S ry.wk e2), flat_shaped c.1, flat_shaped c.2, fin_plain S hA h rfl⟩
    · rw [if_neg c] at h; exact h.elim
  · exact h.elim
theorem isNon_ok {K : PySem.W.Frag} {A : Addr → Prop} {r : Ro} {G : Hp} {σ : St} {H : Hp} {ev : EV} {v : V} (h : EvRep K A r G σ H ev v) : isNon ev = decide (v = .non) := by
  cases ev with
  | tmp xs => obtain ⟨a, rfl, _⟩ := h; rfl
  | bor i => obtain ⟨a, rfl, _⟩ := h; rfl
  | fr m =>
    cases m with
    | non => cases h; rfl
    | bl _ => cases h; rfl
    | int _ => cases h; rfl
    | str _ => cases h; rfl
    | tup _ => obtain ⟨a, vs, rfl, _⟩ := h; rfl
    | lst _ => obtain ⟨a, vs, rfl, _⟩ := h; rfl
    | ro _ => obtain ⟨a, vs, rfl, _⟩ := h; rfl
theorem isBl_ok {K : PySem.W.Frag} {A : Addr → Prop} {r : Ro} {G : Hp} {σ : St} {H : Hp} {ev : EV} {v : V} {c : Bool} (h : EvRep K A r G σ H ev v) : isBl c ev = decide (v = .bl c) := by
  cases ev with
  | tmp xs => obtain ⟨a, rfl, _⟩ := h; rfl
  | bor i => obtain ⟨a, rfl, _⟩ := h; rfl
  | fr m =>
    cases m with
    | non => cases h; rfl
    | bl b => cases h; cases b <;> cases c <;> rfl
    | int _ => cases h; rfl
    | str _ => cases h; rfl
    | tup _ => obtain ⟨a, vs, rfl, _⟩ := h; rfl
    | lst _ => obtain ⟨a, vs, rfl, _⟩ := h; rfl
    | ro _ => obtain ⟨a, vs, rfl, _⟩ := h; rfl
theorem imp_isN : Imp2 X W (fun x y H Q => y = .non ∧ Q (.bl (decide (x = .non))) H) gIsN := by
  intro A r G σ H ex ey x y Q S hA rx ry h
  unfold gIsN at h
  by_cases c : isNon ey = true
  · rw [if_pos c, isNon_ok rx] at h
    rw [isNon_ok ry] at c
    exact ⟨of_decide_eq_true c, fin_plain S hA h rfl⟩
  · rw [if_neg c] at h; exact h.elim
theorem imp_notN : Imp2 X W (fun x y H Q => y = .non ∧ Q (.bl (!decide (x = .non))) H) gNotN := by
  intro A r G σ H ex ey x y Q S hA rx ry h
  unfold gNotN at h
  by_cases c : isNon ey = true
  · rw [if_pos c, isNon_ok rx] at h
    rw [isNon_ok ry] at c
    exact ⟨of_decide_eq_true c, fin_plain S hA h rfl⟩
  · rw [if_neg c] at h; exact h.elim
/-- is of any plain value and a bool -/
def rIsA : R2 := fun x y H Q => ∃ b : Bool, y = .bl b ∧ Q (.bl (decide (x = .bl b))) H
def rNotA : R2 := fun x y H Q => ∃ b : Bool, y = .bl b ∧ Q (.bl (!decide (x = .bl b))) H
theorem ne_bool {x : V} {v : Value} {b : Bool} (r : RelV x v) (h : x ≠ .bl b) : v ≠ Value.bool b := fun e => by
  subst e
  cases x with
  | bl c => cases r; exact h rfl
  | non => cases r
  | int i => obtain ⟨t, e⟩ := r; cases e
  | str i => obtain ⟨t, e⟩ := r; cases e
  | byt i => obtain ⟨t, e⟩ := r; cases e
  | flt i => obtain ⟨t, e⟩ := r; cases e
  | ref i => cases r
  | ty i => cases r
theorem imp_isB : Imp2 X W rIsA gIsB := by
  intro A r G σ H ex ey x y Q S hA rx ry h
  unfold gIsB at h
  split at h
  · rename_i c e
    rw [isBl_ok rx] at h
    exact ⟨c, bl_ok ry e, fin_plain S hA h rfl⟩
  · exact h.elim
theorem imp_notB : Imp2 X W rNotA gNotB := by
  intro A r G σ H ex ey x y Q S hA rx ry h
  unfold gNotB at h
  split at h
  · rename_i c e
    rw [isBl_ok rx] at h
    exact ⟨c, bl_ok ry e, fin_plain S hA h rfl⟩
  · exact h.elim
theorem imp_neg : Imp1 X W (rU fun i => .int (-i)) gNeg := by
  intro A r G σ H ex x Q S hA rx h
  unfold gNeg at h
  split at h
  · rename_i i e
    exact ⟨i, int_ok rx e, fin_plain S hA h rfl⟩
  · exact h.elim

/-! ### in, not in -/
def inR (f : Bool → Bool) (a b : EV) (r : Ro) : Option Cont → R EV
  | some (.di kvs) => match intOf a with
    | some i => .ok (.fr (.bl (f (findI kvs i).isSome))) r
    | none => .bad
  | some (.dt kvs) => match keyE a with
    | some k => .ok (.fr (.bl (f (findT kvs k).isSome))) r
    | none => .bad
  | _ => match datOf r a, seqOf r b with
    | some x, some (_, ys) => if flat 60 x = true ∧ flats 59 ys = true then .ok (.fr (.bl (f (ys.any fun y => eqv y x)))) r else .bad
    | _, _ => .bad
def gIn (a b : EV) : Ev EV := fun r => inR (fun c => c) a b r (boxOf r b)
def gNotIn (a b : EV) : Ev EV := fun r => inR (fun c => !c) a b r (boxOf r b)
def rInA (K : PySem.W.Frag) : R2 := fun x y H Q => ∃ d ds, Dp K H x d ∧ (Dp K H y (.list ds) ∨ Dp K H y (.tuple ds)) ∧ SeqAt.shaped d = true ∧ PyData.canLayAll0 ds = true ∧ Q (.bl (ds.any fun z => PyData.eqv z d)) H
def rNotInA (K : PySem.W.Frag) : R2 := fun x y H Q => ∃ d ds, Dp K H x d ∧ (Dp K H y (.list ds) ∨ Dp K H y (.tuple ds)) ∧ SeqAt.shaped d = true ∧ PyData.canLayAll0 ds = true ∧ Q (.bl (!ds.any fun z => PyData.eqv z d)) H
theorem op_inA (hu : X.A.units + 65 < cLine) : OpR X (compareOp .In) (rInA X.K) := by
  intro pins s σ H x y v u Q I rx ry h
  obtain ⟨d, ds, hd, he, sd, se, q⟩ := h
  obtain ⟨as, r1⟩ := Dp.reads I d x v hd rx
  rcases he with he | he
  · obtain ⟨bs, r2⟩ := Dp.reads I (.list ds) y u he ry
    exact SeqAt.in_list_reads r2 r1 se (SeqAt.canLay_of_shaped sd) (PyProof.Rows.room_in_shaped sd hu) ⟨.bl _, H, I, rfl, q⟩
  · obtain ⟨bs, r2⟩ := Dp.reads I (.tuple ds) y u he ry
    exact SeqAt.in_tuple_reads r2 r1 se (SeqAt.canLay_of_shaped sd) (PyProof.Rows.room_in_shaped sd hu) ⟨.bl _, H, I, rfl, q⟩
theorem op_notInA (hu : X.A.units + 65 < cLine) : OpR X (compareOp .NotIn) (rNotInA X.K) := by
  intro pins s σ H x y v u Q I rx ry h
  obtain ⟨d, ds, hd, he, sd, se, q⟩ := h
  obtain ⟨as, r1⟩ := Dp.reads I d x v hd rx
  rcases he with he | he
  · obtain ⟨bs, r2⟩ := Dp.reads I (.list ds) y u he ry
    exact SeqAt.notIn_list_reads r2 r1 se (SeqAt.canLay_of_shaped sd) (PyProof.Rows.room_in_shaped sd hu) ⟨.bl _, H, I, rfl, q⟩
  · obtain ⟨bs, r2⟩ := Dp.reads I (.tuple ds) y u he ry
    exact SeqAt.notIn_tuple_reads r2 r1 se (SeqAt.canLay_of_shaped sd) (PyProof.Rows.room_in_shaped sd hu) ⟨.bl _, H, I, rfl, q⟩
theorem toDs_any {x : M} : ∀ {ys : List M}, (toDs ys).any (fun z => PyData.eqv z (toD x)) = ys.any fun y => eqv y x
  | [] => rfl
  | y :: ys => by rw [toDs, List.any_cons, List.any_cons, toDs_any]; rfl
theorem seq_dp {K : PySem.W.Frag} {H : Hp} {a : Addr} {vs : List V} {k : Kd} {xs : List M} (s : SqK K H a vs k) (rl : RepL K H xs vs) : Dp K H (.ref a) (.list (toDs xs)) ∨ Dp K H (.ref a) (.tuple (toDs xs)) := by
  cases k with
  | t => exact .inr (.tup s (rep_dps rl))
  | l => exact .inl (.lst (.of s) (rep_dps rl))
  | ro => exact .inl (.lst s (rep_dps rl))
theorem in_read {f : Bool → Bool} {A : Addr → Prop} {r : Ro} {G : Hp} {σ : St} {H : Hp} {ex ey : EV} {x y : V} {Q : VK} (S : Sim X.K r G σ H) (hA : ∀ b, A0 r σ H b → A b) (rx : EvRep X.K A r G σ H ex x) (ry : EvRep X.K A r G σ H ey y)
    (h : Post (rpE X.K σ) X.K X.mg W A r G σ H Q (inR f ex ey r (boxOf r ey))) :
    (∃ d ds, Dp X.K H x d ∧ (Dp X.K H y (.list ds) ∨ Dp X.K H y (.tuple ds)) ∧ SeqAt.shaped d = true ∧ PyData.canLayAll0 ds = true ∧ Q (.bl (f (ds.any fun z => PyData.eqv z d))) H) ∨
    (∃ a kvs es m k, y = .ref a ∧ DtAt X.K H a kvs es ∧ KeyAt X.K H m k x ∧ Q (.bl (f (findT kvs k).isSome)) H) ∨
    (∃ a es k, y = .ref a ∧ x = .int k ∧ H a = some (.dK es) ∧ Q (.bl (f (valV es (.inl k)).isSome)) H) := by
  have seq : Post (rpE X.K σ) X.K X.mg W A r G σ H Q (match datOf r ex, seqOf r ey with
    | some x, some (_, ys) => if flat 60 x = true ∧ flats 59 ys = true then R.ok (.fr (.bl (f (ys.any fun y => eqv y x)))) r else .bad
    | _, _ => .bad) → ∃ d ds, Dp X.K H x d ∧ (Dp X.K H y (.list ds) ∨ Dp X.K H y (.tuple ds)) ∧ SeqAt.shaped d = true ∧ PyData.canLayAll0 ds = true ∧ Q (.bl (f (ds.any fun z => PyData.eqv z d))) H := fun h => by
    split at h
    · rename_i m k ys e1 e2
      by_cases c : flat 60 m = true ∧ flats 59 ys = true
      · rw [if_pos c] at h
        obtain ⟨p, vs, rfl, sp, rl⟩ := seq_ok S ry.wk e2
        refine ⟨toD m, toDs ys, rep_dp (dat_ok S rx.wk e1), seq_dp sp (rl.mono S.sub), flat_shaped c.1, (flats_lay 59 ys c.2).1, ?_⟩
        rw [toDs_any]
        exact fin_plain S hA h rfl
      · rw [if_neg c] at h; exact h.elim
    · exact h.elim
  cases q : boxOf r ey with
  | none => rw [q] at h; exact .inl (seq h)
  | some b =>
    rw [q] at h
    cases b with
    | l xs => exact .inl (seq h)
    | ll xs => exact .inl (seq h)
    | di kvs =>
      obtain ⟨a, rfl, x'⟩ := box_ok S ry.wk q
      obtain ⟨es, e, p, n⟩ := x'
      have h : Post (rpE X.K σ) X.K X.mg W A r G σ H Q (match intOf ex with
        | some i => R.ok (.fr (.bl (f (findI kvs i).isSome))) r
        | none => .bad) := h
      cases q2 : intOf ex with
      | none => rw [q2] at h; exact h.elim
      | some i =>
        rw [q2] at h
        refine .inr (.inr ⟨a, es, i, rfl, int_ok rx q2, e, ?_⟩)
        rw [← findI_some p]
        exact fin_plain S hA h rfl
    | dt kvs =>
      obtain ⟨a, rfl, x'⟩ := box_ok S ry.wk q
      obtain ⟨es, d, p⟩ := dt_ok S x'
      have h : Post (rpE X.K σ) X.K X.mg W A r G σ H Q (match keyE ex with
        | some k => R.ok (.fr (.bl (f (findT kvs k).isSome))) r
        | none => .bad) := h
      cases q2 : keyE ex with
      | none => rw [q2] at h; exact h.elim
      | some k =>
        obtain ⟨m, hk, _, rp⟩ := keyE_ok S rx q2
        rw [q2] at h
        have h : Post (rpE X.K σ) X.K X.mg W A r G σ H Q (R.ok (.fr (.bl (f (findT kvs k).isSome))) r) := h
        exact .inr (.inl ⟨a, kvs, es, m, k, rfl, d, hk, fin_plain S hA h rfl⟩)
theorem imp_in : Imp2 X W (fun x y H Q => rInA X.K x y H Q ∨ (rInT X.K x y H Q ∨ rInI x y H Q)) gIn := fun A r G σ H ex ey x y Q S hA rx ry h => in_read (f := fun c => c) S hA rx ry h
theorem imp_notIn : Imp2 X W (fun x y H Q => rNotInA X.K x y H Q ∨ (rNotInT X.K x y H Q ∨ rNotInI x y H Q)) gNotIn := fun A r G σ H ex ey x y Q S hA rx ry h => in_read (f := fun c => !c) S hA rx ry h

theorem plain_bool {x : V} {v : Value} {b : Bool} (r : RelV x v) : plainIs v (.bool b) = true := by
  cases x with
  | bl c => cases r; rfl
  | non => cases r; rfl
  | int i => obtain ⟨t, e⟩ := r; subst e; rfl
  | str i => obtain ⟨t, e⟩ := r; subst e; rfl
  | byt i => obtain ⟨t, e⟩ := r; subst e; rfl
  | flt i => obtain ⟨t, e⟩ := r; subst e; rfl
  | ref i => cases r; rfl
  | ty i => cases r; rfl
theorem op_isA : OpR X (compareOp .Is) rIsA := by
  intro pins s σ H x y v u Q I rx ry h
  obtain ⟨b, rfl, q⟩ := h
  cases (show u = Value.bool b from ry)
  by_cases e : x = .bl b
  · subst e
    cases (show v = Value.bool b from rx)
    rw [decide_eq_true rfl] at q
    exact wpAny_is_self rfl ⟨.bl true, H, I, rfl, q⟩
  · rw [decide_eq_false e] at q
    have nv := ne_bool rx e
    refine wpAny_is_other ?_ nv ⟨.bl false, H, I, rfl, q⟩
    exact plain_bool rx
theorem op_isNotA : OpR X (compareOp .IsNot) rNotA := by
  intro pins s σ H x y v u Q I rx ry h
  obtain ⟨b, rfl, q⟩ := h
  cases (show u = Value.bool b from ry)
  by_cases e : x = .bl b
  · subst e
    cases (show v = Value.bool b from rx)
    rw [decide_eq_true rfl] at q
    exact wpAny_isNot_self rfl ⟨.bl false, H, I, rfl, q⟩
  · rw [decide_eq_false e] at q
    have nv := ne_bool rx e
    refine wpAny_isNot_other ?_ nv ⟨.bl true, H, I, rfl, q⟩
    exact plain_bool rx

/-! ### the words for the printer -/
variable {fa fb : Ev EV}
theorem se_add (ha : SE X W a fa) (hb : SE X W b fb) : SE X W (.BinOp a .Add b pos) (v2 gAdd fa fb) := se_op2 (op_add.or (op_add_str.or (op_catA.or op_cat))) imp_add ha hb
theorem se_sub (ha : SE X W a fa) (hb : SE X W b fb) : SE X W (.BinOp a .Sub b pos) (v2 gSub fa fb) := se_op2 (rI_of op_sub) (imp_int fun _ _ _ _ => rfl) ha hb
theorem se_mul (ha : SE X W a fa) (hb : SE X W b fb) : SE X W (.BinOp a .Mult b pos) (v2 gMul fa fb) := se_op2 (op_mulL.or op_rep) imp_mul ha hb
theorem se_fdiv (ha : SE X W a fa) (hb : SE X W b fb) : SE X W (.BinOp a .FloorDiv b pos) (v2 gFdiv fa fb) := se_op2 op_fdivL (imp_int fun _ _ _ _ => rfl) ha hb
theorem se_mod (ha : SE X W a fa) (hb : SE X W b fb) : SE X W (.BinOp a .Mod b pos) (v2 gMod fa fb) := se_op2 op_modN (imp_int fun _ _ _ _ => rfl) ha hb
theorem se_pow (ha : SE X W a fa) (hb : SE X W b fb) : SE X W (.BinOp a .Pow b pos) (v2 gPow fa fb) := se_op2 op_powL (imp_int fun _ _ _ _ => rfl) ha hb
theorem se_neg (ha : SE X W a fa) : SE X W (.UnaryOp .USub a pos) (v1 gNeg fa) := se_un un_neg imp_neg ha
/-- a comparison: its operation and what carries it out -/
structure Cmp (X : Cx) (W : W4) (op : CmpOp) (g : EV → EV → Ev EV) : Prop where
  ok : ∃ t, OpR X (compareOp op) t ∧ Imp2 X W t g
theorem c_lt : Cmp X W .Lt gLt := ⟨_, rI_of op_lt, imp_int fun _ _ _ _ => rfl⟩
theorem c_le : Cmp X W .LtE gLe := ⟨_, rI_of op_le, imp_int fun _ _ _ _ => rfl⟩
theorem c_gt : Cmp X W .Gt gGt := ⟨_, rI_of op_gt, imp_int fun _ _ _ _ => rfl⟩
theorem c_ge : Cmp X W .GtE gGe := ⟨_, rI_of op_ge, imp_int fun _ _ _ _ => rfl⟩
theorem c_eq (hu : X.A.units + 64 < cLine) : Cmp X W .Eq gEq := ⟨_, op_eqD hu, imp_eq⟩
theorem c_ne (hu : X.A.units + 64 < cLine) : Cmp X W .NotEq gNe := ⟨_, op_neD hu, imp_ne⟩
theorem c_in (hu : X.A.units + 65 < cLine) : Cmp X W .In gIn := ⟨_, (op_inA hu).or ((op_inT hu).or (op_inI hu)), imp_in⟩
theorem c_notIn (hu : X.A.units + 65 < cLine) : Cmp X W .NotIn gNotIn := ⟨_, (op_notInA hu).or ((op_notInT hu).or (op_notInI hu)), imp_notIn⟩
theorem c_isN : Cmp X W .Is gIsN := ⟨_, op_isN, imp_isN⟩
theorem c_notN : Cmp X W .IsNot gNotN := ⟨_, op_notN, imp_notN⟩
theorem c_isB : Cmp X W .Is gIsB := ⟨_, op_isA, imp_isB⟩
theorem c_notB : Cmp X W .IsNot gNotB := ⟨_, op_isNotA, imp_notB⟩
theorem se_c {op : CmpOp} {g : EV → EV → Ev EV} (c : Cmp X W op g) (ha : SE X W a fa) (hb : SE X W b fb) (hm : behindInMarks op b = false) : SE X W (.Compare a [op] [b] pos) (v2 g fa fb) := by
  obtain ⟨t, h1, h2⟩ := c.ok
  exact se_cmp h1 h2 ha hb hm
theorem st_c {op : CmpOp} {g : EV → EV → Ev EV} (c : Cmp X W op g) (ha : SE X W a fa) (hb : SE X W b fb) (hm : behindInMarks op b = false) : ST X W (.Compare a [op] [b] pos) (tst (v2 g fa fb)) := by
  obtain ⟨t, h1, h2⟩ := c.ok
  exact st_cmp h1 h2 ha hb hm

/-! ### truth, and, or, not, if -/
theorem tru_okM {K : PySem.W.Frag} {A : Addr → Prop} {r : Ro} {G : Hp} {σ : St} {H : Hp} {ev : EV} {v : V} {c : Bool} (S : Sim K r G σ H) (h : Wk K A r G σ H ev v) (e : trueM r ev = some c) : TruV K v H c := by
  have key : ∀ {k : Kd} {xs : List M}, seqOf r ev = some (k, xs) → c = !xs.isEmpty → TruV K v H c := fun {k xs} e1 e2 => by
    obtain ⟨a, vs, rfl, s, rl⟩ := seq_ok S h e1
    have e3 : xs.isEmpty = vs.isEmpty := by
      have := rl.len
      cases xs <;> cases vs <;> first | rfl | (simp at this)
    rw [e3] at e2
    cases k with
    | t => exact .inr (.inl ⟨vs, s, e2⟩)
    | l => exact .inl ⟨vs, .of s, e2⟩
    | ro => exact .inl ⟨vs, s, e2⟩
  have gen : (seqOf r ev).map (fun p => !p.2.isEmpty) = some c → TruV K v H c := fun z => by
    cases q : seqOf r ev with
    | none => rw [q] at z; cases z
    | some p =>
      rw [q] at z
      cases z
      exact key q rfl
  cases ev with
  | fr m =>
    cases m with
    | non => cases e; cases h; exact rfl
    | bl b => cases e; cases h; exact rfl
    | int b => cases e; cases h; exact rfl
    | str b => cases e
    | tup xs => exact gen e
    | lst xs => exact gen e
    | ro xs => exact gen e
  | tmp xs => exact gen e
  | bor i => exact gen e
theorem st_tru (ha : SE X W a fa) (he : ∀ whole, isTrue a X.env whole = (do let v ← whole; standAt a.pos; holding [v] (truthy v)) := by intro _; rfl) : ST X W a (tru fa) := by
  refine ptW (pt_truth ha he) fun σ H Q ⟨r, G, S, h⟩ => ?_
  refine into upE S A0.self h fun ev r1 v G1 H1 S1 a1 st1 e1 h1 => ?_
  unfold truT at h1
  cases q : trueM r1 ev with
  | none => rw [q] at h1; exact h1.elim
  | some c => rw [q] at h1; exact ⟨c, tru_okM S1 e1.wk q, h1 c G1 H1 S1 (.refl a1) rfl⟩
def tAndM (f g : Ev Bool) : Ev Bool := bnd f fun c => if c = true then g else ret false
def tOrM (f g : Ev Bool) : Ev Bool := bnd f fun c => if c = true then ret true else g
def tNotM (f : Ev Bool) : Ev Bool := bnd f fun c => ret (!c)
variable {f g : Ev Bool} {rest : List Expr}
theorem sw_and1 (ha : ST X W a f) : SW X W (.BoolOp .And [a] pos) f := pw_and1 ha
theorem sw_or1 (ha : ST X W a f) : SW X W (.BoolOp .Or [a] pos) f := pw_or1 ha
theorem sw_and (ha : ST X W a f) (hb : SW X W (.BoolOp .And (b :: rest) pos) g) : SW X W (.BoolOp .And (a :: b :: rest) pos) (tAndM f g) := by
  refine pwW (pw_and ha hb) fun σ H Q ⟨r, G, S, h⟩ => ?_
  refine into upB S A0.self h fun c r1 c' G1 H1 S1 a1 st1 e1 h1 => ?_
  subst e1
  cases c with
  | true =>
    rw [if_pos rfl] at h1
    exact iteT (last S1 a1 upB h1)
  | false =>
    rw [if_neg Bool.false_ne_true] at h1
    exact iteF (h1 _ G1 H1 S1 (.refl a1) rfl)
theorem sw_or (ha : ST X W a f) (hb : SW X W (.BoolOp .Or (b :: rest) pos) g) : SW X W (.BoolOp .Or (a :: b :: rest) pos) (tOrM f g) := by
  refine pwW (pw_or ha hb) fun σ H Q ⟨r, G, S, h⟩ => ?_
  refine into upB S A0.self h fun c r1 c' G1 H1 S1 a1 st1 e1 h1 => ?_
  subst e1
  cases c with
  | true =>
    rw [if_pos rfl] at h1
    exact iteT (h1 _ G1 H1 S1 (.refl a1) rfl)
  | false =>
    rw [if_neg Bool.false_ne_true] at h1
    exact iteF (last S1 a1 upB h1)
theorem st_w (h : SW X W e f) : ST X W e f := PW.pt h
theorem st_not (ha : ST X W a f) : ST X W (.UnaryOp .Not a pos) (tNotM f) := by
  refine ptW (pt_not ha) fun σ H Q ⟨r, G, S, h⟩ => ?_
  refine into upB S A0.self h fun c r1 c' G1 H1 S1 a1 st1 e1 h1 => ?_
  subst e1
  exact h1 _ G1 H1 S1 (.refl a1) rfl
/-- as values, of bools -/
def blE (e : EV) : Ev Bool := match blOf e with
  | some c => ret c
  | none => bad
def vAnd (f g : Ev EV) : Ev EV := bnd f fun e => match blOf e with
  | some true => g
  | some false => ret (.fr (.bl false))
  | none => bad
def vOr (f g : Ev EV) : Ev EV := bnd f fun e => match blOf e with
  | some true => ret (.fr (.bl true))
  | some false => g
  | none => bad
def vNot (f : Ev EV) : Ev EV := bnd f fun e => match blOf e with
  | some c => ret (.fr (.bl (!c)))
  | none => bad
theorem se_one {op} (ha : SE X W a fa) : SE X W (.BoolOp op [a] pos) fa := pe_one ha
theorem se_and (ha : SE X W a fa) (hb : SE X W (.BoolOp .And (b :: rest) pos) fb) : SE X W (.BoolOp .And (a :: b :: rest) pos) (vAnd fa fb) := by
  refine peW (pe_and ha hb) fun σ H Q ⟨r, G, S, h⟩ => ?_
  refine into upE S A0.self h fun ev r1 v G1 H1 S1 a1 st1 e1 h1 => ?_
  cases q : blOf ev with
  | none => simp only [q] at h1; exact h1.elim
  | some c =>
    refine ⟨c, bl_ok e1 q, ?_⟩
    cases c with
    | true => simp only [q] at h1; exact iteT (last S1 a1 upE h1)
    | false => simp only [q] at h1; exact iteF (fin_plain S1 a1 h1 rfl)
theorem se_or (ha : SE X W a fa) (hb : SE X W (.BoolOp .Or (b :: rest) pos) fb) : SE X W (.BoolOp .Or (a :: b :: rest) pos) (vOr fa fb) := by
  refine peW (pe_or ha hb) fun σ H Q ⟨r, G, S, h⟩ => ?_
  refine into upE S A0.self h fun ev r1 v G1 H1 S1 a1 st1 e1 h1 => ?_
  cases q : blOf ev with
  | none => simp only [q] at h1; exact h1.elim
  | some c =>
    refine ⟨c, bl_ok e1 q, ?_⟩
    cases c with
    | false => simp only [q] at h1; exact iteF (last S1 a1 upE h1)
    | true => simp only [q] at h1; exact iteT (fin_plain S1 a1 h1 rfl)
theorem se_not (ha : SE X W a fa) : SE X W (.UnaryOp .Not a pos) (vNot fa) := by
  refine peW (pe_not ha) fun σ H Q ⟨r, G, S, h⟩ => ?_
  refine into upE S A0.self h fun ev r1 v G1 H1 S1 a1 st1 e1 h1 => ?_
  cases q : blOf ev with
  | none => simp only [q] at h1; exact h1.elim
  | some c => simp only [q] at h1; exact ⟨c, bl_ok e1 q, fin_plain S1 a1 h1 rfl⟩
def vIf (t : Ev Bool) (f g : Ev EV) : Ev EV := bnd t fun c => if c = true then f else g
theorem se_if {c : Expr} (hc : ST X W c f) (ha : SE X W a fa) (hb : SE X W b fb) : SE X W (.IfExp c a b pos) (vIf f fa fb) := by
  refine peW (pe_ifExp hc ha hb) fun σ H Q ⟨r, G, S, h⟩ => ?_
  refine into upB S A0.self h fun c r1 c' G1 H1 S1 a1 st1 e1 h1 => ?_
  subst e1
  cases c with
  | true => rw [if_pos rfl] at h1; exact iteT (last S1 a1 upE h1)
  | false => rw [if_neg Bool.false_ne_true] at h1; exact iteF (last S1 a1 upE h1)
end
end Sx

set_option Elab.async false
set_option linter.all false
set_option maxRecDepth 100000
set_option maxHeartbeats 4000000
/-! Sx4: what is walked: enumerate and zip of lists and tuples of any mix. -/
namespace Sx
open PySem L2

/-! ### an iterator of a list, of a tuple -/
def ItH (k : Kd) (h : Heap) (it a : Addr) (i : Nat) : Prop := match k with
  | .t => h.IsTupleIter it a i
  | _ => h.IsListIter it a i
def SqH (k : Kd) (h : Heap) (a : Addr) (its : Array Value) : Prop := match k with
  | .t => h.IsTuple a its
  | _ => h.IsList a its
theorem drawsK (k : Kd) {prog : Program} {w : World} {A : Around} (hh : A.handled = none) (it a : Addr) (ne : a ≠ it) (its : Array Value) :
    Draws prog w A it [it, a] its.size (fun i v => its[i]? = some v) (fun i h => ItH k h it a i ∧ SqH k h a its) := by
  cases k with
  | t => exact Draws.tuple hh it a ne its
  | l => exact Draws.list hh it a ne its
  | ro => exact Draws.list hh it a ne its
def itO (k : Kd) (a : Addr) : Obj := match k with
  | .t => { cls := .type "tuple_iterator", data := .fields #[.ref a, .int 0 0] }
  | _ => { cls := .type "list_iterator", data := .fields #[.ref a, .int 0 0] }
theorem beginsK (k : Kd) (a : Addr) (its : Array Value) : Begins (.ref a) (itO k a) fun h => SqH k h a its := by
  cases k with
  | t => exact begins_tuple a its
  | l => exact begins_list a its
  | ro => exact begins_list a its
theorem ItH.zero {k : Kd} {h : Heap} {it a : Addr} (e : h.get? it = some (itO k a)) : ItH k h it a 0 := by
  cases k with
  | t => exact ⟨_, e, rfl, rfl⟩
  | l => exact ⟨_, e, rfl, rfl⟩
  | ro => exact ⟨_, e, rfl, rfl⟩
theorem ItH.obj {k : Kd} {h : Heap} {it a : Addr} {i : Nat} (e : ItH k h it a i) : ∃ o, h.get? it = some o ∧ ∀ v, o.data ≠ .cell v := by
  cases k with
  | t => obtain ⟨o, e, c, d⟩ := e; exact ⟨o, e, fun v z => by rw [d] at z; cases z⟩
  | l => obtain ⟨o, e, c, d⟩ := e; exact ⟨o, e, fun v z => by rw [d] at z; cases z⟩
  | ro => obtain ⟨o, e, c, d⟩ := e; exact ⟨o, e, fun v z => by rw [d] at z; cases z⟩
theorem ItH.keep {k : Kd} {h h' : Heap} {it a : Addr} {i : Nat} (e : ItH k h it a i) (kp : ∀ o, h.get? it = some o → h'.get? it = some o) : ItH k h' it a i := by
  cases k with
  | t => obtain ⟨o, e, c, d⟩ := e; exact ⟨o, kp o e, c, d⟩
  | l => obtain ⟨o, e, c, d⟩ := e; exact ⟨o, kp o e, c, d⟩
  | ro => obtain ⟨o, e, c, d⟩ := e; exact ⟨o, kp o e, c, d⟩
theorem ItH.lt {k : Kd} {h : Heap} {it a : Addr} {i : Nat} (e : ItH k h it a i) : it < h.objs.size := by
  obtain ⟨o, e, _⟩ := e.obj
  exact Heap.lt_size e
section
variable {X : Cx} {pins : List (Addr × Obj)} {σ : St} {H : Hp} {s : Shared} {a b : Addr} {xs ys : List V} {k : Kd}
theorem sqK_read (I : Inv X pins σ H s) (h : SqK X.K H a xs k) : ∃ its : List Value, Vals xs its ∧ SqH k s.heap a its.toArray := by
  cases k with
  | t =>
    obtain ⟨its, r, p, _⟩ := I.tuple h
    exact ⟨its, r, p⟩
  | l =>
    obtain ⟨its, r, p, _⟩ := I.list (.of h)
    exact ⟨its, r, p.isList⟩
  | ro =>
    obtain ⟨its, r, p, _⟩ := I.list h
    exact ⟨its, r, p.isList⟩
theorem sqK_inj (I : Inv X pins σ H s) (h : SqK X.K H a xs k) (h' : SqK X.K H a ys k) : ys = xs := by
  cases k with
  | t => exact I.tuple_inj h' h
  | l => exact I.list_inj (.of h') (.of h)
  | ro => exact I.list_inj h' h
/-- what is read is none of the iterator's own -/
theorem src_ne (I : Inv X pins σ H s) (h : SqK X.K H a xs k) (f : FpOk X pins H b) : a ≠ b := by
  have writ : ∀ {o}, X.K.lookup a = some o → a ≠ b := fun {o} e z => by
    subst z
    have e2 := I.ok.mod.kin _ _ e
    have n2 := I.ok.noex _ _ e2
    have l2 := Heap.lt_size e2
    have z2 := I.ok.bsz
    rcases f.2.2.2.1 with q | q
    · exact n2 q
    · exact absurd (Nat.lt_of_lt_of_le l2 (Nat.le_trans z2 q)) (Nat.lt_irrefl _)
  have rd : ∀ {u}, Rd H a u → a ≠ b := fun {u} q z => by
    subst z
    rcases q with q | ⟨o, q⟩
    · rw [f.1] at q; cases q
    · rw [f.1] at q; cases q
  cases k with
  | t =>
    rcases h with h | ⟨o, its, n, e, _⟩
    · exact rd h
    · exact writ e
  | l => exact rd (.inl h)
  | ro =>
    rcases h with h | ⟨o, its, n, e, _⟩
    · exact rd h
    · exact writ e
end
/-- untracked records of ours have turned -/
theorem turnedMany {X : Cx} {pins : List (Addr × Obj)} {σ : St} {H : Hp} {s : Shared} {ch : List Addr} {h' : Heap} {tk : Nat} (I : Inv X pins σ H s) (k : ∀ b o, b ∉ ch → s.heap.get? b = some o → h'.get? b = some o) (hf : ∀ b ∈ ch, FpOk X pins H b) :
    Inv X pins σ H { s with heap := h', toks := tk } := by
  have nit : ∀ b u, H b = some u → b ∉ ch := fun b u e z => by
    rw [(hf b z).1] at e; cases e
  refine I.step (g' := s.gens) (d' := s.drawn) (ch := ch) (fun b hb => ⟨(hf b hb).2.2.2.1, (hf b hb).2.1, (hf b hb).2.2.2.2.1, (hf b hb).2.2.2.2.2⟩) (fun b o _ _ hc e _ => k b o hc e) (fun b o _ _ hc e _ => ⟨o.slots, k b o hc e⟩)
    (fun _ _ _ _ n => n) (fun b o hc e => ⟨o, k b o hc e⟩) (fun _ _ e => e) (fun _ _ _ e => e) (fun b ps e => ⟨#[], by rw [e]; simp⟩) (fun m hm => ?_) (fun b u e => ?_) I.bare
  · obtain ⟨o, es, ep, ho, r⟩ := hm
    exact ⟨o, es, ep, k _ o (fun z => (hf _ z).2.1 rfl) ho, r⟩
  · refine (I.hok b u e).stay (fun c v hc q => k c v ?_ q) (fun _ q => q) fun _ _ q => q
    rcases hc with z | z
    · rw [z]; exact nit b u e
    · exact nit c _ z
/-- pairs, triples of what stands at some sources at each turn -/
def ItZ (go : Nat → Hp → Prop) (row : Nat → Hp → List V → Prop) (stop : Nat → Hp → Prop) : It :=
  ⟨go, fun i H v H' => ∃ T ws, v = .ref T ∧ H T = none ∧ H' = upd H T (.tup ws) ∧ row i H ws, stop⟩
def At (K : PySem.W.Frag) (a : Addr) (k : Kd) (i : Nat) (H : Hp) (x : V) : Prop := ∀ xs, SqK K H a xs k → xs[i]? = some x
def goK (K : PySem.W.Frag) (a : Addr) (k : Kd) (i : Nat) (H : Hp) : Prop := ∃ xs, SqK K H a xs k ∧ i < xs.length
def stK (K : PySem.W.Frag) (a : Addr) (k : Kd) (i : Nat) (H : Hp) : Prop := ∃ xs, SqK K H a xs k ∧ xs.length = i
def hasK (K : PySem.W.Frag) (a : Addr) (k : Kd) (H : Hp) : Prop := ∃ xs, SqK K H a xs k

/-! ### enumerate -/
def ItE (K : PySem.W.Frag) (a : Addr) (k : Kd) : It :=
  ItZ (goK K a k) (fun i H ws => ∃ x, ws = [.int (i : Nat), x] ∧ At K a k i H x) (stK K a k)
theorem turn_enumK {P : Program} {w : World} {K : PySem.W.Frag} {elts : List Expr} {kk : Nat} {tpos : Pos} (k : Kd) (a e it : Addr) :
    Turn P w K (.Tuple elts kk tpos) (ItE K a k) [e, it] e (fun i h => (∃ old, IsEnum h e it (0 + (i : Int)) old) ∧ ItH k h it a i ∧ e ≠ it) where
  mem := List.mem_cons_self ..
  obj := fun i h ⟨⟨old, he⟩, hi, _⟩ b hb => by
    rcases List.mem_cons.mp hb with z | z
    · subst z; exact ⟨_, he, fun v q => nomatch q⟩
    · obtain rfl := List.mem_singleton.mp z; exact hi.obj
  keep := fun i h h' ⟨⟨old, he⟩, hi, ne⟩ kp => ⟨⟨old, kp e (by simp) _ he⟩, hi.keep fun o q => kp it (by simp) o q, ne⟩
  item := by
    intro X eP ew eK hc i pins s σ H E I hf ⟨⟨old, he⟩, hit, hne⟩ ⟨xs, hq, hl⟩
    subst eP ew eK
    obtain ⟨its, rv, sh⟩ := sqK_read I hq
    have f1 := hf e (by simp)
    have f2 := hf it (by simp)
    have ae : a ≠ e := src_ne I hq f1
    have ai : a ≠ it := src_ne I hq f2
    have D := drawsK (prog := X.prog) (w := X.w) (A := X.A.in1) k (I.ok.hd hc) it a ai its.toArray
    have W := WalksT.enumFrom (A := X.A) 0 D e hne (by simp [hne, Ne.symm ae]) (by simp)
    have ll := rv.length
    refine W.item i s _ E (by simp; omega) ⟨⟨old, he⟩, hit, sh⟩ fun T vals h1 tk ⟨t, x, hx, ev⟩ hT tup mid kp => ?_
    subst ev
    refine ⟨_, rfl, W.go elts kk tpos i T { s with heap := h1, toks := tk } _ E mid fun h2 st2 kp2 => ?_⟩
    have nT : T ∉ [e, it] := W.apart i T h1 mid
    obtain ⟨oT, g1, g2⟩ := id tup
    obtain ⟨xv, hxv, rx⟩ : ∃ xv, xs[i]? = some xv ∧ RelV xv x := by
      have hi : i < xs.length := hl
      obtain ⟨u, hu, ru⟩ := rv.get (List.getElem?_eq_getElem hi)
      have : x = u := by
        have e1 : its[i]? = some x := by simpa using hx
        rw [hu] at e1
        exact (Option.some.inj e1).symm
      subst this
      exact ⟨_, List.getElem?_eq_getElem hi, ru⟩
    have new : ObjOk X.prog X.w (upd H T (.tup [.int (i : Nat), xv])) h2 T (.tup [.int (i : Nat), xv]) :=
      ⟨by show 2 ≤ sizeLine; decide, [.int (0 + (i : Int)) t, x], .cons ⟨_, by rw [Int.zero_add]⟩ (.cons rx .nil), ⟨oT, kp2 T oT nT g1, g2⟩⟩
    have I2 : Inv X pins σ (upd H T (.tup [.int (i : Nat), xv])) { s with heap := h2, toks := tk } :=
      I.turnedNew (ch := [e, it]) (fun b ob hb q => kp2 b ob hb (kp b ob hb q)) hf hT new
    refine ⟨.ref T, _, I2, rfl, ⟨T, _, rfl, I.hok.fresh hT, rfl, xv, rfl, fun ys hy => by rw [sqK_inj I hq hy]; exact hxv⟩, ⟨?_, st2.2.1, hne⟩, fun b hb => ?_⟩
    · obtain ⟨o2, z⟩ := st2.1
      exact ⟨o2, z⟩
    · have : b ≠ T := fun z => nT (z ▸ hb)
      rw [upd_ne this]
      exact (hf b hb).1
  done := by
    intro X eP ew eK hc i pins s σ H E I hf ⟨⟨old, he⟩, hit, hne⟩ ⟨xs, hq, hl⟩
    subst eP ew eK
    obtain ⟨its, rv, sh⟩ := sqK_read I hq
    have f2 := hf it (by simp)
    have ai : a ≠ it := src_ne I hq f2
    have ll := rv.length
    have D := drawsK (prog := X.prog) (w := X.w) (A := X.A.in1) k (I.ok.hd hc) it a ai its.toArray
    have ei : i = its.toArray.size := by simp; omega
    subst ei
    refine wpAny_pyNext_enum_endD D he ⟨hit, sh⟩ fun h1 kp => ⟨rfl, ?_⟩
    obtain ⟨f0, f1, f2, f3, f4, f5⟩ := hf it (by simp)
    exact I.turned (t' := s.toks) (fun b o hb q => kp b o hb q) f0 f1 f3 f4 f5
  self := fun A i s Q E ⟨⟨_, he⟩, _⟩ h => wpAny_pyIter_enum he h
theorem at_val {xs : List V} {its : List Value} (rv : Vals xs its) {i : Nat} (hi : i < xs.length) {x : Value} (hx : its.toArray[i]? = some x) : ∃ xv, xs[i]? = some xv ∧ RelV xv x := by
  obtain ⟨u, hu, ru⟩ := rv.get (List.getElem?_eq_getElem hi)
  have e1 : its[i]? = some x := by simpa using hx
  rw [hu] at e1
  cases e1
  exact ⟨_, List.getElem?_eq_getElem hi, ru⟩

/-! ### zip of two, of three -/
def ItZ2 (K : PySem.W.Frag) (a1 a2 : Addr) (k1 k2 : Kd) : It :=
  ItZ (fun i H => goK K a1 k1 i H ∧ goK K a2 k2 i H) (fun i H ws => ∃ x y, ws = [x, y] ∧ At K a1 k1 i H x ∧ At K a2 k2 i H y)
    (fun i H => ∃ xs ys, SqK K H a1 xs k1 ∧ SqK K H a2 ys k2 ∧ i = min xs.length ys.length)
structure Z2 (z TI TO i1 i2 : Addr) : Prop where
  d1 : TI ≠ z
  d2 : TO ≠ z
  d3 : TI ≠ TO
  d4 : TI ≠ i1
  d5 : TI ≠ i2
  d6 : z ≠ i1
  d7 : z ≠ i2
  d8 : TO ≠ i1
  d9 : TO ≠ i2
  d10 : i1 ≠ i2
theorem turn_zip2 {P : Program} {w : World} {K : PySem.W.Frag} {elts : List Expr} {kk : Nat} {tpos : Pos} (k1 k2 : Kd) (a1 a2 z TI TO i1 i2 : Addr) (Z : Z2 z TI TO i1 i2) :
    Turn P w K (.Tuple elts kk tpos) (ItZ2 K a1 a2 k1 k2) [z, TI, TO, i1, i2] z
      (fun i h => IsZip h z TI TO .none ∧ IsTupOf2 h TI (.ref i1) (.ref i2) ∧ (∃ b1 b2, IsTupOf2 h TO b1 b2) ∧ ItH k1 h i1 a1 i ∧ ItH k2 h i2 a2 i) where
  mem := List.mem_cons_self ..
  obj := fun i h ⟨hz, hTI, ⟨b1, b2, hTO⟩, h1, h2⟩ b hb => by
    have hb : b = z ∨ b = TI ∨ b = TO ∨ b = i1 ∨ b = i2 := by simpa using hb
    rcases hb with rfl | rfl | rfl | rfl | rfl
    · exact ⟨_, hz, fun v q => nomatch q⟩
    · exact ⟨_, hTI, fun v q => nomatch q⟩
    · exact ⟨_, hTO, fun v q => nomatch q⟩
    · exact h1.obj
    · exact h2.obj
  keep := fun i h h' ⟨hz, hTI, ⟨b1, b2, hTO⟩, h1, h2⟩ kp =>
    ⟨kp z (by simp) _ hz, kp TI (by simp) _ hTI, ⟨b1, b2, kp TO (by simp) _ hTO⟩, h1.keep fun o q => kp i1 (by simp) o q, h2.keep fun o q => kp i2 (by simp) o q⟩
  item := by
    intro X eP ew eK hc i pins s σ H E I hf ⟨hz, hTI, hTO, h1, h2⟩ ⟨⟨xs, hq, hl⟩, ys, hq2, hl2⟩
    subst eP ew eK
    obtain ⟨its, rv, sh⟩ := sqK_read I hq
    obtain ⟨its2, rv2, sh2⟩ := sqK_read I hq2
    have fne : ∀ b ∈ [z, TI, TO, i1, i2], a1 ≠ b ∧ a2 ≠ b := fun b hb => ⟨src_ne I hq (hf b hb), src_ne I hq2 (hf b hb)⟩
    have g1 := fne z (by simp); have g2 := fne TI (by simp); have g3 := fne TO (by simp); have g4 := fne i1 (by simp); have g5 := fne i2 (by simp)
    have D1 := drawsK (prog := X.prog) (w := X.w) (A := X.A.in1) k1 (I.ok.hd hc) i1 a1 g4.1 its.toArray
    have D2 := drawsK (prog := X.prog) (w := X.w) (A := X.A.in1) k2 (I.ok.hd hc) i2 a2 g5.2 its2.toArray
    have SP : ZipSep2 z TI TO i1 i2 [i1, a1] [i2, a2] := by
      refine ⟨Z.d1, Z.d2, Z.d3, Z.d4, by simp, ?_, ?_, Z.d5, by simp, ?_, ?_, ?_, ?_⟩
      · simp [Z.d6, g1.1.symm]
      · simp [Z.d8, g3.1.symm]
      · simp [Z.d7, g1.2.symm]
      · simp [Z.d9, g3.2.symm]
      · simp [Z.d10, g4.2.symm]
      · simp [Z.d10.symm, g5.1.symm]
    have W := WalksT.zipD2 (A := X.A) SP D1 D2
    have ll := rv.length
    have ll2 := rv2.length
    refine W.item i s _ E (by simp; omega) ⟨hz, hTI, hTO, ⟨h1, sh⟩, h2, sh2⟩ fun T vals g tk ⟨x, y, hx, hy, ev⟩ hT tup mid kp => ?_
    subst ev
    refine ⟨_, rfl, W.go elts kk tpos i T { s with heap := g, toks := tk } _ E mid fun h' st2 kp2 => ?_⟩
    have nT : T ∉ [z, TO, i1, i2] := W.apart i T g mid
    obtain ⟨oT, q1, q2⟩ := id tup
    obtain ⟨xv, hxv, rx⟩ := at_val rv hl hx
    obtain ⟨yv, hyv, ry⟩ := at_val rv2 hl2 hy
    have new : ObjOk X.prog X.w (upd H T (.tup [xv, yv])) h' T (.tup [xv, yv]) :=
      ⟨by show 2 ≤ sizeLine; decide, [x, y], .cons rx (.cons ry .nil), ⟨oT, kp2 T oT nT q1, q2⟩⟩
    have hf' : ∀ b ∈ [z, TO, i1, i2], FpOk X pins H b := fun b hb => hf b (by
      simp only [List.mem_cons] at hb ⊢
      rcases hb with e | e | e | e | e
      · exact .inl e
      · exact .inr (.inr (.inl e))
      · exact .inr (.inr (.inr (.inl e)))
      · exact .inr (.inr (.inr (.inr (.inl e))))
      · cases e)
    have I2 : Inv X pins σ (upd H T (.tup [xv, yv])) { s with heap := h', toks := tk } :=
      I.turnedNew (ch := [z, TO, i1, i2]) (fun b ob hb q => kp2 b ob hb (kp b ob hb q)) hf' hT new
    refine ⟨.ref T, _, I2, rfl, ⟨T, _, rfl, I.hok.fresh hT, rfl, xv, yv, rfl, fun zs hy => by rw [sqK_inj I hq hy]; exact hxv, fun zs hy => by rw [sqK_inj I hq2 hy]; exact hyv⟩,
      ⟨st2.1, st2.2.1, st2.2.2.1, st2.2.2.2.1.1, st2.2.2.2.2.1⟩, fun b hb => ?_⟩
    have lt : b < s.heap.objs.size := by
      have hb : b = z ∨ b = TI ∨ b = TO ∨ b = i1 ∨ b = i2 := by simpa using hb
      obtain ⟨b1, b2, hTO⟩ := hTO
      rcases hb with rfl | rfl | rfl | rfl | rfl
      · exact Heap.lt_size hz
      · exact Heap.lt_size hTI
      · exact Heap.lt_size hTO
      · exact h1.lt
      · exact h2.lt
    rw [upd_ne (Nat.ne_of_lt (Nat.lt_of_lt_of_le lt hT))]
    exact (hf b hb).1
  done := by
    intro X eP ew eK hc i pins s σ H E I hf ⟨hz, hTI, hTO, h1, h2⟩ ⟨xs, ys, hq, hq2, hl⟩
    subst eP ew eK
    obtain ⟨its, rv, sh⟩ := sqK_read I hq
    obtain ⟨its2, rv2, sh2⟩ := sqK_read I hq2
    have fne : ∀ b ∈ [z, TI, TO, i1, i2], a1 ≠ b ∧ a2 ≠ b := fun b hb => ⟨src_ne I hq (hf b hb), src_ne I hq2 (hf b hb)⟩
    have g1 := fne z (by simp); have g2 := fne TI (by simp); have g3 := fne TO (by simp); have g4 := fne i1 (by simp); have g5 := fne i2 (by simp)
    have D1 := drawsK (prog := X.prog) (w := X.w) (A := X.A.in1) k1 (I.ok.hd hc) i1 a1 g4.1 its.toArray
    have D2 := drawsK (prog := X.prog) (w := X.w) (A := X.A.in1) k2 (I.ok.hd hc) i2 a2 g5.2 its2.toArray
    have SP : ZipSep2 z TI TO i1 i2 [i1, a1] [i2, a2] := by
      refine ⟨Z.d1, Z.d2, Z.d3, Z.d4, by simp, ?_, ?_, Z.d5, by simp, ?_, ?_, ?_, ?_⟩
      · simp [Z.d6, g1.1.symm]
      · simp [Z.d8, g3.1.symm]
      · simp [Z.d7, g1.2.symm]
      · simp [Z.d9, g3.2.symm]
      · simp [Z.d10, g4.2.symm]
      · simp [Z.d10.symm, g5.1.symm]
    have W := WalksT.zipD2 (A := X.A) SP D1 D2
    have ll := rv.length
    have ll2 := rv2.length
    have ei : i = min its.toArray.size its2.toArray.size := by simp; omega
    subst ei
    refine W.done s _ E ⟨hz, hTI, hTO, ⟨h1, sh⟩, h2, sh2⟩ fun h' tk kp => ⟨rfl, ?_⟩
    have hf' : ∀ b ∈ [z, TO, i1, i2], FpOk X pins H b := fun b hb => hf b (by
      simp only [List.mem_cons] at hb ⊢
      rcases hb with e | e | e | e | e
      · exact .inl e
      · exact .inr (.inr (.inl e))
      · exact .inr (.inr (.inr (.inl e)))
      · exact .inr (.inr (.inr (.inr (.inl e))))
      · cases e)
    exact turnedMany I kp hf'
  self := fun A i s Q E ⟨hz, _⟩ h => wpAny_pyIter_zip hz h

/-! ### three at once -/
def ItZ3 (K : PySem.W.Frag) (a1 a2 a3 : Addr) (k1 k2 k3 : Kd) : It :=
  ItZ (fun i H => goK K a1 k1 i H ∧ goK K a2 k2 i H ∧ goK K a3 k3 i H) (fun i H ws => ∃ x y u, ws = [x, y, u] ∧ At K a1 k1 i H x ∧ At K a2 k2 i H y ∧ At K a3 k3 i H u)
    (fun i H => ∃ xs ys us, SqK K H a1 xs k1 ∧ SqK K H a2 ys k2 ∧ SqK K H a3 us k3 ∧ i = min (min xs.length ys.length) us.length)
structure Z3 (z TI TO i1 i2 i3 : Addr) : Prop where
  d1 : TI ≠ z
  d2 : TO ≠ z
  d3 : TI ≠ TO
  d4 : TI ≠ i1
  d5 : TI ≠ i2
  d5c : TI ≠ i3
  d6 : z ≠ i1
  d7 : z ≠ i2
  d7c : z ≠ i3
  d8 : TO ≠ i1
  d9 : TO ≠ i2
  d9c : TO ≠ i3
  d10 : i1 ≠ i2
  d11 : i1 ≠ i3
  d12 : i2 ≠ i3
theorem sep3 {X : Cx} {pins : List (Addr × Obj)} {σ : St} {H : Hp} {s : Shared} {a1 a2 a3 z TI TO i1 i2 i3 : Addr} {xs ys us : List V} {k1 k2 k3 : Kd} (I : Inv X pins σ H s) (Z : Z3 z TI TO i1 i2 i3)
    (h1 : SqK X.K H a1 xs k1) (h2 : SqK X.K H a2 ys k2) (h3 : SqK X.K H a3 us k3) (hf : ∀ b ∈ [z, TI, TO, i1, i2, i3], FpOk X pins H b) : ZipSep3 z TI TO i1 i2 i3 [i1, a1] [i2, a2] [i3, a3] ∧ a1 ≠ i1 ∧ a2 ≠ i2 ∧ a3 ≠ i3 := by
  have fne : ∀ b ∈ [z, TI, TO, i1, i2, i3], a1 ≠ b ∧ a2 ≠ b ∧ a3 ≠ b := fun b hb => ⟨src_ne I h1 (hf b hb), src_ne I h2 (hf b hb), src_ne I h3 (hf b hb)⟩
  have g1 := fne z (by simp); have g3 := fne TO (by simp); have g4 := fne i1 (by simp); have g5 := fne i2 (by simp); have g6 := fne i3 (by simp)
  refine ⟨⟨Z.d1, Z.d2, Z.d3, Z.d4, by simp, ?_, ?_, Z.d5, by simp, ?_, ?_, Z.d5c, by simp, ?_, ?_, ?_, ?_, ?_, ?_, ?_, ?_⟩, g4.1, g5.2.1, g6.2.2⟩
  · simp [Z.d6, g1.1.symm]
  · simp [Z.d8, g3.1.symm]
  · simp [Z.d7, g1.2.1.symm]
  · simp [Z.d9, g3.2.1.symm]
  · simp [Z.d7c, g1.2.2.symm]
  · simp [Z.d9c, g3.2.2.symm]
  · simp [Z.d10, g4.2.1.symm]
  · simp [Z.d11, g4.2.2.symm]
  · simp [Z.d10.symm, g5.1.symm]
  · simp [Z.d12, g5.2.2.symm]
  · simp [Z.d11.symm, g6.1.symm]
  · simp [Z.d12.symm, g6.2.1.symm]
theorem sub5 {α : Type} {z TI TO i1 i2 i3 : α} {P : α → Prop} (h : ∀ b ∈ [z, TI, TO, i1, i2, i3], P b) : ∀ b ∈ [z, TO, i1, i2, i3], P b := fun b hb => h b (by
  simp only [List.mem_cons] at hb ⊢
  rcases hb with e | e | e | e | e | e
  · exact .inl e
  · exact .inr (.inr (.inl e))
  · exact .inr (.inr (.inr (.inl e)))
  · exact .inr (.inr (.inr (.inr (.inl e))))
  · exact .inr (.inr (.inr (.inr (.inr (.inl e)))))
  · cases e)
theorem turn_zip3 {P : Program} {w : World} {K : PySem.W.Frag} {elts : List Expr} {kk : Nat} {tpos : Pos} (k1 k2 k3 : Kd) (a1 a2 a3 z TI TO i1 i2 i3 : Addr) (Z : Z3 z TI TO i1 i2 i3) :
    Turn P w K (.Tuple elts kk tpos) (ItZ3 K a1 a2 a3 k1 k2 k3) [z, TI, TO, i1, i2, i3] z
      (fun i h => IsZip h z TI TO .none ∧ IsTupOf3 h TI (.ref i1) (.ref i2) (.ref i3) ∧ (∃ b1 b2 b3, IsTupOf3 h TO b1 b2 b3) ∧ ItH k1 h i1 a1 i ∧ ItH k2 h i2 a2 i ∧ ItH k3 h i3 a3 i) where
  mem := List.mem_cons_self ..
  obj := fun i h ⟨hz, hTI, ⟨b1, b2, b3, hTO⟩, h1, h2, h3⟩ b hb => by
    have hb : b = z ∨ b = TI ∨ b = TO ∨ b = i1 ∨ b = i2 ∨ b = i3 := by simpa using hb
    rcases hb with rfl | rfl | rfl | rfl | rfl | rfl
    · exact ⟨_, hz, fun v q => nomatch q⟩
    · exact ⟨_, hTI, fun v q => nomatch q⟩
    · exact ⟨_, hTO, fun v q => nomatch q⟩
    · exact h1.obj
    · exact h2.obj
    · exact h3.obj
  keep := fun i h h' ⟨hz, hTI, ⟨b1, b2, b3, hTO⟩, h1, h2, h3⟩ kp =>
    ⟨kp z (by simp) _ hz, kp TI (by simp) _ hTI, ⟨b1, b2, b3, kp TO (by simp) _ hTO⟩, h1.keep fun o q => kp i1 (by simp) o q, h2.keep fun o q => kp i2 (by simp) o q, h3.keep fun o q => kp i3 (by simp) o q⟩
  item := by
    intro X eP ew eK hc i pins s σ H E I hf ⟨hz, hTI, hTO, h1, h2, h3⟩ ⟨⟨xs, hq, hl⟩, ⟨ys, hq2, hl2⟩, us, hq3, hl3⟩
    subst eP ew eK
    obtain ⟨its, rv, sh⟩ := sqK_read I hq
    obtain ⟨its2, rv2, sh2⟩ := sqK_read I hq2
    obtain ⟨its3, rv3, sh3⟩ := sqK_read I hq3
    obtain ⟨SP, n1, n2, n3⟩ := sep3 I Z hq hq2 hq3 hf
    have D1 := drawsK (prog := X.prog) (w := X.w) (A := X.A.in1) k1 (I.ok.hd hc) i1 a1 n1 its.toArray
    have D2 := drawsK (prog := X.prog) (w := X.w) (A := X.A.in1) k2 (I.ok.hd hc) i2 a2 n2 its2.toArray
    have D3 := drawsK (prog := X.prog) (w := X.w) (A := X.A.in1) k3 (I.ok.hd hc) i3 a3 n3 its3.toArray
    have W := WalksT.zipD3 (A := X.A) SP D1 D2 D3
    have ll := rv.length
    have ll2 := rv2.length
    have ll3 := rv3.length
    refine W.item i s _ E (by simp; omega) ⟨hz, hTI, hTO, ⟨h1, sh⟩, ⟨h2, sh2⟩, h3, sh3⟩ fun T vals g tk ⟨x, y, u, hx, hy, hu, ev⟩ hT tup mid kp => ?_
    subst ev
    refine ⟨_, rfl, W.go elts kk tpos i T { s with heap := g, toks := tk } _ E mid fun h' st2 kp2 => ?_⟩
    have nT : T ∉ [z, TO, i1, i2, i3] := W.apart i T g mid
    obtain ⟨oT, q1, q2⟩ := id tup
    obtain ⟨xv, hxv, rx⟩ := at_val rv hl hx
    obtain ⟨yv, hyv, ry⟩ := at_val rv2 hl2 hy
    obtain ⟨uv, huv, ru⟩ := at_val rv3 hl3 hu
    have new : ObjOk X.prog X.w (upd H T (.tup [xv, yv, uv])) h' T (.tup [xv, yv, uv]) :=
      ⟨by show 3 ≤ sizeLine; decide, [x, y, u], .cons rx (.cons ry (.cons ru .nil)), ⟨oT, kp2 T oT nT q1, q2⟩⟩
    have I2 : Inv X pins σ (upd H T (.tup [xv, yv, uv])) { s with heap := h', toks := tk } :=
      I.turnedNew (ch := [z, TO, i1, i2, i3]) (fun b ob hb q => kp2 b ob hb (kp b ob hb q)) (sub5 hf) hT new
    refine ⟨.ref T, _, I2, rfl, ⟨T, _, rfl, I.hok.fresh hT, rfl, xv, yv, uv, rfl, fun zs hy => by rw [sqK_inj I hq hy]; exact hxv, fun zs hy => by rw [sqK_inj I hq2 hy]; exact hyv, fun zs hy => by rw [sqK_inj I hq3 hy]; exact huv⟩,
      ⟨st2.1, st2.2.1, st2.2.2.1, st2.2.2.2.1.1, st2.2.2.2.2.1.1, st2.2.2.2.2.2.1⟩, fun b hb => ?_⟩
    have lt : b < s.heap.objs.size := by
      have hb : b = z ∨ b = TI ∨ b = TO ∨ b = i1 ∨ b = i2 ∨ b = i3 := by simpa using hb
      obtain ⟨b1, b2, b3, hTO⟩ := hTO
      rcases hb with rfl | rfl | rfl | rfl | rfl | rfl
      · exact Heap.lt_size hz
      · exact Heap.lt_size hTI
      · exact Heap.lt_size hTO
      · exact h1.lt
      · exact h2.lt
      · exact h3.lt
    rw [upd_ne (Nat.ne_of_lt (Nat.lt_of_lt_of_le lt hT))]
    exact (hf b hb).1
  done := by
    intro X eP ew eK hc i pins s σ H E I hf ⟨hz, hTI, hTO, h1, h2, h3⟩ ⟨xs, ys, us, hq, hq2, hq3, hl⟩
    subst eP ew eK
    obtain ⟨its, rv, sh⟩ := sqK_read I hq
    obtain ⟨its2, rv2, sh2⟩ := sqK_read I hq2
    obtain ⟨its3, rv3, sh3⟩ := sqK_read I hq3
    obtain ⟨SP, n1, n2, n3⟩ := sep3 I Z hq hq2 hq3 hf
    have D1 := drawsK (prog := X.prog) (w := X.w) (A := X.A.in1) k1 (I.ok.hd hc) i1 a1 n1 its.toArray
    have D2 := drawsK (prog := X.prog) (w := X.w) (A := X.A.in1) k2 (I.ok.hd hc) i2 a2 n2 its2.toArray
    have D3 := drawsK (prog := X.prog) (w := X.w) (A := X.A.in1) k3 (I.ok.hd hc) i3 a3 n3 its3.toArray
    have W := WalksT.zipD3 (A := X.A) SP D1 D2 D3
    have ll := rv.length
    have ll2 := rv2.length
    have ll3 := rv3.length
    have ei : i = min (min its.toArray.size its2.toArray.size) its3.toArray.size := by simp; omega
    subst ei
    exact W.done s _ E ⟨hz, hTI, hTO, ⟨h1, sh⟩, ⟨h2, sh2⟩, h3, sh3⟩ fun h' tk kp => ⟨rfl, turnedMany I kp (sub5 hf)⟩
  self := fun A i s Q E ⟨hz, _⟩ h => wpAny_pyIter_zip hz h

/-! ### their beginnings -/
theorem zz2 (n : Nat) : Z2 (n + 4) (n + 2) (n + 3) n (n + 1) := by constructor <;> (show (_ : Nat) ≠ (_ : Nat); omega)
theorem zz3 (n : Nat) : Z3 (n + 5) (n + 3) (n + 4) n (n + 1) (n + 2) := by constructor <;> (show (_ : Nat) ≠ (_ : Nat); omega)
theorem le2 (n b : Nat) (h : b ∈ [n + 1, n]) : n ≤ b := by
  simp only [List.mem_cons, List.not_mem_nil, or_false] at h
  omega
theorem le5 (n b : Nat) (h : b ∈ [n + 4, n + 2, n + 3, n, n + 1]) : n ≤ b := by
  simp only [List.mem_cons, List.not_mem_nil, or_false] at h
  omega
theorem le6 (n b : Nat) (h : b ∈ [n + 5, n + 3, n + 4, n, n + 1, n + 2]) : n ≤ b := by
  simp only [List.mem_cons, List.not_mem_nil, or_false] at h
  omega
theorem meets_enum1 {v : Value} {o : Obj} {Hh : Heap → Prop} (B : Begins v o Hh) :
    Meets (Builtin.«enumerate.__new__» ⟨[.type "enumerate", v], []⟩) (fun _ R s => Hh s.heap ∧ R (.ok (.ret (.ref (s.heap.push o).objs.size)))
      { s with heap := (s.heap.push o).push { cls := .type "enumerate", data := .fields #[.none, .bool false, .ref s.heap.objs.size, rawInt 0, .none, .none] } }) :=
  .of_wp fun prog w A R s h => by
    obtain ⟨hp, g, d, tk, os⟩ := s
    obtain ⟨hB, hR⟩ := h
    have hs := sub_enumerate
    have it : ∀ {A' : Around} {E : Value → Shared → Prop} {Q : Value → Shared → Prop}, Q (.ref hp.objs.size) ⟨hp.push o, g, d, tk, os⟩ → wpAny (model prog w) A' (pyIter v) Q E ⟨hp, g, d, tk, os⟩ :=
      fun q => B.iter prog w _ _ ⟨hp, g, d, tk, os⟩ _ hB q
    wp_walk using it
    refine wpAny_stack_any fun st => wpAny_pure ?_
    split
    · rename_i c _ _ _ _ _
      cases (c == Value.type "enumerate")
      · wp_walk using it
        exact ⟨_, rfl, hR⟩
      · wp_walk using it
        exact ⟨_, rfl, hR⟩
    · wp_walk using it
      exact ⟨_, rfl, hR⟩
theorem enum1 {prog : Program} {w : World} {A : Around} {E : Value → Shared → Prop} {s : Shared} {v : Value} {o : Obj} {Hh : Heap → Prop} {Q : Value → Shared → Prop} (B : Begins v o Hh) (hB : Hh s.heap)
    (h : ∀ h', IsEnum h' (s.heap.objs.size + 1) s.heap.objs.size 0 .none → h'.get? s.heap.objs.size = some o → (∀ b ob, s.heap.get? b = some ob → h'.get? b = some ob) → Q (.ref (s.heap.objs.size + 1)) { s with heap := h' }) :
    wpAny (model prog w) A (call (.type "enumerate") [v]) Q E s := by
  refine callType_new F.called_enumerate (by decide) (F.typeCall_enumerate_1 _) (F.newCall_enumerate_1 _) (fun obj => F.args_object_init_2 obj _) F.entry_enumerate_new (meets_enum1 B) ⟨hB, ?_⟩
  have sz : (s.heap.push o).objs.size = s.heap.objs.size + 1 := Heap.size_push ..
  show _ ∧ _
  rw [sz]
  have en : IsEnum ((s.heap.push o).push { cls := .type "enumerate", data := .fields #[.none, .bool false, .ref s.heap.objs.size, rawInt 0, .none, .none] }) (s.heap.objs.size + 1) s.heap.objs.size 0 .none := by
    have q := Heap.get?_push_size (s.heap.push o) (o := { cls := .type "enumerate", data := .fields #[.none, .bool false, .ref s.heap.objs.size, rawInt 0, .none, .none] }) rfl
    rw [sz] at q
    exact q
  exact ⟨⟨_, en, rfl⟩, h _ en (Heap.get?_push_of_some _ (Heap.get?_push_size _ B.free)) fun b ob x => Heap.get?_push_of_some _ (Heap.get?_push_of_some _ x)⟩
section
variable {X : Cx} {e e2 e3 : Expr} {ta : TA} {p pos tpos : Pos} {elts : List Expr} {kk : Nat}
def iEnumK (K : PySem.W.Frag) (ta : TA) : TI := fun σ H R => ta σ H fun vs H1 => ∃ a k, vs = [.ref a] ∧ hasK K a k H1 ∧ R (ItE K a k) H1
theorem pi_enumK (hg : Gl X "enumerate") (hm : X.mg "enumerate" = none) (ha : PA X [e] ta) (hs : starEach [e] X.env = [(false, eval e X.env)] := by rfl) :
    PI X (.Tuple elts kk tpos) (.Call (.Name "enumerate" p) [e] [] pos) (iEnumK X.K ta) := by
  refine ⟨fun pins s σ H R I h => ?_⟩
  refine PyProof.Rows.Call_ (ld_blt I hg hm PyProof.Rows.boot_enumerate (PyProof.Rows.callWith_type1 (thn (ha.run pos pins s σ H _ I h) fun us s1 ⟨vs, H1, I1, r1, q1⟩ => ?_) hs rfl))
  obtain ⟨a, k, ex, ⟨xs, hq⟩, q⟩ := q1
  subst ex
  obtain ⟨u, rfl, ru⟩ : ∃ u, us = [u] ∧ RelV (.ref a) u := by
    cases r1 with
    | cons r rr => cases rr; exact ⟨_, rfl, r⟩
  cases ru
  obtain ⟨its, rv, sh⟩ := sqK_read I1 hq
  refine enum1 (beginsK k a its.toArray) sh fun h' he hit hk => wpAny_pyIter_enum he ?_
  have I2 : Inv X pins σ H1 { s1 with heap := h' } := I1.kept (t' := s1.toks) hk
  refine ⟨s1.heap.objs.size + 1, [s1.heap.objs.size + 1, s1.heap.objs.size], _, _, H1, rfl, I2, turn_enumK k a (s1.heap.objs.size + 1) s1.heap.objs.size, ⟨⟨.none, he⟩, .zero hit, Nat.succ_ne_self _⟩, fun b hb => ?_, q⟩
  have hle : s1.heap.objs.size ≤ b := le2 _ _ hb
  exact I1.fpOk hle (I1.hok.fresh hle)
def iZip2 (K : PySem.W.Frag) (ta : TA) : TI := fun σ H R => ta σ H fun vs H1 => ∃ a b k l, vs = [.ref a, .ref b] ∧ hasK K a k H1 ∧ hasK K b l H1 ∧ R (ItZ2 K a b k l) H1
theorem pi_zip2 (hg : Gl X "zip") (hm : X.mg "zip" = none) (ha : PA X [e, e2] ta)
    (hs : starEach [e, e2] X.env = (false, eval e X.env) :: starEach [e2] X.env := by rfl) (hpl : (backTo pos (starEach [e2] X.env)).any (·.1) = false := by rfl) :
    PI X (.Tuple elts kk tpos) (.Call (.Name "zip" p) [e, e2] [] pos) (iZip2 X.K ta) := by
  refine ⟨fun pins s σ H R I h => ?_⟩
  refine PyProof.Rows.Call_ (ld_blt I hg hm PyProof.Rows.boot_zip (PyProof.Rows.callWith_type1 (thn (ha.run pos pins s σ H _ I h) fun us s1 ⟨vs, H1, I1, r1, q1⟩ => ?_) hs hpl))
  obtain ⟨a, b, k, l, ex, ⟨xs, hq⟩, ⟨ys, hq2⟩, q⟩ := q1
  subst ex
  obtain ⟨u1, u2, rfl, ru1, ru2⟩ : ∃ u v, us = [u, v] ∧ RelV (.ref a) u ∧ RelV (.ref b) v := by
    cases r1 with
    | cons r rr =>
      cases rr with
      | cons r2 rr => cases rr; exact ⟨_, _, rfl, r, r2⟩
  cases ru1
  cases ru2
  obtain ⟨its, rv, sh⟩ := sqK_read I1 hq
  obtain ⟨its2, rv2, sh2⟩ := sqK_read I1 hq2
  refine zip_begins2 (beginsK k a its.toArray) (beginsK l b its2.toArray) sh sh2 fun h' hz hTI hTO h1 h2 hsz hk => wpAny_pyIter_zip hz ?_
  have I2 : Inv X pins σ H1 { s1 with heap := h' } := I1.kept (t' := s1.toks) hk
  refine ⟨s1.heap.objs.size + 4, [s1.heap.objs.size + 4, s1.heap.objs.size + 2, s1.heap.objs.size + 3, s1.heap.objs.size, s1.heap.objs.size + 1], _, _, H1, rfl, I2, turn_zip2 k l a b _ _ _ _ _ (zz2 s1.heap.objs.size), ⟨hz, hTI, ⟨_, _, hTO⟩, .zero h1, .zero h2⟩, fun b hb => ?_, q⟩
  have hle : s1.heap.objs.size ≤ b := le5 _ _ hb
  exact I1.fpOk hle (I1.hok.fresh hle)
def iZip3 (K : PySem.W.Frag) (ta : TA) : TI := fun σ H R => ta σ H fun vs H1 => ∃ a b c k l m, vs = [.ref a, .ref b, .ref c] ∧ hasK K a k H1 ∧ hasK K b l H1 ∧ hasK K c m H1 ∧ R (ItZ3 K a b c k l m) H1
theorem pi_zip3 (hg : Gl X "zip") (hm : X.mg "zip" = none) (ha : PA X [e, e2, e3] ta)
    (hs : starEach [e, e2, e3] X.env = (false, eval e X.env) :: starEach [e2, e3] X.env := by rfl) (hpl : (backTo pos (starEach [e2, e3] X.env)).any (·.1) = false := by rfl) :
    PI X (.Tuple elts kk tpos) (.Call (.Name "zip" p) [e, e2, e3] [] pos) (iZip3 X.K ta) := by
  refine ⟨fun pins s σ H R I h => ?_⟩
  refine PyProof.Rows.Call_ (ld_blt I hg hm PyProof.Rows.boot_zip (PyProof.Rows.callWith_type1 (thn (ha.run pos pins s σ H _ I h) fun us s1 ⟨vs, H1, I1, r1, q1⟩ => ?_) hs hpl))
  obtain ⟨a, b, c, k, l, m, ex, ⟨xs, hq⟩, ⟨ys, hq2⟩, ⟨zs, hq3⟩, q⟩ := q1
  subst ex
  obtain ⟨u1, u2, u3, rfl, ru1, ru2, ru3⟩ : ∃ u v w, us = [u, v, w] ∧ RelV (.ref a) u ∧ RelV (.ref b) v ∧ RelV (.ref c) w := by
    cases r1 with
    | cons r rr =>
      cases rr with
      | cons r2 rr =>
        cases rr with
        | cons r3 rr => cases rr; exact ⟨_, _, _, rfl, r, r2, r3⟩
  cases ru1
  cases ru2
  cases ru3
  obtain ⟨its, rv, sh⟩ := sqK_read I1 hq
  obtain ⟨its2, rv2, sh2⟩ := sqK_read I1 hq2
  obtain ⟨its3, rv3, sh3⟩ := sqK_read I1 hq3
  refine zip_begins3 (beginsK k a its.toArray) (beginsK l b its2.toArray) (beginsK m c its3.toArray) sh sh2 sh3 fun h' hz hTI hTO h1 h2 h3 hsz hk => wpAny_pyIter_zip hz ?_
  have I2 : Inv X pins σ H1 { s1 with heap := h' } := I1.kept (t' := s1.toks) hk
  refine ⟨s1.heap.objs.size + 5, [s1.heap.objs.size + 5, s1.heap.objs.size + 3, s1.heap.objs.size + 4, s1.heap.objs.size, s1.heap.objs.size + 1, s1.heap.objs.size + 2], _, _, H1, rfl, I2, turn_zip3 k l m a b c _ _ _ _ _ _ (zz3 s1.heap.objs.size), ⟨hz, hTI, ⟨_, _, _, hTO⟩, .zero h1, .zero h2, .zero h3⟩, fun b hb => ?_, q⟩
  have hle : s1.heap.objs.size ≤ b := le6 _ _ hb
  exact I1.fpOk hle (I1.hok.fresh hle)
end
end Sx

set_option Elab.async false
set_option linter.all false
set_option maxRecDepth 100000
set_option maxHeartbeats 4000000
/-! Sx5: subscripts, slices, calls of built-ins. -/
namespace Sx
open PySem L2

/-! ### subscripts -/
def okO (r : Ro) : Option M → R EV
  | some m => .ok (.fr m) r
  | none => .bad
def ixR (a b : EV) (r : Ro) : Option Cont → R EV
  | some (.di kvs) => match intOf b with
    | some i => okO r (findI kvs i)
    | none => .bad
  | some (.dt kvs) => match keyE b with
    | some k => okO r (findT kvs k)
    | none => .bad
  | _ => match seqOf r a, intOf b with
    | some (_, xs), some i => match atI xs i with
      | some m => .ok (.fr m) r
      | none => .bad
    | _, _ => .bad
def gIx (a b : EV) : Ev EV := fun r => ixR a b r (boxOf r a)
section
variable {K : PySem.W.Frag} {A A' : Addr → Prop} {r r1 r2 : Ro} {G G1 G2 : Hp} {σ σ1 σ2 : St} {H H1 H2 : Hp} {mg : Str → Option Value} {W : W4}
theorem atI_rep {xs : List M} {vs : List V} {i : Int} {m : M} (rl : RepL K G xs vs) (e : atI xs i = some m) : ∃ v, atI vs i = some v ∧ Rep K G m v := by
  unfold atI at e ⊢
  rw [← rl.len]
  cases q : ixN xs.length i with
  | none => rw [q] at e; cases e
  | some j => rw [q] at e; exact rl.at e
end
section
variable {X : Cx} {W : W4} {a b e : Expr} {es : List Expr} {pos : Pos} {fa fb : Ev EV}
theorem imp_ix : Imp2 X W (fun x y H Q => (rIxL X.K x y H Q ∨ rIxT X.K x y H Q) ∨ (rIxD X.K x y H Q ∨ rIxI x y H Q)) gIx := by
  intro A r G σ H ex ey x y Q S hA rx ry h
  have h : Post (rpE X.K σ) X.K X.mg W A r G σ H Q (ixR ex ey r (boxOf r ex)) := h
  have seq : Post (rpE X.K σ) X.K X.mg W A r G σ H Q (match seqOf r ex, intOf ey with
    | some (_, xs), some i => match atI xs i with
      | some m => R.ok (.fr m) r
      | none => .bad
    | _, _ => .bad) → rIxL X.K x y H Q ∨ rIxT X.K x y H Q := fun h => by
    split at h
    · rename_i k xs i e1 e2
      obtain ⟨p, vs, rfl, s, rl⟩ := seq_ok S rx.wk e1
      cases q : atI xs i with
      | none => rw [q] at h; exact h.elim
      | some m =>
        rw [q] at h
        obtain ⟨v, hv, rp⟩ := atI_rep rl q
        have hq := fin_plain S hA h rp
        cases k with
        | t => exact .inr ⟨p, vs, i, v, rfl, int_ok ry e2, s, hv, hq⟩
        | l => exact .inl ⟨p, vs, i, v, rfl, int_ok ry e2, .of s, hv, hq⟩
        | ro => exact .inl ⟨p, vs, i, v, rfl, int_ok ry e2, s, hv, hq⟩
    · exact h.elim
  cases q : boxOf r ex with
  | none => rw [q] at h; exact .inl (seq h)
  | some b =>
    rw [q] at h
    cases b with
    | l xs => exact .inl (seq h)
    | ll xs => exact .inl (seq h)
    | di kvs =>
      obtain ⟨a, rfl, x'⟩ := box_ok S rx.wk q
      obtain ⟨es, e, p, n⟩ := x'
      have h : Post (rpE X.K σ) X.K X.mg W A r G σ H Q (match intOf ey with
        | some i => okO r (findI kvs i)
        | none => .bad) := h
      cases q2 : intOf ey with
      | none => rw [q2] at h; exact h.elim
      | some i =>
        rw [q2] at h
        have h : Post (rpE X.K σ) X.K X.mg W A r G σ H Q (okO r (findI kvs i)) := h
        rcases findI_rep p (k := i) with ⟨f1, f2⟩ | ⟨m, v, f1, f2, rp⟩
        · rw [f1] at h; exact h.elim
        · rw [f1] at h
          have h : Post (rpE X.K σ) X.K X.mg W A r G σ H Q (.ok (.fr m) r) := h
          exact .inr (.inr ⟨a, es, i, v, rfl, int_ok ry q2, e, f2, fin_plain S hA h rp⟩)
    | dt kvs =>
      obtain ⟨a, rfl, x'⟩ := box_ok S rx.wk q
      obtain ⟨es, d, p⟩ := dt_ok S x'
      have h : Post (rpE X.K σ) X.K X.mg W A r G σ H Q (match keyE ey with
        | some k => okO r (findT kvs k)
        | none => .bad) := h
      cases q2 : keyE ey with
      | none => rw [q2] at h; exact h.elim
      | some k =>
        obtain ⟨m, hk, _, _⟩ := keyE_ok S ry q2
        rw [q2] at h
        have h : Post (rpE X.K σ) X.K X.mg W A r G σ H Q (okO r (findT kvs k)) := h
        cases q3 : findT kvs k with
        | none => rw [q3] at h; exact h.elim
        | some n =>
          rw [q3] at h
          have h : Post (rpE X.K σ) X.K X.mg W A r G σ H Q (.ok (.fr n) r) := h
          obtain ⟨v, f2, rp⟩ := findE_rep p q3
          exact .inr (.inl ⟨a, kvs, es, m, k, v, rfl, d, hk, f2, fin_plain S hA h rp⟩)
theorem se_ix (hu : X.A.units + 65 < cLine) (ha : SE X W a fa) (hb : SE X W b fb) (hs : PlainIx b) : SE X W (.Subscript a b pos) (v2 gIx fa fb) :=
  peW (pe_ix ((ix_list.or ix_tup).or ((ix_dictT hu).or (ix_dictI hu))) ha hb hs) fun _ _ _ h => op2_read imp_ix h

/-! ### slices -/
def partE (e : EV) : Ev (Option Int) := match intOf e with
  | some i => ret (some i)
  | none => bad
def pNone : Ev (Option Int) := ret none
def pSome (f : Ev EV) : Ev (Option Int) := bnd f partE
abbrev rpO : RP (Option Int) (Option Int) := fun _ _ _ _ a b => a = b
theorem upO : Up rpO := fun _ _ _ _ _ _ _ _ x => x
def SP (X : Cx) (W : W4) (e : Option Expr) (f : Ev (Option Int)) : Prop := PO X e (fun σ H Q => tG rpO X.K X.mg W f σ H Q)
theorem poW {e : Option Expr} {t t' : TO} (h : PO X e t) (w : ∀ σ H Q, t' σ H Q → t σ H Q) : PO X e t' := ⟨fun pins s σ H Q I q => h.run pins s σ H Q I (w σ H Q q)⟩
theorem sp_none : SP X W none pNone := poW po_none fun σ H Q ⟨r, G, S, h⟩ => h _ G H S (.refl A0.self) rfl
theorem sp_some (h : SE X W e fa) : SP X W (some e) (pSome fa) := by
  refine poW (po_some h) fun σ H Q ⟨r, G, S, h⟩ => ?_
  refine into upE S A0.self h fun ev r1 v G1 H1 S1 a1 st1 e1 h1 => ?_
  unfold partE at h1
  cases q : intOf ev with
  | none => rw [q] at h1; exact h1.elim
  | some i => rw [q] at h1; exact ⟨i, int_ok e1 q, h1 _ G1 H1 S1 (.refl a1) rfl⟩
def cutM (xs : List M) (lo hi : Option Int) : List M := (xs.drop (HT.sIx xs.length 0 lo)).take (HT.sIx xs.length xs.length hi - HT.sIx xs.length 0 lo)
def gSl (a : EV) (lo hi : Option Int) : Ev EV := fun r => match seqOf r a with
  | some (.t, xs) => .ok (.fr (.tup (cutM xs lo hi))) r
  | some (_, xs) => .ok (.tmp (cutM xs lo hi)) r
  | none => .bad
def vSl (f : Ev EV) (lo hi : Ev (Option Int)) : Ev EV := bnd f fun a => bnd lo fun l => bnd hi fun h => gSl a l h
theorem cut_rep {K : PySem.W.Frag} {G : Hp} {xs : List M} {vs : List V} {lo hi : Option Int} (rl : RepL K G xs vs) : RepL K G (cutM xs lo hi) (cutV vs lo hi) := by
  unfold cutM cutV
  rw [← rl.len]
  exact (rl.dp _).tk _
theorem se_slice {lo hi : Option Expr} {p2 : Pos} {fl fh : Ev (Option Int)} (ha : SE X W a fa) (hl : SP X W lo fl) (hh : SP X W hi fh) : SE X W (.Subscript a (.Slice lo hi none p2) pos) (vSl fa fl fh) := by
  refine peW (pe_slice (sl_list.or sl_tupA) ha hl hh) fun σ H Q ⟨r, G, S, h⟩ => ?_
  refine into upE S A0.self h fun ev r1 v G1 H1 S1 a1 st1 e1 h1 => ?_
  refine into upO S1 a1 h1 fun l r2 l' G2 H2 S2 a2 st2 e2 h2 => ?_
  subst e2
  refine into upO S2 a2 h2 fun u r3 u' G3 H3 S3 a3 st3 e3 h3 => ?_
  subst e3
  have e4 := (e1.step st2).step st3
  unfold gSl at h3
  cases q : seqOf r3 ev with
  | none => rw [q] at h3; exact h3.elim
  | some p =>
    obtain ⟨k, xs⟩ := p
    rw [q] at h3
    obtain ⟨c, vs, rfl, s, rl⟩ := seq_ok S3 e4.wk q
    cases k with
    | t =>
      refine .inr ⟨c, vs, rfl, s, fun hw => ?_, fun _ p n => fin_tup S3 a3 h3 (cut_rep rl) n⟩
      have ew : cutM xs l u = xs := by
        unfold cutM
        rw [rl.len, hw.1, hw.2, List.drop_zero, Nat.sub_zero, ← rl.len, List.take_length]
      simp only [ew] at h3
      exact fin_plain S3 a3 h3 (tup_ok S3 e4.wk q)
    | l => exact .inl ⟨c, vs, rfl, .of s, fun p n => fin_lst S3 a3 h3 (cut_rep rl) n⟩
    | ro => exact .inl ⟨c, vs, rfl, s, fun p n => fin_lst S3 a3 h3 (cut_rep rl) n⟩

/-! ### calls of built-ins -/
def ImpC (X : Cx) (W : W4) (t : List V → Hp → VK → Prop) (g : List EV → Ev EV) : Prop := ∀ (A : Addr → Prop) (r : Ro) (G : Hp) (σ : St) (H : Hp) (evs : List EV) (vs : List V) (Q : VK), Sim X.K r G σ H → (∀ b, A0 r σ H b → A b) →
  EvsRep X.K A r G σ H evs vs → Post (rpE X.K σ) X.K X.mg W A r G σ H Q (g evs r) → t vs H Q
def vC (g : List EV → Ev EV) (f : Ev (List EV)) : Ev EV := bnd f g
variable {x : Str} {p : Pos} {f : Ev (List EV)}
theorem se_callB {id : String} {t : List V → Hp → VK → Prop} {g : List EV → Ev EV} (hc : CallR X (.builtin id) t) (hi : ImpC X W t g) (hg : Gl X x) (hm : X.mg x = none) (hv : bootBuiltins x = some (.builtin id)) (ha : SA X W (e :: es) f)
    (hn : x ≠ "__name__" := by decide) (hdb : (x == ("__debug__" : Str)) = false := by decide) (he : starEach (e :: es) X.env = (false, eval e X.env) :: starEach es X.env := by rfl) (hpl : (backTo pos (starEach es X.env)).any (·.1) = false := by rfl) :
    SE X W (.Call (.Name x p) (e :: es) [] pos) (vC g f) := by
  refine peW (pe_callB hc hg hm hv ha hn hdb he hpl) fun σ H Q ⟨r, G, S, h⟩ => ?_
  exact into upL S A0.self h fun evs r1 vs G1 H1 S1 a1 st1 e1 h1 => hi _ r1 G1 σ H1 evs vs Q S1 a1 e1 h1
theorem se_callT {T : String} {t : List V → Hp → VK → Prop} {g : List EV → Ev EV} (hc : CallR X (.type T) t) (hi : ImpC X W t g) (hg : Gl X x) (hm : X.mg x = none) (hv : bootBuiltins x = some (.type T)) (ha : SA X W (e :: es) f)
    (hn : x ≠ "__name__" := by decide) (hdb : (x == ("__debug__" : Str)) = false := by decide) (he : starEach (e :: es) X.env = (false, eval e X.env) :: starEach es X.env := by rfl) (hpl : (backTo pos (starEach es X.env)).any (·.1) = false := by rfl) :
    SE X W (.Call (.Name x p) (e :: es) [] pos) (vC g f) := by
  refine peW (pe_callTy hc hg hm hv ha hn hdb he hpl) fun σ H Q ⟨r, G, S, h⟩ => ?_
  exact into upL S A0.self h fun evs r1 vs G1 H1 S1 a1 st1 e1 h1 => hi _ r1 G1 σ H1 evs vs Q S1 a1 e1 h1
/-- one argument -/
def on1 (g : EV → Ev EV) : List EV → Ev EV
  | [a] => g a
  | _ => bad
theorem evs1 {K : PySem.W.Frag} {A : Addr → Prop} {r : Ro} {G : Hp} {σ : St} {H : Hp} {evs : List EV} {vs : List V} {Q : VK} {mg : Str → Option Value} {g : EV → Ev EV} (er : EvsRep K A r G σ H evs vs) (h : Post (rpE K σ) K mg W A r G σ H Q (on1 g evs r)) :
    ∃ ev v, vs = [v] ∧ EvRep K A r G σ H ev v ∧ Post (rpE K σ) K mg W A r G σ H Q (g ev r) := by
  cases er with
  | nil => exact h.elim
  | cons e1 er2 =>
    cases er2 with
    | nil => exact ⟨_, _, rfl, e1, h⟩
    | cons _ _ => exact h.elim
def lenR (a : EV) (r : Ro) : Option Cont → R EV
  | some (.di kvs) => .ok (.fr (.int kvs.length)) r
  | some (.dt kvs) => .ok (.fr (.int kvs.length)) r
  | some (.ll xss) => .ok (.fr (.int xss.length)) r
  | _ => match seqOf r a with
    | some (_, xs) => .ok (.fr (.int xs.length)) r
    | none => .bad
def gLen (a : EV) : Ev EV := fun r => lenR a r (boxOf r a)
theorem paired_len {α β : Type} {F : α → β → Prop} : ∀ {l : List α} {m : List β}, Paired F l m → l.length = m.length
  | _, _, .nil => rfl
  | _, _, .cons _ t => by simp [paired_len t]
theorem imp_len : ImpC X W (fun xs H Q => (∃ p ys, xs = [.ref p] ∧ (SqL X.K H p ys ∨ SqT X.K H p ys) ∧ Q (.int ys.length) H) ∨ rLenD X.K xs H Q) (on1 gLen) := by
  intro A r G σ H evs vs Q S hA er h
  obtain ⟨ev, v, rfl, e1, h⟩ := evs1 er h
  have h : Post (rpE X.K σ) X.K X.mg W A r G σ H Q (lenR ev r (boxOf r ev)) := h
  have seq : Post (rpE X.K σ) X.K X.mg W A r G σ H Q (match seqOf r ev with
    | some (_, xs) => R.ok (.fr (.int xs.length)) r
    | none => .bad) → ∃ p ys, [v] = [.ref p] ∧ (SqL X.K H p ys ∨ SqT X.K H p ys) ∧ Q (.int ys.length) H := fun h => by
    cases q : seqOf r ev with
    | none => simp only [q] at h; exact h.elim
    | some pr =>
      obtain ⟨k, xs⟩ := pr
      simp only [q] at h
      obtain ⟨c, vs, rfl, s, rl⟩ := seq_ok S e1.wk q
      refine ⟨c, vs, rfl, ?_, by rw [← rl.len]; exact fin_plain S hA h rfl⟩
      cases k with
      | t => exact .inr s
      | l => exact .inl (.of s)
      | ro => exact .inl s
  cases q : boxOf r ev with
  | none => rw [q] at h; exact .inl (seq h)
  | some b =>
    rw [q] at h
    cases b with
    | l xs => exact .inl (seq h)
    | ll xss =>
      obtain ⟨a, rfl, bs, ha, _, rr⟩ := box_ok S e1.wk q
      refine .inl ⟨a, _, rfl, .inl (.of ha), ?_⟩
      rw [List.length_map, rr.len]
      exact fin_plain S hA (show Post (rpE X.K σ) X.K X.mg W A r G σ H Q (.ok (.fr (.int xss.length)) r) from h) rfl
    | di kvs =>
      obtain ⟨a, rfl, es, e, p, n⟩ := box_ok S e1.wk q
      refine .inr ⟨a, rfl, .inl ⟨es, e, ?_⟩⟩
      rw [← paired_len p]
      exact fin_plain S hA (show Post (rpE X.K σ) X.K X.mg W A r G σ H Q (.ok (.fr (.int kvs.length)) r) from h) rfl
    | dt kvs =>
      obtain ⟨a, rfl, x'⟩ := box_ok S e1.wk q
      obtain ⟨es, d, p⟩ := dt_ok S x'
      refine .inr ⟨a, rfl, .inr ⟨kvs, es, d, ?_⟩⟩
      rw [← paired_len p]
      exact fin_plain S hA (show Post (rpE X.K σ) X.K X.mg W A r G σ H Q (.ok (.fr (.int kvs.length)) r) from h) rfl
def gAbs (a : EV) : Ev EV := fun r => match intOf a with
  | some i => .ok (.fr (.int (if i < 0 then -i else i))) r
  | none => .bad
theorem imp_abs : ImpC X W (fun xs H Q => ∃ i, xs = [.int i] ∧ Q (.int (if i < 0 then -i else i)) H) (on1 gAbs) := by
  intro A r G σ H evs vs Q S hA er h
  obtain ⟨ev, v, rfl, e1, h⟩ := evs1 er h
  unfold gAbs at h
  cases q : intOf ev with
  | none => rw [q] at h; exact h.elim
  | some i => rw [q] at h; exact ⟨i, by rw [int_ok e1 q], fin_plain S hA h rfl⟩
def gInt1 (a : EV) : Ev EV := fun r => match intOf a with
  | some i => .ok (.fr (.int i)) r
  | none => match blOf a with
    | some c => .ok (.fr (.int (if c then 1 else 0))) r
    | none => .bad
theorem imp_int1 : ImpC X W (fun xs H Q => (∃ i, xs = [.int i] ∧ Q (.int i) H) ∨ ∃ k, xs = [.bl k] ∧ Q (.int (if k then 1 else 0)) H) (on1 gInt1) := by
  intro A r G σ H evs vs Q S hA er h
  obtain ⟨ev, v, rfl, e1, h⟩ := evs1 er h
  unfold gInt1 at h
  cases q : intOf ev with
  | some i => simp only [q] at h; exact .inl ⟨i, by rw [int_ok e1 q], fin_plain S hA h rfl⟩
  | none =>
    simp only [q] at h
    cases q2 : blOf ev with
    | some c => simp only [q2] at h; exact .inr ⟨c, by rw [bl_ok e1 q2], fin_plain S hA h rfl⟩
    | none => simp only [q2] at h; exact h.elim
def gTupl (a : EV) : Ev EV := fun r => match seqOf r a with
  | some (_, xs) => .ok (.fr (.tup xs)) r
  | none => .bad
theorem imp_tuple : ImpC X W (fun xs H Q => ∃ p ys, xs = [.ref p] ∧ ((SqL X.K H p ys ∧ ∀ l, H l = none → Q (.ref l) (upd H l (.tup ys))) ∨ (SqT X.K H p ys ∧ Q (.ref p) H))) (on1 gTupl) := by
  intro A r G σ H evs vs Q S hA er h
  obtain ⟨ev, v, rfl, e1, h⟩ := evs1 er h
  unfold gTupl at h
  cases q : seqOf r ev with
  | none => rw [q] at h; exact h.elim
  | some pr =>
    obtain ⟨k, xs⟩ := pr
    rw [q] at h
    obtain ⟨c, vs, rfl, s, rl⟩ := seq_ok S e1.wk q
    cases k with
    | t => exact ⟨c, vs, rfl, .inr ⟨s, fin_plain S hA h (tup_ok S e1.wk q)⟩⟩
    | l => exact ⟨c, vs, rfl, .inl ⟨.of s, fun p n => fin_tup S hA h rl n⟩⟩
    | ro => exact ⟨c, vs, rfl, .inl ⟨s, fun p n => fin_tup S hA h rl n⟩⟩
def listR (a : EV) (r : Ro) : Option Cont → R EV
  | some (.di kvs) => .ok (.tmp (.l (kvs.map fun kv => .int kv.1))) r
  | some (.dt kvs) => .ok (.tmp (.l (kvs.map fun kv => kv.1))) r
  | _ => match seqOf r a with
    | some (_, xs) => .ok (.tmp xs) r
    | none => .bad
def gList (a : EV) : Ev EV := fun r => listR a r (boxOf r a)
theorem keys_repI {K : PySem.W.Frag} {G : Hp} : ∀ {kvs : List (Int × M)} {es : List (Key × V)}, Paired (RepI K G) kvs es → RepL K G (kvs.map fun kv => .int kv.1) (es.map fun e => kV e.1)
  | _, _, .nil => rfl
  | _, _, .cons (a := a) (b := b) h t => ⟨_, _, rfl, (by show Rep K G (.int a.1) (kV b.1); rw [h.1]; exact rfl), keys_repI t⟩
theorem keys_repT {K : PySem.W.Frag} {G : Hp} : ∀ {kvs : List (M × M)} {es : List KAV}, Paired (RepK K G) kvs es → RepL K G (kvs.map fun kv => kv.1) (es.map fun e => V.ref e.2.1)
  | _, _, .nil => rfl
  | _, _, .cons h t => ⟨_, _, rfl, h.2.2.1, keys_repT t⟩
theorem imp_list : ImpC X W (fun xs H Q => (∃ p ys, xs = [.ref p] ∧ (SqL X.K H p ys ∨ SqT X.K H p ys) ∧ ∀ l, H l = none → Q (.ref l) (upd H l (.lst ys))) ∨
    ((∃ (a : Addr) (kvs : List (Key × V)), xs = [.ref a] ∧ Rd H a (.dK kvs) ∧ ∀ p, H p = none → Q (.ref p) (upd H p (.lst (kvs.map fun kv => kV kv.1)))) ∨ rListT X.K xs H Q)) (on1 gList) := by
  intro A r G σ H evs vs Q S hA er h
  obtain ⟨ev, v, rfl, e1, h⟩ := evs1 er h
  have h : Post (rpE X.K σ) X.K X.mg W A r G σ H Q (listR ev r (boxOf r ev)) := h
  have seq : Post (rpE X.K σ) X.K X.mg W A r G σ H Q (match seqOf r ev with
    | some (_, xs) => R.ok (.tmp xs) r
    | none => .bad) → ∃ p ys, [v] = [.ref p] ∧ (SqL X.K H p ys ∨ SqT X.K H p ys) ∧ ∀ l, H l = none → Q (.ref l) (upd H l (.lst ys)) := fun h => by
    cases q : seqOf r ev with
    | none => rw [q] at h; exact h.elim
    | some pr =>
      obtain ⟨k, xs⟩ := pr
      rw [q] at h
      obtain ⟨c, vs, rfl, s, rl⟩ := seq_ok S e1.wk q
      refine ⟨c, vs, rfl, ?_, fun p n => fin_lst S hA h rl n⟩
      cases k with
      | t => exact .inr s
      | l => exact .inl (.of s)
      | ro => exact .inl s
  cases q : boxOf r ev with
  | none => rw [q] at h; exact .inl (seq h)
  | some b =>
    rw [q] at h
    cases b with
    | l xs => exact .inl (seq h)
    | ll xss => exact .inl (seq h)
    | di kvs =>
      obtain ⟨a, rfl, es, e, p, n⟩ := box_ok S e1.wk q
      exact .inr (.inl ⟨a, es, rfl, .inl e, fun p' n' => fin_lst S hA (show Post (rpE X.K σ) X.K X.mg W A r G σ H Q (.ok (.tmp (.l (kvs.map fun kv => .int kv.1))) r) from h) (keys_repI p) n'⟩)
    | dt kvs =>
      obtain ⟨a, rfl, x'⟩ := box_ok S e1.wk q
      obtain ⟨es, d, p⟩ := dt_ok S x'
      exact .inr (.inr ⟨a, kvs, es, rfl, d, fun p' n' => fin_lst S hA (show Post (rpE X.K σ) X.K X.mg W A r G σ H Q (.ok (.tmp (.l (kvs.map fun kv => kv.1))) r) from h) (keys_repT p) n'⟩)

/-! ### ints of a sequence -/
def intsM : List M → Option (List Int)
  | [] => some []
  | .int i :: ms => (intsM ms).map (i :: ·)
  | _ => none
theorem intsM_map : ∀ (ns : List Int), intsM (ns.map M.int) = some ns
  | [] => rfl
  | n :: ns => by rw [List.map_cons, intsM, intsM_map ns]; rfl
theorem ints_rep {K : PySem.W.Frag} {G : Hp} : ∀ {ms : List M} {vs : List V} {ns : List Int}, RepL K G ms vs → intsM ms = some ns → vs = ns.map V.int
  | [], _, _, h, e => by cases h; cases e; rfl
  | .int i :: ms, _, ns, ⟨v, vr, e1, h1, h2⟩, e => by
    subst e1
    cases h1
    rw [intsM] at e
    cases q : intsM ms with
    | none => rw [q] at e; cases e
    | some ns' =>
      rw [q] at e
      cases e
      rw [ints_rep h2 q]
      rfl
  | .non :: _, _, _, _, e => by cases e
  | .bl _ :: _, _, _, _, e => by cases e
  | .str _ :: _, _, _, _, e => by cases e
  | .tup _ :: _, _, _, _, e => by cases e
  | .lst _ :: _, _, _, _, e => by cases e
  | .ro _ :: _, _, _, _, e => by cases e
def minI : List Int → Int
  | [] => 0
  | [x] => x
  | x :: y :: r => min x (minI (y :: r))
def maxI : List Int → Int
  | [] => 0
  | [x] => x
  | x :: y :: r => max x (maxI (y :: r))
theorem minI_le : ∀ {ns : List Int} {y : Int}, y ∈ ns → minI ns ≤ y
  | [x], y, h => by cases List.mem_singleton.mp h; exact Int.le_refl _
  | x :: z :: r, y, h => by
    rcases List.mem_cons.mp h with e | h
    · subst e; exact Int.min_le_left _ _
    · exact Int.le_trans (Int.min_le_right _ _) (minI_le h)
theorem minI_mem : ∀ {ns : List Int}, 0 < ns.length → minI ns ∈ ns
  | [x], _ => List.mem_cons_self ..
  | x :: z :: r, _ => by
    show min x (minI (z :: r)) ∈ _
    by_cases h : x ≤ minI (z :: r)
    · rw [Int.min_eq_left h]; exact List.mem_cons_self ..
    · rw [Int.min_eq_right (by omega)]
      exact List.mem_cons_of_mem _ (minI_mem (by simp))
theorem maxI_le : ∀ {ns : List Int} {y : Int}, y ∈ ns → y ≤ maxI ns
  | [x], y, h => by cases List.mem_singleton.mp h; exact Int.le_refl _
  | x :: z :: r, y, h => by
    rcases List.mem_cons.mp h with e | h
    · subst e; exact Int.le_max_left _ _
    · exact Int.le_trans (maxI_le h) (Int.le_max_right _ _)
theorem maxI_mem : ∀ {ns : List Int}, 0 < ns.length → maxI ns ∈ ns
  | [x], _ => List.mem_cons_self ..
  | x :: z :: r, _ => by
    show max x (maxI (z :: r)) ∈ _
    by_cases h : x ≤ maxI (z :: r)
    · rw [Int.max_eq_right h]; exact List.mem_cons_of_mem _ (maxI_mem (by simp))
    · rw [Int.max_eq_left (by omega)]; exact List.mem_cons_self ..
theorem min_is {ns : List Int} {m : Int} (h : m ∈ ns) (l : ∀ y, y ∈ ns → m ≤ y) : m = minI ns := by
  have h0 : 0 < ns.length := List.length_pos_of_mem h
  exact Int.le_antisymm (l _ (minI_mem h0)) (minI_le h)
theorem max_is {ns : List Int} {m : Int} (h : m ∈ ns) (l : ∀ y, y ∈ ns → y ≤ m) : m = maxI ns := by
  have h0 : 0 < ns.length := List.length_pos_of_mem h
  exact Int.le_antisymm (maxI_le h) (l _ (maxI_mem h0))
/-! over a tuple of ints -/
section
variable {prog : Program} {w : World} {A : Around} {E : Value → Shared → Prop} {s : Shared} {l : Addr} {its : List Value} {ns : List Int} {Q : Value → Shared → Prop}
theorem iter_tupI {xs : Array Value} (hl : s.heap.IsTuple l xs)
    (h : ∀ s2 : Shared, s2 = { s with heap := s.heap.push { cls := .type "tuple_iterator", data := .fields #[.ref l, .int 0 0] } } → (s2.heap.IsTupleIter s.heap.objs.size l 0 ∧ s2.heap.IsTuple l xs) →
      (∀ b ∈ [s.heap.objs.size, l], b < s2.heap.objs.size) → l ≠ s.heap.objs.size → Q (.ref s.heap.objs.size) s2) : wpAny (model prog w) A (pyIter (.ref l)) Q E s := by
  have lt : l < s.heap.objs.size := by obtain ⟨_, e, _⟩ := hl; exact Heap.lt_size e
  refine wpAny_pyIter_tuple hl (h _ rfl ⟨⟨_, Heap.get?_push_size _ rfl, rfl, rfl⟩, Heap.IsTuple.push hl _⟩ (fun b hb => ?_) (Nat.ne_of_lt lt))
  show b < (s.heap.push _).objs.size
  rw [Heap.size_push]
  rcases List.mem_cons.mp hb with rfl | hb
  · exact Nat.lt_succ_self _
  · rcases List.mem_cons.mp hb with rfl | hb
    · exact Nat.lt_succ_of_lt lt
    · cases hb
theorem old_keptT {h' : Heap} (hk : ∀ b o, b ∉ [s.heap.objs.size] → (s.heap.push { cls := .type "tuple_iterator", data := .fields #[.ref l, .int 0 0] }).get? b = some o → h'.get? b = some o) :
    ∀ b o, s.heap.get? b = some o → h'.get? b = some o := fun b o e => by
  refine hk b o (fun hm => ?_) (Heap.get?_push_of_some _ e)
  obtain rfl := List.mem_singleton.mp hm
  exact absurd (Heap.lt_size e) (Nat.lt_irrefl _)
theorem max_tupI (hh : A.handled = none) (hl : s.heap.IsTuple l its.toArray) (hi : PyProof.Rows.IntsAre its ns) (hne : 0 < ns.length)
    (h : ∀ h' tk t', (∀ b o, s.heap.get? b = some o → h'.get? b = some o) → Q (.int (maxI ns) t') { s with heap := h', toks := tk }) : wpAny (model prog w) A (call (.builtin "max") [.ref l]) Q E s := by
  obtain ⟨xs, e⟩ := hi.allInts.items
  have hn : numsOf (intItems xs).toList = ns := by rw [← e]; exact hi.numsOf
  rw [nums_intItems] at hn
  subst hn
  rw [e] at hl
  have hsz : 0 < xs.size := by simpa using hne
  refine call_max_walk (iter_tupI hl fun s2 e2 st hfp hlI => ?_)
  subst e2
  refine ⟨_, _, _, _, _, _, _, rfl, Walks.tuple (A := A.in1) hh _ l hlI (intItems xs), st, hfp, by simpa [intItems] using hsz, CmpOf.ints_gt (numAt xs) (fun _ _ => intItems_at), fun v h' tk hP hk => ?_⟩
  obtain ⟨t, rfl⟩ := intItems_at (xs := xs) (by simpa [intItems] using hP)
  obtain ⟨h1, h2⟩ := argBest_gt (numAt xs) (xs.size - 1)
  have em : numAt xs (argBest (fun i j => decide (numAt xs i > numAt xs j)) (xs.size - 1)) = maxI (xs.toList.map (·.1)) := by
    refine max_is ?_ fun y hy => ?_
    · rw [numAt_eq]; exact PySem.getD_mem (by rw [List.length_map, Array.length_toList]; omega)
    · obtain ⟨j, hj, rfl⟩ := mem_getD hy
      rw [List.length_map, Array.length_toList] at hj
      rw [← numAt_eq]
      exact h2 j (by omega)
  have ex : (intItems xs).size = xs.size := by simp [intItems]
  rw [ex, em] at *
  exact h h' tk t (old_keptT hk)
theorem min_tupI (hh : A.handled = none) (hl : s.heap.IsTuple l its.toArray) (hi : PyProof.Rows.IntsAre its ns) (hne : 0 < ns.length)
    (h : ∀ h' tk t', (∀ b o, s.heap.get? b = some o → h'.get? b = some o) → Q (.int (minI ns) t') { s with heap := h', toks := tk }) : wpAny (model prog w) A (call (.builtin "min") [.ref l]) Q E s := by
  obtain ⟨xs, e⟩ := hi.allInts.items
  have hn : numsOf (intItems xs).toList = ns := by rw [← e]; exact hi.numsOf
  rw [nums_intItems] at hn
  subst hn
  rw [e] at hl
  have hsz : 0 < xs.size := by simpa using hne
  refine call_min_walk (iter_tupI hl fun s2 e2 st hfp hlI => ?_)
  subst e2
  refine ⟨_, _, _, _, _, _, _, rfl, Walks.tuple (A := A.in1) hh _ l hlI (intItems xs), st, hfp, by simpa [intItems] using hsz, CmpOf.ints_lt (numAt xs) (fun _ _ => intItems_at), fun v h' tk hP hk => ?_⟩
  obtain ⟨t, rfl⟩ := intItems_at (xs := xs) (by simpa [intItems] using hP)
  obtain ⟨h1, h2⟩ := argBest_lt (numAt xs) (xs.size - 1)
  have em : numAt xs (argBest (fun i j => decide (numAt xs i < numAt xs j)) (xs.size - 1)) = minI (xs.toList.map (·.1)) := by
    refine min_is ?_ fun y hy => ?_
    · rw [numAt_eq]; exact PySem.getD_mem (by rw [List.length_map, Array.length_toList]; omega)
    · obtain ⟨j, hj, rfl⟩ := mem_getD hy
      rw [List.length_map, Array.length_toList] at hj
      rw [← numAt_eq]
      exact h2 j (by omega)
  have ex : (intItems xs).size = xs.size := by simp [intItems]
  rw [ex, em] at *
  exact h h' tk t (old_keptT hk)
theorem sum_tupI (hh : A.handled = none) (hl : s.heap.IsTuple l its.toArray) (hi : PyProof.Rows.IntsAre its ns)
    (h : ∀ h' tk t', (∀ b o, s.heap.get? b = some o → h'.get? b = some o) → Q (.int ns.sum t') { s with heap := h', toks := tk }) : wpAny (model prog w) A (call (.builtin "sum") [.ref l]) Q E s := by
  obtain ⟨xs, e⟩ := hi.allInts.items
  have hn : numsOf (intItems xs).toList = ns := by rw [← e]; exact hi.numsOf
  rw [nums_intItems] at hn
  rw [e] at hl
  refine call_sum_walkG (iter_tupI hl fun s2 e2 st hfp hlI => ?_)
  subst e2
  refine ⟨_, _, _, _, _, _, numAt xs, rfl, Walks.tuple (A := A.in1) hh _ l hlI (intItems xs), st, hfp, (fun _ _ => intItems_at), fun h' tk t' hk => ?_⟩
  have q := h h' tk t' (old_keptT hk)
  have ex : (intItems xs).size = xs.size := by simp [intItems]
  rw [ex, preSum_eq, List.take_of_length_le (by simp), hn]
  exact q
end
def rAgg (K : PySem.W.Frag) (g : List Int → Int) (P : List Int → Prop) : List V → Hp → VK → Prop := fun vs H Q => ∃ (a : Addr) (ns : List Int), vs = [V.ref a] ∧ (SqL K H a (ns.map V.int) ∨ SqT K H a (ns.map V.int)) ∧ P ns ∧ Q (.int (g ns)) H
theorem ref1 {a : Addr} {us : List Value} (r : Vals [V.ref a] us) : us = [.ref a] := by
  obtain ⟨u, rfl, e⟩ := vals1 r
  cases e
  rfl
theorem cr_minA (hc : X.calm = true) : CallR X (.builtin "min") (rAgg X.K minI fun ns => 0 < ns.length) := by
  intro pins s σ H vs us Q I r h
  obtain ⟨a, ns, rfl, hs, hne, q⟩ := h
  rcases hs with hs | hs
  · exact cr_min hc pins s σ H _ us Q I r ⟨a, ns, rfl, hs, hne, fun m h1 h2 => by rw [min_is h1 h2]; exact q⟩
  · obtain ⟨its, rv, hl, _⟩ := I.tuple hs
    rw [ref1 r]
    exact min_tupI (I.ok.hd hc) hl rv.ints hne fun h' tk t' hk => ⟨.int _, H, I.kept hk, ⟨_, rfl⟩, q⟩
theorem cr_maxA (hc : X.calm = true) : CallR X (.builtin "max") (rAgg X.K maxI fun ns => 0 < ns.length) := by
  intro pins s σ H vs us Q I r h
  obtain ⟨a, ns, rfl, hs, hne, q⟩ := h
  rcases hs with hs | hs
  · exact cr_max hc pins s σ H _ us Q I r ⟨a, ns, rfl, hs, hne, fun m h1 h2 => by rw [max_is h1 h2]; exact q⟩
  · obtain ⟨its, rv, hl, _⟩ := I.tuple hs
    rw [ref1 r]
    exact max_tupI (I.ok.hd hc) hl rv.ints hne fun h' tk t' hk => ⟨.int _, H, I.kept hk, ⟨_, rfl⟩, q⟩
theorem cr_sumA (hc : X.calm = true) : CallR X (.builtin "sum") (rAgg X.K List.sum fun _ => True) := by
  intro pins s σ H vs us Q I r h
  obtain ⟨a, ns, rfl, hs, hne, q⟩ := h
  rcases hs with hs | hs
  · exact cr_sum hc pins s σ H _ us Q I r ⟨a, ns, rfl, hs, q⟩
  · obtain ⟨its, rv, hl, _⟩ := I.tuple hs
    rw [ref1 r]
    exact sum_tupI (I.ok.hd hc) hl rv.ints fun h' tk t' hk => ⟨.int _, H, I.kept hk, ⟨_, rfl⟩, q⟩
def gAgg (g : List Int → Int) (P : List Int → Bool) (a : EV) : Ev EV := fun r => match seqOf r a with
  | some (_, xs) => match intsM xs with
    | some ns => if P ns = true then .ok (.fr (.int (g ns))) r else .bad
    | none => .bad
  | none => .bad
theorem imp_agg {g : List Int → Int} {P : List Int → Prop} {Pb : List Int → Bool} (hP : ∀ ns, Pb ns = true → P ns) : ImpC X W (rAgg X.K g P) (on1 (gAgg g Pb)) := by
  intro A r G σ H evs vs Q S hA er h
  obtain ⟨ev, v, rfl, e1, h⟩ := evs1 er h
  unfold gAgg at h
  cases q : seqOf r ev with
  | none => simp only [q] at h; exact h.elim
  | some pr =>
    obtain ⟨k, xs⟩ := pr
    simp only [q] at h
    cases q2 : intsM xs with
    | none => simp only [q2] at h; exact h.elim
    | some ns =>
      simp only [q2] at h
      obtain ⟨c, vs, rfl, s, rl⟩ := seq_ok S e1.wk q
      have ev := ints_rep rl q2
      subst ev
      by_cases c0 : Pb ns = true
      · rw [if_pos c0] at h
        refine ⟨c, ns, rfl, ?_, hP _ c0, fin_plain S hA h rfl⟩
        cases k with
        | t => exact .inr s
        | l => exact .inl (.of s)
        | ro => exact .inl s
      · rw [if_neg c0] at h; exact h.elim
def nonE (ns : List Int) : Bool := !ns.isEmpty
theorem nonE_pos {ns : List Int} (h : nonE ns = true) : 0 < ns.length := by
  cases ns with
  | nil => cases h
  | cons _ _ => simp
abbrev gMin1 := gAgg minI nonE
abbrev gMax1 := gAgg maxI nonE
abbrev gSum1 := gAgg List.sum fun _ => true
/-- min(a, b), max(a, b) or of a sequence -/
def gMin : List EV → Ev EV
  | [a] => gMin1 a
  | [a, b] => fun r => match intOf a, intOf b with
    | some i, some j => .ok (.fr (.int (min i j))) r
    | _, _ => .bad
  | _ => bad
def gMax : List EV → Ev EV
  | [a] => gMax1 a
  | [a, b] => fun r => match intOf a, intOf b with
    | some i, some j => .ok (.fr (.int (max i j))) r
    | _, _ => .bad
  | _ => bad
theorem imp_min : ImpC X W (fun xs H Q => rAgg X.K minI (fun ns => 0 < ns.length) xs H Q ∨ ∃ i j, xs = [.int i, .int j] ∧ Q (.int (if j < i then j else i)) H) gMin := by
  intro A r G σ H evs vs Q S hA er h
  cases er with
  | nil => exact h.elim
  | cons e1 er2 =>
    cases er2 with
    | nil => exact .inl (imp_agg (fun _ => nonE_pos) A r G σ H _ _ Q S hA (.cons e1 .nil) h)
    | cons e2 er3 =>
      cases er3 with
      | cons _ _ => exact h.elim
      | nil =>
        rename_i ea va eb vb
        have h : Post (rpE X.K σ) X.K X.mg W A r G σ H Q (match intOf ea, intOf eb with
          | some i, some j => R.ok (.fr (.int (min i j))) r
          | _, _ => .bad) := h
        split at h
        · rename_i i j q1 q2
          refine .inr ⟨i, j, by rw [int_ok e1 q1, int_ok e2 q2], ?_⟩
          have e : (if j < i then j else i) = min i j := by
            by_cases c : j < i
            · rw [if_pos c]; omega
            · rw [if_neg c]; omega
          rw [e]
          exact fin_plain S hA h rfl
        · exact h.elim
theorem imp_max : ImpC X W (fun xs H Q => rAgg X.K maxI (fun ns => 0 < ns.length) xs H Q ∨ ∃ i j, xs = [.int i, .int j] ∧ Q (.int (if j > i then j else i)) H) gMax := by
  intro A r G σ H evs vs Q S hA er h
  cases er with
  | nil => exact h.elim
  | cons e1 er2 =>
    cases er2 with
    | nil => exact .inl (imp_agg (fun _ => nonE_pos) A r G σ H _ _ Q S hA (.cons e1 .nil) h)
    | cons e2 er3 =>
      cases er3 with
      | cons _ _ => exact h.elim
      | nil =>
        rename_i ea va eb vb
        have h : Post (rpE X.K σ) X.K X.mg W A r G σ H Q (match intOf ea, intOf eb with
          | some i, some j => R.ok (.fr (.int (max i j))) r
          | _, _ => .bad) := h
        split at h
        · rename_i i j q1 q2
          refine .inr ⟨i, j, by rw [int_ok e1 q1, int_ok e2 q2], ?_⟩
          have e : (if j > i then j else i) = max i j := by
            by_cases c : j > i
            · rw [if_pos c]; omega
            · rw [if_neg c]; omega
          rw [e]
          exact fin_plain S hA h rfl
        · exact h.elim

/-! ### isinstance -/
inductive Ty where
  | non | bl | int | str | tup | lst
  deriving DecidableEq
def tyM : M → Ty
  | .non => .non
  | .bl _ => .bl
  | .int _ => .int
  | .str _ => .str
  | .tup _ => .tup
  | .lst _ => .lst
  | .ro _ => .lst
def tyOf (r : Ro) : EV → Option Ty
  | .fr m => some (tyM m)
  | .tmp b => (frzB b).map tyM
  | .bor i => (slotM (get r i)).map tyM
def Ty.name : Ty → String
  | .non => "NoneType"
  | .bl => "bool"
  | .int => "int"
  | .str => "str"
  | .tup => "tuple"
  | .lst => "list"
theorem sqT_ty {K : PySem.W.Frag} {H : Hp} {a : Addr} {vs : List V} (h : SqT K H a vs) : TyX K H (.ref a) (.type "tuple") := by
  rcases h with (h | ⟨o, h⟩) | ⟨o, its, n, h1, h2, _⟩
  · exact .base (.tup h)
  · exact .fTuple h
  · exact .kTuple h1 h2
theorem sqL_ty {K : PySem.W.Frag} {H : Hp} {a : Addr} {vs : List V} (h : SqL K H a vs) : TyX K H (.ref a) (.type "list") := by
  rcases h with (h | ⟨o, h⟩) | ⟨o, its, n, h1, h2, _⟩
  · exact .base (.lst h)
  · exact .base (.frz h)
  · exact .kList h1 h2
theorem rep_ty {K : PySem.W.Frag} {H : Hp} {m : M} {v : V} (h : Rep K H m v) : TyX K H v (.type (tyM m).name) := by
  cases m with
  | non => cases h; exact .base .non
  | bl b => cases h; exact .base (.bl b)
  | int b => cases h; exact .base (.int b)
  | str b => cases h; exact .base (.str b)
  | tup xs => obtain ⟨a, vs, rfl, s, _⟩ := h; exact sqT_ty s
  | lst xs => obtain ⟨a, vs, rfl, s, _⟩ := h; exact sqL_ty (.of s)
  | ro xs => obtain ⟨a, vs, rfl, s, _⟩ := h; exact sqL_ty s
theorem tyOf_dat {r : Ro} {ev : EV} {t : Ty} (h : tyOf r ev = some t) : ∃ m, datOf r ev = some m ∧ tyM m = t := by
  cases ev with
  | fr m => cases h; exact ⟨m, rfl, rfl⟩
  | tmp b =>
    have h : (frzB b).map tyM = some t := h
    cases q : frzB b with
    | none => rw [q] at h; cases h
    | some m => rw [q] at h; cases h; exact ⟨m, q, rfl⟩
  | bor i =>
    have h : (slotM (get r i)).map tyM = some t := h
    cases q : slotM (get r i) with
    | none => rw [q] at h; cases h
    | some m => rw [q] at h; cases h; exact ⟨m, q, rfl⟩
/-- isinstance(x, T): the answer by the type of x -/
def isTy (T : String) (t : Ty) : Bool := t.name == T || (T == "int" && t == .bl)
theorem kit_isTy (T : String) (hT : T = "int" ∨ T = "bool" ∨ T = "str" ∨ T = "tuple" ∨ T = "list") (t : Ty) : kitB t.name T = some (isTy T t) := by
  rcases hT with rfl | rfl | rfl | rfl | rfl <;> cases t <;> decide +kernel
def gIsi (T : String) (a : EV) : Ev EV := fun r => match tyOf r a with
  | some t => .ok (.fr (.bl (isTy T t))) r
  | none => .bad
theorem se_isi {T : String} {y : Str} {py : Pos} (hT : T = "int" ∨ T = "bool" ∨ T = "str" ∨ T = "tuple" ∨ T = "list") (hg : Gl X "isinstance") (hm : X.mg "isinstance" = none) (hgy : Gl X y) (hmy : X.mg y = none) (hy : bootBuiltins y = some (.type T)) (ha : SE X W a fa)
    (hny : y ≠ "__name__" := by decide) (hdy : (y == ("__debug__" : Str)) = false := by decide)
    (he : starEach [a, .Name y py] X.env = (false, eval a X.env) :: starEach [.Name y py] X.env := by rfl) (he2 : starEach [.Name y py] X.env = [(false, eval (.Name y py) X.env)] := by rfl) (hpl : (backTo pos (starEach [.Name y py] X.env)).any (·.1) = false := by rfl) :
    SE X W (.Call (.Name "isinstance" p) [a, .Name y py] [] pos) (v1 (gIsi T) fa) := by
  refine peW (pe_callB call_isi hg hm (by decide +kernel) (pa_cons ha (pa_cons (pe_bltn (v := .ty T) hgy hmy hy rfl hny hdy) pa_nil he2) he) (by decide) (by decide) he hpl) fun σ H Q ⟨r, G, S, h⟩ => ?_
  refine into upE S A0.self h fun ev r1 v G1 H1 S1 a1 st1 e1 h1 => ?_
  unfold gIsi at h1
  cases q : tyOf r1 ev with
  | none => rw [q] at h1; exact h1.elim
  | some t =>
    rw [q] at h1
    obtain ⟨m, d1, d2⟩ := tyOf_dat q
    subst d2
    exact ⟨v, .ty T, _, _, _, rfl, .ty T, rep_ty (dat_ok S1 e1.wk d1), kit_ty (kit_isTy T hT _), fin_plain S1 a1 h1 rfl⟩
end
end Sx

set_option Elab.async false
set_option linter.all false
set_option maxRecDepth 100000
set_option maxHeartbeats 4000000
/-! Sx6: storing, targets, small statements, methods of lists. -/
namespace Sx
open PySem L2

/-! ### storing -/
def canSet : Slot → Bool
  | .o .pin _ => false
  | .o .lock _ => false
  | _ => true
def sto (i : Nat) (s : Slot) : Ev Unit := fun r => if i < r.length ∧ canSet (get r i) = true then .ok () (r.set i s) else .bad
def settle (e : EV) : Ev EV := match e with
  | .bor i => bnd (frzI i) fun m => ret (.fr m)
  | e => ret e
def slotE : EV → Slot
  | .fr m => .v m
  | .tmp xs => .o .free xs
  | .bor _ => .un
def asg (i : Nat) (e : EV) : Ev Unit := bnd (settle e) fun e => sto i (slotE e)
section
variable {K : PySem.W.Frag} {A A' : Addr → Prop} {r r1 r2 : Ro} {G G1 G2 : Hp} {σ σ1 σ2 : St} {H H1 H2 : Hp} {mg : Str → Option Value} {W : W4}
theorem set_get {i : Nat} {v : V} (h : i < σ.length) {j : Nat} : (σ.set i (some v))[j]? = if i = j then some (some v) else σ[j]? := by
  by_cases e : i = j
  · subst e
    rw [if_pos rfl, List.getElem?_set_self h]
  · rw [if_neg e, List.getElem?_set_ne e]
theorem own_set {i : Nat} {s : Slot} {v : V} {c : Addr} (hr : i < r.length) (hl : i < σ.length) (h : Own (r.set i s) (σ.set i (some v)) H c) : (∃ p b a, s = .o p b ∧ v = .ref a ∧ Foot H a b c) ∨ (∃ j p b a, j ≠ i ∧ get r j = .o p b ∧ σ[j]? = some (some (.ref a)) ∧ Foot H a b c) := by
  obtain ⟨j, p, b, a, e1, e2, f⟩ := h
  rw [get_set] at e1
  rw [set_get hl] at e2
  by_cases z : i = j
  · subst z
    rw [if_pos ⟨rfl, hr⟩] at e1
    rw [if_pos rfl] at e2
    cases e2
    exact .inl ⟨p, b, a, e1, rfl, f⟩
  · rw [if_neg (fun q => z q.1)] at e1
    rw [if_neg z] at e2
    exact .inr ⟨j, p, b, a, fun q => z q.symm, e1, e2, f⟩
/-- a value is stored at a slot -/
theorem Sim.store {ev : EV} {v : V} {i : Nat} (S : Sim K r G σ H) (hA : ∀ b, A0 r σ H b → A b) (h : EvRep K A r G σ H ev v) (nb : ∀ j, ev ≠ .bor j) (hi : i < r.length) (hc : canSet (get r i) = true) :
    Sim K (r.set i (slotE ev)) G (σ.set i (some v)) H ∧ Step A r G σ H (r.set i (slotE ev)) G (σ.set i (some v)) H := by
  have hl : i < σ.length := by rw [← S.len]; exact hi
  have fine : ∀ p b, slotE ev = .o p b → ∃ a, v = .ref a ∧ Bx K G H a b ∧ ∀ c, Foot H a b c → ¬ Own r σ H c ∧ A c := fun p xs e => by
    cases ev with
    | fr m => cases e
    | bor j => exact absurd rfl (nb j)
    | tmp ys => cases e; exact h
  refine ⟨⟨S.sub, by rw [List.length_set, List.length_set]; exact S.len, fun j m e => ?_, fun j p b e => ?_, fun j k p q b d a a' c e1 e2 s1 s2 f1 f2 => ?_⟩, ⟨Same.refl _, fun _ _ e _ => e, fun b e => .inl e, fun b o => ?_, fun j p xs e nf => ?_, fun _ e => e⟩⟩
  · rw [get_set] at e
    rw [set_get hl]
    by_cases z : i = j
    · subst z
      rw [if_pos ⟨rfl, hi⟩] at e
      rw [if_pos rfl]
      cases ev with
      | fr m' => cases e; exact ⟨v, rfl, h⟩
      | tmp ys => cases e
      | bor k => exact absurd rfl (nb k)
    · rw [if_neg (fun q => z q.1)] at e
      rw [if_neg z]
      exact S.val j m e
  · rw [get_set] at e
    rw [set_get hl]
    by_cases z : i = j
    · subst z
      rw [if_pos ⟨rfl, hi⟩] at e
      rw [if_pos rfl]
      obtain ⟨a, e1, x, _⟩ := fine p b e
      subst e1
      exact ⟨a, rfl, x⟩
    · rw [if_neg (fun q => z q.1)] at e
      rw [if_neg z]
      exact S.own j p b e
  · rw [get_set] at e1 e2
    rw [set_get hl] at s1 s2
    by_cases z : i = j
    · subst z
      rw [if_pos ⟨rfl, hi⟩] at e1
      rw [if_pos rfl] at s1
      cases s1
      by_cases z2 : i = k
      · exact z2
      · rw [if_neg (fun q => z2 q.1)] at e2
        rw [if_neg z2] at s2
        obtain ⟨a3, e3, _, no⟩ := fine p b e1
        cases e3
        exact absurd ⟨k, q, d, a', e2, s2, f2⟩ (no c f1).1
    · rw [if_neg (fun q => z q.1)] at e1
      rw [if_neg z] at s1
      by_cases z2 : i = k
      · subst z2
        rw [if_pos ⟨rfl, hi⟩] at e2
        rw [if_pos rfl] at s2
        cases s2
        obtain ⟨a3, e3, _, no⟩ := fine q d e2
        cases e3
        exact absurd ⟨j, p, b, a, e1, s1, f1⟩ (no c f2).1
      · rw [if_neg (fun q => z2 q.1)] at e2
        rw [if_neg z2] at s2
        exact S.inj j k p q b d a a' c e1 e2 s1 s2 f1 f2
  · rcases own_set hi hl o with ⟨p, xs, a, e, e2, f⟩ | ⟨j, p, xs, a, _, e1, e2, f⟩
    · obtain ⟨a3, e3, _, al⟩ := fine p xs e
      rw [e3] at e2
      cases e2
      exact (al b f).2
    · exact hA b (.inl ⟨j, p, xs, a, e1, e2, f⟩)
  · have z : i ≠ j := fun z => by
      subst z
      rw [e] at hc
      cases p
      · exact nf rfl
      · cases hc
      · cases hc
    rw [get_set, set_get hl, if_neg z, if_neg (fun q => z q.1)]
    exact ⟨rfl, xs, e, fun _ => rfl⟩
/-- an own object at a slot is changed, at x -/
theorem Sim.writeB {i : Nat} {p : Pin} {b b' : Cont} {a x : Addr} {o' : HO} (S : Sim K r G σ H) (hA : ∀ b, A0 r σ H b → A b) (e : get r i = .o p b) (nl : p ≠ .lock) (sv : σ[i]? = some (some (.ref a))) (fx : Foot H a b x)
    (nb : Body K G (upd H x o') a b') (ff : ∀ c, Foot (upd H x o') a b' c ↔ Foot H a b c) :
    Sim K (r.set i (.o p b')) G σ (upd H x o') ∧ Step A r G σ H (r.set i (.o p b')) G σ (upd H x o') := by
  have hi : i < r.length := get_lt (by rw [e]; exact fun z => nomatch z)
  have ox : Own r σ H x := ⟨i, p, b, a, e, sv, fx⟩
  obtain ⟨a', sv', bx⟩ := S.own i p b e
  rw [sv] at sv'; cases sv'
  -- the other slots' objects stay
  have other : ∀ {j q d a'}, i ≠ j → get r j = .o q d → σ[j]? = some (some (.ref a')) → Bx K G (upd H x o') a' d ∧ ∀ c, Foot (upd H x o') a' d c ↔ Foot H a' d c := fun {j q d a'} z e1 s1 => by
    obtain ⟨a2, s2, y⟩ := S.own j q d e1
    rw [s1] at s2; cases s2
    have k : ∀ c o, Foot H a' d c → H c = some o → upd H x o' c = some o := fun c o f q2 => by
      rw [upd_ne (fun z2 => z (by subst z2; exact S.inj i j _ _ _ _ _ _ c e e1 sv s1 fx f))]; exact q2
    exact ⟨⟨fun c f => y.1 c ((y.2.foot fun o => k a' o Foot.self).mp f), y.2.keep (Same.refl _) k⟩, fun c => y.2.foot fun o => k a' o Foot.self⟩
  -- a slot of the new state, as one of the old
  have slot : ∀ {j q d}, get (r.set i (.o p b')) j = .o q d → (i = j ∧ q = p ∧ d = b') ∨ (i ≠ j ∧ get r j = .o q d) := fun {j q d} e1 => by
    rw [get_set] at e1
    by_cases z : i = j
    · rw [if_pos ⟨z, hi⟩] at e1; cases e1; exact .inl ⟨z, rfl, rfl⟩
    · rw [if_neg (fun q => z q.1)] at e1; exact .inr ⟨z, e1⟩
  have back : ∀ c, Own (r.set i (.o p b')) σ (upd H x o') c → Own r σ H c := fun c ⟨j, q, d, a', e1, e2, f⟩ => by
    rcases slot e1 with ⟨rfl, rfl, rfl⟩ | ⟨z, e1⟩
    · rw [sv] at e2; cases e2
      exact ⟨i, q, b, a, e, sv, (ff c).mp f⟩
    · exact ⟨j, q, d, a', e1, e2, ((other z e1 e2).2 c).mp f⟩
  refine ⟨⟨fun c o q => ?_, by rw [List.length_set]; exact S.len, fun j m e1 => ?_, fun j q d e1 => ?_, fun j k q q2 d1 d2 a1 a2 c e1 e2 s1 s2 f1 f2 => ?_⟩, ⟨Same.refl _, fun c o q n => ?_, fun b q => .inl q, fun c q => hA c (.inl (back c q)), fun j q ys e1 nf => ?_, fun c q => ?_⟩⟩
  · have nb : c ≠ x := fun z => by subst z; rw [bx.1 c fx] at q; cases q
    rw [upd_ne nb]; exact S.sub c o q
  · rw [get_set] at e1
    by_cases z : i = j
    · subst z
      rw [if_pos ⟨rfl, hi⟩] at e1; cases e1
    · rw [if_neg (fun q => z q.1)] at e1
      exact S.val j m e1
  · rcases slot e1 with ⟨rfl, rfl, rfl⟩ | ⟨z, e1⟩
    · exact ⟨a, sv, fun c f => bx.1 c ((ff c).mp f), nb⟩
    · obtain ⟨a', s1, _⟩ := S.own j q d e1
      exact ⟨a', s1, (other z e1 s1).1⟩
  · have old : ∀ {j q d a'}, get (r.set i (.o p b')) j = .o q d → σ[j]? = some (some (.ref a')) → Foot (upd H x o') a' d c → ∃ q' d', get r j = .o q' d' ∧ Foot H a' d' c := fun {j q d a'} e1 s1 f => by
      rcases slot e1 with ⟨rfl, rfl, rfl⟩ | ⟨z, e1⟩
      · rw [sv] at s1; cases s1
        exact ⟨_, _, e, (ff c).mp f⟩
      · exact ⟨_, _, e1, ((other z e1 s1).2 c).mp f⟩
    obtain ⟨_, _, g1, h1⟩ := old e1 s1 f1
    obtain ⟨_, _, g2, h2⟩ := old e2 s2 f2
    exact S.inj j k _ _ _ _ a1 a2 c g1 g2 s1 s2 h1 h2
  · have nb : c ≠ x := fun z => by subst z; exact n (hA c (.inl ox))
    rw [upd_ne nb]; exact q
  · rw [get_set]
    by_cases z : i = j
    · subst z
      rw [e] at e1; cases e1
      rw [if_pos ⟨rfl, hi⟩]
      exact ⟨rfl, b', rfl, fun z => absurd z nl⟩
    · rw [if_neg (fun q => z q.1)]
      exact ⟨rfl, ys, e1, fun _ => rfl⟩
  · by_cases z : c = x
    · subst z; rw [upd_same] at q; cases q
    · rw [upd_ne z] at q; exact q
/-- a list at a slot is changed -/
theorem Sim.write {i : Nat} {p : Pin} {xs xs' : List M} {a : Addr} {vs' : List V} (S : Sim K r G σ H) (hA : ∀ b, A0 r σ H b → A b) (e : get r i = .o p (.l xs)) (nl : p ≠ .lock) (sv : σ[i]? = some (some (.ref a))) (rl : RepL K G xs' vs') :
    Sim K (r.set i (.o p (.l xs'))) G σ (upd H a (.lst vs')) ∧ Step A r G σ H (r.set i (.o p (.l xs'))) G σ (upd H a (.lst vs')) :=
  S.writeB hA e nl sv rfl ⟨vs', upd_same, rl⟩ fun _ => Iff.rfl
/-- a value that is no name's list any more -/
theorem settle_ok {ev e2 : EV} {v : V} {r' : Ro} (S : Sim K r G σ H) (hA : ∀ b, A0 r σ H b → A b) (h : EvRep K A r G σ H ev v) (e : settle ev r = .ok e2 r') :
    ∃ G', Sim K r' G' σ H ∧ Step (A0 r σ H) r G σ H r' G' σ H ∧ EvRep K A r' G' σ H e2 v ∧ ∀ j, e2 ≠ .bor j := by
  cases ev with
  | fr m => cases e; exact ⟨G, S, .refl A0.self, h, fun _ z => nomatch z⟩
  | tmp xs => cases e; exact ⟨G, S, .refl A0.self, h, fun _ z => nomatch z⟩
  | bor i =>
    have e : bnd (frzI i) (fun m => ret (EV.fr m)) r = .ok e2 r' := e
    cases q : frzI i r with
    | bad => rw [bnd_bad q] at e; cases e
    | ex c m r2 => rw [bnd_ex q] at e; cases e
    | ok m r2 =>
      rw [bnd_ok q] at e
      cases e
      obtain ⟨G', S', st, rp, _⟩ := frz_ok (A := A0 r σ H) (ev := .bor i) S A0.self h q
      exact ⟨G', S', st, rp, fun _ z => nomatch z⟩
theorem settle_noex {ev : EV} {c : String} {m : M} {r' : Ro} : settle ev r ≠ .ex c m r' := fun e => by
  cases ev with
  | fr m => cases e
  | tmp xs => cases e
  | bor i =>
    have e : bnd (frzI i) (fun m => ret (EV.fr m)) r = .ex c m r' := e
    cases q : frzI i r with
    | bad => rw [bnd_bad q] at e; cases e
    | ex c m r2 => exact frz_noex (ev := .bor i) q
    | ok m r2 => rw [bnd_ok q] at e; cases e
theorem settle_tmp {ev : EV} {xs : Cont} {r' : Ro} (e : settle ev r = .ok (.tmp xs) r') : ev = .tmp xs := by
  cases ev with
  | fr m => cases e
  | tmp ys => cases e; rfl
  | bor i =>
    have e : bnd (frzI i) (fun m => ret (EV.fr m)) r = .ok (.tmp xs) r' := e
    cases q : frzI i r with
    | bad => rw [bnd_bad q] at e; cases e
    | ex c m r2 => rw [bnd_ex q] at e; cases e
    | ok m r2 => rw [bnd_ok q] at e; cases e
/-- assigning -/
theorem asg_ok {ev : EV} {v : V} {i : Nat} {r' : Ro} (S : Sim K r G σ H) (hA : ∀ b, A0 r σ H b → A b) (h : EvRep K A r G σ H ev v) (e : asg i ev r = .ok () r') :
    ∃ G', Sim K r' G' (σ.set i (some v)) H ∧ Step A r G σ H r' G' (σ.set i (some v)) H := by
  unfold asg at e
  cases q : settle ev r with
  | bad => rw [bnd_bad q] at e; cases e
  | ex c m r2 => exact (settle_noex q).elim
  | ok e2 r2 =>
    rw [bnd_ok q] at e
    obtain ⟨G', S', st, h2, nb⟩ := settle_ok S hA h q
    unfold sto at e
    by_cases c : i < r2.length ∧ canSet (get r2 i) = true
    · rw [if_pos c] at e
      cases e
      obtain ⟨S3, st3⟩ := S'.store (st.allow hA) h2 nb c.1 c.2
      exact ⟨G', S3, (st.mono hA).trans st3⟩
    · rw [if_neg c] at e; cases e
theorem asg_noex {ev : EV} {i : Nat} {c : String} {m : M} {r' : Ro} : asg i ev r ≠ .ex c m r' := fun e => by
  unfold asg at e
  cases q : settle ev r with
  | bad => rw [bnd_bad q] at e; cases e
  | ex c m r2 => exact settle_noex q
  | ok e2 r2 =>
    rw [bnd_ok q] at e
    unfold sto at e
    split at e <;> cases e
end

/-! ### small statements -/
def sNx : Ev Fl := ret .nx
def sBk : Ev Fl := ret .bk
def sCt : Ev Fl := ret .ct
def seqK (g : Ev Fl) : Fl → Ev Fl
  | .nx => g
  | x => ret x
def sSeq (f g : Ev Fl) : Ev Fl := bnd f (seqK g)
def sIf (c : Ev Bool) (f g : Ev Fl) : Ev Fl := bnd c fun b => if b = true then f else g
def sEx (f : Ev EV) : Ev Fl := bnd f fun _ => ret .nx
def retE (e : EV) : Ev Fl := match e with
  | .bor i => fun r => match get r i with
    | .v m => .ok (.rt (.fr m)) r
    | .o .free xs => .ok (.rt (.tmp xs)) (r.set i .un)
    | _ => .bad
  | e => ret (.rt e)
def sRet (f : Ev EV) : Ev Fl := bnd f retE
def sRetN : Ev Fl := ret (.rt (.fr .non))
def sAsg (i : Nat) (f : Ev EV) : Ev Fl := bnd f fun e => bnd (asg i e) fun _ => ret .nx
section
variable {X : Cx} {W : W4} {a b e : Expr} {es : List Expr} {pos : Pos} {st : Stmt} {rest : List Stmt} {f g : Ev Fl} {fe : Ev EV}
theorem ss_nil : SSs X W [] sNx := pssW pss_nil fun D σ H h => by
  obtain ⟨r, G, S, h⟩ := h
  exact h σ G H S (.refl A0.self)
/-- from a block's goal to its first statement's -/
theorem intoK {K : PySem.W.Frag} {mg : Str → Option Value} {A : Addr → Prop} {r : Ro} {G : Hp} {σ : St} {H : Hp} {D D' : Ends} {f : Ev Fl} {k : Fl → Ev Fl} (S : Sim K r G σ H) (hA : ∀ b, A0 r σ H b → A b) (h : PostS K mg W A r G σ H D (bnd f k r))
    (hn : ∀ r' σ' G' H', Sim K r' G' σ' H' → (∀ b, A0 r' σ' H' b → A b) → Step A r G σ H r' G' σ' H' → PostS K mg W A r' G' σ' H' D (k .nx r') → D'.nx σ' H')
    (hb : ∀ r' σ' G' H', Sim K r' G' σ' H' → (∀ b, A0 r' σ' H' b → A b) → Step A r G σ H r' G' σ' H' → PostS K mg W A r' G' σ' H' D (k .bk r') → D'.bk σ' H')
    (hc : ∀ r' σ' G' H', Sim K r' G' σ' H' → (∀ b, A0 r' σ' H' b → A b) → Step A r G σ H r' G' σ' H' → PostS K mg W A r' G' σ' H' D (k .ct r') → D'.ct σ' H')
    (hr : ∀ r' σ' G' H' ev v, Sim K r' G' σ' H' → (∀ b, A0 r' σ' H' b → A b) → Step A r G σ H r' G' σ' H' → EvRep K A r' G' σ' H' ev v → PostS K mg W A r' G' σ' H' D (k (.rt ev) r') → D'.rt v H') :
    tS K mg W f D' σ H := by
  refine lastS S hA ?_
  cases q : f r with
  | bad => rw [bnd_bad q] at h; exact h
  | ex c m r' => rw [bnd_ex q] at h; exact h
  | ok fl r' =>
    rw [bnd_ok q] at h
    cases fl with
    | nx => exact fun σ' G' H' S' s' => hn r' σ' G' H' S' (s'.allow' hA) s' (h.rebase s')
    | bk => exact fun σ' G' H' S' s' => hb r' σ' G' H' S' (s'.allow' hA) s' (h.rebase s')
    | ct => exact fun σ' G' H' S' s' => hc r' σ' G' H' S' (s'.allow' hA) s' (h.rebase s')
    | rt ev => exact fun v σ' G' H' S' s' er => hr r' σ' G' H' ev v S' (s'.allow' hA) s' er (h.rebase s')
theorem ss_cons (h1 : SS X W st f) (h2 : SSs X W rest g) : SSs X W (st :: rest) (sSeq f g) := by
  refine pssW (pss_cons h1 h2) fun D σ H ⟨r, G, S, h⟩ => ?_
  refine intoK S A0.self h (fun r' σ' G' H' S' a' s' p => lastS S' a' p) (fun r' σ' G' H' S' a' s' p => p σ' G' H' S' (.refl a')) (fun r' σ' G' H' S' a' s' p => p σ' G' H' S' (.refl a')) (fun r' σ' G' H' ev v S' a' s' er p => p v σ' G' H' S' (.refl a') er)
theorem ss_one (h1 : SS X W st f) : SSs X W [st] f := pss_one h1
theorem ss_pass : SS X W (.Pass pos) sNx := psW ps_pass fun D σ H h => by
  obtain ⟨r, G, S, h⟩ := h
  exact h σ G H S (.refl A0.self)
theorem ss_break : SS X W (.Break pos) sBk := psW ps_break fun D σ H h => by
  obtain ⟨r, G, S, h⟩ := h
  exact h σ G H S (.refl A0.self)
theorem ss_continue : SS X W (.Continue pos) sCt := psW ps_continue fun D σ H h => by
  obtain ⟨r, G, S, h⟩ := h
  exact h σ G H S (.refl A0.self)
theorem ss_if {c : Expr} {p q : List Stmt} {fc : Ev Bool} (hc : ST X W c fc) (ha : SSs X W p f) (hb : SSs X W q g) : SS X W (.If c p q pos) (sIf fc f g) := by
  refine psW (ps_if hc ha hb) fun D σ H ⟨r, G, S, h⟩ => ?_
  refine intoS upB S A0.self h fun c r1 c' G1 H1 S1 a1 st1 e1 h1 => ?_
  subst e1
  cases c with
  | true => rw [if_pos rfl] at h1; exact iteT (lastS S1 a1 h1)
  | false => rw [if_neg Bool.false_ne_true] at h1; exact iteF (lastS S1 a1 h1)
theorem ss_expr (he : SE X W e fe) (hs : swapsWith e none pos.line X.env = pure false := by rfl) : SS X W (.Expr e pos) (sEx fe) := by
  refine psW (ps_expr he hs) fun D σ H ⟨r, G, S, h⟩ => ?_
  exact intoS upE S A0.self h fun ev r1 v G1 H1 S1 a1 st1 e1 h1 => h1 σ G1 H1 S1 (.refl a1)
theorem ss_ret (he : SE X W e fe) : SS X W (.Return (some e) pos) (sRet fe) := by
  refine psW (ps_ret he) fun D σ H ⟨r, G, S, h⟩ => ?_
  refine intoS upE S A0.self h fun ev r1 v G1 H1 S1 a1 st1 e1 h1 => ?_
  cases ev with
  | fr m => exact h1 v σ G1 H1 S1 (.refl a1) e1
  | tmp xs => exact h1 v σ G1 H1 S1 (.refl a1) e1
  | bor i =>
    obtain ⟨c, rfl, sv⟩ := e1
    have h1 : PostS X.K X.mg W (A0 r σ H) r1 G1 σ H1 D (match get r1 i with
      | .v m => R.ok (Fl.rt (.fr m)) r1
      | .o .free xs => .ok (.rt (.tmp xs)) (r1.set i .un)
      | _ => .bad) := h1
    cases q : get r1 i with
    | un => rw [q] at h1; exact h1.elim
    | v m =>
      rw [q] at h1
      obtain ⟨w, sv', rp⟩ := S1.val i m q
      rw [sv] at sv'; cases sv'
      exact h1 _ σ G1 H1 S1 (.refl a1) rp
    | o p xs =>
      rw [q] at h1
      cases p with
      | pin => exact h1.elim
      | lock => exact h1.elim
      | free =>
        obtain ⟨c', sv', bx⟩ := S1.own i _ xs q
        rw [sv] at sv'; cases sv'
        have hi : i < r1.length := get_lt (by rw [q]; exact fun z => nomatch z)
        have bk : ∀ b, Own (r1.set i .un) σ H1 b → Own r1 σ H1 b ∧ ¬ Foot H1 c xs b := fun b ⟨j, p, ys, a', e1, e2, f⟩ => by
          rw [get_set] at e1
          by_cases z : i = j
          · rw [if_pos ⟨z, hi⟩] at e1; cases e1
          · rw [if_neg (fun q => z q.1)] at e1
            exact ⟨⟨j, p, ys, a', e1, e2, f⟩, fun z2 => z (S1.inj i j _ _ _ _ _ _ b q e1 sv e2 z2 f)⟩
        have gs : ∀ {j s}, get (r1.set i .un) j = s → s ≠ .un → get r1 j = s := fun {j s} e n => by
          rw [get_set] at e
          by_cases z : i = j
          · rw [if_pos ⟨z, hi⟩] at e; exact absurd e.symm n
          · rw [if_neg (fun q => z q.1)] at e; exact e
        have S2 : Sim X.K (r1.set i .un) G1 σ H1 := ⟨S1.sub, by rw [List.length_set]; exact S1.len, fun j m e => S1.val j m (gs e (fun z => nomatch z)), fun j p ys e => S1.own j p ys (gs e (fun z => nomatch z)),
          fun j k p q ys zs a a' b e1 e2 => S1.inj j k p q ys zs a a' b (gs e1 (fun z => nomatch z)) (gs e2 (fun z => nomatch z))⟩
        have st2 : Step (A0 r σ H) r1 G1 σ H1 (r1.set i .un) G1 σ H1 := ⟨Same.refl _, fun _ _ e _ => e, fun b e => .inl e, fun b o => a1 b (.inl (bk b o).1), fun j p ys e nf => by
          rw [get_set]
          by_cases z : i = j
          · subst z; rw [q] at e; cases e; exact absurd rfl nf
          · rw [if_neg (fun q => z q.1)]; exact ⟨rfl, ys, e, fun _ => rfl⟩, fun _ e => e⟩
        exact h1 _ σ G1 H1 S2 st2 ⟨c, rfl, bx, fun b f => ⟨fun z => (bk b z).2 f, a1 b (.inl ⟨i, _, xs, c, q, sv, f⟩)⟩⟩
theorem ss_retN : SS X W (.Return none pos) sRetN := psW ps_retN fun D σ H ⟨r, G, S, h⟩ => h _ σ G H S (.refl A0.self) rfl
theorem post_asg {K : PySem.W.Frag} {mg : Str → Option Value} {A : Addr → Prop} {r : Ro} {G : Hp} {σ : St} {H : Hp} {D : Ends} {ev : EV} {v : V} {i : Nat} {k : Unit → Ev Fl} (S : Sim K r G σ H) (hA : ∀ b, A0 r σ H b → A b) (h : EvRep K A r G σ H ev v) (p : PostS K mg W A r G σ H D (bnd (asg i ev) k r)) :
    ∃ r' G', Sim K r' G' (σ.set i (some v)) H ∧ (∀ b, A0 r' (σ.set i (some v)) H b → A b) ∧ Step A r G σ H r' G' (σ.set i (some v)) H ∧ PostS K mg W A r' G' (σ.set i (some v)) H D (k () r') := by
  cases q : asg i ev r with
  | bad => rw [bnd_bad q] at p; exact p.elim
  | ex c m r' => exact (asg_noex q).elim
  | ok u r' =>
    rw [bnd_ok q] at p
    obtain ⟨G', S', st⟩ := asg_ok S hA h q
    exact ⟨r', G', S', st.allow' hA, st, p.rebase st⟩
theorem ss_set {i : Nat} {x : Str} {p' : Pos} (hN : X.N.Nodup) (hi : X.N[i]? = some x) (hx : Loc X.env.scope x) (he : SE X W e fe) (hs : swapsWith e (some (.Name x p')) pos.line X.env = pure false := by rfl)
    (hf : X.fn x = true ∨ X.env.scope.names.lookup x = some .local := by first | exact .inl rfl | exact .inr rfl | assumption) : SS X W (.Assign [.Name x p'] e pos) (sAsg i fe) := by
  refine psW (ps_set hN hi hx he hs hf) fun D σ H ⟨r, G, S, h⟩ => ?_
  refine intoS upE S A0.self h fun ev r1 v G1 H1 S1 a1 st1 e1 h1 => ?_
  obtain ⟨r2, G2, S2, a2, st2, p2⟩ := post_asg S1 a1 e1 h1
  exact p2 _ G2 H1 S2 (.refl a2)

/-! ### targets -/
abbrev Tg := M → Ev Unit
def tName (i : Nat) : Tg := fun m => sto i (.v m)
def tAll : List Tg → List M → Ev Unit
  | [], [] => ret ()
  | t :: ts, m :: ms => bnd (t m) fun _ => tAll ts ms
  | _, _ => bad
def tTup (ts : List Tg) : Tg := fun m => match m with
  | .tup ms => tAll ts ms
  | _ => bad
def PostT (K : PySem.W.Frag) (ix : List Nat) (r : Ro) (G : Hp) (σ : St) (H : Hp) (Q : St → Hp → Prop) : R Unit → Prop
  | .ok _ r' => ∀ σ' G' H', Sim K r' G' σ' H' → Step (A0 r σ H) r G σ H r' G' σ' H' → σ'.length = σ.length → (∀ j, j ∉ ix → σ'[j]? = σ[j]?) → Q σ' H'
  | _ => False
def SG (X : Cx) (e : Expr) (ix : List Nat) (t : Tg) : Prop := PG X e fun v σ H Q => ∃ r G m, Sim X.K r G σ H ∧ Rep X.K G m v ∧ PostT X.K ix r G σ H Q (t m r)
def SGs (X : Cx) (es : List Expr) (ix : List Nat) (ts : List Tg) : Prop := PGs X es fun vs σ H Q => ∃ r G ms, Sim X.K r G σ H ∧ RepL X.K G ms vs ∧ PostT X.K ix r G σ H Q (tAll ts ms r)
theorem pgW {e : Expr} {t t' : TG} (h : PG X e t) (w : ∀ v σ H Q, t' v σ H Q → t v σ H Q) : PG X e t' := ⟨fun pins s σ H v u Q I rv q => h.run pins s σ H v u Q I rv (w v σ H Q q)⟩
theorem pgsW {e : List Expr} {t t' : TGs} (h : PGs X e t) (w : ∀ v σ H Q, t' v σ H Q → t v σ H Q) : PGs X e t' := ⟨fun pins s σ H v u Q I rv q => h.run pins s σ H v u Q I rv (w v σ H Q q)⟩
theorem sg_name {i : Nat} {x : Str} (hN : X.N.Nodup) (hi : X.N[i]? = some x) (hx : Loc X.env.scope x) (hf : X.fn x = true ∨ X.env.scope.names.lookup x = some .local := by first | exact .inl rfl | exact .inr rfl | assumption) : SG X (.Name x pos) [i] (tName i) := by
  refine pgW (pg_name hN hi hx hf) fun v σ H Q ⟨r, G, m, S, rp, h⟩ => ?_
  unfold tName sto at h
  by_cases c : i < r.length ∧ canSet (get r i) = true
  · rw [if_pos c] at h
    obtain ⟨S3, st3⟩ := Sim.store (ev := .fr m) (A := A0 r σ H) S A0.self rp (fun _ z => nomatch z) c.1 c.2
    exact h _ G H S3 st3 (List.length_set) fun j hj => List.getElem?_set_ne (fun z => hj (by rw [z]; exact List.mem_cons_self ..))
  · rw [if_neg c] at h; exact h.elim
theorem sgs_nil : SGs X [] [] [] := pgsW pgs_nil fun v σ H Q h => by
  obtain ⟨r, G, ms, S, rl, h⟩ := h
  cases ms with
  | nil => cases rl; exact ⟨rfl, h σ G H S (.refl A0.self) rfl fun _ _ => rfl⟩
  | cons _ _ => exact h.elim
theorem sgs_cons {e : Expr} {es : List Expr} {ix jx : List Nat} {t : Tg} {ts : List Tg} (h1 : SG X e ix t) (h2 : SGs X es jx ts)
    (hs : (assignEach (e :: es) X.env).map (·.2) = assign e X.env :: (assignEach es X.env).map (·.2) := by rfl) : SGs X (e :: es) (ix ++ jx) (t :: ts) := by
  refine pgsW (pgs_cons h1 h2 hs) fun v σ H Q ⟨r, G, ms, S, rl, h⟩ => ?_
  cases ms with
  | nil => exact h.elim
  | cons m ms =>
    obtain ⟨v, vr, rfl, rp, rl2⟩ := rl
    refine ⟨v, vr, rfl, r, G, m, S, rp, ?_⟩
    have h : PostT X.K (ix ++ jx) r G σ H Q (bnd (t m) (fun _ => tAll ts ms) r) := h
    cases q : t m r with
    | bad => rw [bnd_bad q] at h; exact h.elim
    | ex c m r' => rw [bnd_ex q] at h; exact h.elim
    | ok u r1 =>
      rw [bnd_ok q] at h
      intro σ1 G1 H1 S1 st1 l1 j1
      refine ⟨r1, G1, ms, S1, rl2.mono st1.grow, ?_⟩
      cases q2 : tAll ts ms r1 with
      | bad => rw [q2] at h; exact h.elim
      | ex c m r' => rw [q2] at h; exact h.elim
      | ok u2 r2 =>
        rw [q2] at h
        intro σ2 G2 H2 S2 st2 l2 j2
        exact h σ2 G2 H2 S2 (st1.trans (st2.mono (st1.allow A0.self))) (l2.trans l1) fun j hj => (j2 j (fun z => hj (List.mem_append_right _ z))).trans (j1 j (fun z => hj (List.mem_append_left _ z)))
theorem sg_tup {es : List Expr} {k n : Nat} {ix : List Nat} {ts : List Tg} (hc : X.calm = true) (h : SGs X es ix ts) (hl : ts.length = n := by rfl)
    (hn : (assignEach es X.env).length = n := by rfl) (hst : (assignEach es X.env).findIdx? (·.1) = none := by rfl) : SG X (.Tuple es k pos) ix (tTup ts) := by
  refine pgW (pg_tup hc h hn hst) fun v σ H Q ⟨r, G, m, S, rp, h⟩ => ?_
  cases m with
  | tup ms =>
    obtain ⟨a, vs, rfl, s, rl⟩ := rp
    have len : ∀ (ts : List Tg) (ms : List M) (r : Ro), (∃ u r', tAll ts ms r = .ok u r') → ts.length = ms.length := by
      intro ts
      induction ts with
      | nil => intro ms r ⟨u, r', e⟩; cases ms with
        | nil => rfl
        | cons _ _ => cases e
      | cons t ts ih => intro ms r ⟨u, r', e⟩; cases ms with
        | nil => cases e
        | cons m ms =>
          have e : bnd (t m) (fun _ => tAll ts ms) r = .ok u r' := e
          cases q : t m r with
          | bad => rw [bnd_bad q] at e; cases e
          | ex c m r' => rw [bnd_ex q] at e; cases e
          | ok u r1 => rw [bnd_ok q] at e; simp [ih ms r1 ⟨_, _, e⟩]
    have h : PostT X.K ix r G σ H Q (tAll ts ms r) := h
    have hlen : ts.length = ms.length := len ts ms r (by
      cases q : tAll ts ms r with
      | bad => rw [q] at h; exact h.elim
      | ex c m r' => rw [q] at h; exact h.elim
      | ok u r1 => exact ⟨_, _, rfl⟩)
    exact ⟨a, vs, rfl, sqT_mono S.sub s, by rw [← rl.len, ← hlen, hl], r, G, ms, S, rl, h⟩
  | _ => exact h.elim
/-- nothing is raised -/
def noX {α : Type} (f : Ev α) : Ev α := fun r => match f r with
  | .ok a r' => .ok a r'
  | _ => .bad
theorem noX_ok {α : Type} {f : Ev α} {r r' : Ro} {a : α} (h : noX f r = .ok a r') : f r = .ok a r' := by
  unfold noX at h
  cases q : f r with
  | ok b r2 => rw [q] at h; exact h
  | ex c m r2 => rw [q] at h; cases h
  | bad => rw [q] at h; cases h
theorem noX_ex {α : Type} {f : Ev α} {r r' : Ro} {c : String} {m : M} : noX f r ≠ .ex c m r' := fun h => by
  unfold noX at h
  cases q : f r with
  | ok b r2 => rw [q] at h; cases h
  | ex c m r2 => rw [q] at h; cases h
  | bad => rw [q] at h; cases h
theorem noX_of {α : Type} {f : Ev α} {r r' : Ro} {a : α} (h : f r = .ok a r') : noX f r = .ok a r' := by
  unfold noX
  rw [h]
def sAsgT (t : Tg) (f : Ev EV) : Ev Fl := bnd f fun e => bnd (frz e) fun m => bnd (noX (t m)) fun _ => ret .nx
theorem ss_asg {tg : Expr} {ix : List Nat} {t : Tg} (he : SE X W e fe) (hg : SG X tg ix t) (hs : swapsWithSole [tg] e pos.line X.env = pure false := by rfl) (hw : swappedStores [tg] e X.env = pure none := by rfl)
    (h1 : (assignEach [tg] X.env).map (·.2) = [assign tg X.env] := by rfl) : SS X W (.Assign [tg] e pos) (sAsgT t fe) := by
  refine psW (ps_asg he hg hs hw h1) fun D σ H ⟨r, G, S, h⟩ => ?_
  refine intoS upE S A0.self h fun ev r1 v G1 H1 S1 a1 st1 e1 h1 => ?_
  cases q : frz ev r1 with
  | bad => rw [bnd_bad q] at h1; exact h1.elim
  | ex c m r' => exact (frz_noex q).elim
  | ok m r2 =>
    rw [bnd_ok q] at h1
    obtain ⟨G2, S2, st2, rp, _⟩ := frz_ok S1 a1 e1.wk q
    refine ⟨r2, G2, m, S2, rp, ?_⟩
    cases q2 : noX (t m) r2 with
    | bad => rw [bnd_bad q2] at h1; exact absurd h1 (fun z => z)
    | ex c m r' => exact (noX_ex q2).elim
    | ok u r3 =>
      rw [bnd_ok q2] at h1
      rw [noX_ok q2]
      exact fun σ3 G3 H3 S3 st3 _ _ => h1 σ3 G3 H3 S3 (st2.trans (st3.mono (st2.allow' a1)))

/-! ### a, b = x, y -/
theorem into1 {K : PySem.W.Frag} {A : Addr → Prop} {r : Ro} {G : Hp} {σ : St} {H : Hp} {mg : Str → Option Value} {α β γ : Type} {rp : RP α β} {fa : Ev α} {k : α → Ev γ} {Q1 : β → Hp → Prop} (P : R γ → Prop) (hb : ¬ P .bad) (hx : ∀ c m r', P (.ex c m r') → ExPost K mg W A r G σ H c m r')
    (S : Sim K r G σ H) (hA : ∀ b, A0 r σ H b → A b) (h : P (bnd fa k r))
    (hk : ∀ a r1 b G1 H1, Sim K r1 G1 σ H1 → (∀ b, A0 r1 σ H1 b → A b) → Step (A0 r σ H) r G σ H r1 G1 σ H1 → rp (A0 r σ H) r1 G1 H1 a b → P (k a r1) → Q1 b H1) :
    tG rp K mg W fa σ H Q1 := by
  refine ⟨r, G, S, ?_⟩
  cases q : fa r with
  | bad => rw [bnd_bad q] at h; exact absurd h hb
  | ex c m r' =>
    rw [bnd_ex q] at h
    exact fun σ' G' H' cls d S' st x => hx c m r' h σ' G' H' cls d S' (st.mono hA) x
  | ok a r' =>
    rw [bnd_ok q] at h
    exact fun b G' H' S' st e => hk a r' b G' H' S' (st.allow hA) st e h
def sPar (i j : Nat) (f g : Ev EV) : Ev Fl := bnd f fun a => bnd g fun b => bnd (settle a) fun a => bnd (settle b) fun b => bnd (sto i (slotE a)) fun _ => bnd (sto j (slotE b)) fun _ => ret .nx
theorem post_settle {K : PySem.W.Frag} {mg : Str → Option Value} {A : Addr → Prop} {r : Ro} {G : Hp} {σ : St} {H : Hp} {D : Ends} {ev : EV} {v : V} {k : EV → Ev Fl} (S : Sim K r G σ H) (hA : ∀ b, A0 r σ H b → A b) (h : EvRep K A r G σ H ev v) (p : PostS K mg W A r G σ H D (bnd (settle ev) k r)) :
    ∃ e2 r' G', Sim K r' G' σ H ∧ (∀ b, A0 r' σ H b → A b) ∧ Step (A0 r σ H) r G σ H r' G' σ H ∧ EvRep K A r' G' σ H e2 v ∧ (∀ j, e2 ≠ .bor j) ∧ PostS K mg W A r' G' σ H D (k e2 r') ∧ ∀ xs, e2 = .tmp xs → ev = .tmp xs := by
  cases q : settle ev r with
  | bad => rw [bnd_bad q] at p; exact p.elim
  | ex c m r' => exact (settle_noex q).elim
  | ok e2 r' =>
    rw [bnd_ok q] at p
    obtain ⟨G', S', st, er, nb⟩ := settle_ok S hA h q
    exact ⟨e2, r', G', S', st.allow hA, st, er, nb, p.rebase (st.mono hA), fun xs z => settle_tmp (z ▸ q)⟩
/-- a value kept beside a store -/
theorem EvRep.store {K : PySem.W.Frag} {A : Addr → Prop} {r : Ro} {G : Hp} {σ : St} {H : Hp} {ea eb : EV} {v w : V} {i : Nat} (ha : EvRep K A r G σ H ea v) (hb : EvRep K A r G σ H eb w) (na : ∀ j, ea ≠ .bor j) (nb : ∀ j, eb ≠ .bor j) (hi : i < r.length) (hl : r.length = σ.length) (ne : ∀ c, (∃ a b, v = .ref a ∧ ea = .tmp b ∧ Foot H a b c) → ¬ ∃ a b, w = .ref a ∧ eb = .tmp b ∧ Foot H a b c) :
    EvRep K A (r.set i (slotE ea)) G (σ.set i (some v)) H eb w := by
  cases eb with
  | fr m => exact hb
  | bor j => exact absurd rfl (nb j)
  | tmp ys =>
    obtain ⟨a, e, x, al⟩ := hb
    refine ⟨a, e, x, fun c f => ⟨fun o => ?_, (al c f).2⟩⟩
    rcases own_set hi (by rw [← hl]; exact hi) o with ⟨p, xs, a', e1, e2, f2⟩ | ⟨j, p, xs, a', _, e1, e2, f2⟩
    · cases ea with
      | fr m => cases e1
      | bor k => exact absurd rfl (na k)
      | tmp zs =>
        obtain ⟨a3, e3, _⟩ := ha
        cases e1
        exact ne c ⟨a', _, e2, rfl, f2⟩ ⟨a, _, e, rfl, f⟩
    · exact (al c f).1 ⟨j, p, xs, a', e1, e2, f2⟩
theorem ss_par {i j : Nat} {x y : Str} {px py pt : Pos} {kt k2 pt2} {fa fb : Ev EV} (hc : X.calm = true) (hN : X.N.Nodup) (hi : X.N[i]? = some x) (hj : X.N[j]? = some y) (hij : i ≠ j)
    (hx : X.env.scope.names.lookup x = some .local) (hy : X.env.scope.names.lookup y = some .local) (ha : SE X W a fa) (hb : SE X W b fb)
    (hw : swappedStores [.Tuple [.Name x px, .Name y py] kt pt] (.Tuple [a, b] k2 pt2) X.env = pure (some [x, y]))
    (hs : swapsWithSole [.Tuple [.Name x px, .Name y py] kt pt] (.Tuple [a, b] k2 pt2) pos.line X.env = pure false := by rfl)
    (h1 : starEach [a, b] X.env = (false, eval a X.env) :: starEach [b] X.env := by rfl) (h2 : starEach [b] X.env = (false, eval b X.env) :: starEach [] X.env := by rfl) :
    SS X W (.Assign [.Tuple [.Name x px, .Name y py] kt pt] (.Tuple [a, b] k2 pt2) pos) (sPar i j fa fb) := by
  refine psW (ps_par hc hN hi hj hij hx hy (pa_cons ha (pa_cons hb pa_nil h2) h1) hw hs) fun D σ H ⟨r, G, S, h⟩ => ?_
  refine intoS upE S A0.self h fun ea r1 v G1 H1 S1 a1 st1 e1 h1 => ?_
  -- two lists that are made one behind the other are two
  have key : ∀ eb r2 w G2 H2, Sim X.K r2 G2 σ H2 → Step (A0 r1 σ H1) r1 G1 σ H1 r2 G2 σ H2 → EvRep X.K (A0 r1 σ H1) r2 G2 σ H2 eb w → ∀ c, (∃ a b, v = .ref a ∧ ea = .tmp b ∧ Foot H2 a b c) → ¬ ∃ a b, w = .ref a ∧ eb = .tmp b ∧ Foot H2 a b c := fun eb r2 w G2 H2 S2 st2 e2 c ⟨a, b, q1, q2, f1⟩ ⟨a', b', q3, q4, f2⟩ => by
    subst q1 q2 q3 q4
    obtain ⟨a3, e3, x3, al3⟩ := e1
    cases e3
    obtain ⟨a4, e4, x4, al4⟩ := e2
    cases e4
    obtain ⟨_, fo, _⟩ := st2.hold x3 fun c f => (al3 c f).1
    have f1' := (fo c).mp f1
    rcases (al4 c f2).2 with z | z
    · exact (al3 c f1').1 z
    · obtain ⟨o, e⟩ := x3.2.dom f1'
      rw [e] at z; cases z
  have h1 : PostS X.K X.mg W (A0 r σ H) r1 G1 σ H1 D (bnd fb (fun b => bnd (settle ea) fun a => bnd (settle b) fun b => bnd (sto i (slotE a)) fun _ => bnd (sto j (slotE b)) fun _ => ret .nx) r1) := h1
  refine into1 (PostS X.K X.mg W (A0 r σ H) r1 G1 σ H1 D) (fun z => z) (fun _ _ _ z => z) S1 a1 h1 fun eb r2 w G2 H2 S2 a2 st2 e2 h2 => ?_
  have ne := key eb r2 w G2 H2 S2 st2 e2
  have p2 := h2.rebase (st2.mono a1)
  have e1' := e1.step st2
  have e2' := e2.imp a1
  obtain ⟨sa, r3, G3, S3, a3, st3, e3, n3, p3, q1⟩ := post_settle S2 a2 e1' p2
  obtain ⟨sb, r4, G4, S4, a4, st4, e4, n4, p4, q2⟩ := post_settle S3 a3 (e2'.step st3) p3
  have e3' := e3.step st4
  -- what is settled is a list only where it was one
  have p4 : PostS X.K X.mg W (A0 r σ H) r4 G4 σ H2 D (bnd (sto i (slotE sa)) (fun _ => bnd (sto j (slotE sb)) fun _ => ret .nx) r4) := p4
  by_cases c1 : i < r4.length ∧ canSet (get r4 i) = true
  · have z1 : sto i (slotE sa) r4 = .ok () (r4.set i (slotE sa)) := if_pos c1
    rw [bnd_ok z1] at p4
    obtain ⟨S5, st5⟩ := S4.store a4 e3' n3 c1.1 c1.2
    have e5 : EvRep X.K (A0 r σ H) (r4.set i (slotE sa)) G4 (σ.set i (some v)) H2 sb w := EvRep.store e3' e4 n3 n4 c1.1 S4.len fun c ⟨a, b, z1, z2, z3⟩ ⟨a', b', y1, y2, y3⟩ => ne c ⟨a, b, z1, q1 b z2, z3⟩ ⟨a', b', y1, q2 b' y2, y3⟩
    have p5 := p4.rebase st5
    have a5 := st5.allow' a4
    by_cases c2 : j < (r4.set i (slotE sa)).length ∧ canSet (get (r4.set i (slotE sa)) j) = true
    · have z2 : sto j (slotE sb) (r4.set i (slotE sa)) = .ok () ((r4.set i (slotE sa)).set j (slotE sb)) := if_pos c2
      rw [bnd_ok z2] at p5
      obtain ⟨S6, st6⟩ := S5.store a5 e5 n4 c2.1 c2.2
      exact ⟨v, w, rfl, p5 _ G4 H2 S6 st6⟩
    · have z2 : sto j (slotE sb) (r4.set i (slotE sa)) = .bad := if_neg c2
      rw [bnd_bad z2] at p5; exact p5.elim
  · have z1 : sto i (slotE sa) r4 = .bad := if_neg c1
    rw [bnd_bad z1] at p4; exact p4.elim
end
end Sx

set_option Elab.async false
set_option linter.all false
set_option maxRecDepth 100000
set_option maxHeartbeats 4000000
/-! Sx7: op=, methods of lists, stores by index, while, for, comprehensions. -/
namespace Sx
open PySem L2
section
variable {X : Cx} {W : W4} {a b e : Expr} {es : List Expr} {pos : Pos} {st : Stmt} {rest : List Stmt} {f g : Ev Fl} {fe : Ev EV}

/-! ### name op= e, of ints -/
def sAug (i : Nat) (F : Int → Int → Int) (fe : Ev EV) : Ev Fl := fun r => match get r i with
  | .v (.int x) => bnd fe (fun e => match intOf e with
    | some y => bnd (sto i (.v (.int (F x y)))) fun _ => ret .nx
    | none => bad) r
  | _ => .bad
theorem ss_aug {i : Nat} {x : Str} {op : Operator} {p' : Pos} {F : Int → Int → Int} (hN : X.N.Nodup) (hi : X.N[i]? = some x) (hx : Loc X.env.scope x) (he : SE X W e fe) (ho : PIp X op (ipI F))
    (hf : X.fn x = true ∨ X.env.scope.names.lookup x = some .local := by first | exact .inl rfl | exact .inr rfl | assumption) : SS X W (.AugAssign (.Name x p') op e pos) (sAug i F fe) := by
  refine psW (ps_aug hN hi hx he ho hf) fun D σ H ⟨r, G, S, h⟩ => ?_
  unfold sAug at h
  split at h
  · rename_i k q
    obtain ⟨v, sv, rp⟩ := S.val i _ q
    cases rp
    refine ⟨_, sv, intoS upE S A0.self h fun ev r1 v G1 H1 S1 a1 st1 e1 h1 => ?_⟩
    cases q2 : intOf ev with
    | none => simp only [q2] at h1; exact h1.elim
    | some y =>
      simp only [q2] at h1
      refine ⟨k, y, rfl, int_ok e1 q2, ?_⟩
      by_cases c : i < r1.length ∧ canSet (get r1 i) = true
      · rw [bnd_ok (show sto i (.v (.int (F k y))) r1 = .ok () _ from if_pos c)] at h1
        obtain ⟨S3, st3⟩ := S1.store (ev := .fr (.int (F k y))) a1 (show Rep X.K G1 (.int (F k y)) (.int (F k y)) from rfl) (fun _ z => nomatch z) c.1 c.2
        exact h1 _ G1 H1 S3 st3
      · rw [bnd_bad (show sto i (.v (.int (F k y))) r1 = .bad from if_neg c)] at h1; exact h1.elim
  · exact h.elim

/-! ### x.append(e), x.pop(), x[i] = e -/
def canCh : Slot → Option (Pin × List M)
  | .o .lock _ => none
  | .o p (.l xs) => some (p, xs)
  | _ => none
theorem canCh_ok {s : Slot} {p : Pin} {xs : List M} (h : canCh s = some (p, xs)) : s = .o p (.l xs) ∧ p ≠ .lock := by
  cases s with
  | un => cases h
  | v m => cases h
  | o q b => cases b <;> cases q <;> cases h <;> exact ⟨rfl, fun z => nomatch z⟩
def canB : Slot → Option (Pin × Cont)
  | .o .lock _ => none
  | .o p b => some (p, b)
  | _ => none
theorem canB_ok {s : Slot} {p : Pin} {b : Cont} (h : canB s = some (p, b)) : s = .o p b ∧ p ≠ .lock := by
  cases s with
  | un => cases h
  | v m => cases h
  | o q b => cases q <;> cases h <;> exact ⟨rfl, fun z => nomatch z⟩
/-- the list at slot i, changed by g (which gives a value, too) -/
def chg (i : Nat) (g : List M → Option (List M × M)) : Ev EV := fun r => match canCh (get r i) with
  | some (p, xs) => match g xs with
    | some (ys, m) => .ok (.fr m) (r.set i (.o p ys))
    | none => .bad
  | none => .bad
def gApp (m : M) : List M → Option (List M × M) := fun xs => if xs.length < big then some (xs ++ [m], .non) else none
/-- a list stands at slot i -/
def chk {α : Type} (i : Nat) (k : Ev α) : Ev α := fun r => match get r i with
  | .o _ (.l _) => k r
  | _ => .bad
/-- an own object stands at slot i -/
def chkO {α : Type} (i : Nat) (k : Ev α) : Ev α := fun r => match get r i with
  | .o _ _ => k r
  | _ => .bad
theorem chk_ok {K : PySem.W.Frag} {mg : Str → Option Value} {A : Addr → Prop} {r : Ro} {G : Hp} {σ : St} {H : Hp} {Q : VK} {i : Nat} {k : Ev EV} (S : Sim K r G σ H) (h : Post (rpE K σ) K mg W A r G σ H Q (chk i k r)) :
    ∃ a vs, σ[i]? = some (some (.ref a)) ∧ H a = some (.lst vs) ∧ Post (rpE K σ) K mg W A r G σ H Q (k r) := by
  unfold chk at h
  cases q : get r i with
  | un => rw [q] at h; exact h.elim
  | v m => rw [q] at h; exact h.elim
  | o p b =>
    rw [q] at h
    cases b with
    | l xs =>
      obtain ⟨c, sv, _, vs, hc, _⟩ := S.own i p _ q
      exact ⟨c, vs, sv, hc, h⟩
    | _ => exact h.elim
theorem chg_ok {K : PySem.W.Frag} {mg : Str → Option Value} {A : Addr → Prop} {r : Ro} {G : Hp} {σ : St} {H : Hp} {Q : VK} {i : Nat} {g : List M → Option (List M × M)} {a : Addr} (S : Sim K r G σ H) (hA : ∀ b, A0 r σ H b → A b) (sv : σ[i]? = some (some (.ref a))) (h : Post (rpE K σ) K mg W A r G σ H Q (chg i g r)) :
    ∃ vs xs ys m, H a = some (.lst vs) ∧ RepL K G xs vs ∧ g xs = some (ys, m) ∧ ∀ ws v, RepL K G ys ws → Rep K G m v → Q v (upd H a (.lst ws)) := by
  unfold chg at h
  cases q : canCh (get r i) with
  | none => simp only [q] at h; exact h.elim
  | some pr =>
    obtain ⟨p, xs⟩ := pr
    simp only [q] at h
    obtain ⟨e2, nl⟩ := canCh_ok q
    obtain ⟨c, sv', _, vs, hc, rl⟩ := S.own i p _ e2
    rw [sv] at sv'; cases sv'
    cases q2 : g xs with
    | none => simp only [q2] at h; exact h.elim
    | some pr2 =>
      obtain ⟨ys, m⟩ := pr2
      simp only [q2] at h
      refine ⟨vs, xs, ys, m, hc, rl, q2, fun ws v rw' rm => ?_⟩
      obtain ⟨S3, st3⟩ := S.write hA e2 nl sv rw'
      exact h v _ _ S3 st3 rm
def vApp (i : Nat) (f : Ev EV) : Ev EV := chk i (bnd f fun e => bnd (frz e) fun m => chg i (gApp m))
section
variable {i : Nat} {x : Str} {px apos cpos : Pos}
theorem se_append (ha : SE X W e fe) (hN : X.N[i]? = some x := by rfl) (hv : Vis X.env.scope x := by first | exact Or.inl rfl | exact Or.inr (Or.inl rfl) | exact Or.inr (Or.inr rfl)) (hd : (x == ("__debug__" : Str)) = false := by decide) (hcd : (x == ("__classdict__" : Str)) = false := by decide)
    (hbase : attributeBase (.Name x px) "append" X.env (eval (.Name x px) X.env) = eval (.Name x px) X.env := by rfl)
    (hfew : ((backTo cpos (starEach [e] X.env)).all (fun x => !x.1) && (backToKw cpos (keywordEach [] X.env)).all (fun x => x.1.isSome)
      && decide (([e] : List Expr).length + ([] : List Keyword).length + (if ([] : List Keyword).isEmpty then 0 else 1) < 30)) = true := by rfl)
    (hline : (apos.endLine == cpos.line) = true := by rfl) (hs : starEach [e] X.env = (false, eval e X.env) :: starEach [] X.env := by rfl) (hpl : (backTo cpos (starEach [] X.env)).any (·.1) = false := by rfl) :
    SE X W (.Call (.Attribute (.Name x px) "append" apos) [e] [] cpos) (vApp i fe) := by
  refine peW (pe_bm PySem.F.plainAttrs_list PySem.F.slot_list_append PySem.F.type_list_append mt_append (pe_var hN hv hd hcd) (pa_cons ha pa_nil hs) hbase hfew hline hs hpl) fun σ H Q ⟨r, G, S, h⟩ => ?_
  obtain ⟨c, vs0, sv, hc0, h⟩ := chk_ok S h
  refine ⟨_, sv, .inl ⟨rfl, _, .of hc0⟩, ?_⟩
  refine into upE S A0.self h fun ev r1 v G1 H1 S1 a1 st1 e1 h1 => ?_
  obtain ⟨m, r2, G2, S2, a2, rp, h2, st2, _⟩ := post_frz S1 a1 e1.wk h1
  obtain ⟨vs, xs, ys, m2, hc, rl, q, fin⟩ := chg_ok S2 a2 sv h2
  unfold gApp at q
  by_cases z : xs.length < big
  · rw [if_pos z] at q
    cases q
    exact ⟨c, vs, v, rfl, rfl, hc, by rw [← rl.len]; exact z, fin _ _ (rl.app (.one rp)) rfl⟩
  · rw [if_neg z] at q; cases q
def gPop : List M → Option (List M × M) := fun xs => match xs[xs.length - 1]? with
  | some m => some (xs.dropLast, m)
  | none => none
def vPop (i : Nat) : Ev EV := chk i (chg i gPop)
theorem RepL.dl {K : PySem.W.Frag} {G : Hp} {xs : List M} {vs : List V} (h : RepL K G xs vs) : RepL K G xs.dropLast vs.dropLast := by
  rw [List.dropLast_eq_take, List.dropLast_eq_take, h.len]
  exact h.tk _
theorem se_pop (hN : X.N[i]? = some x := by rfl) (hv : Vis X.env.scope x := by first | exact Or.inl rfl | exact Or.inr (Or.inl rfl) | exact Or.inr (Or.inr rfl)) (hd : (x == ("__debug__" : Str)) = false := by decide) (hcd : (x == ("__classdict__" : Str)) = false := by decide)
    (hbase : attributeBase (.Name x px) "pop" X.env (eval (.Name x px) X.env) = eval (.Name x px) X.env := by rfl) (hline : (apos.endLine == cpos.line) = true := by rfl) :
    SE X W (.Call (.Attribute (.Name x px) "pop" apos) [] [] cpos) (vPop i) := by
  refine peW (pe_bm0 PySem.F.plainAttrs_list PySem.F.slot_list_pop PySem.F.type_list_pop mt_pop (pe_var hN hv hd hcd) hbase hline) fun σ H Q ⟨r, G, S, h⟩ => ?_
  obtain ⟨c, vs0, sv, hc0, h⟩ := chk_ok S h
  refine ⟨_, sv, .inl ⟨rfl, _, .of hc0⟩, ?_⟩
  obtain ⟨vs, xs, ys, m2, hc, rl, q, fin⟩ := chg_ok S A0.self sv h
  unfold gPop at q
  cases q2 : xs[xs.length - 1]? with
  | none => rw [q2] at q; cases q
  | some m =>
    rw [q2] at q
    cases q
    obtain ⟨v, hv, rp⟩ := rl.at q2
    rw [rl.len] at hv
    exact ⟨c, vs, v, rfl, rfl, hc, hv, fin _ _ rl.dl rp⟩
/-- x[i] = e -/
def setB (b : EV) (m : M) : Cont → Option Cont
  | .l xs => match intOf b with
    | some k => (ixN xs.length k).map fun j => .l (xs.set j m)
    | none => none
  | .di kvs => match intOf b with
    | some k => if kvs.length < big then some (.di (putI kvs k m)) else none
    | none => none
  | .dt kvs => match b with
    | .fr x => match keyT x with
      | some k => if kvs.length < big then some (.dt (putT kvs x k m)) else none
      | none => none
    | _ => none
  | .ll _ => none
def stoR (i : Nat) (b : EV) (m : M) (r : Ro) : Option (Pin × Cont) → R Unit
  | some (p, d) => match setB b m d with
    | some d' => .ok () (r.set i (.o p d'))
    | none => .bad
  | none => .bad
def stoB (i : Nat) (b : EV) (m : M) : Ev Unit := fun r => stoR i b m r (canB (get r i))
def sSetI (i : Nat) (fi fe : Ev EV) : Ev Fl := bnd fe fun e => chkO i (bnd fi fun b => bnd (frz e) fun m => bnd (stoB i b m) fun _ => ret .nx)
theorem stoB_noex {i : Nat} {b : EV} {m n : M} {c : String} {r r' : Ro} : stoB i b m r ≠ .ex c n r' := fun e => by
  unfold stoB stoR at e
  split at e
  · split at e <;> cases e
  · cases e
/-- an entry is stored -/
theorem stoB_ok {K : PySem.W.Frag} {A : Addr → Prop} {r r' : Ro} {G : Hp} {σ : St} {H : Hp} {i : Nat} {eb : EV} {w v : V} {m : M} {a : Addr} {Q : Hp → Prop} (S : Sim K r G σ H) (hA : ∀ b, A0 r σ H b → A b) (sv : σ[i]? = some (some (.ref a))) (e2 : EvRep K A r G σ H eb w) (rp : Rep K G m v)
    (e : stoB i eb m r = .ok () r') (q : ∀ H', Sim K r' G σ H' → Step A r G σ H r' G σ H' → Q H') : rSetL (.ref a) w v H Q ∨ (rSetD K (.ref a) w v H Q ∨ rSetI (.ref a) w v H Q) := by
  unfold stoB stoR at e
  cases q5 : canB (get r i) with
  | none => rw [q5] at e; cases e
  | some pr =>
    obtain ⟨p, d⟩ := pr
    rw [q5] at e
    obtain ⟨e5, nl⟩ := canB_ok q5
    obtain ⟨c', sv', x⟩ := S.own i p d e5
    rw [sv] at sv'; cases sv'
    have e : (match setB eb m d with
      | some d' => R.ok () (r.set i (.o p d'))
      | none => .bad) = .ok () r' := e
    cases d with
    | ll _ => cases e
    | l xs =>
      obtain ⟨vs, hc, rl⟩ := x.2
      have e : (match (match intOf eb with
        | some k => (ixN xs.length k).map fun j => Cont.l (xs.set j m)
        | none => none) with
        | some d' => R.ok () (r.set i (.o p d'))
        | none => .bad) = .ok () r' := e
      cases q4 : intOf eb with
      | none => rw [q4] at e; cases e
      | some k =>
        rw [q4] at e
        cases q7 : ixN xs.length k with
        | none => simp only [q7] at e; cases e
        | some j =>
          simp only [q7] at e
          cases e
          obtain ⟨S6, st6⟩ := S.write hA e5 nl sv (rl.setAt j rp)
          exact .inl ⟨a, vs, k, j, rfl, int_ok e2 q4, hc, by rw [← rl.len]; exact q7, q _ S6 st6⟩
    | di kvs =>
      obtain ⟨es, hc, pr, nd⟩ := x.2
      have e : (match (match intOf eb with
        | some k => if kvs.length < big then some (Cont.di (putI kvs k m)) else none
        | none => none) with
        | some d' => R.ok () (r.set i (.o p d'))
        | none => .bad) = .ok () r' := e
      cases q4 : intOf eb with
      | none => rw [q4] at e; cases e
      | some k =>
        rw [q4] at e
        by_cases c : kvs.length < big
        · simp only [if_pos c] at e
          cases e
          obtain ⟨S6, st6⟩ := S.writeB (b' := .di (putI kvs k m)) (x := a) (o' := .dK (putK es (.inl k) v)) hA e5 nl sv rfl ⟨_, upd_same, putI_rep pr rp, putI_nd nd⟩ fun _ => Iff.rfl
          exact .inr (.inr ⟨a, es, k, rfl, int_ok e2 q4, hc, by rw [← paired_len pr]; exact c, q _ S6 st6⟩)
        · simp only [if_neg c] at e; cases e
    | dt kvs =>
      obtain ⟨es, d, pr⟩ := dt_ok S x.2
      cases eb with
      | tmp _ => cases e
      | bor _ => cases e
      | fr y =>
        have e : (match (match keyT y with
          | some k => if kvs.length < big then some (Cont.dt (putT kvs y k m)) else none
          | none => none) with
          | some d' => R.ok () (r.set i (.o p d'))
          | none => .bad) = .ok () r' := e
        cases q4 : keyT y with
        | none => rw [q4] at e; cases e
        | some k =>
          rw [q4] at e
          by_cases c : kvs.length < big
          · simp only [if_pos c] at e
            cases e
            obtain ⟨m', hk, e3, rk⟩ := keyE_ok S e2 (show keyE (.fr y) = some k from q4)
            cases e3
            obtain ⟨b, rfl⟩ := hk.tup
            obtain ⟨S6, st6⟩ := S.writeB (b' := .dt (putT kvs y k m)) (x := a) (o' := DictO a (putE es b k v)) hA e5 nl sv rfl ⟨_, upd_same, put_rep pr hk.key hk.dep rk rp, put_nd d.nd⟩ fun _ => Iff.rfl
            exact .inr (.inl ⟨a, kvs, es, y, k, b, rfl, rfl, d, hk, by rw [← paired_len pr]; exact c, q _ S6 st6⟩)
          · simp only [if_neg c] at e; cases e
theorem ss_setI (hu : X.A.units + 65 < cLine) {a : Expr} {fa : Ev EV} {p' : Pos} (he : SE X W e fe) (ha : SE X W a fa) (hN : X.N[i]? = some x := by rfl) (hv : Vis X.env.scope x := by first | exact Or.inl rfl | exact Or.inr (Or.inl rfl) | exact Or.inr (Or.inr rfl)) (hd : (x == ("__debug__" : Str)) = false := by decide) (hcd : (x == ("__classdict__" : Str)) = false := by decide)
    (hasg : ∀ v, assign (.Subscript (.Name x px) a p') X.env v = (do
      let ov ← holding [v] (eval (.Name x px) X.env)
      let iv ← holding [v, ov] (eval a X.env)
      standAt p'
      holding [v, ov, iv] (setItem ov iv v)
      release [v, ov, iv] []) := by intro _; rfl)
    (hs : swapsWithSole [.Subscript (.Name x px) a p'] e pos.line X.env = pure false := by rfl) (hw : swappedStores [.Subscript (.Name x px) a p'] e X.env = pure none := by rfl)
    (h1 : (assignEach [.Subscript (.Name x px) a p'] X.env).map (·.2) = [assign (.Subscript (.Name x px) a p') X.env] := by rfl) :
    SS X W (.Assign [.Subscript (.Name x px) a p'] e pos) (sSetI i fa fe) := by
  refine psW (ps_asg he (pg_sub (pe_var hN hv hd hcd) ha (PSet.or set_list (PSet.or (set_dictT hu) (set_dictI hu))) hasg) hs hw h1) fun D σ H ⟨r, G, S, h⟩ => ?_
  refine intoS upE S A0.self h fun ev r1 v G1 H1 S1 a1 st1 e1 h1 => ?_
  unfold chkO at h1
  cases q : get r1 i with
  | un => rw [q] at h1; exact h1.elim
  | v m => rw [q] at h1; exact h1.elim
  | o p xs =>
    rw [q] at h1
    obtain ⟨c, sv, _⟩ := S1.own i p xs q
    refine ⟨_, sv, ?_⟩
    refine intoS upE S1 a1 h1 fun eb r2 w G2 H2 S2 a2 st2 e2 h2 => ?_
    have e1' := e1.step st2
    cases q3 : frz ev r2 with
    | bad => rw [bnd_bad q3] at h2; exact h2.elim
    | ex c m r' => exact (frz_noex q3).elim
    | ok m r3 =>
      rw [bnd_ok q3] at h2
      obtain ⟨G3, S3, st3, rp, so⟩ := frz_ok S2 a2 e1'.wk q3
      have a3 := st3.allow' a2
      have h3 := h2.rebase st3
      cases q4 : stoB i eb m r3 with
      | bad => rw [bnd_bad q4] at h3; exact h3.elim
      | ex c m r' => exact (stoB_noex q4).elim
      | ok u r4 =>
        rw [bnd_ok q4] at h3
        cases eb with
        | fr y => exact stoB_ok (eb := .fr y) S3 a3 sv (Rep.mono st3.grow e2) rp q4 fun H' S' s' => h3 σ _ _ S' s'
        | tmp y =>
          exfalso
          unfold stoB stoR at q4
          split at q4
          · rename_i p d _
            cases d <;> cases q4
          · cases q4
        | bor y =>
          exfalso
          unfold stoB stoR at q4
          split at q4
          · rename_i p d _
            cases d <;> cases q4
          · cases q4
end

/-! ### while -/
def whK (w : Ev Fl) : Fl → Ev Fl
  | .nx => w
  | .ct => w
  | .bk => ret .nx
  | .rt e => ret (.rt e)
def whF (c : Ev Bool) (b : Ev Fl) : Nat → Ev Fl
  | 0 => bad
  | n + 1 => bnd c fun t => if t = true then bnd b (whK (whF c b n)) else ret .nx
open Classical in
noncomputable def sWh (c : Ev Bool) (b : Ev Fl) : Ev Fl := fun r => if h : ∃ n, whF c b n r ≠ .bad then whF c b h.choose r else .bad
theorem ss_while {c : Expr} {body : List Stmt} {fc : Ev Bool} {fb : Ev Fl} (hp : PassesOwn (model X.prog X.w) X.A X.env X.xe) (hc : ST X W c fc) (hb : SSs X W body fb) : SS X W (.While c body [] pos) (sWh fc fb) := by
  refine psW (ps_while hp hc hb) fun D σ H ⟨r, G, S, h⟩ => ?_
  unfold sWh at h
  split at h
  · rename_i hn
    refine ⟨fun m σ' H' => ∃ r' G', Sim X.K r' G' σ' H' ∧ (∀ b, A0 r' σ' H' b → A0 r σ H b) ∧ PostS X.K X.mg W (A0 r σ H) r' G' σ' H' D (whF fc fb m r'), ⟨hn.choose, r, G, S, A0.self, h⟩, ?_⟩
    rintro m σ' H' ⟨r', G', S', a', p⟩
    cases m with
    | zero => exact p.elim
    | succ m =>
      refine intoS upB S' a' p fun t r1 t' G1 H1 S1 a1 st1 e1 h1 => ?_
      subst e1
      cases t with
      | false => rw [if_neg Bool.false_ne_true] at h1; exact iteF (h1 σ' G1 H1 S1 (.refl a1))
      | true =>
        rw [if_pos rfl] at h1
        refine iteT ⟨fun σ2 H2 => ∃ r2 G2, Sim X.K r2 G2 σ2 H2 ∧ (∀ b, A0 r2 σ2 H2 b → A0 r σ H b) ∧ PostS X.K X.mg W (A0 r σ H) r2 G2 σ2 H2 D (whF fc fb m r2), fun σ2 H2 z => ⟨m, Nat.lt_succ_self m, z⟩, ?_⟩
        exact intoK S1 a1 h1 (fun r2 σ2 G2 H2 S2 a2 s2 p => ⟨r2, G2, S2, a2, p⟩) (fun r2 σ2 G2 H2 S2 a2 s2 p => p σ2 G2 H2 S2 (.refl a2)) (fun r2 σ2 G2 H2 S2 a2 s2 p => ⟨r2, G2, S2, a2, p⟩)
          (fun r2 σ2 G2 H2 ev v S2 a2 s2 er p => p v σ2 G2 H2 S2 (.refl a2) er)
  · exact h.elim
end
theorem whF_mono {c : Ev Bool} {b : Ev Fl} : ∀ {n : Nat} {r : Ro}, whF c b n r ≠ .bad → whF c b (n + 1) r = whF c b n r
  | 0, _, h => absurd rfl h
  | n + 1, r, h => by
    show bnd c (fun t => if t = true then bnd b (whK (whF c b (n + 1))) else ret .nx) r = bnd c (fun t => if t = true then bnd b (whK (whF c b n)) else ret .nx) r
    have h : bnd c (fun t => if t = true then bnd b (whK (whF c b n)) else ret .nx) r ≠ .bad := h
    cases q : c r with
    | bad => rw [bnd_bad q, bnd_bad q]
    | ex x m r' => rw [bnd_ex q, bnd_ex q]
    | ok t r' =>
      rw [bnd_ok q] at h ⊢
      rw [bnd_ok q]
      cases t with
      | false => rfl
      | true =>
        rw [if_pos rfl] at h ⊢
        rw [if_pos rfl]
        cases q2 : b r' with
        | bad => rw [bnd_bad q2, bnd_bad q2]
        | ex x m r2 => rw [bnd_ex q2, bnd_ex q2]
        | ok fl r2 =>
          rw [bnd_ok q2] at h ⊢
          rw [bnd_ok q2]
          cases fl with
          | nx => exact whF_mono h
          | ct => exact whF_mono h
          | bk => rfl
          | rt e => rfl
theorem whF_le {c : Ev Bool} {b : Ev Fl} {n m : Nat} {r : Ro} (h : whF c b n r ≠ .bad) (l : n ≤ m) : whF c b m r = whF c b n r := by
  induction l with
  | refl => rfl
  | step _ ih => rw [whF_mono (by rw [ih]; exact h), ih]
theorem wh_eq {c : Ev Bool} {b : Ev Fl} {n : Nat} {r : Ro} (h : whF c b n r ≠ .bad) : sWh c b r = whF c b n r := by
  unfold sWh
  have hx : ∃ n, whF c b n r ≠ .bad := ⟨n, h⟩
  rw [dif_pos hx]
  have h2 := hx.choose_spec
  rcases Nat.le_total n hx.choose with l | l
  · exact whF_le h l
  · exact (whF_le h2 l).symm
/-- one turn -/
theorem wh_turn {c : Ev Bool} {b : Ev Fl} {r r1 r2 : Ro} (h1 : c r = .ok true r1) (h2 : b r1 = .ok .nx r2) : sWh c b r = sWh c b r2 := by
  by_cases hx : ∃ n, whF c b n r2 ≠ .bad
  · obtain ⟨n, hn⟩ := hx
    have e : whF c b (n + 1) r = whF c b n r2 := by
      show bnd c (fun t => if t = true then bnd b (whK (whF c b n)) else ret .nx) r = _
      rw [bnd_ok h1, if_pos rfl, bnd_ok h2]
      rfl
    rw [wh_eq hn, ← e, wh_eq (by rw [e]; exact hn)]
  · have hy : ¬ ∃ n, whF c b n r ≠ .bad := fun ⟨n, hn⟩ => by
      cases n with
      | zero => exact hn rfl
      | succ n =>
        refine hx ⟨n, fun z => hn ?_⟩
        show bnd c (fun t => if t = true then bnd b (whK (whF c b n)) else ret .nx) r = _
        rw [bnd_ok h1, if_pos rfl, bnd_ok h2]
        exact z
    unfold sWh
    rw [dif_neg hx, dif_neg hy]
theorem wh_end {c : Ev Bool} {b : Ev Fl} {r r1 : Ro} (h1 : c r = .ok false r1) : sWh c b r = .ok .nx r1 := by
  have e : whF c b 1 r = .ok .nx r1 := by
    show bnd c (fun t => if t = true then bnd b (whK (whF c b 0)) else ret .nx) r = _
    rw [bnd_ok h1]
    rfl
  rw [wh_eq (n := 1) (by rw [e]; exact fun z => nomatch z), e]
end Sx

set_option Elab.async false
set_option linter.all false
set_option maxRecDepth 100000
set_option maxHeartbeats 4000000
/-! Sx8: what is walked, for, comprehensions. -/
namespace Sx
open PySem L2

/-! ### sources -/
/-- a source: its kind, its items, the slot whose list is read alone meanwhile -/
structure Src where
  k : Kd
  xs : List M
  lk : Option (Nat × Pin)
def srcM (m : M) : Ev Src := match seqM m with
  | some (k, xs) => ret ⟨k, xs, none⟩
  | none => bad
def lkB (i : Nat) (r : Ro) (p : Pin) : Cont → R Src
  | .l xs => .ok ⟨.l, xs, some (i, p)⟩ (r.set i (.o .lock (.l xs)))
  | b => match frzI i r with
    | .ok m r' => srcM m r'
    | _ => .bad
def lkS (i : Nat) (r : Ro) : Slot → R Src
  | .v m => srcM m r
  | .o p b => lkB i r p b
  | .un => .bad
def lkT : Cont → Ev Src
  | .l xs => ret ⟨.l, xs, none⟩
  | b => match frzB b with
    | some m => srcM m
    | none => bad
def lock1 (e : EV) : Ev Src := match e with
  | .fr m => srcM m
  | .tmp b => lkT b
  | .bor i => fun r => lkS i r (get r i)
def unl1 (s : Src) (r : Ro) : Ro := match s.lk with
  | some (i, p) => r.set i (.o p s.xs)
  | none => r
def unl : List Src → Ro → Ro
  | [], r => r
  | s :: ss, r => unl1 s (unl ss r)
def lockL : List EV → Ev (List Src)
  | [] => ret []
  | e :: es => bnd (lock1 e) fun s => bnd (lockL es) fun ss => ret (s :: ss)
def SrcOk (K : PySem.W.Frag) (r : Ro) (G : Hp) (σ : St) (s : Src) (v : V) : Prop := ∃ a, v = .ref a ∧ match s.lk with
  | none => ∃ vs, SqK K G a vs s.k ∧ RepL K G s.xs vs
  | some (i, _) => s.k = .l ∧ σ[i]? = some (some (.ref a)) ∧ get r i = .o .lock (.l s.xs)
/-- what stays, from some state on -/
def Later (r : Ro) (G : Hp) (σ : St) (r' : Ro) (G' : Hp) (σ' : St) : Prop :=
  Same G G' ∧ ∀ i xs, get r i = .o .lock xs → σ'[i]? = σ[i]? ∧ get r' i = .o .lock xs
section
variable {K : PySem.W.Frag} {A A' : Addr → Prop} {r r1 r2 : Ro} {G G1 G2 : Hp} {σ σ1 σ2 : St} {H H1 H2 : Hp} {mg : Str → Option Value} {W : W4}
theorem Later.refl : Later r G σ r G σ := ⟨Same.refl _, fun _ _ e => ⟨rfl, e⟩⟩
theorem Step.later (s : Step A r G σ H r1 G1 σ1 H1) : Later r G σ r1 G1 σ1 := ⟨s.grow, fun i xs e => by
  obtain ⟨e1, xs1, e2, l1⟩ := s.pin i _ xs e (fun z => nomatch z)
  exact ⟨e1, by rw [e2, l1 rfl]⟩⟩
theorem Later.trans (a : Later r G σ r1 G1 σ1) (b : Later r1 G1 σ1 r2 G2 σ2) : Later r G σ r2 G2 σ2 := ⟨a.1.trans b.1, fun i xs e => by
  obtain ⟨e1, e2⟩ := a.2 i xs e
  obtain ⟨e3, e4⟩ := b.2 i xs e2
  exact ⟨e3.trans e1, e4⟩⟩
theorem SrcOk.later {s : Src} {v : V} (h : SrcOk K r G σ s v) (l : Later r G σ r1 G1 σ1) : SrcOk K r1 G1 σ1 s v := by
  obtain ⟨a, e, h⟩ := h
  refine ⟨a, e, ?_⟩
  obtain ⟨k, xs, lk⟩ := s
  cases lk with
  | none =>
    obtain ⟨vs, s, rl⟩ := h
    exact ⟨vs, s.mono l.1, rl.mono l.1⟩
  | some ip =>
    obtain ⟨i, p⟩ := ip
    obtain ⟨h1, h2, h3⟩ := h
    obtain ⟨e1, e2⟩ := l.2 i _ h3
    exact ⟨h1, e1.trans h2, e2⟩
theorem SrcOk.read {s : Src} {v : V} (S : Sim K r G σ H) (h : SrcOk K r G σ s v) : ∃ a vs, v = .ref a ∧ SqK K H a vs s.k ∧ RepL K G s.xs vs := by
  obtain ⟨a, e, h⟩ := h
  obtain ⟨k, xs, lk⟩ := s
  cases lk with
  | none =>
    obtain ⟨vs, s, rl⟩ := h
    exact ⟨a, vs, e, s.mono S.sub, rl⟩
  | some ip =>
    obtain ⟨i, p⟩ := ip
    obtain ⟨h1, h2, h3⟩ := h
    have h1 : k = .l := h1
    subst h1
    obtain ⟨c, sv, _, vs, hc, rl⟩ := S.own i _ _ h3
    rw [h2] at sv; cases sv
    exact ⟨a, vs, e, hc, rl⟩
/-- a slot's kind is turned -/
theorem Sim.turn {i : Nat} {p q : Pin} {xs : Cont} (S : Sim K r G σ H) (hA : ∀ b, A0 r σ H b → A b) (e : get r i = .o p xs) :
    Sim K (r.set i (.o q xs)) G σ H ∧ ∀ b, Own (r.set i (.o q xs)) σ H b ↔ Own r σ H b := by
  have hi : i < r.length := get_lt (by rw [e]; exact fun z => nomatch z)
  have own : ∀ {j s xs'}, get (r.set i (.o q xs)) j = .o s xs' → ∃ s', get r j = .o s' xs' := fun {j s xs'} e1 => by
    rw [get_set] at e1
    by_cases z : i = j
    · subst z; rw [if_pos ⟨rfl, hi⟩] at e1; cases e1; exact ⟨p, e⟩
    · rw [if_neg (fun q => z q.1)] at e1; exact ⟨s, e1⟩
  refine ⟨⟨S.sub, by rw [List.length_set]; exact S.len, fun j m e1 => ?_, fun j s ys e1 => ?_, fun j k s s2 ys zs a a' b e1 e2 => ?_⟩, fun b => ⟨fun ⟨j, s, ys, a, e1, e2⟩ => ?_, fun ⟨j, s, ys, a, e1, e2⟩ => ?_⟩⟩
  · rw [get_set] at e1
    by_cases z : i = j
    · subst z; rw [if_pos ⟨rfl, hi⟩] at e1; cases e1
    · rw [if_neg (fun q => z q.1)] at e1; exact S.val j m e1
  · obtain ⟨s', e1⟩ := own e1
    exact S.own j s' ys e1
  · obtain ⟨s', e1⟩ := own e1
    obtain ⟨s'', e2⟩ := own e2
    exact S.inj j k s' s'' ys zs a a' b e1 e2
  · obtain ⟨s', e1⟩ := own e1
    exact ⟨j, s', ys, a, e1, e2⟩
  · by_cases z : i = j
    · subst z
      rw [e] at e1; cases e1
      exact ⟨i, q, xs, a, by rw [get_set, if_pos ⟨rfl, hi⟩], e2⟩
    · exact ⟨j, s, ys, a, by rw [get_set, if_neg (fun q => z q.1)]; exact e1, e2⟩
/-- the sources are let go at the end of any code -/
def Lk (K : PySem.W.Frag) (A : Addr → Prop) (ss : List Src) (r : Ro) (G : Hp) (σ : St) (H : Hp) (r1 : Ro) (G1 : Hp) (H1 : Hp) : Prop :=
  ∀ r' G' σ' H', Sim K r' G' σ' H' → Step A r1 G1 σ H1 r' G' σ' H' → Sim K (unl ss r') G' σ' H' ∧ Step A r G σ H (unl ss r') G' σ' H' ∧ ∀ b, Own (unl ss r') σ' H' b → Own r' σ' H' b
theorem Lk.nil (st : Step A r G σ H r1 G1 σ H1) : Lk K A [] r G σ H r1 G1 H1 := fun _ _ _ _ S s => ⟨S, st.trans s, fun _ z => z⟩
theorem Lk.none {k : Kd} {xs : List M} (st : Step A r G σ H r1 G1 σ H1) : Lk K A [⟨k, xs, none⟩] r G σ H r1 G1 H1 := fun _ _ _ _ S s => ⟨S, st.trans s, fun _ z => z⟩
theorem Lk.ahead {ss : List Src} (st : Step A r G σ H r1 G1 σ H1) (l : Lk K A ss r1 G1 σ H1 r2 G2 H2) : Lk K A ss r G σ H r2 G2 H2 := fun r' G' σ' H' S s => ⟨(l r' G' σ' H' S s).1, st.trans (l r' G' σ' H' S s).2.1, (l r' G' σ' H' S s).2.2⟩
theorem Lk.cons {s : Src} {ss : List Src} (a : Lk K A [s] r G σ H r1 G1 H1) (b : Lk K A ss r1 G1 σ H1 r2 G2 H2) : Lk K A (s :: ss) r G σ H r2 G2 H2 := fun r' G' σ' H' S st => by
  obtain ⟨S1, st1, o1⟩ := b r' G' σ' H' S st
  obtain ⟨S2, st2, o2⟩ := a (unl ss r') G' σ' H' S1 st1
  exact ⟨S2, st2, fun c z => o1 c (o2 c z)⟩
theorem Lk.lock {i : Nat} {p : Pin} {xs : List M} (S : Sim K r G σ H) (hA : ∀ b, A0 r σ H b → A b) (e1 : get r i = .o p (.l xs)) : Lk K A [⟨.l, xs, some (i, p)⟩] r G σ H (r.set i (.o .lock (.l xs))) G H := by
  intro r2 G2 σ2 H2 S2 st
  have hi : i < r.length := get_lt (by rw [e1]; exact fun z => nomatch z)
  have el : get (r.set i (.o .lock (.l xs))) i = .o .lock (.l xs) := by rw [get_set, if_pos ⟨rfl, hi⟩]
  obtain ⟨q1, xs1, q2, q3⟩ := st.pin i _ _ el (fun z => nomatch z)
  have q3 := q3 rfl
  subst q3
  have hi2 : i < r2.length := get_lt (by rw [q2]; exact fun z => nomatch z)
  obtain ⟨S3, ow⟩ := S2.turn (q := p) (A := A0 r2 σ2 H2) A0.self q2
  refine ⟨S3, ⟨st.grow, st.keep, st.gnew, fun b z => st.onew b ((ow b).mp z), fun j pj ys ej nf => ?_, st.free⟩, fun b z => (ow b).mp z⟩
  show σ2[j]? = σ[j]? ∧ ∃ xs', get (r2.set i (.o p (.l xs))) j = .o pj xs' ∧ (pj = .lock → xs' = ys)
  rw [get_set]
  by_cases z : i = j
  · subst z
    rw [e1] at ej; cases ej
    rw [if_pos ⟨rfl, hi2⟩]
    exact ⟨q1, .l xs, rfl, fun _ => rfl⟩
  · rw [if_neg (fun q => z q.1)]
    exact st.pin j pj ys (by rw [get_set, if_neg (fun q => z q.1)]; exact ej) nf
theorem srcM_ok {m : M} {v : V} {s : Src} {r' : Ro} (rp : Rep K G m v) (e : srcM m r = .ok s r') : r' = r ∧ ∃ k xs, s = ⟨k, xs, none⟩ ∧ SrcOk K r G σ s v := by
  unfold srcM at e
  cases q : seqM m with
  | none => rw [q] at e; cases e
  | some pr =>
    obtain ⟨k, xs⟩ := pr
    rw [q] at e
    cases e
    obtain ⟨a, vs, e1, sk, rl⟩ := seqM_ok rp q
    exact ⟨rfl, k, xs, rfl, a, e1, vs, sk, rl⟩
theorem lock1_ok {ev : EV} {v : V} {s : Src} {r' : Ro} (S : Sim K r G σ H) (hA : ∀ b, A0 r σ H b → A b) (h : Wk K A r G σ H ev v) (e : lock1 ev r = .ok s r') :
    ∃ G', Sim K r' G' σ H ∧ SrcOk K r' G' σ s v ∧ (∀ b, Own r' σ H b → Own r σ H b) ∧
      (∀ ws wv, Wk K A r G σ H ws wv → Wk K A r' G' σ H ws wv) ∧ Lk K A [s] r G σ H r' G' H ∧ Later r G σ r' G' σ := by
  -- a value, once it is frozen
  have frozen : ∀ {m : M} {r1 : Ro} {G1 : Hp}, Sim K r1 G1 σ H → Step A r G σ H r1 G1 σ H → Rep K G1 m v → (∀ b, Own r1 σ H b → Own r σ H b) → srcM m r1 = .ok s r' →
      ∃ G', Sim K r' G' σ H ∧ SrcOk K r' G' σ s v ∧ (∀ b, Own r' σ H b → Own r σ H b) ∧ (∀ ws wv, Wk K A r G σ H ws wv → Wk K A r' G' σ H ws wv) ∧ Lk K A [s] r G σ H r' G' H ∧ Later r G σ r' G' σ := fun {m r1 G1} S1 st rp so e => by
    obtain ⟨rfl, k, xs, rfl, ok⟩ := srcM_ok (σ := σ) rp e
    exact ⟨G1, S1, ok, so, fun ws wv w => w.stepF st.grow so, Lk.none st, st.later⟩
  have fz : ∀ {m : M} {r1 : Ro}, frz ev r = .ok m r1 → srcM m r1 = .ok s r' → ∃ G', Sim K r' G' σ H ∧ SrcOk K r' G' σ s v ∧ (∀ b, Own r' σ H b → Own r σ H b) ∧ (∀ ws wv, Wk K A r G σ H ws wv → Wk K A r' G' σ H ws wv) ∧ Lk K A [s] r G σ H r' G' H ∧ Later r G σ r' G' σ := fun {m r1} e1 e2 => by
    obtain ⟨G1, S1, st, rp, so⟩ := frz_ok S hA h e1
    exact frozen S1 st rp so e2
  have tmp : ∀ b, ev = .tmp b → (match frzB b with
      | some m => srcM m
      | none => bad : Ev Src) r = .ok s r' → ∃ G', Sim K r' G' σ H ∧ SrcOk K r' G' σ s v ∧ (∀ b, Own r' σ H b → Own r σ H b) ∧ (∀ ws wv, Wk K A r G σ H ws wv → Wk K A r' G' σ H ws wv) ∧ Lk K A [s] r G σ H r' G' H ∧ Later r G σ r' G' σ := fun b eb e5 => by
    subst eb
    cases q : frzB b with
    | none => rw [q] at e5; cases e5
    | some m =>
      rw [q] at e5
      refine fz (m := m) (r1 := r) ?_ e5
      show (match frzB b with
        | some m => ret m
        | none => bad : Ev M) r = _
      rw [q]; rfl
  cases ev with
  | fr m => exact frozen (m := m) S (.refl hA) h (fun _ z => z) e
  | tmp b =>
    cases b with
    | l xs => exact tmp _ rfl e
    | ll xs => exact tmp _ rfl e
    | di xs => cases e
    | dt xs => cases e
  | bor i =>
    have h' := h
    obtain ⟨a, rfl, sv⟩ := h'
    have e : lkS i r (get r i) = .ok s r' := e
    cases q : get r i with
    | un => rw [q] at e; cases e
    | v m =>
      rw [q] at e
      obtain ⟨w, sv', rp⟩ := S.val i m q
      rw [sv] at sv'; cases sv'
      exact frozen (m := m) S (.refl hA) rp (fun _ z => z) e
    | o p b =>
      rw [q] at e
      have rest : (match frzI i r with
          | .ok m r' => srcM m r'
          | _ => .bad) = R.ok s r' → ∃ G', Sim K r' G' σ H ∧ SrcOk K r' G' σ s (.ref a) ∧ (∀ b, Own r' σ H b → Own r σ H b) ∧ (∀ ws wv, Wk K A r G σ H ws wv → Wk K A r' G' σ H ws wv) ∧ Lk K A [s] r G σ H r' G' H ∧ Later r G σ r' G' σ := fun e => by
        cases q2 : frzI i r with
        | bad => rw [q2] at e; cases e
        | ex c m r2 => rw [q2] at e; cases e
        | ok m r2 => rw [q2] at e; exact fz q2 e
      cases b with
      | l xs =>
        cases e
        have hi : i < r.length := get_lt (by rw [q]; exact fun z => nomatch z)
        obtain ⟨S2, ow⟩ := S.turn (q := .lock) hA q
        refine ⟨G, S2, ⟨a, rfl, rfl, sv, by rw [get_set, if_pos ⟨rfl, hi⟩]⟩, fun b z => (ow b).mp z, fun ws wv w => w.stepF (Same.refl _) fun b z => (ow b).mp z, Lk.lock S hA q, Same.refl _, fun j ys ej => ⟨rfl, ?_⟩⟩
        rw [get_set]
        by_cases z : i = j
        · subst z
          rw [q] at ej; cases ej
          rw [if_pos ⟨rfl, hi⟩]
        · rw [if_neg (fun q => z q.1)]; exact ej
      | ll xs => exact rest e
      | di xs => exact rest e
      | dt xs => exact rest e
theorem srcM_noex {m' : M} {c : String} {m : M} {r' : Ro} : srcM m' r ≠ .ex c m r' := fun e => by
  unfold srcM at e
  cases q : seqM m' with
  | none => rw [q] at e; cases e
  | some pr => rw [q] at e; cases e
theorem lock1_noex {ev : EV} {c : String} {m : M} {r' : Ro} : lock1 ev r ≠ .ex c m r' := fun e => by
  have tmp : ∀ b, (match frzB b with
      | some m => srcM m
      | none => bad : Ev Src) r ≠ .ex c m r' := fun b e => by
    cases q : frzB b with
    | none => rw [q] at e; cases e
    | some m => rw [q] at e; exact srcM_noex e
  cases ev with
  | fr m' => exact srcM_noex (show srcM m' r = .ex c m r' from e)
  | tmp b =>
    cases b with
    | l xs => cases e
    | ll xs => exact tmp (.ll xs) e
    | di xs => cases e
    | dt xs => cases e
  | bor i =>
    have e : lkS i r (get r i) = .ex c m r' := e
    have rest : (match frzI i r with
        | .ok m r' => srcM m r'
        | _ => .bad) ≠ R.ex c m r' := fun e => by
      cases q2 : frzI i r with
      | bad => rw [q2] at e; cases e
      | ex c m r2 => rw [q2] at e; cases e
      | ok m r2 => rw [q2] at e; exact srcM_noex e
    cases q : get r i with
    | un => rw [q] at e; cases e
    | v m' => rw [q] at e; exact srcM_noex (show srcM m' r = .ex c m r' from e)
    | o p b =>
      rw [q] at e
      cases b with
      | l xs => cases e
      | ll xs => exact rest e
      | di xs => exact rest e
      | dt xs => exact rest e
inductive SrcsOk (K : PySem.W.Frag) (r : Ro) (G : Hp) (σ : St) : List Src → List V → Prop
  | nil : SrcsOk K r G σ [] []
  | cons {s : Src} {ss : List Src} {v : V} {vs : List V} : SrcOk K r G σ s v → SrcsOk K r G σ ss vs → SrcsOk K r G σ (s :: ss) (v :: vs)
theorem SrcsOk.later {ss : List Src} {vs : List V} (h : SrcsOk K r G σ ss vs) (l : Later r G σ r1 G1 σ1) : SrcsOk K r1 G1 σ1 ss vs := by
  induction h with
  | nil => exact .nil
  | cons h1 _ ih => exact .cons (h1.later l) ih
theorem lockL_ok : ∀ {evs : List EV} {vs : List V} {ss : List Src} {r r' : Ro} {G : Hp}, Sim K r G σ H → (∀ b, A0 r σ H b → A b) → WkL K A r G σ H evs vs → lockL evs r = .ok ss r' →
    ∃ G', Sim K r' G' σ H ∧ SrcsOk K r' G' σ ss vs ∧ Lk K A ss r G σ H r' G' H ∧ (∀ b, A0 r' σ H b → A b) ∧ Later r G σ r' G' σ
  | [], _, _, r, _, G, S, hA, h, e => by
    cases h; cases e
    exact ⟨G, S, .nil, .nil (.refl hA), hA, .refl⟩
  | ev :: evs, _, ss, r, r', G, S, hA, .cons h1 h2, e => by
    unfold lockL at e
    cases q : lock1 ev r with
    | bad => rw [bnd_bad q] at e; cases e
    | ex c m r1 => exact (lock1_noex q).elim
    | ok s r1 =>
      rw [bnd_ok q] at e
      obtain ⟨G1, S1, so, ow, wk, lk1, lt1⟩ := lock1_ok S hA h1 q
      have a1 : ∀ b, A0 r1 σ H b → A b := fun b z => hA b (z.imp (ow b) id)
      have wl : ∀ {es ws}, WkL K A r G σ H es ws → WkL K A r1 G1 σ H es ws := fun {es ws} h => by
        induction h with
        | nil => exact .nil
        | cons p _ ih => exact .cons (wk _ _ p) ih
      cases q2 : lockL evs r1 with
      | bad => rw [bnd_bad q2] at e; cases e
      | ex c m r2 => rw [bnd_ex q2] at e; cases e
      | ok ss2 r2 =>
        rw [bnd_ok q2] at e
        cases e
        obtain ⟨G2, S2, sos, lk, a2, lt⟩ := lockL_ok S1 a1 (wl h2) q2
        exact ⟨G2, S2, .cons (so.later lt) sos, .cons lk1 lk, a2, lt1.trans lt⟩
theorem lockL_noex : ∀ {evs : List EV} {r : Ro} {c : String} {m : M} {r' : Ro}, lockL evs r ≠ .ex c m r'
  | [], _, _, _, _, e => by cases e
  | ev :: evs, r, _, _, _, e => by
    unfold lockL at e
    cases q : lock1 ev r with
    | bad => rw [bnd_bad q] at e; cases e
    | ex c m r1 => exact lock1_noex q
    | ok s r1 =>
      rw [bnd_ok q] at e
      cases q2 : lockL evs r1 with
      | bad => rw [bnd_bad q2] at e; cases e
      | ex c m r2 => exact lockL_noex q2
      | ok ms' r2 => rw [bnd_ok q2] at e; cases e

/-! ### walks -/
/-- J gives the items, one after another -/
def Wlk (K : PySem.W.Frag) (J : It) (ms : List M) (r1 : Ro) (G1 : Hp) (σ1 : St) : Prop := ∀ r G σ H, Sim K r G σ H → Later r1 G1 σ1 r G σ →
  (∀ i, i < ms.length → J.go i H ∧ ∀ x H', J.yld i H x H' → ∃ G' m, Sim K r G' σ H' ∧ Step (A0 r σ H) r G σ H r G' σ H' ∧ ms[i]? = some m ∧ Rep K G' m x) ∧ J.stop ms.length H
def ItS (K : PySem.W.Frag) (a : Addr) : Kd → It
  | .t => Itt K a
  | _ => Itl K a
theorem sqK_len {a : Addr} {vs : List V} {xs : List M} (rl : RepL K G xs vs) {i : Nat} (h : i < xs.length) : ∃ v m, vs[i]? = some v ∧ xs[i]? = some m ∧ Rep K G m v := by
  obtain ⟨v, e, rp⟩ := rl.at (List.getElem?_eq_getElem h)
  exact ⟨v, _, e, List.getElem?_eq_getElem h, rp⟩
theorem wlk_seq {s : Src} {a : Addr} (h : SrcOk K r G σ s (.ref a)) : Wlk K (ItS K a s.k) s.xs r G σ := by
  intro r' G' σ' H' S' lt
  obtain ⟨a', vs, e, sk, rl⟩ := (h.later lt).read S'
  cases e
  have len := rl.len
  obtain ⟨k, xs, lk⟩ := s
  refine ⟨fun i hi => ?_, ?_⟩
  · obtain ⟨v, m, hv, hm, rp⟩ := sqK_len (a := a) rl hi
    cases k with
    | t => exact ⟨⟨vs, v, sk, hv⟩, fun x H2 y => by
        obtain ⟨e1, e2⟩ := y
        subst e1
        have e3 := e2 vs sk
        rw [hv] at e3; cases e3
        exact ⟨G', m, S', .refl A0.self, hm, rp⟩⟩
    | l => exact ⟨⟨vs, v, .of sk, hv⟩, fun x H2 y => by
        obtain ⟨e1, e2⟩ := y
        subst e1
        have e3 := e2 vs (.of sk)
        rw [hv] at e3; cases e3
        exact ⟨G', m, S', .refl A0.self, hm, rp⟩⟩
    | ro => exact ⟨⟨vs, v, sk, hv⟩, fun x H2 y => by
        obtain ⟨e1, e2⟩ := y
        subst e1
        have e3 := e2 vs sk
        rw [hv] at e3; cases e3
        exact ⟨G', m, S', .refl A0.self, hm, rp⟩⟩
  · have l2 : vs.length ≤ xs.length := by have z : xs.length = vs.length := len; omega
    cases k with
    | t => exact ⟨vs, sk, l2⟩
    | l => exact ⟨vs, .of sk, l2⟩
    | ro => exact ⟨vs, sk, l2⟩
def enumM (n : Nat) : List M → List M
  | [] => []
  | x :: xs => .tup [.int (n : Int), x] :: enumM (n + 1) xs
theorem enumM_len : ∀ (xs : List M) (n : Nat), (enumM n xs).length = xs.length
  | [], _ => rfl
  | _ :: xs, n => by simp [enumM, enumM_len xs]
theorem enumM_at : ∀ (xs : List M) (n i : Nat) (m : M), xs[i]? = some m → (enumM n xs)[i]? = some (.tup [.int ((n + i : Nat) : Int), m])
  | [], _, _, _, e => by simp at e
  | x :: xs, n, 0, m, e => by simp at e; subst e; rfl
  | x :: xs, n, i + 1, m, e => by
    have z := enumM_at xs (n + 1) i m (by simpa using e)
    simp only [enumM, List.getElem?_cons_succ, z]
    congr 4
    omega
theorem wlk_enum {s : Src} {a : Addr} (h : SrcOk K r G σ s (.ref a)) : Wlk K (ItE K a s.k) (enumM 0 s.xs) r G σ := by
  intro r' G' σ' H' S' lt
  obtain ⟨a', vs, e, sk, rl⟩ := (h.later lt).read S'
  cases e
  have len := rl.len
  rw [enumM_len]
  refine ⟨fun i hi => ?_, ⟨vs, sk, len.symm⟩⟩
  obtain ⟨v, m, hv, hm, rp⟩ := sqK_len (a := a) rl hi
  refine ⟨⟨vs, sk, by omega⟩, fun x H2 y => ?_⟩
  obtain ⟨T, ws, rfl, n, rfl, x1, rfl, at1⟩ := y
  have e3 := at1 vs sk
  rw [hv] at e3; cases e3
  have e4 := enumM_at s.xs 0 i m hm
  rw [Nat.zero_add] at e4
  exact ⟨upd G' T (.tup [.int (i : Nat), v]), _, S'.alloc n, step_alloc S' A0.self n, e4, T, _, rfl, .of upd_same, .int (i : Nat), _, rfl, rfl, v, [], rfl, rp.mono (same_up (S'.gnone n)), rfl⟩
def zip2M (xs ys : List M) : List M := List.zipWith (fun x y => M.tup [x, y]) xs ys
theorem wlk_zip2 {s t : Src} {a b : Addr} (h : SrcOk K r G σ s (.ref a)) (h2 : SrcOk K r G σ t (.ref b)) : Wlk K (ItZ2 K a b s.k t.k) (zip2M s.xs t.xs) r G σ := by
  intro r' G' σ' H' S' lt
  obtain ⟨a', vs, e, sk, rl⟩ := (h.later lt).read S'
  cases e
  obtain ⟨b', ws, e, sk2, rl2⟩ := (h2.later lt).read S'
  cases e
  have len := rl.len
  have len2 := rl2.len
  have lz : (zip2M s.xs t.xs).length = min s.xs.length t.xs.length := by simp [zip2M]
  rw [lz]
  refine ⟨fun i hi => ?_, ⟨vs, ws, sk, sk2, by rw [len, len2]⟩⟩
  have hi1 : i < s.xs.length := by omega
  have hi2 : i < t.xs.length := by omega
  obtain ⟨v, m, hv, hm, rp⟩ := sqK_len (a := a) rl hi1
  obtain ⟨v2, m2, hv2, hm2, rp2⟩ := sqK_len (a := b) rl2 hi2
  refine ⟨⟨⟨vs, sk, by omega⟩, ws, sk2, by omega⟩, fun x H2 y => ?_⟩
  obtain ⟨T, us, rfl, n, rfl, x1, y1, rfl, at1, at2⟩ := y
  have e3 := at1 vs sk
  rw [hv] at e3; cases e3
  have e3 := at2 ws sk2
  rw [hv2] at e3; cases e3
  have g := same_up (S'.gnone n) (o := .tup [v, v2])
  exact ⟨upd G' T (.tup [v, v2]), .tup [m, m2], S'.alloc n, step_alloc S' A0.self n, by simp [zip2M, List.getElem?_zipWith, hm, hm2], T, _, rfl, .of upd_same, v, _, rfl, rp.mono g, v2, [], rfl, rp2.mono g, rfl⟩
def zip3M : List M → List M → List M → List M
  | x :: xs, y :: ys, z :: zs => .tup [x, y, z] :: zip3M xs ys zs
  | _, _, _ => []
theorem zip3M_len : ∀ (xs ys zs : List M), (zip3M xs ys zs).length = min (min xs.length ys.length) zs.length
  | [], _, _ => by simp [zip3M]
  | _ :: _, [], _ => by simp [zip3M]
  | _ :: _, _ :: _, [] => by simp [zip3M]
  | x :: xs, y :: ys, z :: zs => by simp only [zip3M, List.length_cons, zip3M_len xs ys zs]; omega
theorem zip3M_at : ∀ (xs ys zs : List M) (i : Nat) (m m2 m3 : M), xs[i]? = some m → ys[i]? = some m2 → zs[i]? = some m3 → (zip3M xs ys zs)[i]? = some (.tup [m, m2, m3])
  | [], _, _, _, _, _, _, e, _, _ => by simp at e
  | _ :: _, [], _, _, _, _, _, _, e, _ => by simp at e
  | _ :: _, _ :: _, [], _, _, _, _, _, _, e => by simp at e
  | x :: xs, y :: ys, z :: zs, 0, m, m2, m3, e, e2, e3 => by
    simp at e e2 e3
    subst e e2 e3
    rfl
  | x :: xs, y :: ys, z :: zs, i + 1, m, m2, m3, e, e2, e3 => zip3M_at xs ys zs i m m2 m3 (by simpa using e) (by simpa using e2) (by simpa using e3)
theorem wlk_zip3 {s t u : Src} {a b c : Addr} (h : SrcOk K r G σ s (.ref a)) (h2 : SrcOk K r G σ t (.ref b)) (h3 : SrcOk K r G σ u (.ref c)) : Wlk K (ItZ3 K a b c s.k t.k u.k) (zip3M s.xs t.xs u.xs) r G σ := by
  intro r' G' σ' H' S' lt
  obtain ⟨a', vs, e, sk, rl⟩ := (h.later lt).read S'
  cases e
  obtain ⟨b', ws, e, sk2, rl2⟩ := (h2.later lt).read S'
  cases e
  obtain ⟨c', us, e, sk3, rl3⟩ := (h3.later lt).read S'
  cases e
  have len := rl.len
  have len2 := rl2.len
  have len3 := rl3.len
  rw [zip3M_len]
  refine ⟨fun i hi => ?_, ⟨vs, ws, us, sk, sk2, sk3, by rw [len, len2, len3]⟩⟩
  have hi1 : i < s.xs.length := by omega
  have hi2 : i < t.xs.length := by omega
  have hi3 : i < u.xs.length := by omega
  obtain ⟨v, m, hv, hm, rp⟩ := sqK_len (a := a) rl hi1
  obtain ⟨v2, m2, hv2, hm2, rp2⟩ := sqK_len (a := b) rl2 hi2
  obtain ⟨v3, m3, hv3, hm3, rp3⟩ := sqK_len (a := c) rl3 hi3
  refine ⟨⟨⟨vs, sk, by omega⟩, ⟨ws, sk2, by omega⟩, us, sk3, by omega⟩, fun x H2 y => ?_⟩
  obtain ⟨T, us', rfl, n, rfl, x1, y1, z1, rfl, at1, at2, at3⟩ := y
  have e3 := at1 vs sk
  rw [hv] at e3; cases e3
  have e3 := at2 ws sk2
  rw [hv2] at e3; cases e3
  have e3 := at3 us sk3
  rw [hv3] at e3; cases e3
  have g := same_up (S'.gnone n) (o := .tup [v, v2, v3])
  exact ⟨upd G' T (.tup [v, v2, v3]), .tup [m, m2, m3], S'.alloc n, step_alloc S' A0.self n, zip3M_at _ _ _ i _ _ _ hm hm2 hm3, T, _, rfl, .of upd_same, v, _, rfl, rp.mono g, v2, _, rfl, rp2.mono g, v3, [], rfl, rp3.mono g, rfl⟩
def rngM (lo : Int) (n : Nat) : List M := (List.range n).map fun i : Nat => M.int (lo + (i : Int))
theorem wlk_rng {lo : Int} {n : Nat} : Wlk K (Itr lo n) (rngM lo n) r G σ := by
  intro r' G' σ' H' S' lt
  have l : (rngM lo n).length = n := by simp [rngM]
  rw [l]
  refine ⟨fun i hi => ⟨hi, fun x H2 y => ?_⟩, Nat.le_refl _⟩
  obtain ⟨e1, e2⟩ := y
  subst e1 e2
  exact ⟨G', .int (lo + i), S', .refl A0.self, by simp [rngM, hi], rfl⟩
end
end Sx

set_option Elab.async false
set_option linter.all false
set_option maxRecDepth 100000
set_option maxHeartbeats 4000000
/-! Sx9: for, comprehensions. -/
namespace Sx
open PySem L2

/-! ### the judgement of what is walked -/
def PostI (K : PySem.W.Frag) (mg : Str → Option Value) (W : W4) (r : Ro) (G : Hp) (σ : St) (H : Hp) (Q : It → Hp → Prop) : R (List M × List Src) → Prop
  | .ok (ms, ss) r1 => ∀ J G1 H1, Sim K r1 G1 σ H1 → Lk K (A0 r σ H) ss r G σ H r1 G1 H1 → (∀ b, A0 r1 σ H1 b → A0 r σ H b) → Wlk K J ms r1 G1 σ → Q J H1
  | .ex c m r' => ExPost K mg W (A0 r σ H) r G σ H c m r'
  | .bad => False
def SI (X : Cx) (W : W4) (tg e : Expr) (f : Ev (List M × List Src)) : Prop := PI X tg e fun σ H Q => ∃ r G, Sim X.K r G σ H ∧ PostI X.K X.mg W r G σ H Q (f r)
theorem piW {X : Cx} {tg e : Expr} {t t' : TI} (h : PI X tg e t) (w : ∀ σ H Q, t' σ H Q → t σ H Q) : PI X tg e t' := ⟨fun pins s σ H Q I q => h.run pins s σ H Q I (w σ H Q q)⟩
def vIt (g : List Src → Option (List M)) (f : Ev (List EV)) : Ev (List M × List Src) := bnd f fun evs => bnd (lockL evs) fun ss => match g ss with
  | some ms => ret (ms, ss)
  | none => bad
def iSeq : List Src → Option (List M)
  | [s] => some s.xs
  | _ => none
def iEnum1 : List Src → Option (List M)
  | [s] => some (enumM 0 s.xs)
  | _ => none
def iZip2M : List Src → Option (List M)
  | [s, t] => some (zip2M s.xs t.xs)
  | _ => none
def iZip3M : List Src → Option (List M)
  | [s, t, u] => some (zip3M s.xs t.xs u.xs)
  | _ => none
section
variable {X : Cx} {W : W4} {tg e e2 e3 : Expr} {es : List Expr} {pos p tpos : Pos} {elts : List Expr} {kk : Nat} {fa fb fc : Ev EV} {f : Ev (List EV)}
/-- the sources as they stand behind the arguments -/
theorem into_it {σ : St} {H : Hp} {g : List Src → Option (List M)} {Q : It → Hp → Prop} {Q1 : List V → Hp → Prop} (h : ∃ r G, Sim X.K r G σ H ∧ PostI X.K X.mg W r G σ H Q (vIt g f r))
    (hk : ∀ ss ms vs H1, g ss = some ms → (∃ r1 G1, Sim X.K r1 G1 σ H1 ∧ SrcsOk X.K r1 G1 σ ss vs ∧ ∀ J, Wlk X.K J ms r1 G1 σ → Q J H1) → Q1 vs H1) : tL X.K X.mg W f σ H Q1 := by
  obtain ⟨r, G, S, h⟩ := h
  refine into1 (rp := rpL X.K σ) (A := A0 r σ H) (PostI X.K X.mg W r G σ H Q) (fun z => z) (fun _ _ _ z => z) S A0.self h fun evs r1 vs G1 H1 S1 a1 st1 e1 h1 => ?_
  cases q : lockL evs r1 with
  | bad => rw [bnd_bad q] at h1; exact absurd h1 (fun z => z)
  | ex c m r2 => exact (lockL_noex q).elim
  | ok ss r2 =>
    rw [bnd_ok q] at h1
    cases q2 : g ss with
    | none => simp only [q2] at h1; exact absurd h1 (fun z => z)
    | some ms =>
      simp only [q2] at h1
      obtain ⟨G2, S2, sos, lk, a2, lt⟩ := lockL_ok S1 a1 e1.wk q
      exact hk ss ms vs H1 q2 ⟨r2, G2, S2, sos, fun J w => h1 J G2 H1 S2 (lk.ahead st1) a2 w⟩
theorem it1 {g : List Src → Option (List M)} {ss : List Src} {ms : List M} {v : V} {r : Ro} {G : Hp} {σ : St} (e : g ss = some ms) (h : SrcsOk X.K r G σ ss [v]) : ∃ s, ss = [s] ∧ SrcOk X.K r G σ s v := by
  cases h with
  | cons h1 h2 => cases h2; exact ⟨_, rfl, h1⟩
def iSeqK (K : PySem.W.Frag) (tl : TA) : TI := fun σ H R => tl σ H fun vs H1 => ∃ a k, vs = [.ref a] ∧ hasK K a k H1 ∧ R (ItS K a k) H1
theorem pi_seqK {tl : TE} (hl : PE X e tl) : PI X tg e (fun σ H R => tl σ H fun v H1 => ∃ a k, v = .ref a ∧ hasK X.K a k H1 ∧ R (ItS X.K a k) H1) := by
  refine ⟨fun pins s σ H R I h => ?_⟩
  refine thn (hl.run pins s σ H _ I h) fun v s1 ⟨x, H1, I1, r1, q1⟩ => ?_
  obtain ⟨a, k, e, ⟨xs, hq⟩, q⟩ := q1
  subst e
  cases r1
  obtain ⟨its, rv, sh⟩ := sqK_read I1 hq
  have fin : ∀ {c : Addr}, c = s1.heap.objs.size → FpOk X pins H1 c := fun {c} e => by
    subst e
    exact I1.fpOk (Nat.le_refl _) (I1.hok.fresh (Nat.le_refl _))
  cases k with
  | t =>
    refine wpAny_pyIter_tuple sh ⟨s1.heap.objs.size, [s1.heap.objs.size], _, _, H1, rfl, I1.kept (t' := s1.toks) fun b o e => Heap.get?_push_of_some _ e, turn_tuple a _, ⟨_, Heap.get?_push_size _ rfl, rfl, rfl⟩, fun b hb => fin (List.mem_singleton.mp hb), q⟩
  | l => exact wpAny_pyIter_list sh ⟨s1.heap.objs.size, [s1.heap.objs.size], _, _, H1, rfl, I1.kept (t' := s1.toks) fun b o e => Heap.get?_push_of_some _ e, turn_list a _, ⟨_, Heap.get?_push_size _ rfl, rfl, rfl⟩, fun b hb => fin (List.mem_singleton.mp hb), q⟩
  | ro => exact wpAny_pyIter_list sh ⟨s1.heap.objs.size, [s1.heap.objs.size], _, _, H1, rfl, I1.kept (t' := s1.toks) fun b o e => Heap.get?_push_of_some _ e, turn_list a _, ⟨_, Heap.get?_push_size _ rfl, rfl, rfl⟩, fun b hb => fin (List.mem_singleton.mp hb), q⟩
/-- one value as a list of one -/
def one (f : Ev EV) : Ev (List EV) := bnd f fun e => ret [e]
theorem si_seq (ha : SE X W e fa) : SI X W tg e (vIt iSeq (one fa)) := by
  refine piW (pi_seqK ha) fun σ H Q h => ?_
  have z := into_it (Q1 := fun vs H1 => ∃ v, vs = [v] ∧ ∃ a k, v = .ref a ∧ hasK X.K a k H1 ∧ Q (ItS X.K a k) H1) h fun ss ms vs H1 e1 ⟨r1, G1, S1, sos, fin⟩ => by
    match ss, e1 with
    | [s], e1 =>
      cases e1
      cases sos with
      | cons so so2 =>
        cases so2
        obtain ⟨a, vs', rfl, sk, rl⟩ := so.read S1
        exact ⟨_, rfl, a, s.k, rfl, ⟨vs', sk⟩, fin _ (wlk_seq so)⟩
  obtain ⟨r, G, S, z⟩ := z
  refine into1 (rp := rpE X.K σ) (A := A0 r σ H) (Post (rpL X.K σ) X.K X.mg W (A0 r σ H) r G σ H _) (fun z => z) (fun _ _ _ z => z) S A0.self z fun ev r1 v G1 H1 S1 a1 st1 e1 h1 => ?_
  obtain ⟨v', e2, q⟩ := h1 [v] G1 H1 S1 st1 (.cons e1 .nil)
  cases e2
  exact q
theorem si_enum (hg : Gl X "enumerate") (hm : X.mg "enumerate" = none) (ha : SA X W [e] f) (hs : starEach [e] X.env = [(false, eval e X.env)] := by rfl) :
    SI X W (.Tuple elts kk tpos) (.Call (.Name "enumerate" p) [e] [] pos) (vIt iEnum1 f) := by
  refine piW (pi_enumK hg hm ha hs) fun σ H Q h => ?_
  exact into_it h fun ss ms vs H1 e1 ⟨r1, G1, S1, sos, fin⟩ => by
    match ss, e1 with
    | [s], e1 =>
      cases e1
      cases sos with
      | cons so so2 =>
        cases so2
        obtain ⟨a, vs', rfl, sk, rl⟩ := so.read S1
        exact ⟨a, s.k, rfl, ⟨vs', sk⟩, fin _ (wlk_enum so)⟩
theorem si_zip2 (hg : Gl X "zip") (hm : X.mg "zip" = none) (ha : SA X W [e, e2] f) (hs : starEach [e, e2] X.env = (false, eval e X.env) :: starEach [e2] X.env := by rfl) (hpl : (backTo pos (starEach [e2] X.env)).any (·.1) = false := by rfl) :
    SI X W (.Tuple elts kk tpos) (.Call (.Name "zip" p) [e, e2] [] pos) (vIt iZip2M f) := by
  refine piW (pi_zip2 hg hm ha hs hpl) fun σ H Q h => ?_
  exact into_it h fun ss ms vs H1 e1 ⟨r1, G1, S1, sos, fin⟩ => by
    match ss, e1 with
    | [s, t], e1 =>
      cases e1
      cases sos with
      | cons so so2 =>
        cases so2 with
        | cons so2 so3 =>
          cases so3
          obtain ⟨a, vs', rfl, sk, rl⟩ := so.read S1
          obtain ⟨b, ws', rfl, sk2, rl2⟩ := so2.read S1
          exact ⟨a, b, s.k, t.k, rfl, ⟨vs', sk⟩, ⟨ws', sk2⟩, fin _ (wlk_zip2 so so2)⟩
theorem si_zip3 (hg : Gl X "zip") (hm : X.mg "zip" = none) (ha : SA X W [e, e2, e3] f) (hs : starEach [e, e2, e3] X.env = (false, eval e X.env) :: starEach [e2, e3] X.env := by rfl) (hpl : (backTo pos (starEach [e2, e3] X.env)).any (·.1) = false := by rfl) :
    SI X W (.Tuple elts kk tpos) (.Call (.Name "zip" p) [e, e2, e3] [] pos) (vIt iZip3M f) := by
  refine piW (pi_zip3 hg hm ha hs hpl) fun σ H Q h => ?_
  exact into_it h fun ss ms vs H1 e1 ⟨r1, G1, S1, sos, fin⟩ => by
    match ss, e1 with
    | [s, t, u], e1 =>
      cases e1
      cases sos with
      | cons so so2 =>
        cases so2 with
        | cons so2 so3 =>
          cases so3 with
          | cons so3 so4 =>
            cases so4
            obtain ⟨a, vs', rfl, sk, rl⟩ := so.read S1
            obtain ⟨b, ws', rfl, sk2, rl2⟩ := so2.read S1
            obtain ⟨c, us', rfl, sk3, rl3⟩ := so3.read S1
            exact ⟨a, b, c, s.k, t.k, u.k, rfl, ⟨vs', sk⟩, ⟨ws', sk2⟩, ⟨us', sk3⟩, fin _ (wlk_zip3 so so2 so3)⟩
/-- range(n), range(a, b) -/
def small62 (i : Int) : Bool := decide (-4611686018427387904 ≤ i) && decide (i < 4611686018427387904)
theorem small62_of {i : Int} (h : small62 i = true) : -(2 ^ 62) ≤ i ∧ i < 2 ^ 62 := by
  unfold small62 at h
  rw [Bool.and_eq_true, decide_eq_true_eq, decide_eq_true_eq] at h
  omega
def rngE1 : List EV → Ev (List M × List Src)
  | [a] => match intOf a with
    | some j => if small62 j = true then ret (rngM 0 j.toNat, []) else bad
    | none => bad
  | _ => bad
def rngE2 : List EV → Ev (List M × List Src)
  | [a, b] => match intOf a, intOf b with
    | some i, some j => if small62 i = true ∧ small62 j = true then ret (rngM i (j - i).toNat, []) else bad
    | _, _ => bad
  | _ => bad
def vRng1 (f : Ev (List EV)) : Ev (List M × List Src) := bnd f rngE1
def vRng2 (f : Ev (List EV)) : Ev (List M × List Src) := bnd f rngE2
theorem si_range1 (hg : Gl X "range") (hm : X.mg "range" = none) (ha : SA X W [e] f) (hs : starEach [e] X.env = [(false, eval e X.env)] := by rfl) : SI X W tg (.Call (.Name "range" p) [e] [] pos) (vRng1 f) := by
  refine piW (pi_range1 hg hm ha hs) fun σ H Q ⟨r, G, S, h⟩ => ?_
  refine into1 (rp := rpL X.K σ) (A := A0 r σ H) (PostI X.K X.mg W r G σ H Q) (fun z => z) (fun _ _ _ z => z) S A0.self h fun evs r1 vs G1 H1 S1 a1 st1 e1 h1 => ?_
  cases e1 with
  | nil => exact absurd h1 (fun z => z)
  | cons e1 e2 =>
    cases e2 with
    | nil =>
      rename_i ea v
      have h1 : PostI X.K X.mg W r G σ H Q ((match intOf ea with
        | some j => if small62 j = true then ret (rngM 0 j.toNat, []) else bad
        | none => bad) r1) := h1
      cases q : intOf ea with
      | none => rw [q] at h1; exact absurd h1 (fun z => z)
      | some j =>
        rw [q] at h1
        by_cases c : small62 j = true
        · simp only [if_pos c] at h1
          have cc := small62_of c
          exact ⟨j, by rw [int_ok e1 q], cc.1, cc.2, h1 _ G1 H1 S1 (.nil st1) a1 wlk_rng⟩
        · simp only [if_neg c] at h1; exact absurd h1 (fun z => z)
    | cons e2 e3 => exact absurd h1 (fun z => z)
theorem si_range2 (hg : Gl X "range") (hm : X.mg "range" = none) (ha : SA X W [e, e2] f) (hs : starEach [e, e2] X.env = [(false, eval e X.env), (false, eval e2 X.env)] := by rfl) (hs2 : starEach [e2] X.env = [(false, eval e2 X.env)] := by rfl) :
    SI X W tg (.Call (.Name "range" p) [e, e2] [] pos) (vRng2 f) := by
  refine piW (pi_range2 hg hm ha hs hs2) fun σ H Q ⟨r, G, S, h⟩ => ?_
  refine into1 (rp := rpL X.K σ) (A := A0 r σ H) (PostI X.K X.mg W r G σ H Q) (fun z => z) (fun _ _ _ z => z) S A0.self h fun evs r1 vs G1 H1 S1 a1 st1 e1 h1 => ?_
  cases e1 with
  | nil => exact absurd h1 (fun z => z)
  | cons e1 e2 =>
    cases e2 with
    | nil => exact absurd h1 (fun z => z)
    | cons e2 e3 =>
      cases e3 with
      | cons _ _ => exact absurd h1 (fun z => z)
      | nil =>
        rename_i ea va eb vb
        have h1 : PostI X.K X.mg W r G σ H Q ((match intOf ea, intOf eb with
          | some i, some j => if small62 i = true ∧ small62 j = true then ret (rngM i (j - i).toNat, []) else bad
          | _, _ => bad) r1) := h1
        cases q : intOf ea with
        | none => simp only [q] at h1; exact absurd h1 (fun z => z)
        | some i =>
          cases q2 : intOf eb with
          | none => simp only [q, q2] at h1; exact absurd h1 (fun z => z)
          | some j =>
            simp only [q, q2] at h1
            by_cases c : small62 i = true ∧ small62 j = true
            · simp only [if_pos c] at h1
              have c1 := small62_of c.1
              have c2 := small62_of c.2
              exact ⟨i, j, by rw [int_ok e1 q, int_ok e2 q2], ⟨c1.1, c1.2, c2.1, c2.2⟩, h1 _ G1 H1 S1 (.nil st1) a1 wlk_rng⟩
            · simp only [if_neg c] at h1; exact absurd h1 (fun z => z)

/-! ### for -/
def forF (t : Tg) (b : Ev Fl) : List M → Ev Fl
  | [] => ret .nx
  | m :: ms => bnd (noX (t m)) fun _ => bnd b (whK (forF t b ms))
def brk {α : Type} (ss : List Src) (x : Ev α) : Ev α := fun r => match x r with
  | .ok a r' => .ok a (unl ss r')
  | .ex c m r' => .ex c m (unl ss r')
  | .bad => .bad
def sFor (src : Ev (List M × List Src)) (t : Tg) (b : Ev Fl) : Ev Fl := bnd src fun p => brk p.2 (forF t b p.1)
theorem brkS {K : PySem.W.Frag} {mg : Str → Option Value} {A : Addr → Prop} {r r1 : Ro} {G G1 : Hp} {σ : St} {H H1 : Hp} {D : Ends} {ss : List Src} {x : Ev Fl} (lk : Lk K A ss r G σ H r1 G1 H1) (hA : ∀ b, A0 r1 σ H1 b → A b) (h : PostS K mg W A r G σ H D (brk ss x r1)) :
    PostS K mg W A r1 G1 σ H1 D (x r1) := by
  unfold brk at h
  cases q : x r1 with
  | bad => rw [q] at h; exact h
  | ex c m r' =>
    rw [q] at h
    intro σ' G' H' cls d S' st xr
    obtain ⟨S2, st2, _⟩ := lk r' G' σ' H' S' st
    exact h σ' G' H' cls d S2 st2 xr
  | ok fl r' =>
    rw [q] at h
    cases fl with
    | nx => exact fun σ' G' H' S' st => h σ' G' H' (lk r' G' σ' H' S' st).1 (lk r' G' σ' H' S' st).2.1
    | bk => exact fun σ' G' H' S' st => h σ' G' H' (lk r' G' σ' H' S' st).1 (lk r' G' σ' H' S' st).2.1
    | ct => exact fun σ' G' H' S' st => h σ' G' H' (lk r' G' σ' H' S' st).1 (lk r' G' σ' H' S' st).2.1
    | rt ev =>
      intro v σ' G' H' S' st er
      obtain ⟨S2, st2, ow⟩ := lk r' G' σ' H' S' st
      refine h v σ' G' H' S2 st2 ?_
      cases ev with
      | fr m => exact er
      | bor i => exact er
      | tmp xs =>
        obtain ⟨a, e, x, al⟩ := er
        exact ⟨a, e, x, fun c f => ⟨fun z => (al c f).1 (ow c z), (al c f).2⟩⟩
theorem ss_for {iter : Expr} {body : List Stmt} {ix : List Nat} {src : Ev (List M × List Src)} {t : Tg} {b : Ev Fl} (hp : PassesOwn (model X.prog X.w) X.A X.env X.xe) (hc : X.calm = true) (hi : SI X W tg iter src) (hg : SG X tg ix t) (hb : SSs X W body b)
    (hs : ∀ x, foldedSetIterable iter X.env x = pure x := by intro _; rfl) : SS X W (.For tg iter body [] pos) (sFor src t b) := by
  refine psW (ps_for hp hc hi hg hb hs) fun D σ H ⟨r, G, S, h⟩ => ?_
  refine ⟨r, G, S, ?_⟩
  unfold sFor at h
  cases q : src r with
  | bad => rw [bnd_bad q] at h; exact h
  | ex c m r' => rw [bnd_ex q] at h; exact h
  | ok p r1 =>
    obtain ⟨ms, ss⟩ := p
    rw [bnd_ok q] at h
    intro J G1 H1 S1 lk a1 wl
    have h1 := brkS lk a1 h
    refine ⟨fun i n σ' H' => n = ms.length - i ∧ i ≤ ms.length ∧ ∃ r' G', Sim X.K r' G' σ' H' ∧ (∀ b, A0 r' σ' H' b → A0 r σ H b) ∧ Later r1 G1 σ r' G' σ' ∧ PostS X.K X.mg W (A0 r σ H) r' G' σ' H' D (forF t b (ms.drop i) r'),
      ⟨_, rfl, Nat.zero_le _, r1, G1, S1, a1, .refl, h1⟩, ?_⟩
    rintro i n σ' H' ⟨rfl, hi, r', G', S', a', lt, p⟩
    obtain ⟨w1, w2⟩ := wl r' G' σ' H' S' lt
    by_cases c : i < ms.length
    · obtain ⟨go, yl⟩ := w1 i c
      refine .inr ⟨go, fun σ2 H2 => i + 1 ≤ ms.length ∧ ∃ r2 G2, Sim X.K r2 G2 σ2 H2 ∧ (∀ b, A0 r2 σ2 H2 b → A0 r σ H b) ∧ Later r1 G1 σ r2 G2 σ2 ∧ PostS X.K X.mg W (A0 r σ H) r2 G2 σ2 H2 D (forF t b (ms.drop (i + 1)) r2),
        fun σ2 H2 z => ⟨ms.length - (i + 1), by omega, rfl, z⟩, fun x H2 y => ?_⟩
      obtain ⟨G2, m, S2, st2, em, rp⟩ := yl x H2 y
      have ed : ms.drop i = m :: ms.drop (i + 1) := by
        rw [List.drop_eq_getElem_cons c]
        congr 1
        rw [List.getElem?_eq_getElem c] at em
        exact Option.some.inj em
      rw [ed] at p
      have p2 := p.rebase (st2.mono a')
      have a2 := st2.allow a'
      have l2 := lt.trans st2.later
      refine ⟨r', G2, m, S2, rp, ?_⟩
      have p2 : PostS X.K X.mg W (A0 r σ H) r' G2 σ' H2 D (bnd (noX (t m)) (fun _ => bnd b (whK (forF t b (ms.drop (i + 1))))) r') := p2
      cases q2 : noX (t m) r' with
      | bad => rw [bnd_bad q2] at p2; exact absurd p2 (fun z => z)
      | ex c m r3 => exact (noX_ex q2).elim
      | ok u r3 =>
        rw [bnd_ok q2] at p2
        rw [noX_ok q2]
        intro σ3 G3 H3 S3 st3 _ _
        have p3 := p2.rebase (st3.mono a2)
        have a3 := st3.allow a2
        have l3 := l2.trans st3.later
        exact intoK S3 a3 p3 (fun r4 σ4 G4 H4 S4 a4 s4 p4 => ⟨c, r4, G4, S4, a4, l3.trans s4.later, p4⟩) (fun r4 σ4 G4 H4 S4 a4 s4 p4 => p4 σ4 G4 H4 S4 (.refl a4)) (fun r4 σ4 G4 H4 S4 a4 s4 p4 => ⟨c, r4, G4, S4, a4, l3.trans s4.later, p4⟩)
          (fun r4 σ4 G4 H4 ev v S4 a4 s4 er p4 => p4 v σ4 G4 H4 S4 (.refl a4) er)
    · have e : i = ms.length := by omega
      subst e
      rw [List.drop_length] at p
      exact .inl ⟨w2, p σ' G' H' S' (.refl a')⟩
end
end Sx

set_option Elab.async false
set_option linter.all false
set_option maxRecDepth 100000
set_option maxHeartbeats 4000000
/-! Sx10: comprehensions. -/
namespace Sx
open PySem L2

def plainS : Slot → Bool
  | .o _ _ => false
  | _ => true
def wipeR (vs : List Nat) (r : Ro) : Ro := vs.foldr (fun j r => r.set j .un) r
/-- the slots as they were -/
def restR (vs : List Nat) (r0 r : Ro) : Ro := vs.foldr (fun j r => r.set j (get r0 j)) r
theorem wipeR_len {vs : List Nat} {r : Ro} : (wipeR vs r).length = r.length := by
  induction vs with
  | nil => rfl
  | cons j vs ih => rw [wipeR, List.foldr_cons, List.length_set]; exact ih
theorem restR_len {vs : List Nat} {r0 r : Ro} : (restR vs r0 r).length = r.length := by
  induction vs with
  | nil => rfl
  | cons j vs ih => rw [restR, List.foldr_cons, List.length_set]; exact ih
theorem get_wipe {vs : List Nat} {r : Ro} {j : Nat} : get (wipeR vs r) j = if j ∈ vs then .un else get r j := by
  induction vs with
  | nil => rfl
  | cons i vs ih =>
    show get ((wipeR vs r).set i .un) j = _
    rw [get_set, wipeR_len, ih]
    by_cases z : i = j
    · subst z
      rw [if_pos (List.mem_cons_self ..)]
      by_cases l : i < r.length
      · rw [if_pos ⟨rfl, l⟩]
      · rw [if_neg (fun q => l q.2)]
        have : get r i = .un := by
          unfold get
          rw [List.getD_eq_getElem?_getD, List.getElem?_eq_none (Nat.le_of_not_lt l)]
          rfl
        rw [this]
        split <;> rfl
    · rw [if_neg (fun q => z q.1)]
      by_cases m : j ∈ vs
      · rw [if_pos m, if_pos (List.mem_cons_of_mem _ m)]
      · rw [if_neg m, if_neg (fun q => by rcases List.mem_cons.mp q with e | e; exact z e.symm; exact m e)]
theorem get_rest {vs : List Nat} {r0 r : Ro} {j : Nat} (hl : r0.length = r.length) : get (restR vs r0 r) j = if j ∈ vs then get r0 j else get r j := by
  induction vs with
  | nil => rfl
  | cons i vs ih =>
    show get ((restR vs r0 r).set i (get r0 i)) j = _
    rw [get_set, restR_len, ih]
    by_cases z : i = j
    · subst z
      rw [if_pos (List.mem_cons_self ..)]
      by_cases l : i < r.length
      · rw [if_pos ⟨rfl, l⟩]
      · rw [if_neg (fun q => l q.2)]
        have nn : ∀ {r : Ro}, ¬ i < r.length → get r i = .un := fun {r} l => by
          unfold get
          rw [List.getD_eq_getElem?_getD, List.getElem?_eq_none (Nat.le_of_not_lt l)]
          rfl
        rw [nn l, nn (r := r0) (by rw [hl]; exact l)]
        split <;> rfl
    · rw [if_neg (fun q => z q.1)]
      by_cases m : j ∈ vs
      · rw [if_pos m, if_pos (List.mem_cons_of_mem _ m)]
      · rw [if_neg m, if_neg (fun q => by rcases List.mem_cons.mp q with e | e; exact z e.symm; exact m e)]
def wipeE (vs : List Nat) : Ev Unit := fun r => if vs.all (fun j => canSet (get r j)) = true then .ok () (wipeR vs r) else .bad
def lcF (vs : List Nat) (t : Tg) (c : Ev Bool) (e : Ev EV) : List M → Ev (List M)
  | [] => bnd (wipeE vs) fun _ => ret []
  | m :: ms => bnd (wipeE vs) fun _ => bnd (noX (t m)) fun _ => bnd (noX c) fun b => if b = true then bnd (noX e) (fun ev => bnd (frz ev) fun x => bnd (lcF vs t c e ms) fun xs => ret (x :: xs)) else lcF vs t c e ms
def lcX (vs : List Nat) (t : Tg) (c : Ev Bool) (e : Ev EV) (ms : List M) : Ev EV := fun r0 =>
  if vs.all (fun j => plainS (get r0 j)) = true ∧ ms.length ≤ big then match lcF vs t c e ms r0 with
    | .ok xs r => .ok (.tmp xs) (restR vs r0 r)
    | _ => .bad
  else .bad
def vLc (vs : List Nat) (src : Ev (List M × List Src)) (t : Tg) (c : Ev Bool) (e : Ev EV) : Ev EV := bnd src fun p => brk p.2 (lcX vs t c e p.1)
section
variable {K : PySem.W.Frag} {A A' : Addr → Prop} {r r1 r2 : Ro} {G G1 G2 : Hp} {σ σ1 σ2 : St} {H H1 H2 : Hp} {mg : Str → Option Value} {W : W4} {vs : List Nat}
theorem wipe_get {j : Nat} : (wipe σ vs)[j]? = if j ∈ vs ∧ j < σ.length then some none else σ[j]? := by
  induction vs with
  | nil => rw [if_neg (fun z => nomatch z.1)]; rfl
  | cons i vs ih =>
    unfold wipe
    by_cases z : i = j
    · subst z
      by_cases l : i < σ.length
      · rw [if_pos ⟨List.mem_cons_self .., l⟩, List.getElem?_set_self (by rw [wipe_length]; exact l)]
      · rw [if_neg (fun q => l q.2), List.getElem?_eq_none (by rw [List.length_set, wipe_length]; omega), List.getElem?_eq_none (by omega)]
    · rw [List.getElem?_set_ne z, ih]
      by_cases m : j ∈ vs ∧ j < σ.length
      · rw [if_pos m, if_pos ⟨List.mem_cons_of_mem _ m.1, m.2⟩]
      · rw [if_neg m, if_neg (fun q => by rcases List.mem_cons.mp q.1 with e | e; exact z e.symm; exact m ⟨e, q.2⟩)]
theorem wipe_out {j : Nat} (h : j ∉ vs) : (wipe σ vs)[j]? = σ[j]? := by
  rw [wipe_get, if_neg (fun z => h z.1)]
theorem wipe_ext (hl : σ1.length = σ.length) (h : ∀ j, j ∉ vs → σ1[j]? = σ[j]?) : wipe σ1 vs = wipe σ vs := by
  apply List.ext_getElem?
  intro j
  rw [wipe_get, wipe_get, hl]
  by_cases m : j ∈ vs
  · by_cases l : j < σ.length
    · rw [if_pos ⟨m, l⟩, if_pos ⟨m, l⟩]
    · rw [if_neg (fun z => l z.2), if_neg (fun z => l z.2), List.getElem?_eq_none (by omega), List.getElem?_eq_none (by omega)]
  · rw [if_neg (fun z => m z.1), if_neg (fun z => m z.1)]
    exact h j m
/-- slots forgotten -/
theorem Sim.forget {r' : Ro} {σ' : St} (S : Sim K r G σ H) (hl : r'.length = σ'.length) (h : ∀ j, get r' j = .un ∨ (get r' j = get r j ∧ σ'[j]? = σ[j]?)) : Sim K r' G σ' H ∧ ∀ b, Own r' σ' H b → Own r σ H b := by
  have key : ∀ j s, get r' j = s → s ≠ .un → get r j = s ∧ σ'[j]? = σ[j]? := fun j s e n => by
    rcases h j with z | ⟨z1, z2⟩
    · exact absurd (e.symm.trans z) n
    · exact ⟨z1.symm.trans e, z2⟩
  refine ⟨⟨S.sub, hl, fun j m e => ?_, fun j p xs e => ?_, fun j k p q xs ys a a' b e1 e2 s1 s2 => ?_⟩, fun b ⟨j, p, xs, a, e1, e2, f⟩ => ?_⟩
  · obtain ⟨e1, e2⟩ := key j _ e (fun z => nomatch z)
    rw [e2]; exact S.val j m e1
  · obtain ⟨e1, e2⟩ := key j _ e (fun z => nomatch z)
    rw [e2]; exact S.own j p xs e1
  · obtain ⟨f1, f2⟩ := key j _ e1 (fun z => nomatch z)
    obtain ⟨g1, g2⟩ := key k _ e2 (fun z => nomatch z)
    exact S.inj j k p q xs ys a a' b f1 g1 (f2.symm.trans s1) (g2.symm.trans s2)
  · obtain ⟨f1, f2⟩ := key j _ e1 (fun z => nomatch z)
    exact ⟨j, p, xs, a, f1, f2.symm.trans e2, f⟩
theorem Sim.wiped (S : Sim K r G σ H) : Sim K (wipeR vs r) G (wipe σ vs) H ∧ ∀ b, Own (wipeR vs r) (wipe σ vs) H b → Own r σ H b :=
  S.forget (by rw [wipeR_len, wipe_length]; exact S.len) fun j => by
    rw [get_wipe]
    by_cases m : j ∈ vs
    · rw [if_pos m]; exact .inl rfl
    · rw [if_neg m]; exact .inr ⟨rfl, wipe_out m⟩
theorem step_wiped (S : Sim K r G σ H) (hA : ∀ b, A0 r σ H b → A b) (hc : vs.all (fun j => canSet (get r j)) = true) : Step A r G σ H (wipeR vs r) G (wipe σ vs) H := by
  refine ⟨Same.refl _, fun _ _ e _ => e, fun _ e => .inl e, fun b o => hA b (.inl (S.wiped.2 b o)), fun j p xs e nf => ?_, fun _ e => e⟩
  have m : j ∉ vs := fun m => by
    have z := List.all_eq_true.mp hc j m
    rw [e] at z
    cases p
    · exact nf rfl
    · cases z
    · cases z
  rw [get_wipe, if_neg m, wipe_out m]
  exact ⟨rfl, xs, e, fun _ => rfl⟩
/-- what no name and no frozen value holds is written -/
theorem Sim.apart {D : Addr} {o : HO} (S : Sim K r G σ H) (no : ¬ Own r σ H D) {i : Nat} {p : Pin} {b : Cont} {a : Addr} (e : get r i = .o p b) (sv : σ[i]? = some (some (.ref a))) :
    Bx K G (upd H D o) a b ∧ ∀ c, Foot (upd H D o) a b c ↔ Foot H a b c := by
  obtain ⟨a', sv', x⟩ := S.own i p b e
  rw [sv] at sv'; cases sv'
  have k : ∀ c u, Foot H a b c → H c = some u → upd H D o c = some u := fun c u f q => by
    rw [upd_ne (fun z => no (by subst z; exact ⟨i, p, b, a, e, sv, f⟩))]; exact q
  exact ⟨⟨fun c f => x.1 c ((x.2.foot fun o => k a o Foot.self).mp f), x.2.keep (Same.refl _) k⟩, fun c => x.2.foot fun o => k a o Foot.self⟩
theorem Sim.own_beside {D c : Addr} {o : HO} (S : Sim K r G σ H) (no : ¬ Own r σ H D) (h : Own r σ (upd H D o) c) : Own r σ H c := by
  obtain ⟨i, p, b, a, e1, e2, f⟩ := h
  exact ⟨i, p, b, a, e1, e2, ((S.apart no e1 e2).2 c).mp f⟩
theorem Sim.beside {D : Addr} {o : HO} (S : Sim K r G σ H) (g : G D = none) (no : ¬ Own r σ H D) : Sim K r G σ (upd H D o) := by
  refine ⟨fun b u e => ?_, S.len, S.val, fun i p xs e => ?_, fun i j p q b d a a' c e1 e2 s1 s2 f1 f2 => ?_⟩
  · have nb : b ≠ D := fun z => by subst z; rw [g] at e; cases e
    rw [upd_ne nb]; exact S.sub b u e
  · obtain ⟨a, sv, _⟩ := S.own i p xs e
    exact ⟨a, sv, (S.apart no e sv).1⟩
  · exact S.inj i j p q b d a a' c e1 e2 s1 s2 (((S.apart no e1 s1).2 c).mp f1) (((S.apart no e2 s2).2 c).mp f2)
theorem brkE {Q : VK} {ss : List Src} {x : Ev EV} (lk : Lk K A ss r G σ H r1 G1 H1) (h : Post (rpE K σ) K mg W A r G σ H Q (brk ss x r1)) :
    Post (rpE K σ) K mg W A r1 G1 σ H1 Q (x r1) := by
  unfold brk at h
  cases q : x r1 with
  | bad => rw [q] at h; exact h
  | ex c m r' =>
    rw [q] at h
    intro σ' G' H' cls d S' st xr
    obtain ⟨S2, st2, _⟩ := lk r' G' σ' H' S' st
    exact h σ' G' H' cls d S2 st2 xr
  | ok ev r' =>
    rw [q] at h
    intro v G' H' S' st er
    obtain ⟨S2, st2, ow⟩ := lk r' G' σ H' S' st
    refine h v G' H' S2 st2 ?_
    cases ev with
    | fr m => exact er
    | bor i => exact er
    | tmp xs =>
      obtain ⟨a, e, x, al⟩ := er
      exact ⟨a, e, x, fun c f => ⟨fun z => (al c f).1 (ow c z), (al c f).2⟩⟩
theorem lcF_wipe {t : Tg} {c : Ev Bool} {e : Ev EV} {ms : List M} (hc : vs.all (fun j => canSet (get r j)) = true) : lcF vs t c e ms (wipeR vs r) = lcF vs t c e ms r := by
  have e1 : wipeE vs r = .ok () (wipeR vs r) := if_pos hc
  have hc2 : vs.all (fun j => canSet (get (wipeR vs r) j)) = true := List.all_eq_true.mpr fun j hj => by rw [get_wipe, if_pos hj]; rfl
  have ww : wipeR vs (wipeR vs r) = wipeR vs r := by
    apply List.ext_getElem (by rw [wipeR_len])
    intro j h1 h2
    have g : ∀ {r : Ro} (h : j < r.length), r[j] = get r j := fun {r} h => by
      unfold get
      rw [List.getD_eq_getElem?_getD, List.getElem?_eq_getElem h]
      rfl
    rw [g h1, g h2, get_wipe, get_wipe]
    by_cases m : j ∈ vs
    · rw [if_pos m, if_pos m]
    · rw [if_neg m]
  have e2 : wipeE vs (wipeR vs r) = .ok () (wipeR vs r) := by
    have z : wipeE vs (wipeR vs r) = .ok () (wipeR vs (wipeR vs r)) := if_pos hc2
    rw [z, ww]
  cases ms with
  | nil =>
    show bnd (wipeE vs) _ _ = bnd (wipeE vs) _ _
    rw [bnd_ok e1, bnd_ok e2]
  | cons m ms =>
    show bnd (wipeE vs) _ _ = bnd (wipeE vs) _ _
    rw [bnd_ok e1, bnd_ok e2]
end
theorem Step.stay {ra rb : Ro} {Ga Gb : Hp} {σa σb : St} {Ha Hb : Hp} {D : Addr} {o : HO} (st : Step (A0 ra σa Ha) ra Ga σa Ha rb Gb σb Hb) (h : Ha D = some o) (g : Ga D = none) (n : ¬ Own ra σa Ha D) : Hb D = some o ∧ Gb D = none ∧ ¬ Own rb σb Hb D := by
  have nA : ¬ A0 ra σa Ha D := fun z => by
    rcases z with z | z
    · exact n z
    · rw [h] at z; cases z
  refine ⟨st.keep D _ h nA, ?_, fun z => nA (st.onew D z)⟩
  cases z : Gb D with
  | none => rfl
  | some u =>
    rcases st.gnew D (by rw [z]; exact fun z => nomatch z) with z | z
    · exact absurd g z
    · exact absurd z nA
abbrev tgR (K : PySem.W.Frag) (ix : List Nat) (t : Tg) : TG := fun v σ H Q => ∃ r G m, Sim K r G σ H ∧ Rep K G m v ∧ PostT K ix r G σ H Q (t m r)
/-- nothing is wanted of exceptions: none comes -/
abbrev W0 : W4 := fun _ _ _ _ => False
def STs (X : Cx) (W : W4) (ifs : List Expr) (f : Ev Bool) : Prop := PTs X ifs (tB X.K X.mg W f)
theorem sts_nil {X : Cx} {W : W4} : STs X W [] (ret true) := ⟨fun pins s σ H Q I ⟨r, G, S, h⟩ => pts_nil.run pins s σ H Q I (h _ G H S (.refl A0.self) rfl)⟩
theorem sts_one {X : Cx} {W : W4} {c : Expr} {f : Ev Bool} (h : ST X W c f) : STs X W [c] f := pts_one h
section
variable {X : Cx} {W : W4} {elt tg iter : Expr} {ifs : List Expr} {scope : Scope} {own : List (Str × Nat)} {pos : Pos} {src : Ev (List M × List Src)} {t : Tg} {ix : List Nat} {c : Ev Bool} {e : Ev EV}
theorem lc_read {vs : List Nat} {σ : St} {H : Hp} {Q : VK} (hix : ∀ j ∈ ix, j ∈ vs) (h : tE X.K X.mg W (vLc vs src t c e) σ H Q) :
    tLc (fun σ H Q => ∃ r G, Sim X.K r G σ H ∧ PostI X.K X.mg W r G σ H Q (src r)) (tgR X.K ix t) (tB X.K X.mg W0 c) (tE X.K X.mg W0 e) vs σ H Q := by
  obtain ⟨r, G, S, h⟩ := h
  refine ⟨r, G, S, ?_⟩
  unfold vLc at h
  cases q : src r with
  | bad => rw [bnd_bad q] at h; exact h
  | ex c m r' => rw [bnd_ex q] at h; exact h
  | ok p r1 =>
    obtain ⟨ms, ss⟩ := p
    rw [bnd_ok q] at h
    intro J G1 H1 S1 lk a1 wl D hD
    have h1 := brkE lk h
    unfold lcX at h1
    by_cases c0 : vs.all (fun j => plainS (get r1 j)) = true ∧ ms.length ≤ big
    · rw [if_pos c0] at h1
      obtain ⟨pl, hbig⟩ := c0
      cases q1 : lcF vs t c e ms r1 with
      | bad => rw [q1] at h1; exact h1.elim
      | ex x m r' => rw [q1] at h1; exact h1.elim
      | ok total rE =>
        rw [q1] at h1
        have cs1 : vs.all (fun j => canSet (get r1 j)) = true := List.all_eq_true.mpr fun j hj => by
          have z := List.all_eq_true.mp pl j hj
          cases q : get r1 j with
          | un => rfl
          | v _ => rfl
          | o _ _ => rw [q] at z; cases z
        have nlock : ∀ j p xs, get r1 j = .o p xs → j ∉ vs := fun j p xs e m => by
          have z := List.all_eq_true.mp pl j m
          rw [e] at z; cases z
        obtain ⟨Sw, ow⟩ := S1.wiped (vs := vs)
        refine ⟨fun i n H' => n = ms.length - i ∧ i ≤ ms.length ∧ ∃ r' G' acc accV rest, Sim X.K r' G' (wipe σ vs) H' ∧ (∀ j ∈ vs, get r' j = .un) ∧ Step (A0 r σ H) (wipeR vs r1) G1 (wipe σ vs) H1 r' G' (wipe σ vs) H' ∧
          H' D = some (.lst accV) ∧ RepL X.K G' acc accV ∧ G' D = none ∧ ¬ Own r' (wipe σ vs) H' D ∧ acc.length ≤ i ∧ lcF vs t c e (ms.drop i) r' = .ok rest rE ∧ acc ++ rest = total,
          ⟨_, rfl, Nat.zero_le _, wipeR vs r1, G1, [], [], total, Sw.fresh hD, fun j hj => by rw [get_wipe, if_pos hj], step_fresh Sw (fun b z => a1 b (z.imp (ow b) id)) hD, upd_same, rfl, S1.gnone hD, fun z => S1.nown hD (ow D ((Sw.own_up hD).mp z)), Nat.le_refl _, ?_, rfl⟩, ?_⟩
        · rw [List.drop_zero, lcF_wipe cs1]; exact q1
        rintro i n H' ⟨rfl, hi, r', G', acc, accV, rest, S', un, st, hD', rl, gD, nD, la, ef, et⟩
        have a' : ∀ b, A0 r' (wipe σ vs) H' b → A0 r σ H b := st.allow' fun b z => a1 b (z.imp (ow b) id)
        have lt : Later r1 G1 σ r' G' (wipe σ vs) := ⟨st.grow, fun j xs ej => by
          have m := nlock j _ _ ej
          obtain ⟨e1, xs1, e2, l1⟩ := st.pin j .lock xs (by rw [get_wipe, if_neg m]; exact ej) (fun z => nomatch z)
          exact ⟨wipe_out m, by rw [e2, l1 rfl]⟩⟩
        have cs' : vs.all (fun j => canSet (get r' j)) = true := List.all_eq_true.mpr fun j hj => by rw [un j hj]; rfl
        have ew : wipeE vs r' = .ok () (wipeR vs r') := if_pos cs'
        obtain ⟨w1, w2⟩ := wl r' G' _ H' S' lt
        by_cases cl : i < ms.length
        · obtain ⟨go, yl⟩ := w1 i cl
          refine .inr ⟨go, fun H2 => i + 1 ≤ ms.length ∧ ∃ r' G' acc accV rest, Sim X.K r' G' (wipe σ vs) H2 ∧ (∀ j ∈ vs, get r' j = .un) ∧ Step (A0 r σ H) (wipeR vs r1) G1 (wipe σ vs) H1 r' G' (wipe σ vs) H2 ∧
            H2 D = some (.lst accV) ∧ RepL X.K G' acc accV ∧ G' D = none ∧ ¬ Own r' (wipe σ vs) H2 D ∧ acc.length ≤ i + 1 ∧ lcF vs t c e (ms.drop (i + 1)) r' = .ok rest rE ∧ acc ++ rest = total, fun H2 z => ⟨ms.length - (i + 1), by omega, rfl, z⟩, fun x H2 y => ?_⟩
          obtain ⟨G2, m, S2, st2, em, rp⟩ := yl x H2 y
          have ed : ms.drop i = m :: ms.drop (i + 1) := by
            rw [List.drop_eq_getElem_cons cl]
            congr 1
            rw [List.getElem?_eq_getElem cl] at em
            exact Option.some.inj em
          rw [ed] at ef
          have ef : bnd (wipeE vs) (fun _ => bnd (noX (t m)) fun _ => bnd (noX c) fun b => if b = true then bnd (noX e) (fun ev => bnd (frz ev) fun x => bnd (lcF vs t c e (ms.drop (i + 1))) fun xs => ret (x :: xs)) else lcF vs t c e (ms.drop (i + 1))) r' = .ok rest rE := ef
          rw [bnd_ok ew] at ef
          -- the state at the turn's start
          have nA2 : ¬ A0 r' (wipe σ vs) H' D := fun z => by
            rcases z with z | z
            · exact nD z
            · rw [hD'] at z; cases z
          obtain ⟨S3, ow3⟩ := S2.forget (r' := wipeR vs r') (σ' := wipe σ vs) (by rw [wipeR_len]; exact S2.len) fun j => by
            rw [get_wipe]
            by_cases mj : j ∈ vs
            · rw [if_pos mj]; exact .inl rfl
            · rw [if_neg mj]; exact .inr ⟨rfl, rfl⟩
          have st3 : Step (A0 r σ H) r' G' (wipe σ vs) H' (wipeR vs r') G2 (wipe σ vs) H2 := by
            have stA := st2.mono a'
            refine ⟨stA.grow, stA.keep, stA.gnew, fun b z => stA.onew b (ow3 b z), fun j p xs ej nf => ?_, stA.free⟩
            have mj : j ∉ vs := fun mj => by rw [un j mj] at ej; cases ej
            rw [get_wipe, if_neg mj]
            exact stA.pin j p xs ej nf
          have hD2 : H2 D = some (.lst accV) := st2.keep D _ hD' nA2
          have gD2 : G2 D = none := by
            cases z : G2 D with
            | none => rfl
            | some o =>
              rcases st2.gnew D (by rw [z]; exact fun z => nomatch z) with z | z
              · exact absurd gD z
              · exact absurd z nA2
          have nD2 : ¬ Own (wipeR vs r') (wipe σ vs) H2 D := fun z => nA2 (st2.onew D (ow3 D z))
          refine ⟨wipeR vs r', G2, m, S3, rp, ?_⟩
          cases q2 : noX (t m) (wipeR vs r') with
          | bad => rw [bnd_bad q2] at ef; cases ef
          | ex x m r3 => rw [bnd_ex q2] at ef; cases ef
          | ok u r4 =>
            rw [bnd_ok q2] at ef
            rw [noX_ok q2]
            intro σ4 G4 H4 S4 st4 l4 o4
            have ws : wipe σ4 vs = wipe σ vs := by
              have z : wipe σ4 vs = wipe (wipe σ vs) vs := wipe_ext l4 fun j hj => o4 j fun z => hj (hix j z)
              rw [z]
              exact wipe_ext (wipe_length σ vs) fun j hj => wipe_out hj
            obtain ⟨hD4, gD4, nD4⟩ := Step.stay st4 hD2 gD2 nD2
            have rl4 := (rl.mono st2.grow).mono st4.grow
            have al3 := st3.allow' a'
            have st4' := (st3.trans (st4.mono al3))
            have al4 := st4'.allow' a'
            -- behind a turn: the slots are forgotten
            have next : ∀ {r5 : Ro} {G5 : Hp} {H5 : Hp} {acc5 : List M} {accV5 : List V} {rest5 : List M}, Sim X.K r5 G5 σ4 H5 → Step (A0 r σ H) r' G' (wipe σ vs) H' r5 G5 σ4 H5 → H5 D = some (.lst accV5) → RepL X.K G5 acc5 accV5 → G5 D = none → ¬ Own r5 σ4 H5 D → acc5.length ≤ i + 1 →
                lcF vs t c e (ms.drop (i + 1)) r5 = .ok rest5 rE → acc5 ++ rest5 = total → i + 1 ≤ ms.length ∧ ∃ r' G' acc accV rest, Sim X.K r' G' (wipe σ vs) H5 ∧ (∀ j ∈ vs, get r' j = .un) ∧ Step (A0 r σ H) (wipeR vs r1) G1 (wipe σ vs) H1 r' G' (wipe σ vs) H5 ∧
                H5 D = some (.lst accV) ∧ RepL X.K G' acc accV ∧ G' D = none ∧ ¬ Own r' (wipe σ vs) H5 D ∧ acc.length ≤ i + 1 ∧ lcF vs t c e (ms.drop (i + 1)) r' = .ok rest rE ∧ acc ++ rest = total := fun {r5 G5 H5 acc5 accV5 rest5} S5 st5 h5 rl5 g5 n5 l5 f5 e5 => by
              have cs5 : vs.all (fun j => canSet (get r5 j)) = true := by
                by_cases z : vs.all (fun j => canSet (get r5 j)) = true
                · exact z
                · have zb : wipeE vs r5 = .bad := if_neg z
                  cases qd : ms.drop (i + 1) with
                  | nil =>
                    rw [qd] at f5
                    have f5 : bnd (wipeE vs) (fun _ => ret []) r5 = .ok rest5 rE := f5
                    rw [bnd_bad zb] at f5; cases f5
                  | cons m' ms' =>
                    rw [qd] at f5
                    have f5 : bnd (wipeE vs) _ r5 = .ok rest5 rE := f5
                    rw [bnd_bad zb] at f5; cases f5
              have w5 := S5.wiped (vs := vs)
              have stw := step_wiped (vs := vs) S5 (st5.allow' a') cs5
              rw [ws] at w5 stw
              exact ⟨cl, wipeR vs r5, G5, acc5, accV5, rest5, w5.1, fun j hj => by rw [get_wipe, if_pos hj], (st.trans st5).trans stw, h5, rl5, g5, fun z => n5 (w5.2 D z), l5, by rw [lcF_wipe cs5]; exact f5, e5⟩
            refine ⟨ws, r4, G4, S4, ?_⟩
            cases q3 : noX c r4 with
            | bad => rw [bnd_bad q3] at ef; cases ef
            | ex x m r3 => rw [bnd_ex q3] at ef; cases ef
            | ok b r5 =>
              rw [bnd_ok q3] at ef
              rw [noX_ok q3]
              intro b' G5 H5 S5 st5 eb
              subst eb
              obtain ⟨hD5, gD5, nD5⟩ := Step.stay st5 hD4 gD4 nD4
              have rl5 := rl4.mono st5.grow
              have st5' := st4'.trans (st5.mono al4)
              have al5 := st5'.allow' a'
              cases b with
              | false =>
                rw [if_neg Bool.false_ne_true] at ef
                exact iteF (next S5 st5' hD5 rl5 gD5 nD5 (by omega) ef et)
              | true =>
                rw [if_pos rfl] at ef
                refine iteT ⟨r5, G5, S5, ?_⟩
                cases q4 : noX e r5 with
                | bad => rw [bnd_bad q4] at ef; cases ef
                | ex x m r3 => rw [bnd_ex q4] at ef; cases ef
                | ok ev r6 =>
                  rw [bnd_ok q4] at ef
                  rw [noX_ok q4]
                  intro y G6 H6 S6 st6 er
                  obtain ⟨hD6, gD6, nD6⟩ := Step.stay st6 hD5 gD5 nD5
                  have rl6 := rl5.mono st6.grow
                  have st6' := st5'.trans (st6.mono al5)
                  cases q5 : frz ev r6 with
                  | bad => rw [bnd_bad q5] at ef; cases ef
                  | ex x m r3 => exact (frz_noex q5).elim
                  | ok xm r7 =>
                    rw [bnd_ok q5] at ef
                    obtain ⟨G7, S7, st7, rp7, so7⟩ := frz_ok S6 (st6.allow A0.self) er.wk q5
                    have gD7 : G7 D = none := by
                      cases z : G7 D with
                      | none => rfl
                      | some o =>
                        rcases st7.gnew D (by rw [z]; exact fun z => nomatch z) with z | z
                        · exact absurd gD6 z
                        · rcases z with z | z
                          · exact absurd z nD5
                          · rw [hD5] at z; cases z
                    have nD7 : ¬ Own r7 σ4 H6 D := fun z => nD6 (so7 D z)
                    cases q6 : lcF vs t c e (ms.drop (i + 1)) r7 with
                    | bad => rw [bnd_bad q6] at ef; cases ef
                    | ex x m r3 => rw [bnd_ex q6] at ef; cases ef
                    | ok xs r8 =>
                      rw [bnd_ok q6] at ef
                      cases ef
                      refine ⟨accV, hD6, by rw [← rl.len]; exact Nat.lt_of_le_of_lt la (Nat.lt_of_lt_of_le cl hbig), ?_⟩
                      have S8 : Sim X.K r7 G7 σ4 (upd H6 D (.lst (accV ++ [y]))) := S7.beside gD7 nD7
                      have st7' : Step (A0 r σ H) r' G' (wipe σ vs) H' r7 G7 σ4 H6 := st6'.trans (st7.mono al5)
                      have aD : A0 r σ H D := by
                        have z : A0 r1 σ H1 D := .inr hD
                        exact a1 D z
                      have st8 : Step (A0 r σ H) r' G' (wipe σ vs) H' r7 G7 σ4 (upd H6 D (.lst (accV ++ [y]))) := by
                        refine ⟨st7'.grow, fun b o hb nb => ?_, st7'.gnew, fun b z => st7'.onew b (S7.own_beside nD7 z), st7'.pin, fun b hb => ?_⟩
                        · have z : b ≠ D := fun z => by subst z; exact nb aD
                          rw [upd_ne z]; exact st7'.keep b o hb nb
                        · by_cases z : b = D
                          · subst z; rw [upd_same] at hb; cases hb
                          · rw [upd_ne z] at hb; exact st7'.free b hb
                      exact next S8 st8 upd_same ((rl6.mono st7.grow).app (.one rp7)) gD7 (fun z => nD7 (S7.own_beside nD7 z)) (by rw [List.length_append]; simp; exact la) q6 (by rw [List.append_assoc]; exact et)
        · have ei : i = ms.length := by omega
          subst ei
          rw [List.drop_length] at ef
          have ef : bnd (wipeE vs) (fun _ => ret []) r' = .ok rest rE := ef
          rw [bnd_ok ew] at ef
          cases ef
          rw [List.append_nil] at et
          subst et
          refine .inl ⟨w2, ?_⟩
          have hl : r1.length = (wipeR vs r').length := by
            rw [wipeR_len]
            have z1 := S1.len
            have z2 := S'.len
            rw [wipe_length] at z2
            omega
          have gr : ∀ j, get (restR vs r1 (wipeR vs r')) j = if j ∈ vs then get r1 j else get r' j := fun j => by
            rw [get_rest hl, get_wipe]
            by_cases m : j ∈ vs
            · rw [if_pos m, if_pos m]
            · rw [if_neg m, if_neg m, if_neg m]
          have pv : ∀ j, j ∈ vs → ∀ p xs, get r1 j ≠ .o p xs := fun j m p xs e => nlock j p xs e m
          have key : ∀ j p xs, get (restR vs r1 (wipeR vs r')) j = .o p xs → j ∉ vs ∧ get r' j = .o p xs := fun j p xs e => by
            rw [gr] at e
            by_cases m : j ∈ vs
            · rw [if_pos m] at e; exact absurd e (pv j m p xs)
            · rw [if_neg m] at e; exact ⟨m, e⟩
          have bk : ∀ b, Own (restR vs r1 (wipeR vs r')) σ H' b → Own r' (wipe σ vs) H' b := fun b ⟨j, p, xs, a, e1, e2, f⟩ => by
            obtain ⟨m, e3⟩ := key j p xs e1
            exact ⟨j, p, xs, a, e3, (wipe_out m).trans e2, f⟩
          have SF : Sim X.K (restR vs r1 (wipeR vs r')) G' σ H' := by
            refine ⟨S'.sub, by rw [restR_len, ← hl]; exact S1.len, fun j m e => ?_, fun j p xs e => ?_, fun j k p q xs ys a a' b e1 e2 s1 s2 => ?_⟩
            · rw [gr] at e
              by_cases mj : j ∈ vs
              · rw [if_pos mj] at e
                obtain ⟨v, sv, rp⟩ := S1.val j m e
                exact ⟨v, sv, rp.mono st.grow⟩
              · rw [if_neg mj] at e
                obtain ⟨v, sv, rp⟩ := S'.val j m e
                exact ⟨v, (wipe_out mj).symm.trans sv, rp⟩
            · obtain ⟨mj, e3⟩ := key j p xs e
              obtain ⟨a, sv, z⟩ := S'.own j p xs e3
              exact ⟨a, (wipe_out mj).symm.trans sv, z⟩
            · obtain ⟨mj, e3⟩ := key j p xs e1
              obtain ⟨mk, e4⟩ := key k q ys e2
              exact S'.inj j k p q xs ys a a' b e3 e4 ((wipe_out mj).trans s1) ((wipe_out mk).trans s2)
          refine h1 (.ref D) G' H' SF ⟨st.grow, st.keep, st.gnew, fun b z => st.onew b (bk b z), fun j p xs ej nf => ?_, st.free⟩ ⟨D, rfl, ⟨fun c f => by cases f; exact gD, accV, hD', rl⟩, fun c f => by cases f; exact ⟨fun z => nD (bk D z), a1 D (.inr hD)⟩⟩
          have mj := nlock j p xs ej
          obtain ⟨e1, xs1, e2, l1⟩ := st.pin j p xs (by rw [get_wipe, if_neg mj]; exact ej) nf
          exact ⟨rfl, xs1, by rw [gr, if_neg mj]; exact e2, l1⟩
    · rw [if_neg c0] at h1
      exact h1.elim
theorem se_lc (hc : X.calm = true) (hN : X.N.Nodup) (hi : SI X W tg iter src) (ok : BlkOk X.N X.env.scope scope own) (hix : ∀ j ∈ ix, j ∈ own.map (·.2))
    (hg : ∀ (s : Shared) (H : Hp) (C : Addr) (cl : List (Str × Addr)) (fp : List Addr), SG (X.blk s H scope (compEnvC scope cl C X.env) fp) tg ix t) (ht : ∀ (s : Shared) (H : Hp) (C : Addr) (cl : List (Str × Addr)) (fp : List Addr), STs (X.blk s H scope (compEnvC scope cl C X.env) fp) W0 ifs c)
    (he : ∀ (s : Shared) (H : Hp) (C : Addr) (cl : List (Str × Addr)) (fp : List Addr), SE (X.blk s H scope (compEnvC scope cl C X.env) fp) W0 elt e) (hs : ∀ x, foldedSetIterable iter X.env x = pure x := by intro _; rfl) :
    SE X W (.ListComp elt [⟨tg, iter, ifs, 0⟩] scope pos) (vLc (own.map (·.2)) src t c e) :=
  peW (pe_lc (g := tgR X.K ix t) (tt := tB X.K X.mg W0 c) (te := tE X.K X.mg W0 e) hc hN hi ok hg ht he hs) fun σ H Q h => lc_read hix h
theorem ss_setLc {i : Nat} {y : Str} {py spos : Pos} (hc : X.calm = true) (hN : X.N.Nodup) (hy : X.N[i]? = some y) (hyl : X.env.scope.names.lookup y = some .local)
    (hsw : swapsWith (.ListComp elt [⟨tg, iter, ifs, 0⟩] scope pos) (some (.Name y py)) spos.line X.env = pure true) (hi : SI X W tg iter src) (ok : BlkOk X.N X.env.scope scope own) (hix : ∀ j ∈ ix, j ∈ own.map (·.2))
    (hg : ∀ (s : Shared) (H : Hp) (C : Addr) (cl : List (Str × Addr)) (fp : List Addr), SG (X.blk s H scope (compEnvC scope cl C X.env) fp) tg ix t) (ht : ∀ (s : Shared) (H : Hp) (C : Addr) (cl : List (Str × Addr)) (fp : List Addr), STs (X.blk s H scope (compEnvC scope cl C X.env) fp) W0 ifs c)
    (he : ∀ (s : Shared) (H : Hp) (C : Addr) (cl : List (Str × Addr)) (fp : List Addr), SE (X.blk s H scope (compEnvC scope cl C X.env) fp) W0 elt e) (hs : ∀ x, foldedSetIterable iter X.env x = pure x := by intro _; rfl) :
    SS X W (.Assign [.Name y py] (.ListComp elt [⟨tg, iter, ifs, 0⟩] scope pos) spos) (sAsg i (vLc (own.map (·.2)) src t c e)) := by
  refine psW (ps_setLc (g := tgR X.K ix t) (tt := tB X.K X.mg W0 c) (te := tE X.K X.mg W0 e) hc hN hy hyl hsw hi ok hg ht he hs) fun D σ H ⟨r, G, S, h⟩ => lc_read hix ?_
  refine intoS upE S A0.self h fun ev r1 v G1 H1 S1 a1 st1 e1 h1 => ?_
  obtain ⟨r2, G2, S2, a2, st2, p2⟩ := post_asg S1 a1 e1 h1
  exact p2 _ G2 H1 S2 (.refl a2)
end
end Sx

set_option Elab.async false
set_option linter.all false
set_option maxRecDepth 100000
set_option maxHeartbeats 4000000
/-! Sx11: defs and calls. -/
namespace Sx
open PySem L2

/-! ### a def's meaning -/
abbrev Fn := List Slot → R EV
/-- what a call leaves of the arguments: lists that the caller owns, as they stand now -/
def outs : List Slot → Ro → List Slot
  | [], _ => []
  | .o _ _ :: as, r => get r 0 :: outs as r.tail
  | a :: as, r => a :: outs as r.tail
def fin (args : List Slot) : R Fl → R EV
  | .ok (.rt (.bor _)) _ => .bad
  | .ok (.rt e) r => .ok e (outs args r)
  | .ok .nx r => .ok (.fr .non) (outs args r)
  | .ok _ _ => .bad
  | .ex c m r => .ex c m (outs args r)
  | .bad => .bad
def fnR (n N : Nat) (body : Ev Fl) : Fn := fun args => if args.length = n then fin args (body (args ++ List.replicate (N - n) .un)) else .bad
def PostF (K : PySem.W.Frag) (mg : Str → Option Value) (args : List Slot) (G : Hp) (σ : St) (H : Hp) (Q : VK) (E : XK) : R EV → Prop
  | .ok ev r' => ∀ v G' H', Sim K r' G' σ H' → Step (A0 args σ H) args G σ H r' G' σ H' → EvRep K (A0 args σ H) r' G' σ H' ev v → Q v H'
  | .ex c m r' => ∀ G' H' cls d, Sim K r' G' σ H' → Step (A0 args σ H) args G σ H r' G' σ H' → ExRep K mg G' H' c m cls d → E cls d H'
  | .bad => False
def spF (K : PySem.W.Frag) (mg : Str → Option Value) (n : Nat) (m : Fn) : Sp := fun vs H Q E => ∃ args G, args.length = n ∧ Sim K args G (vs.map some) H ∧ (∀ i p xs, get args i = .o p xs → p ≠ .free) ∧ PostF K mg args G (vs.map some) H Q E (m args)

theorem get_tail (r : Ro) (i : Nat) : get r.tail i = get r (i + 1) := by
  cases r with
  | nil => rfl
  | cons s r => simp [get]
theorem get_outs : ∀ (args : List Slot) (r : Ro) (i : Nat), get (outs args r) i = (match get args i with | .o _ _ => get r i | s => s)
  | [], r, i => by
    have e : outs [] r = [] := rfl
    rw [e]
    have z : get [] i = Slot.un := by unfold get; simp
    rw [z]
  | a :: as, r, 0 => by
    cases a <;> rfl
  | a :: as, r, i + 1 => by
    have ih := get_outs as r.tail i
    have e1 : get (outs (a :: as) r) (i + 1) = get (outs as r.tail) i := by
      cases a <;> simp [outs, get]
    have e2 : get (a :: as) (i + 1) = get as i := by simp [get]
    rw [e1, e2, ih, get_tail]
theorem outs_len : ∀ (args : List Slot) (r : Ro), (outs args r).length = args.length
  | [], r => rfl
  | a :: as, r => by cases a <;> simp [outs, outs_len as]
theorem get_app_l {r : Ro} {n i : Nat} : get (r ++ List.replicate n .un) i = get r i := by
  unfold get
  rw [List.getD_eq_getElem?_getD, List.getD_eq_getElem?_getD]
  by_cases h : i < r.length
  · rw [List.getElem?_append_left h]
  · rw [List.getElem?_append_right (Nat.le_of_not_lt h), List.getElem?_eq_none (Nat.le_of_not_lt h), List.getElem?_replicate]
    split <;> rfl
section
variable {K : PySem.W.Frag} {A A' : Addr → Prop} {r r1 r2 : Ro} {G G1 G2 : Hp} {σ σ1 σ2 : St} {H H1 H2 : Hp} {mg : Str → Option Value} {W : W4}
theorem st_app {n : Nat} {i : Nat} {v : V} : (σ ++ List.replicate n none)[i]? = some (some v) ↔ σ[i]? = some (some v) := by
  by_cases h : i < σ.length
  · rw [List.getElem?_append_left h]
  · rw [List.getElem?_append_right (Nat.le_of_not_lt h), List.getElem?_eq_none (Nat.le_of_not_lt h), List.getElem?_replicate]
    constructor
    · intro z; split at z <;> cases z
    · intro z; cases z
theorem Sim.start {n : Nat} (S : Sim K r G σ H) : Sim K (r ++ List.replicate n .un) G (σ ++ List.replicate n none) H := by
  refine ⟨S.sub, by simp [S.len], fun i m e => ?_, fun i p xs e => ?_, fun i j p q xs ys a a' c e1 e2 s1 s2 => ?_⟩
  · rw [get_app_l] at e
    obtain ⟨v, sv, rp⟩ := S.val i m e
    exact ⟨v, st_app.mpr sv, rp⟩
  · rw [get_app_l] at e
    obtain ⟨a, sv, x⟩ := S.own i p xs e
    exact ⟨a, st_app.mpr sv, x⟩
  · rw [get_app_l] at e1 e2
    exact S.inj i j p q xs ys a a' c e1 e2 (st_app.mp s1) (st_app.mp s2)
theorem own_start {n : Nat} {b : Addr} : Own (r ++ List.replicate n .un) (σ ++ List.replicate n none) H b ↔ Own r σ H b := by
  constructor
  · rintro ⟨i, p, xs, a, e1, e2, f⟩
    rw [get_app_l] at e1
    exact ⟨i, p, xs, a, e1, st_app.mp e2, f⟩
  · rintro ⟨i, p, xs, a, e1, e2, f⟩
    exact ⟨i, p, xs, a, by rw [get_app_l]; exact e1, st_app.mpr e2, f⟩
theorem a0_start {n : Nat} {b : Addr} : A0 (r ++ List.replicate n .un) (σ ++ List.replicate n none) H b ↔ A0 r σ H b := by
  unfold A0
  rw [own_start]
/-- the end of a def, as its caller sees it -/
theorem back {args : List Slot} {n : Nat} {r' : Ro} {G' : Hp} {σ' : St} {H' : Hp} (S : Sim K args G σ H) (nf : ∀ i p xs, get args i = .o p xs → p ≠ .free)
    (S' : Sim K r' G' σ' H') (st : Step (A0 (args ++ List.replicate n .un) (σ ++ List.replicate n none) H) (args ++ List.replicate n .un) G (σ ++ List.replicate n none) H r' G' σ' H') :
    Sim K (outs args r') G' σ H' ∧ Step (A0 args σ H) args G σ H (outs args r') G' σ H' ∧ ∀ b, Own (outs args r') σ H' b → Own r' σ' H' b := by
  have go : ∀ i p xs, get (outs args r') i = .o p xs → (∃ ys, get args i = .o p ys) ∧ get r' i = .o p xs ∧ σ'[i]? = σ[i]? := fun i p xs e => by
    rw [get_outs args r' i] at e
    cases q : get args i with
    | un => rw [q] at e; cases e
    | v m => rw [q] at e; cases e
    | o p0 ys =>
      rw [q] at e
      obtain ⟨e1, xs', e2, _⟩ := st.pin i p0 ys (by rw [get_app_l]; exact q) (nf i p0 ys q)
      have e : get r' i = .o p xs := e
      rw [e2] at e
      cases e
      have hi : i < σ.length := by rw [← S.len]; exact get_lt (by rw [q]; exact fun z => nomatch z)
      rw [List.getElem?_append_left hi] at e1
      exact ⟨⟨ys, rfl⟩, e2, e1⟩
  have ob : ∀ b, Own (outs args r') σ H' b → Own r' σ' H' b := fun b ⟨i, p, xs, a, e1, e2, f⟩ => by
    obtain ⟨_, e3, e4⟩ := go i p xs e1
    exact ⟨i, p, xs, a, e3, e4.trans e2, f⟩
  refine ⟨⟨S'.sub, by rw [outs_len]; exact S.len, fun i m e => ?_, fun i p xs e => ?_, fun i j p q xs ys a a' c e1 e2 s1 s2 => ?_⟩, ⟨st.grow, fun b o e n => st.keep b o e fun z => n (a0_start.mp z), fun b e => (st.gnew b e).imp id a0_start.mp, fun b o => a0_start.mp (st.onew b (ob b o)), fun i p xs e nf' => ⟨rfl, ?_⟩, st.free⟩, ob⟩
  · rw [get_outs args r' i] at e
    cases q : get args i with
    | un => rw [q] at e; cases e
    | v m' =>
      rw [q] at e; cases e
      obtain ⟨v, sv, rp⟩ := S.val i m q
      exact ⟨v, sv, rp.mono st.grow⟩
    | o p0 ys =>
      rw [q] at e
      obtain ⟨e1, xs', e2, _⟩ := st.pin i p0 ys (by rw [get_app_l]; exact q) (nf i p0 ys q)
      have e : get r' i = .v m := e
      rw [e2] at e
      cases e
  · obtain ⟨_, e3, e4⟩ := go i p xs e
    obtain ⟨a, sv, x⟩ := S'.own i p xs e3
    exact ⟨a, e4.symm.trans sv, x⟩
  · obtain ⟨_, e3, e4⟩ := go i p xs e1
    obtain ⟨_, e5, e6⟩ := go j q ys e2
    exact S'.inj i j p q xs ys a a' c e3 e5 (e4.trans s1) (e6.trans s2)
  · obtain ⟨_, xs', e2, l⟩ := st.pin i p xs (by rw [get_app_l]; exact e) nf'
    refine ⟨xs', ?_, l⟩
    rw [get_outs args r' i, e]
    exact e2
/-- from the promise to the body -/
theorem body_of {n N : Nat} {f : Ev Fl} {vs : List V} {Q : VK} {E : XK} (h : spF K mg n (fnR n N f) vs H Q E) :
    vs.length = n ∧ tS K mg (fun cls d _ H => E cls d H) f { nx := fun _ H' => Q .non H', rt := Q } (vs.map some ++ List.replicate (N - vs.length) none) H := by
  obtain ⟨args, G, hl, S, nf, p⟩ := h
  have lv : vs.length = n := by rw [← hl, S.len, List.length_map]
  refine ⟨lv, ?_⟩
  rw [lv]
  refine ⟨args ++ List.replicate (N - n) .un, G, S.start, ?_⟩
  unfold fnR at p
  rw [if_pos hl] at p
  have fine : ∀ {ev : EV} {r' : Ro} {σ' : St} {G' : Hp} {H' : Hp} {v : V}, (∀ j, ev ≠ .bor j) → Sim K r' G' σ' H' → Step (A0 (args ++ List.replicate (N - n) .un) (vs.map some ++ List.replicate (N - n) none) H) (args ++ List.replicate (N - n) .un) G (vs.map some ++ List.replicate (N - n) none) H r' G' σ' H' →
      EvRep K (A0 (args ++ List.replicate (N - n) .un) (vs.map some ++ List.replicate (N - n) none) H) r' G' σ' H' ev v → PostF K mg args G (vs.map some) H Q E (.ok ev (outs args r')) → Q v H' := fun {ev r' σ' G' H' v} nb S' st er p => by
    obtain ⟨S2, st2, ob⟩ := back S nf S' st
    refine p v G' H' S2 st2 ?_
    cases ev with
    | fr m => exact er
    | bor j => exact absurd rfl (nb j)
    | tmp xs =>
      obtain ⟨a, e, x, al⟩ := er
      exact ⟨a, e, x, fun c f => ⟨fun z => (al c f).1 (ob c z), a0_start.mp (al c f).2⟩⟩
  cases q : f (args ++ List.replicate (N - n) .un) with
  | bad => rw [q] at p; exact p
  | ex c m r' =>
    rw [q] at p
    intro σ' G' H' cls d S' st x
    obtain ⟨S2, st2, _⟩ := back S nf S' st
    exact p G' H' cls d S2 st2 x
  | ok fl r' =>
    rw [q] at p
    cases fl with
    | bk => exact p.elim
    | ct => exact p.elim
    | nx => exact fun σ' G' H' S' st => fine (ev := .fr .non) (fun _ z => nomatch z) S' st rfl p
    | rt ev =>
      cases ev with
      | bor j => exact p.elim
      | fr m => exact fun v σ' G' H' S' st er => fine (ev := .fr m) (fun _ z => nomatch z) S' st er p
      | tmp xs => exact fun v σ' G' H' S' st er => fine (ev := .tmp xs) (fun _ z => nomatch z) S' st er p
end
/-- a def of the text, by its body -/
theorem fn_sx {P : Program} {w : World} {K : PySem.W.Frag} {mg : Str → Option Value} {base : Heap} {x qual : Str} {st : Stmt} {f : Addr} {fd : FuncData} {N ps : List Str} {k n : Nat} {sem : Ev Fl} (F : Fun K x qual st f fd) (S : FnScope N ps (defScope st)) (hn : n = ps.length)
    (hbody : ∀ (cdv : Value) (A : Around) (outer : List Env) (s : Shared) (H : Hp) (E : XK), Room k (A.deeper (PyProof.Rows.envOfC qual (defScope st) s.heap.objs.size f cdv)) →
      Takes (cxOf (L2.CX P w) P w K mg base N qual (defScope st) f cdv A outer s H E) (fun cls d _ H => E cls d H) →
      SSs (cxOf (L2.CX P w) P w K mg base N qual (defScope st) f cdv A outer s H E) (fun cls d _ H => E cls d H) (defBody st) sem) :
    FnOk P w K mg base (L2.CX P w) (k + 1) f fd ps (spF K mg n (fnR n N.length sem)) := by
  refine F.okX S (fun vs H Q E h => hn ▸ (body_of h).1) fun cdv A outer s H vs Q E hr h => ⟨_, hbody cdv A outer s H E hr (takes_of rfl rfl rfl rfl), ?_⟩
  exact (body_of h).2

/-! ### calls -/
/-- how an argument goes: frozen; a list that the callee changes; one that it reads -/
inductive Md where
  | f | io | lk
  deriving DecidableEq
def frz1 : Md → EV → Ev EV
  | .io, .bor i => ret (.bor i)
  | .lk, .bor i => ret (.bor i)
  | _, e => bnd (frz e) fun m => ret (.fr m)
def frzA : List Md → List EV → Ev (List EV)
  | [], [] => ret []
  | md :: mds, e :: es => bnd (frz1 md e) fun e => bnd (frzA mds es) fun es => ret (e :: es)
  | _, _ => bad
def argO : Md → Slot → Option Slot
  | _, .v m => some (.v m)
  | .lk, .o _ xs => some (.o .lock xs)
  | .io, .o .lock _ => none
  | .io, .o _ xs => some (.o .pin xs)
  | _, _ => none
def argOf (r : Ro) (md : Md) : EV → Option Slot
  | .fr m => some (.v m)
  | .tmp _ => none
  | .bor i => argO md (get r i)
theorem argO_o {md : Md} {s : Slot} {p : Pin} {xs : Cont} (e : argO md s = some (.o p xs)) : ∃ q, s = .o q xs ∧ p ≠ .free ∧ (q = .lock → p = .lock) := by
  cases s with
  | un => cases md <;> cases e
  | v m => cases md <;> cases e
  | o q ys =>
    cases md with
    | f => cases e
    | lk => cases e; exact ⟨q, rfl, (fun z => by cases z), fun _ => rfl⟩
    | io =>
      cases q with
      | free => cases e; exact ⟨_, rfl, (fun z => by cases z), fun z => by cases z⟩
      | pin => cases e; exact ⟨_, rfl, (fun z => by cases z), fun z => by cases z⟩
      | lock => cases e
theorem argO_v {md : Md} {s : Slot} {m : M} (e : argO md s = some (.v m)) : s = .v m := by
  cases s with
  | un => cases md <;> cases e
  | v m => cases md <;> (cases e; rfl)
  | o q ys =>
    cases md with
    | f => cases e
    | lk => cases e
    | io => cases q <;> cases e
theorem argO_own {md : Md} {p : Pin} {xs : Cont} {s : Slot} (e : argO md (.o p xs) = some s) : ∃ q, s = .o q xs := by
  cases md with
  | f => cases e
  | lk => cases e; exact ⟨_, rfl⟩
  | io => cases p <;> first | (cases e; exact ⟨_, rfl⟩) | cases e
def slotsOf (r : Ro) : List Md → List EV → Option (List Slot)
  | [], [] => some []
  | md :: mds, e :: es => match argOf r md e, slotsOf r mds es with
    | some s, some l => some (s :: l)
    | _, _ => none
  | _, _ => none
def borsOf (r : Ro) : List EV → List Nat
  | [] => []
  | .bor i :: es => match get r i with
    | .o _ _ => i :: borsOf r es
    | _ => borsOf r es
  | _ :: es => borsOf r es
def setO (r : Ro) (i : Nat) (xs : Cont) : Slot → Ro
  | .o p _ => r.set i (.o p xs)
  | _ => r
def put1 (e : EV) (s : Slot) (r : Ro) : Ro := match e with
  | .bor i => match s with
    | .o _ xs => setO r i xs (get r i)
    | _ => r
  | _ => r
def putBack : List EV → List Slot → Ro → Ro
  | e :: es, s :: o, r => putBack es o (put1 e s r)
  | [], _, r => r
  | _ :: _, [], r => r
def callR (es : List EV) (r : Ro) : R EV → R EV
  | .ok (.bor _) _ => .bad
  | .ok ev o => .ok ev (putBack es o r)
  | .ex c m o => .ex c m (putBack es o r)
  | .bad => .bad
def callK (mds : List Md) (m : Fn) (es : List EV) : Ev EV := fun r => match slotsOf r mds es with
  | none => .bad
  | some args => if (borsOf r es).Nodup then callR es r (m args) else .bad
def vCall (mds : List Md) (m : Fn) (f : Ev (List EV)) : Ev EV := bnd f fun es => bnd (frzA mds es) fun es => callK mds m es
section
variable {K : PySem.W.Frag} {A A' : Addr → Prop} {r r1 r2 : Ro} {G G1 G2 : Hp} {σ σ1 σ2 : St} {H H1 H2 : Hp} {mg : Str → Option Value} {W : W4}
def ArgRep (K : PySem.W.Frag) (G : Hp) (σ : St) : EV → V → Prop
  | .fr m, v => Rep K G m v
  | .tmp _, _ => False
  | .bor i, v => ∃ a, v = .ref a ∧ σ[i]? = some (some (.ref a))
theorem ArgRep.mono {e : EV} {v : V} (g : Same G G1) (h : ArgRep K G σ e v) : ArgRep K G1 σ e v := by
  cases e with
  | fr m => exact Rep.mono g h
  | tmp _ => exact h
  | bor i => exact h
inductive ArgsRep (K : PySem.W.Frag) (G : Hp) (σ : St) : List EV → List V → Prop
  | nil : ArgsRep K G σ [] []
  | cons {e : EV} {es : List EV} {v : V} {vs : List V} : ArgRep K G σ e v → ArgsRep K G σ es vs → ArgsRep K G σ (e :: es) (v :: vs)
theorem frz1_ok {md : Md} {ev e' : EV} {v : V} {r' : Ro} (S : Sim K r G σ H) (hA : ∀ b, A0 r σ H b → A b) (h : Wk K A r G σ H ev v) (e : frz1 md ev r = .ok e' r') :
    ∃ G', Sim K r' G' σ H ∧ Step A r G σ H r' G' σ H ∧ ArgRep K G' σ e' v ∧ ∀ b, Own r' σ H b → Own r σ H b := by
  have gen : bnd (frz ev) (fun m => ret (EV.fr m)) r = .ok e' r' → ∃ G', Sim K r' G' σ H ∧ Step A r G σ H r' G' σ H ∧ ArgRep K G' σ e' v ∧ ∀ b, Own r' σ H b → Own r σ H b := fun e => by
    cases q : frz ev r with
    | bad => rw [bnd_bad q] at e; cases e
    | ex c m r2 => rw [bnd_ex q] at e; cases e
    | ok m r2 =>
      rw [bnd_ok q] at e
      cases e
      exact frz_ok S hA h q
  cases md with
  | f => cases ev <;> exact gen e
  | io => cases ev with
    | bor i => cases e; exact ⟨G, S, .refl hA, h, fun _ z => z⟩
    | fr m => exact gen e
    | tmp xs => exact gen e
  | lk => cases ev with
    | bor i => cases e; exact ⟨G, S, .refl hA, h, fun _ z => z⟩
    | fr m => exact gen e
    | tmp xs => exact gen e
theorem frz1_noex {md : Md} {ev : EV} {c : String} {m : M} {r' : Ro} : frz1 md ev r ≠ .ex c m r' := fun e => by
  have gen : bnd (frz ev) (fun m => ret (EV.fr m)) r ≠ .ex c m r' := fun e => by
    cases q : frz ev r with
    | bad => rw [bnd_bad q] at e; cases e
    | ex c m r2 => exact frz_noex q
    | ok m r2 => rw [bnd_ok q] at e; cases e
  cases md with
  | f => cases ev <;> exact gen e
  | io => cases ev with
    | bor i => cases e
    | fr m => exact gen e
    | tmp xs => exact gen e
  | lk => cases ev with
    | bor i => cases e
    | fr m => exact gen e
    | tmp xs => exact gen e
theorem frzA_ok : ∀ {mds : List Md} {evs es : List EV} {vs : List V} {r r' : Ro} {G : Hp}, Sim K r G σ H → (∀ b, A0 r σ H b → A b) → WkL K A r G σ H evs vs → frzA mds evs r = .ok es r' →
    ∃ G', Sim K r' G' σ H ∧ Step A r G σ H r' G' σ H ∧ ArgsRep K G' σ es vs ∧ ∀ b, Own r' σ H b → Own r σ H b
  | [], [], _, _, _, _, G, S, hA, h, e => by
    cases h; cases e
    exact ⟨G, S, .refl hA, .nil, fun _ z => z⟩
  | md :: mds, ev :: evs, es, _, r, r', G, S, hA, .cons h1 h2, e => by
    unfold frzA at e
    cases q : frz1 md ev r with
    | bad => rw [bnd_bad q] at e; cases e
    | ex c m r1 => rw [bnd_ex q] at e; cases e
    | ok m r1 =>
      rw [bnd_ok q] at e
      obtain ⟨G1, S1, st1, rp1, o1⟩ := frz1_ok S hA h1 q
      cases q2 : frzA mds evs r1 with
      | bad => rw [bnd_bad q2] at e; cases e
      | ex c m r2 => rw [bnd_ex q2] at e; cases e
      | ok ms' r2 =>
        rw [bnd_ok q2] at e
        cases e
        obtain ⟨G2, S2, st2, rp2, o2⟩ := frzA_ok S1 (st1.allow' hA) (h2.stepF st1.grow o1) q2
        exact ⟨G2, S2, st1.trans st2, .cons (rp1.mono st2.grow) rp2, fun b z => o1 b (o2 b z)⟩
  | [], _ :: _, _, _, _, _, _, _, _, _, e => by cases e
  | _ :: _, [], _, _, _, _, _, _, _, _, e => by cases e
theorem frzA_noex : ∀ {mds : List Md} {evs : List EV} {r : Ro} {c : String} {m : M} {r' : Ro}, frzA mds evs r ≠ .ex c m r'
  | [], [], _, _, _, _, e => by cases e
  | md :: mds, ev :: evs, r, _, _, _, e => by
    unfold frzA at e
    cases q : frz1 md ev r with
    | bad => rw [bnd_bad q] at e; cases e
    | ex c m r1 => exact frz1_noex q
    | ok m r1 =>
      rw [bnd_ok q] at e
      cases q2 : frzA mds evs r1 with
      | bad => rw [bnd_bad q2] at e; cases e
      | ex c m r2 => exact frzA_noex q2
      | ok ms' r2 => rw [bnd_ok q2] at e; cases e
  | [], _ :: _, _, _, _, _, e => by cases e
  | _ :: _, [], _, _, _, _, e => by cases e
theorem slotsOf_at : ∀ {mds : List Md} {es : List EV} {vs : List V} {args : List Slot} , ArgsRep K G σ es vs → slotsOf r mds es = some args →
    args.length = vs.length ∧ ∀ (j : Nat) (s : Slot), args[j]? = some s → ∃ md e v, es[j]? = some e ∧ vs[j]? = some v ∧ argOf r md e = some s ∧ ArgRep K G σ e v
  | [], [], _, _, .nil, e => by
    cases e
    exact ⟨rfl, fun j s z => by simp at z⟩
  | md :: mds, e :: es, _, args, .cons (v := v) h1 h2, q => by
    unfold slotsOf at q
    split at q
    · rename_i s l e1 e2
      cases q
      obtain ⟨l1, i1⟩ := slotsOf_at h2 e2
      refine ⟨by simp [l1], fun j s' z => ?_⟩
      cases j with
      | zero => simp at z; subst z; exact ⟨md, e, v, rfl, rfl, e1, h1⟩
      | succ j => simp only [List.getElem?_cons_succ] at z ⊢; exact i1 j s' z
    · cases q
  | [], _ :: _, _, _, _, e => by cases e
  | _ :: _, [], _, _, _, e => by cases e
theorem bors_inj : ∀ {es : List EV} {j k i : Nat} {p : Pin} {xs : Cont}, (borsOf r es).Nodup → get r i = .o p xs → es[j]? = some (.bor i) → es[k]? = some (.bor i) → j = k := by
  have mem : ∀ {es : List EV} {k i : Nat} {p : Pin} {xs : Cont}, get r i = .o p xs → es[k]? = some (.bor i) → i ∈ borsOf r es := by
    intro es
    induction es with
    | nil => intro k i p xs _ h; simp at h
    | cons e es ih =>
      intro k i p xs g h
      cases k with
      | zero =>
        simp at h; subst h
        unfold borsOf
        rw [g]
        exact List.mem_cons_self ..
      | succ k =>
        have m := ih g (by simpa using h)
        cases e with
        | fr m' => exact m
        | tmp xs => exact m
        | bor l =>
          unfold borsOf
          split
          · exact List.mem_cons_of_mem _ m
          · exact m
  intro es
  induction es with
  | nil => intro j k i p xs _ _ h; simp at h
  | cons e es ih =>
    intro j k i p xs nd g h1 h2
    have nd' : (borsOf r es).Nodup := by
      cases e with
      | fr m' => exact nd
      | tmp xs => exact nd
      | bor l =>
        unfold borsOf at nd
        split at nd
        · exact (List.nodup_cons.mp nd).2
        · exact nd
    have hd : e = .bor i → i ∉ borsOf r es := fun z => by
      subst z
      unfold borsOf at nd
      rw [g] at nd
      exact (List.nodup_cons.mp nd).1
    cases j with
    | zero =>
      cases k with
      | zero => rfl
      | succ k => exact absurd (mem g (by simpa using h2)) (hd (by simpa using h1))
    | succ j =>
      cases k with
      | zero => exact absurd (mem g (by simpa using h1)) (hd (by simpa using h2))
      | succ k => exact congrArg Nat.succ (ih nd' g (by simpa using h1) (by simpa using h2))
theorem put1_len {e : EV} {s : Slot} : (put1 e s r).length = r.length := by
  cases e with
  | fr m => rfl
  | tmp xs => rfl
  | bor i =>
    cases s with
    | un => rfl
    | v m => rfl
    | o q xs =>
      show (setO r i xs (get r i)).length = _
      cases get r i with
      | un => rfl
      | v m => rfl
      | o p ys => show (r.set i _).length = _; simp
theorem putBack_len : ∀ {es : List EV} {o : List Slot} {r : Ro}, (putBack es o r).length = r.length
  | [], _, _ => rfl
  | _ :: _, [], _ => rfl
  | e :: es, s :: o, r => (putBack_len (es := es)).trans put1_len
theorem put1_at {e : EV} {s : Slot} {k : Nat} : (∀ p xs, get r k = .o p xs → ∃ ys, get (put1 e s r) k = .o p ys ∧ ((ys = xs ∧ ∀ q zs, e = .bor k → s ≠ .o q zs) ∨ (e = .bor k ∧ ∃ q, s = .o q ys))) ∧ ((∀ p xs, get r k ≠ .o p xs) → get (put1 e s r) k = get r k) := by
  cases e with
  | fr m => exact ⟨fun p xs e => ⟨xs, e, .inl ⟨rfl, fun _ _ z => nomatch z⟩⟩, fun _ => rfl⟩
  | tmp ys => exact ⟨fun p xs e => ⟨xs, e, .inl ⟨rfl, fun _ _ z => nomatch z⟩⟩, fun _ => rfl⟩
  | bor i =>
    cases s with
    | un => exact ⟨fun p xs e => ⟨xs, e, .inl ⟨rfl, fun _ _ _ z => nomatch z⟩⟩, fun _ => rfl⟩
    | v m => exact ⟨fun p xs e => ⟨xs, e, .inl ⟨rfl, fun _ _ _ z => nomatch z⟩⟩, fun _ => rfl⟩
    | o q0 ys =>
      cases q : get r i with
      | un =>
        have w : put1 (.bor i) (.o q0 ys) r = r := by
          show setO r i ys (get r i) = _
          rw [q]
          rfl
        rw [w]
        exact ⟨fun p xs e => ⟨xs, e, .inl ⟨rfl, fun _ _ z => by cases z; rw [q] at e; cases e⟩⟩, fun _ => rfl⟩
      | v m =>
        have w : put1 (.bor i) (.o q0 ys) r = r := by
          show setO r i ys (get r i) = _
          rw [q]
          rfl
        rw [w]
        exact ⟨fun p xs e => ⟨xs, e, .inl ⟨rfl, fun _ _ z => by cases z; rw [q] at e; cases e⟩⟩, fun _ => rfl⟩
      | o p1 xs1 =>
        have w : put1 (.bor i) (.o q0 ys) r = r.set i (.o p1 ys) := by
          show setO r i ys (get r i) = _
          rw [q]
          rfl
        rw [w]
        have hi : i < r.length := get_lt (by rw [q]; exact fun z => nomatch z)
        by_cases z : i = k
        · subst z
          rw [get_set, if_pos ⟨rfl, hi⟩]
          exact ⟨fun p xs e => by rw [q] at e; cases e; exact ⟨ys, rfl, .inr ⟨rfl, q0, rfl⟩⟩, fun n => absurd q (n _ _)⟩
        · rw [get_set, if_neg (fun w => z w.1)]
          exact ⟨fun p xs e => ⟨xs, e, .inl ⟨rfl, fun _ _ w => by cases w; exact absurd rfl z⟩⟩, fun _ => rfl⟩
/-- what stands at a slot behind a call -/
def Kept (es : List EV) (o : List Slot) (k : Nat) (xs ys : Cont) : Prop := (ys = xs ∧ ∀ (j : Nat) (q : Pin) (zs : Cont), es[j]? = some (EV.bor k) → o[j]? ≠ some (Slot.o q zs)) ∨ ∃ (j : Nat) (q : Pin), es[j]? = some (EV.bor k) ∧ o[j]? = some (Slot.o q ys)
theorem Kept.cons {es : List EV} {o : List Slot} {k : Nat} {xs ys : Cont} {e : EV} {s : Slot} (h : Kept es o k xs ys) (n : ∀ q zs, e = .bor k → s ≠ .o q zs) : Kept (e :: es) (s :: o) k xs ys := by
  rcases h with ⟨h1, h2⟩ | ⟨j, q, h1, h2⟩
  · refine .inl ⟨h1, fun j q zs e1 e2 => ?_⟩
    cases j with
    | zero => simp at e1 e2; exact n q zs e1 e2
    | succ j => exact h2 j q zs (by simpa using e1) (by simpa using e2)
  · exact .inr ⟨j + 1, q, by simpa using h1, by simpa using h2⟩
theorem putBack_at : ∀ {es : List EV} {o : List Slot} {r : Ro} {k : Nat}, (∀ p xs, get r k = .o p xs → ∃ ys, get (putBack es o r) k = .o p ys ∧ Kept es o k xs ys) ∧ ((∀ p xs, get r k ≠ .o p xs) → get (putBack es o r) k = get r k)
  | [], o, r, k => ⟨fun p xs e => ⟨xs, e, .inl ⟨rfl, fun j q zs e1 => by simp at e1⟩⟩, fun _ => rfl⟩
  | _ :: _, [], r, k => ⟨fun p xs e => ⟨xs, e, .inl ⟨rfl, fun j q zs _ e1 => by simp at e1⟩⟩, fun _ => rfl⟩
  | e :: es, s :: o, r, k => by
    have ih := putBack_at (es := es) (o := o) (r := put1 e s r) (k := k)
    have p1 := put1_at (r := r) (e := e) (s := s) (k := k)
    refine ⟨fun p xs q => ?_, fun n => ?_⟩
    · obtain ⟨ys, e1, e2⟩ := p1.1 p xs q
      obtain ⟨zs, e3, e4⟩ := ih.1 p ys e1
      refine ⟨zs, e3, ?_⟩
      rcases e4 with ⟨rfl, e4⟩ | ⟨j, q', e4, e5⟩
      · rcases e2 with ⟨rfl, e2⟩ | ⟨e2, q', e6⟩
        · refine .inl ⟨rfl, fun j q zs' a b => ?_⟩
          cases j with
          | zero => simp at a b; exact e2 q zs' a b
          | succ j => exact e4 j q zs' (by simpa using a) (by simpa using b)
        · exact .inr ⟨0, q', by simp [e2], by simp [e6]⟩
      · exact .inr ⟨j + 1, q', by simpa using e4, by simpa using e5⟩
    · have g := p1.2 n
      show get (putBack es o (put1 e s r)) k = get r k
      rw [ih.2 (fun p xs => by rw [g]; exact n p xs), g]
/-- behind a call: the caller's state -/
theorem call_back {mds : List Md} {es : List EV} {vs : List V} {args o : List Slot} {G' H' : Hp} (S : Sim K r G σ H) (hA : ∀ b, A0 r σ H b → A b) (R : ArgsRep K G σ es vs) (hs : slotsOf r mds es = some args) (nd : (borsOf r es).Nodup)
    (S' : Sim K o G' (vs.map some) H') (st : Step (A0 args (vs.map some) H) args G (vs.map some) H o G' (vs.map some) H') :
    Sim K (putBack es o r) G' σ H' ∧ Step A r G σ H (putBack es o r) G' σ H' ∧ (∀ b, A0 args (vs.map some) H b → A b) ∧ ∀ b, Own (putBack es o r) σ H' b → A0 args (vs.map some) H b → Own o (vs.map some) H' b := by
  obtain ⟨hl, at_⟩ := slotsOf_at R hs
  have gs : ∀ {l : List Slot} {j : Nat} {s : Slot}, l[j]? = some s → get l j = s := fun {l j s} e => by
    unfold get
    rw [List.getD_eq_getElem?_getD, e]
    rfl
  have go : ∀ {l : List Slot} {j : Nat} {p : Pin} {xs : Cont}, get l j = .o p xs → l[j]? = some (.o p xs) := fun {l j p xs} e => by
    unfold get at e
    rw [List.getD_eq_getElem?_getD] at e
    cases q : l[j]? with
    | none => rw [q] at e; cases e
    | some u => rw [q] at e; exact congrArg some e
  have sv : ∀ {j : Nat} {a : Addr}, (vs.map some)[j]? = some (some (.ref a)) → vs[j]? = some (.ref a) := fun {j a} e => by
    rw [List.getElem?_map] at e
    cases q : vs[j]? with
    | none => rw [q] at e; cases e
    | some u => rw [q] at e; cases e; rfl
  -- an argument that is a list of the caller's
  have argo : ∀ {j : Nat} {p : Pin} {xs : Cont}, get args j = .o p xs → ∃ i q, es[j]? = some (.bor i) ∧ get r i = .o q xs ∧ (∃ a, vs[j]? = some (.ref a) ∧ σ[i]? = some (some (.ref a))) ∧ p ≠ .free ∧ (q = .lock → p = .lock) := fun {j p xs} e => by
    obtain ⟨md, ev, v, e1, e2, e3, e4⟩ := at_ j _ (go e)
    cases ev with
    | fr m => cases e3
    | tmp ys => cases e3
    | bor i =>
      obtain ⟨a, rfl, e5⟩ := e4
      obtain ⟨q, f1, f2, f3⟩ := argO_o e3
      exact ⟨i, q, e1, f1, ⟨a, e2, e5⟩, f2, f3⟩
  have own_up : ∀ b, Own args (vs.map some) H b → Own r σ H b := fun b ⟨j, p, xs, a0, e1, e2, f⟩ => by
    obtain ⟨i, q, e3, e4, ⟨a, e5, e6⟩, _⟩ := argo e1
    rw [sv e2] at e5; cases e5
    exact ⟨i, q, xs, a0, e4, e6, f⟩
  have a_up : ∀ b, A0 args (vs.map some) H b → A0 r σ H b := fun b h => h.imp (own_up b) id
  -- the caller's objects, one by one: an argument, or not
  have cur : ∀ {i : Nat} {p : Pin} {b : Cont} {a : Addr}, get r i = .o p b → σ[i]? = some (some (.ref a)) →
      (∃ j p2 d, get o j = .o p2 d ∧ (vs.map some)[j]? = some (some (.ref a)) ∧ es[j]? = some (.bor i) ∧ get (putBack es o r) i = .o p d ∧ (p = .lock → d = b)) ∨
      (get (putBack es o r) i = .o p b ∧ ∀ c, Foot H a b c → ¬ A0 args (vs.map some) H c) := fun {i p b a} e s1 => by
    obtain ⟨d, e1, e2⟩ := (putBack_at (es := es) (o := o) (r := r) (k := i)).1 p b e
    obtain ⟨a', s2, bx⟩ := S.own i p b e
    rw [s1] at s2; cases s2
    by_cases oa : ∃ j p2 xs2, get args j = .o p2 xs2 ∧ es[j]? = some (.bor i)
    · obtain ⟨j, p2, xs2, e3, e4⟩ := oa
      obtain ⟨i2, q2, e5, e6, ⟨a2, e7, e8⟩, nf, lk⟩ := argo e3
      rw [e4] at e5; cases e5
      rw [e] at e6; cases e6
      rw [s1] at e8; cases e8
      obtain ⟨_, xs', e9, l9⟩ := st.pin j p2 _ e3 nf
      have ey : d = xs' := by
        rcases e2 with ⟨_, e2⟩ | ⟨j3, q3, e2, e10⟩
        · exact absurd (go e9) (e2 j _ _ e4)
        · have hj : j3 = j := bors_inj nd e e2 e4
          subst hj
          rw [go e9] at e10
          cases e10
          rfl
      subst ey
      exact .inl ⟨j, p2, d, e9, by rw [List.getElem?_map, e7]; rfl, e4, e1, fun z => l9 (lk z)⟩
    · have ey : d = b := by
        rcases e2 with ⟨e2, _⟩ | ⟨j3, q3, e2, e10⟩
        · exact e2
        · exfalso
          -- it would be an argument
          have : ∃ s, args[j3]? = some s := by
            cases q : args[j3]? with
            | some s => exact ⟨s, rfl⟩
            | none =>
              have l1 : o.length = args.length := by rw [S'.len, List.length_map, hl]
              have := List.getElem?_eq_none_iff.mp q
              have := (List.getElem?_eq_some_iff.mp e10).1
              omega
          obtain ⟨s, hs3⟩ := this
          obtain ⟨md, ev, v, f1, f2, f3, f4⟩ := at_ j3 s hs3
          rw [e2] at f1; cases f1
          have f3 : argO md (get r i) = some s := f3
          rw [e] at f3
          obtain ⟨p4, rfl⟩ := argO_own f3
          exact oa ⟨j3, p4, b, gs hs3, e2⟩
      subst ey
      refine .inr ⟨e1, fun c f z => ?_⟩
      rcases z with ⟨j, p2, xs2, a2, e3, e4, f2⟩ | z
      · obtain ⟨i2, q2, e5, e6, ⟨a3, e7, e8⟩, _⟩ := argo e3
        rw [sv e4] at e7; cases e7
        have hi : i = i2 := S.inj i i2 p q2 d xs2 a a2 c e e6 s1 e8 f f2
        subst hi
        exact oa ⟨j, p2, xs2, e3, e5⟩
      · obtain ⟨u, q⟩ := bx.2.dom f
        rw [q] at z; cases z
  have stay : ∀ {i : Nat} {p : Pin} {b : Cont} {a : Addr}, get r i = .o p b → σ[i]? = some (some (.ref a)) → (∀ c, Foot H a b c → ¬ A0 args (vs.map some) H c) → Bx K G' H' a b ∧ ∀ c, Foot H' a b c ↔ Foot H a b c := fun {i p b a} e s1 na => by
    obtain ⟨a', s2, bx⟩ := S.own i p b e
    rw [s1] at s2; cases s2
    have k : ∀ c u, Foot H a b c → H c = some u → H' c = some u := fun c u f q => st.keep c u q (na c f)
    refine ⟨bx.keep st.grow (fun c f => ?_) k, fun c => bx.2.foot fun u => k a u Foot.self⟩
    cases q : G' c with
    | none => rfl
    | some u =>
      rcases st.gnew c (by rw [q]; exact fun z => nomatch z) with z | z
      · exact absurd (bx.1 c f) z
      · exact absurd z (na c f)
  have non : ∀ i, (∀ p xs, get r i ≠ .o p xs) → get (putBack es o r) i = get r i := fun i => (putBack_at (es := es) (o := o) (r := r) (k := i)).2
  have back' : ∀ {i : Nat} {p : Pin} {ys : Cont}, get (putBack es o r) i = .o p ys → ∃ xs, get r i = .o p xs := fun {i p ys} e => by
    cases q : get r i with
    | un => rw [non i (fun p xs => by rw [q]; exact fun z => nomatch z), q] at e; cases e
    | v m => rw [non i (fun p xs => by rw [q]; exact fun z => nomatch z), q] at e; cases e
    | o p1 xs1 =>
      obtain ⟨zs, e1, _⟩ := (putBack_at (es := es) (o := o) (r := r) (k := i)).1 p1 xs1 q
      rw [e] at e1; cases e1
      exact ⟨xs1, rfl⟩
  -- a slot behind the call
  have now : ∀ {i : Nat} {p : Pin} {d : Cont} {a : Addr}, get (putBack es o r) i = .o p d → σ[i]? = some (some (.ref a)) →
      (∃ j p2, get o j = .o p2 d ∧ (vs.map some)[j]? = some (some (.ref a)) ∧ es[j]? = some (.bor i)) ∨ (get r i = .o p d ∧ (∀ c, Foot H a d c → ¬ A0 args (vs.map some) H c)) := fun {i p d a} e s1 => by
    obtain ⟨b, e1⟩ := back' e
    rcases cur e1 s1 with ⟨j, p2, d', q1, q2, q3, q4, _⟩ | ⟨q1, q2⟩
    · rw [e] at q4; cases q4
      exact .inl ⟨j, p2, q1, q2, q3⟩
    · rw [e] at q1; cases q1
      exact .inr ⟨e1, q2⟩
  have ownb : ∀ b, Own (putBack es o r) σ H' b → A0 r σ H b := fun c ⟨i, p, d, a, e1, e2, f⟩ => by
    rcases now e1 e2 with ⟨j, p2, q1, q2, _⟩ | ⟨q1, q2⟩
    · exact a_up c (st.onew c ⟨j, p2, d, a, q1, q2, f⟩)
    · exact .inl ⟨i, p, d, a, q1, e2, ((stay q1 e2 q2).2 c).mp f⟩
  refine ⟨⟨S'.sub, by rw [putBack_len]; exact S.len, fun i m e => ?_, fun i p ys e => ?_, fun i j p q d1 d2 a1 a2 c e1 e2 s1 s2 f1 f2 => ?_⟩, ⟨st.grow, fun b u e n => st.keep b u e fun z => n (hA b (a_up b z)), fun b e => (st.gnew b e).imp id fun z => hA b (a_up b z), fun b z => hA b (ownb b z), fun i p xs e nf => ⟨rfl, ?_⟩, st.free⟩, fun b z => hA b (a_up b z), fun c z1 z2 => ?_⟩
  · have e' : get r i = .v m := by
      cases q : get r i with
      | un => rw [non i (fun p xs => by rw [q]; exact fun z => nomatch z), q] at e; cases e
      | v m' => rw [non i (fun p xs => by rw [q]; exact fun z => nomatch z), q] at e; exact e
      | o p1 xs1 =>
        obtain ⟨zs, e1, _⟩ := (putBack_at (es := es) (o := o) (r := r) (k := i)).1 p1 xs1 q
        rw [e] at e1; cases e1
    obtain ⟨v, s1, rp⟩ := S.val i m e'
    exact ⟨v, s1, rp.mono st.grow⟩
  · obtain ⟨xs, e1⟩ := back' e
    obtain ⟨a, s1, _⟩ := S.own i p xs e1
    rcases now e s1 with ⟨j, p2, q1, q2, _⟩ | ⟨q1, q2⟩
    · obtain ⟨a3, s3, x⟩ := S'.own j p2 ys q1
      rw [q2] at s3; cases s3
      exact ⟨a, s1, x⟩
    · exact ⟨a, s1, (stay q1 s1 q2).1⟩
  · -- an argument and no argument share nothing
    have mix : ∀ {j k : Nat} {p2 q : Pin} {d1 d2 : Cont} {a1 a2 : Addr}, get o j = .o p2 d1 → (vs.map some)[j]? = some (some (.ref a1)) → Foot H' a1 d1 c → get r k = .o q d2 → σ[k]? = some (some (.ref a2)) → (∀ c, Foot H a2 d2 c → ¬ A0 args (vs.map some) H c) → Foot H' a2 d2 c → False := fun {j k p2 q d1 d2 a1 a2} g1 g2 f1 g3 g4 na f2 =>
      na c (((stay g3 g4 na).2 c).mp f2) (st.onew c ⟨j, p2, d1, a1, g1, g2, f1⟩)
    rcases now e1 s1 with ⟨j1, p1, g1, g2, g3⟩ | ⟨g1, g2⟩
    · rcases now e2 s2 with ⟨j2, p2, h1, h2, h3⟩ | ⟨h1, h2⟩
      · have hj : j1 = j2 := S'.inj j1 j2 p1 p2 d1 d2 a1 a2 c g1 h1 g2 h2 f1 f2
        subst hj
        rw [g3] at h3; cases h3
        rfl
      · exact (mix g1 g2 f1 h1 s2 h2 f2).elim
    · rcases now e2 s2 with ⟨j2, p2, h1, h2, h3⟩ | ⟨h1, h2⟩
      · exact (mix h1 h2 f2 g1 s1 g2 f1).elim
      · exact S.inj i j p q d1 d2 a1 a2 c g1 h1 s1 s2 (((stay g1 s1 g2).2 c).mp f1) (((stay h1 s2 h2).2 c).mp f2)
  · obtain ⟨a, s1, _⟩ := S.own i p xs e
    rcases cur e s1 with ⟨j, p2, d', q1, q2, q3, q4, l⟩ | ⟨q1, q2⟩
    · exact ⟨d', q4, l⟩
    · exact ⟨xs, q1, fun _ => rfl⟩
  · obtain ⟨i, p, d, a, e1, e2, f⟩ := z1
    rcases now e1 e2 with ⟨j, p2, q1, q2, _⟩ | ⟨q1, q2⟩
    · exact ⟨j, p2, d, a, q1, q2, f⟩
    · exact absurd z2 (q2 c (((stay q1 e2 q2).2 c).mp f))
/-- the state at a call -/
theorem call_in {mds : List Md} {es : List EV} {vs : List V} {args : List Slot} (S : Sim K r G σ H) (R : ArgsRep K G σ es vs) (hs : slotsOf r mds es = some args) (nd : (borsOf r es).Nodup) :
    Sim K args G (vs.map some) H ∧ (∀ i p xs, get args i = .o p xs → p ≠ .free) := by
  obtain ⟨hl, at_⟩ := slotsOf_at R hs
  have go : ∀ {l : List Slot} {j : Nat} {s : Slot}, get l j = s → s ≠ .un → l[j]? = some s := fun {l j s} e n => by
    unfold get at e
    rw [List.getD_eq_getElem?_getD] at e
    cases q : l[j]? with
    | none => rw [q] at e; exact absurd e.symm n
    | some u => rw [q] at e; exact congrArg some e
  have argo : ∀ {j : Nat} {p : Pin} {xs : Cont}, get args j = .o p xs → ∃ i q a, es[j]? = some (.bor i) ∧ get r i = .o q xs ∧ vs[j]? = some (.ref a) ∧ σ[i]? = some (some (.ref a)) ∧ p ≠ .free := fun {j p xs} e => by
    obtain ⟨md, ev, v, e1, e2, e3, e4⟩ := at_ j _ (go e (fun z => nomatch z))
    cases ev with
    | fr m => cases e3
    | tmp ys => cases e3
    | bor i =>
      obtain ⟨a, rfl, e5⟩ := e4
      obtain ⟨q, f1, f2, f3⟩ := argO_o e3
      exact ⟨i, q, a, e1, f1, e2, e5, f2⟩
  refine ⟨⟨S.sub, by rw [List.length_map]; exact hl, fun j m e => ?_, fun j p xs e => ?_, fun i j p q xs ys a a' c e1 e2 s1 s2 f1' f2' => ?_⟩, fun j p xs e => ?_⟩
  · obtain ⟨md, ev, v, e1, e2, e3, e4⟩ := at_ j _ (go e (fun z => nomatch z))
    refine ⟨v, by rw [List.getElem?_map, e2]; rfl, ?_⟩
    cases ev with
    | fr m' => cases e3; exact e4
    | tmp ys => cases e3
    | bor i =>
      obtain ⟨a, rfl, e5⟩ := e4
      have q := argO_v e3
      obtain ⟨w, s1, rp⟩ := S.val i m q
      rw [e5] at s1; cases s1
      exact rp
  · obtain ⟨i, q, a, e1, e2, e3, e4, _⟩ := argo e
    obtain ⟨a', s1, x⟩ := S.own i q xs e2
    rw [e4] at s1; cases s1
    exact ⟨a, by rw [List.getElem?_map, e3]; rfl, x⟩
  · obtain ⟨i1, q1, a1, f1, f2, f3, f4, _⟩ := argo e1
    obtain ⟨i2, q2, a2, g1, g2, g3, g4, _⟩ := argo e2
    rw [List.getElem?_map, f3] at s1
    rw [List.getElem?_map, g3] at s2
    cases s1
    cases s2
    have hi : i1 = i2 := S.inj i1 i2 q1 q2 xs ys _ _ c f2 g2 f4 g4 f1' f2'
    subst hi
    exact bors_inj nd f2 f1 g1
  · obtain ⟨_, _, _, _, _, _, _, nf⟩ := argo e
    exact nf
theorem call_read {n : Nat} {mds : List Md} {m : Fn} {evs : List EV} {vs : List V} {Q : VK} (hn : mds.length = n) (S : Sim K r G σ H) (hA : ∀ b, A0 r σ H b → A b) (w : WkL K A r G σ H evs vs)
    (h : Post (rpE K σ) K mg W A r G σ H Q (bnd (frzA mds evs) (fun es => callK mds m es) r)) : spF K mg n m vs H Q (WE W σ) := by
  cases q : frzA mds evs r with
  | bad => rw [bnd_bad q] at h; exact h.elim
  | ex c x r' => exact (frzA_noex q).elim
  | ok es r2 =>
    rw [bnd_ok q] at h
    obtain ⟨G2, S2, st2, R, _⟩ := frzA_ok S hA w q
    have a2 := st2.allow' hA
    have h := h.rebase st2
    unfold callK at h
    cases q2 : slotsOf r2 mds es with
    | none => rw [q2] at h; exact h.elim
    | some args =>
      rw [q2] at h
      dsimp only at h
      by_cases nd : (borsOf r2 es).Nodup
      · rw [if_pos nd] at h
        obtain ⟨S3, nf⟩ := call_in S2 R q2 nd
        have la : args.length = n := by
          have : ∀ {mds : List Md} {es : List EV} {args : List Slot}, slotsOf r2 mds es = some args → args.length = mds.length := by
            intro mds
            induction mds with
            | nil => intro es args e; cases es with
              | nil => cases e; rfl
              | cons _ _ => cases e
            | cons md mds ih => intro es args e; cases es with
              | nil => cases e
              | cons ev es =>
                unfold slotsOf at e
                split at e
                · rename_i s l _ e2
                  cases e
                  simp [ih e2]
                · cases e
          rw [this q2, hn]
        refine ⟨args, G2, la, S3, nf, ?_⟩
        cases q3 : m args with
        | bad => rw [q3] at h; exact h
        | ex c x o =>
          rw [q3] at h
          intro G' H' cls d S' st x
          obtain ⟨S4, st4, _⟩ := call_back S2 a2 R q2 nd S' st
          exact h σ G' H' cls d S4 st4 x
        | ok ev o =>
          rw [q3] at h
          intro v G' H' S' st er
          obtain ⟨S4, st4, up, ow⟩ := call_back S2 a2 R q2 nd S' st
          cases ev with
          | bor i => exact h.elim
          | fr y => exact h v G' H' S4 st4 er
          | tmp ys =>
            refine h v G' H' S4 st4 ?_
            obtain ⟨a, e, x, al⟩ := er
            exact ⟨a, e, x, fun c f => ⟨fun z => (al c f).1 (ow c z (al c f).2), up c (al c f).2⟩⟩
      · rw [if_neg nd] at h
        exact h.elim
end
end Sx

set_option Elab.async false
set_option linter.all false
set_option maxRecDepth 100000
set_option maxHeartbeats 4000000
/-! SxE: own errors whose __init__ says super().__init__("..") and then self.f = f, over ValueError by own classes. -/
namespace Sup
open PySem PySem.W PySem.Calls PyProof.Rows PySem.HandSPX
def iA (f : Str) (p1 p2 : Pos) : Arguments := { posonlyargs := [], args := [⟨"self", none, p1⟩, ⟨f, none, p2⟩], vararg := none, kwonlyargs := [], kw_defaults := [], kwarg := none, defaults := [] }
def iB (m f : Str) (q0 q1 q2 q3 q4 q5 q6 q7 q8 q9 : Pos) : List Stmt :=
  [.Expr (.Call (.Attribute (.Call (.Name "super" q0) [] [] q1) "__init__" q2) [.Constant (.str m) 0 q3] [] q4) q5, .Assign [.Attribute (.Name "self" q6) f q7] (.Name f q8) q9]
def iS (f : Str) : Scope := { kind := .function, names := [(Str.ofString "self", .local), (f, .local), (Str.ofString "__class__", .free), (Str.ofString "super", .globalImplicit)], isGenerator := false, isCoroutine := false, more := [] }
/-- what a field's name must be -/
structure Fld (f : Str) : Prop where
  l1 : (iS f).names.lookup f = some .local
  l2 : (iS f).names.lookup ("__class__" : Str) = some .free
  l3 : (iS f).names.lookup ("super" : Str) = some .globalImplicit
  ne : f ≠ ("self" : Str)
  db : (f == ("__debug__" : Str)) = false
  bind : ∀ (qual : Str) (m : Str) (p1 p2 q0 q1 q2 q3 q4 q5 q6 q7 q8 q9 : Pos) (doc pm ct cda : Value) (an : Option Addr) (cc : Addr) (x v : Value),
    bindArgs (ksFn "__init__" qual (iA f p1 p2) (iB m f q0 q1 q2 q3 q4 q5 q6 q7 q8 q9) (iS f) .none .none doc pm an cda ct cc) ⟨[x, v], []⟩ = pure [(("self" : Str), x), (f, v)]
  sw : ∀ (qual m : Str) (q0 q1 q2 q3 q4 : Pos) (n : Nat) (L fI : Addr) (cda : Value) (cc : Addr), swapsWith (.Call (.Attribute (.Call (.Name "super" q0) [] [] q1) "__init__" q2) [.Constant (.str m) 0 q3] [] q4) none n (ksEnv qual (iS f) L fI cda cc) = pure false
  sa : ∀ (qual : Str) (q6 q7 q8 : Pos) (n : Nat) (L fI : Addr) (cda : Value) (cc : Addr), swapsWith (.Name f q8) (some (.Attribute (.Name "self" q6) f q7)) n (ksEnv qual (iS f) L fI cda cc) = pure false
theorem fld_at : Fld "at" := ⟨rfl, rfl, rfl, by decide, by decide, fun _ _ _ _ _ _ _ _ _ _ _ _ _ _ _ _ _ _ _ _ _ _ => rfl, fun _ _ _ _ _ _ _ _ _ _ _ _ => rfl, fun _ _ _ _ _ _ _ _ _ => rfl⟩
theorem fld_value : Fld "value" := ⟨rfl, rfl, rfl, by decide, by decide, fun _ _ _ _ _ _ _ _ _ _ _ _ _ _ _ _ _ _ _ _ _ _ => rfl, fun _ _ _ _ _ _ _ _ _ _ _ _ => rfl, fun _ _ _ _ _ _ _ _ _ => rfl⟩
/-- how super().__init__(m) is read where it stands -/
def EvI (qual m f : Str) (q0 q1 q2 q3 q4 : Pos) (fI : Addr) (cda : Value) (cc : Addr) : Prop := ∀ L : Addr, ∃ pl : Sem Bool,
    eval (.Call (.Attribute (.Call (.Name "super" q0) [] [] q1) "__init__" q2) [.Constant (.str m) 0 q3] [] q4) (ksEnv qual (iS f) L fI cda cc) = (do
      let ov ← attributeBase (.Call (.Name "super" q0) [] [] q1) "__init__" (ksEnv qual (iS f) L fI cda cc) (eval (.Call (.Name "super" q0) [] [] q1) (ksEnv qual (iS f) L fI cda cc))
      standAt q2.atName
      let (fx, first) ← holding [ov] (getMethod ov "__init__" pl)
      callWith q4 fx first (backTo q4 (starEach [.Constant (.str m) 0 q3] (ksEnv qual (iS f) L fI cda cc))) [])
/-- what the written part says of such a class (the class at C under the name nm, its __init__ at fI) -/
structure Txt (P : Program) (K : Frag) (mg : Str → Option Value) (nm f : Str) (C fI : Addr) : Prop where
  gC : mg nm = some (.ref C)
  cls : ∃ n q N bs bm sn sub ab col dd k0 k1 k2 k3 k5, K.lookup C = some (excClassObj n q C N bs bm true sn sub ab col dd k0 k1 k2 k3 k5 "ValueError.__new__") ∧ refsVE bm = true
  sa : findIn K (.ref C) "__setattr__" = some (some (.builtin "object.__setattr__"))
  noN : findIn K (.ref C) f = some none
  iC : findIn K (.ref C) "__init__" = some (some (.ref fI))
  tC : typeIn K (.ref fI) = some (.type "function")
  kC : keepIn K (.ref C) = true
  exC : subIn K (.ref C) (.type "BaseException") = some true
  veC : subIn K (.ref C) (.type "ValueError") = some true
  tyC : typeIn K (.ref C) = some (.type "type")
  sup : ks_superIn K C C "__init__" = some (some (.builtin "ValueError.__init__"))
  mro : mroIn K C (.ref C) = some true
  opq : nsIn K cStatics "thirdparty.any" = some none
  main : nsIn K mainGlobals "super" = some none
  top : (P.main.scope.names.lookup ("super" : Str)).isSome = false
  fld : Fld f
  fn : ∃ (oc : Value) (od : Option Addr) (doc pm : Value) (an : Option Addr) (cda : Addr) (ct : Value) (osl : Array (Option Value)) (cc : Addr) (qual m : Str) (p1 p2 q0 q1 q2 q3 q4 q5 q6 q7 q8 q9 : Pos),
    K.lookup fI = some ⟨oc, od, .func (ksFn "__init__" qual (iA f p1 p2) (iB m f q0 q1 q2 q3 q4 q5 q6 q7 q8 q9) (iS f) .none .none doc pm an (.ref cda) ct cc), osl⟩ ∧ codeIn K (.ref cda) qual = true ∧ EvI qual m f q0 q1 q2 q3 q4 fI (.ref cda) cc ∧
    (∃ ccl cdd vs ccs file tf, K.lookup cda = some ⟨ccl, cdd, .fields vs, ccs⟩ ∧ vs[2]? = some (.str file tf) ∧ ((P.main.file : Str) == file) = true) ∧ ∃ cl cld csl, K.lookup cc = some ⟨cl, cld, .cell (some (.ref C)), csl⟩
/-- what __init__ leaves of a fresh exception at x -/
structure InitEnd (h h' : Heap) (x C dx : Addr) (f : Str) (v : Value) : Prop where
  keep : ∀ b o, b ≠ x → h.get? b = some o → h'.get? b = some o
  obj : ∃ t1, h'.get? x = some { cls := .ref C, dict := some dx, data := .fields #[.ref t1, .none, .none, .none, .bool false, .none] }
  dbig : h.objs.size ≤ dx
  dne : dx ≠ x
  ns : h'.Ns1 dx (fun y => if y = f then some v else none)
theorem one_size (v : Value) : [v].length ≤ sizeLine := by
  rw [sizeLine_eq]
  exact (by decide : 1 ≤ 16777216)
theorem tail_of : ∀ l : List Value, refsVE l = true → excTail veTail l = true
  | [], e => absurd e (by decide)
  | a :: r, e => by
    rcases refsVE_cases (a :: r) e with ⟨c, r', q, h⟩ | q
    · obtain ⟨rfl, rfl⟩ := List.cons.inj q
      exact tail_of r h
    · rw [q]
      decide +kernel
theorem init_in {K : Frag} {C : Addr} {nm q : Str} {N : Addr} {bs bm : List Value} {hdct : Bool} {sn : List Str} {sub : List Value} {ab : Bool} {col : Option Bool} {dd : Option Addr} {k0 k1 k2 k3 k5 : Option Value}
    (hC : K.lookup C = some (excClassObj nm q C N bs bm hdct sn sub ab col dd k0 k1 k2 k3 k5 "ValueError.__new__")) (h : refsVE bm = true) : excInitIn K C veTail "ValueError.__new__" = true := by
  unfold excInitIn
  rw [hC]
  simp [excClassObj, tail_of bm h]
theorem ldC {M : Model} {A : Around} {E : Value → Shared → Prop} {s : Shared} {env : Env} {m : Str → Option Value} {x : Str} {pos : Pos} {v : Value} {Q : Value → Shared → Prop} (hn : s.heap.Ns env.locals m) (hv : m x = some v) (h : Q v s)
    (hk : env.scope.kind = .function) (hl : env.kindOf x = some .local) (hd : (x == ("__debug__" : Str)) = false) : wpAny M A (eval (.Name x pos) env) Q E s := wpAny_Name (wpAny_loadName_local hk hl hn hv h) hd
section
variable {P : Program} {w : World} {A : Around} {E : Value → Shared → Prop} {R : Result → Shared → Prop} {s : Shared} {K : Frag} {mg mb : Str → Option Value} {nm f : Str} {C fI : Addr}
theorem sup_init (T : Txt P K mg nm f C fI) {x t0 : Addr} {v : Value} (X : K.In s.heap) (hg : s.heap.Ns mainGlobals mg) (hb : s.heap.Ns builtinsNs mb) (hbb : ∀ y : Str, y ≠ "__name__" → mb y = bootBuiltins y) (hlim : s.heap.NoLimit) (hx : s.heap.get? x = some (excO C t0)) (hnx : K.lookup x = none) (hroom : A.depth < recursionLimit)
    (hq : ∀ h' tk dx, InitEnd s.heap h' x C dx f v → R (.ok (.ret .none)) { s with heap := h', toks := tk }) :
    codeAny (model P w) A (.call (.ref fI) ⟨[.ref x, v], []⟩) R s := by
  obtain ⟨oc, od, doc, pm, an, cda, ct, osl, cc, qual, m, p1, p2, q0, q1, q2, q3, q4, q5, q6, q7, q8, q9, ho, hcd, hev, ⟨ccl, cdd, vs, ccs, file, tf, hcda, hvs, hfile⟩, cl, cld, csl, hcc⟩ := T.fn
  obtain ⟨n, q, N, bs, bm, sn, sub, ab, col, dd, k0, k1, k2, k3, k5, hC, hbm⟩ := T.cls
  have hcl : clsIn K C = some { name := n, bases := bs, mro := .ref C :: bm, ns := N, qualname := q, hasDict := true, slotNames := sn, subclasses := sub, abstract := ab, collection := col, hasDel := false } := by unfold clsIn; rw [hC] <;> rfl
  refine ks_codeAny_call_defAt (binds := [(("self" : Str), .ref x), (f, v)]) hroom (X _ _ ho) rfl hlim (codeRec_of X hcd) rfl (BindsTo.of_eq (T.fld.bind _ _ _ _ _ _ _ _ _ _ _ _ _ _ _ _ _ _ _ _ _ _)) ?cell ?loc (fun h₁ hns k => ?_)
  case cell =>
    intro y hy
    have hy : y ∈ (iS f).names := hy
    simp only [iS, List.mem_cons, List.not_mem_nil, or_false] at hy
    rcases hy with rfl | rfl | rfl | rfl <;> exact fun z => nomatch z
  case loc =>
    intro y hy
    simp only [List.mem_cons, List.not_mem_nil, or_false] at hy
    rcases hy with rfl | rfl
    · rfl
    · exact T.fld.l1
  have X₁ : K.In h₁ := X.keeps k
  have hx₁ := k _ _ hx
  have ms : ([(("self" : Str), .ref x), (f, v)] : List (Str × Value)).reverse.lookup ("self" : Str) = some (Value.ref x) := by
    show List.lookup ("self" : Str) [(f, v), (("self" : Str), .ref x)] = _
    have e : (("self" : Str) == f) = false := by
      rw [beq_eq_false_iff_ne]
      exact fun z => T.fld.ne z.symm
    simp [List.lookup, e]
  have mf : ([(("self" : Str), .ref x), (f, v)] : List (Str × Value)).reverse.lookup f = some v := by
    show List.lookup f [(f, v), (("self" : Str), .ref x)] = _
    simp [List.lookup]
  have hlx : s.heap.objs.size ≠ x := Nat.ne_of_gt (Heap.lt_size hx)
  have I₁ : InstAt h₁ x (excO C t0) C none := ⟨hx₁, rfl, rfl, trivial⟩
  have hsup : alongIn K ("__init__" : Str) (((Value.ref C :: bm).dropWhile (fun c => c != Value.ref C)).drop 1) = some (some (.builtin "ValueError.__init__")) := by
    have z := T.sup
    unfold ks_superIn at z
    rw [hcl] at z
    exact z
  show _root_.PySem.wpAt _ _ _ (execs (iB m f q0 q1 q2 q3 q4 q5 q6 q7 q8 q9) (ksEnv qual (iS f) s.heap.objs.size fI (.ref cda) cc)) _ _ _
  unfold iB
  obtain ⟨pl, hev⟩ := hev s.heap.objs.size
  refine ks_wpAt_execs_cons (ks_wpAt_Expr_any (ks_wpAt_MethodCall ?_ hev) rfl (T.fld.sw _ _ _ _ _ _ _ _ _ _ _ _))
  refine ks_wpAt_super_base T.fld.l3 T.fld.l2 (by decide) rfl (X₁ _ _ ho) rfl (ar := ⟨"self", none, p1⟩) rfl rfl (X₁ _ _ hcda) rfl hvs hfile T.top ?_
  refine ks_loadName_global rfl T.fld.l3 (loadGlobal_builtin (hg.keeps k) (mg_none_of X hg T.main) (hb.keeps k) ((hbb _ (by decide +kernel)).trans (by first | rfl | kernel_rfl)) ⟨rfl, ?_⟩)
  refine wpAny_loadName_free rfl T.fld.l2 rfl ⟨_, X₁ _ _ hcc, rfl⟩ ?_
  refine wpAny_loadName_local rfl rfl hns ms ?_
  refine ks_wpAny_isType_cls (X₁ _ _ hC) rfl ⟨rfl, ?_⟩
  refine ks_wpAny_call_super (X₁ _ _ hC) rfl hx₁ rfl (fun c e => nomatch e) (looks_mroIn X₁ T.mro) (fun h₂ e₂ k₂ => ?_)
  have X₂ : K.In h₂ := X₁.keeps k₂
  have hx₂ := k₂ _ _ hx₁
  have I₂ : InstAt h₂ x (excO C t0) C none := ⟨hx₂, rfl, rfl, trivial⟩
  refine kxs_getMethod kxs_ValueError e₂ (looks_opaque X₂ T.opq) (l₀ := .ref C :: bm) (fun A Q E s kk q => wpAny_bind ((looks_clsIn X₂ hcl) A _ E s kk (wpAny_pure q))) rfl X₂ hsup (I₂.type.andThen (looks_subIn X₂ T.veC)) (ks_ne X₂ I₂ hcl) (by decide) ?_
  have k₃ : ∀ b o, h₂.get? b = some o → (h₂.push (kxs_mw "ValueError.__init__" x)).get? b = some o := fun b o e => Heap.get?_push_of_some _ e
  have hu : (h₂.push (kxs_mw "ValueError.__init__" x)).get? h₂.objs.size = some (kxs_mw "ValueError.__init__" x) := Heap.get?_push_at rfl rfl
  generalize h₂.push (kxs_mw "ValueError.__init__" x) = h₃ at k₃ hu ⊢
  have X₃ : K.In h₃ := X₂.keeps k₃
  have hx₃ := k₃ _ _ hx₂
  refine kxs_callWith (i := "ValueError.__init__") (x := x) (by rfl) (evalArgs_plain ?_)
  refine spliced_more (wpAny_Constant_str (spliced_none ⟨hu, ?_⟩))
  have xC : x ≠ C := ks_ne X₂ I₂ hcl
  have k₀₃ : ∀ b o, s.heap.get? b = some o → h₃.get? b = some o := fun b o e => k₃ b o (k₂ b o (k b o e))
  have hid : ∀ b o, b ≠ x → s.heap.get? b = some o → (hideAll s.heap [x]).get? b = some o := fun b o hb e => hideAll_get _ e (by simpa using hb)
  have hux : h₂.objs.size ≠ x := Nat.ne_of_gt (Heap.lt_size hx₂)
  have hLu : s.heap.objs.size < h₂.objs.size := by
    obtain ⟨oL, es, ep, hL, r⟩ := hns
    exact Heap.lt_size (k₂ _ _ hL)
  have FR : Fr (hideAll s.heap [x]) s.heap.objs.size h₃ (fun y => List.lookup y [(("self" : Str), Value.ref x), (f, v)].reverse) := by
    refine ⟨?_, fun b o e => k₀₃ b o (of_hideAll _ e), Nat.le_of_eq (hideAll_size _ _)⟩
    obtain ⟨oL, es, ep, hL, r⟩ := hns
    exact ⟨oL, es, ep, k₃ _ _ (k₂ _ _ hL), r⟩
  have NW : News (hideAll s.heap [x]) s.heap.objs.size h₃ [(x, excObj C t0 none .none), (h₂.objs.size, kxs_mw "ValueError.__init__" x)] := by
    intro p hp
    simp only [List.mem_cons, List.not_mem_nil, or_false] at hp
    rcases hp with rfl | rfl
    · exact ⟨hx₃, hlx.symm, hideAll_none _ (by simp)⟩
    · refine ⟨hu, Nat.ne_of_gt hLu, ?_⟩
      cases z : (hideAll s.heap [x]).get? h₂.objs.size with
      | none => rfl
      | some o => exact absurd (Heap.lt_size (of_hideAll _ z)) (Nat.not_lt.mpr (Nat.le_of_lt hLu))
  have X₀ : K.In (hideAll s.heap [x]) := fun a o e => hid a o (fun z => by rw [z, hnx] at e; cases e) (X a o e)
  refine kxs_call FR X₀ NW F.excBase_ValueError (init_in hC hbm) (by simp) (.head fun p hp => by
    simp only [List.mem_cons, List.not_mem_nil, or_false] at hp
    rw [hp]
    exact hux) (one_size _) fun t1 h₄ F₄ N₄ _ => ?_
  have k₄ : ∀ b o, b ≠ x → s.heap.get? b = some o → h₄.get? b = some o := fun b o hb e => F₄.keep b o (hid b o hb e)
  have hx₄ : h₄.get? x = some (excO C t1) := (N₄ (x, excObj C t1 none .none) (by simp)).1
  have X₄ : K.In h₄ := X₀.keeps F₄.keep
  have hn₄ := F₄.ns
  refine ks_wpAt_execs_cons (wpAt_of_wpAny (plainObj_wpAny_Assign_Attribute ?_ (T.fld.sa _ _ _ _ _ _ _ _ _)))
  refine ldC hn₄ mf (ldC hn₄ ms ?_ rfl rfl (by decide)) rfl T.fld.l1 T.fld.db
  refine set_plain X₄ (ox := excO C t1) (od := none) ⟨hx₄, rfl, rfl, trivial⟩ T.sa ?_
  refine exc_osa X₄ hx₄ hcl (show refsVE (.ref C :: bm) = true from hbm) rfl T.noN (fun h₅ tk₅ dx k₅ dn dne hx₅ hn₅ => ?_)
  refine wpAt_of_wpAny (wpAny_execs_nil (hq h₅ tk₅ dx ⟨fun b o hb e => k₅ b o hb (k₄ b o hb e), ⟨t1, hx₅⟩, ?_, dne, hn₅⟩))
  have g3 : s.heap.objs.size ≤ h₄.objs.size := by
    obtain ⟨oL, es, ep, hL, r⟩ := hn₄
    exact Nat.le_of_lt (Heap.lt_size hL)
  exact Nat.le_trans g3 dn
/-- a made one -/
structure Made (h h' : Heap) (e C d : Addr) (f : Str) (v : Value) : Prop where
  keep : ∀ b o, h.get? b = some o → h'.get? b = some o
  new : h.objs.size ≤ e
  obj : ∃ oe vs, h'.get? e = some oe ∧ oe.cls = .ref C ∧ oe.dict = some d ∧ oe.data = .fields vs ∧ vs[1]? = some .none
  dbig : h.objs.size ≤ d
  dne : d ≠ e
  ns : h'.Ns1 d (fun y => if y = f then some v else none)
theorem sup_made (T : Txt P K mg nm f C fI) {v : Value} (X : K.In s.heap) (hg : s.heap.Ns mainGlobals mg) (hb : s.heap.Ns builtinsNs mb) (hbb : ∀ y : Str, y ≠ "__name__" → mb y = bootBuiltins y) (hlim : s.heap.NoLimit) (hroom : A.depth + 1 < recursionLimit)
    (hq : ∀ h' tk e d, Made s.heap h' e C d f v → R (.ok (.ret (.ref e))) { s with heap := h', toks := tk }) :
    codeAny (model P w) A (.call (.ref C) ⟨[v], []⟩) R s := by
  obtain ⟨n, q, N, bs, bm, sn, sub, ab, col, dd, k0, k1, k2, k3, k5, hC, hbm⟩ := T.cls
  obtain ⟨hp, g, dr, tk, os⟩ := s
  have k : ∀ b o, hp.get? b = some o → ((hp.push (kdv_tup [v])).push (excO C hp.objs.size)).get? b = some o := fun b o e => Heap.get?_push_of_some _ (Heap.get?_push_of_some _ e)
  have hget : ((hp.push (kdv_tup [v])).push (excO C hp.objs.size)).get? (hp.objs.size + 1) = some (excO C hp.objs.size) := by heap_get
  have hnx : K.lookup (hp.objs.size + 1) = none := by
    cases e : K.lookup (hp.objs.size + 1) with
    | none => rfl
    | some o =>
      have z : hp.get? (hp.objs.size + 1) = some o := X _ _ e
      exact absurd (Nat.lt_of_succ_lt (Heap.lt_size z)) (Nat.lt_irrefl _)
  refine call_own F.excBase_ValueError (fun X => refsVE_contains X bm hbm) (X _ _ hC) (looks_findIn X T.iC) (fun self => bind_fn X self T.tC) (one_size v) ?_
  refine sup_init (s := ⟨(hp.push (kdv_tup [v])).push (excO C hp.objs.size), g, dr, tk, os⟩) T (X.keeps k) (hg.keeps k) (hb.keeps k) hbb (hlim.keeps k) hget hnx ?_ fun h' tk' dx ⟨k', ⟨t1, hx⟩, dn, dne, hns⟩ => ?_
  · show A.depth + 1 < recursionLimit
    exact hroom
  · have old : ∀ b o, hp.get? b = some o → h'.get? b = some o := fun b o e => k' b o (Nat.ne_of_lt (Nat.lt_succ_of_lt (Heap.lt_size e))) (k b o e)
    have z : hp.objs.size + 1 + 1 ≤ dx := by
      have q := dn
      simpa only [Heap.size_push] using q
    exact ⟨rfl, hq h' tk' (hp.objs.size + 1) dx ⟨old, Nat.le_succ _, ⟨_, _, hx, rfl, rfl, rfl, rfl⟩, Nat.le_trans (Nat.le_trans (Nat.le_succ _) (Nat.le_succ _)) z, dne, hns⟩⟩
end
end Sup
namespace L2
open PySem PySem.Spec PyProof.Rows
theorem relO_one {f : Str} {v : V} {v' : Value} (r : RelV v v') (y : Str) : RelO (List.lookup y [(f, v)]) (if y = f then some v' else none) := by
  by_cases h : y = f
  · subst h
    rw [if_pos rfl]
    have q : List.lookup y [(y, v)] = some v := by simp [List.lookup]
    rw [q]
    exact r
  · rw [if_neg h]
    have e : (y == f) = false := by simpa using h
    have q : List.lookup y [(f, v)] = none := by simp [List.lookup, e]
    rw [q]
    trivial
section
variable {X : Cx} {C fI : Addr} {nm f : Str}
/-- E(a) -/
def tMkE (C : Addr) (f : Str) (ta : TA) : St → Hp → XK → Prop := fun σ H Q => ta σ H fun vs H1 => ∃ v, vs = [v] ∧ ∀ d, H1 d = none → Q (.ref C) (some d) (upd H1 d (.xd [(f, v)]))
theorem pmk_sup {a : Expr} {ta : TA} {p pos : Pos} {k : Nat} (T : Sup.Txt X.prog X.K X.mg nm f C fI) (hr : Room k X.A) (ha : PA X [a] ta) (hg : Gl X nm) (hdb : (nm == ("__debug__" : Str)) = false := by decide)
    (he : starEach (a :: []) X.env = (false, eval a X.env) :: starEach [] X.env := by rfl) (hpl : (backTo pos (starEach [] X.env)).any (·.1) = false := by rfl) :
    PMk X (.Call (.Name nm p) [a] [] pos) (tMkE C f ta) := by
  intro pins s σ H Q I h
  refine wpAny_Call_Name_kw (ld_glob I hg T.gC ?_ hdb)
  refine PySem.W.callWith_K (h₀ := X.base) I.ok.mod.kin T.kC (thn (ha.run pos pins s σ H _ I h) fun us s1 hh => ?_) he hpl
  obtain ⟨vs, H1, I1, r1, v, ev, q1⟩ := hh
  subst ev
  refine ⟨I1.kIn, ?_⟩
  cases r1 with
  | cons rv rn =>
    rename_i v' us'
    cases rn
    show wpAny _ _ (call (.ref C) [v']) _ _ _
    have hlim := I1.nolimit
    obtain ⟨mb, hb, hbb⟩ := I1.ok.mod.blt
    have kb : ∀ b o, X.base.get? b = some o → s1.heap.get? b = some o := fun b o e => (I1.bs b o e).1
    have hgl := I1.ok.mod.glob.keeps kb
    have hbl := hb.keeps kb
    obtain ⟨hp, g, dr, tk, os⟩ := s1
    refine wpAny_call (Sup.sup_made T I1.kIn hgl hbl hbb hlim (by have := hr.dp; omega) fun h' tk' e d M => ?_)
    show MkP X pins σ Q (.ref e) ⟨h', g, dr, tk', os⟩
    obtain ⟨oe, fv, hoe, hc, hd, hdat, h1⟩ := M.obj
    have hns := M.ns
    obtain ⟨G', g1, g2⟩ := restrict h' fun b => decide (b ≠ e)
    have gk : ∀ b, b ≠ e → G'.get? b = h'.get? b := fun b hb => g1 b (decide_eq_true hb)
    have ge : G'.get? e = none := g2 e (by simp)
    have old : ∀ b o, hp.get? b = some o → G'.get? b = some o := fun b o q => (gk b (Nat.ne_of_lt (Nat.lt_of_lt_of_le (Heap.lt_size q) M.new))).trans (M.keep b o q)
    have ob : ObjOk X.prog X.w (upd H1 d (.xd [(f, v)])) G' d (.xd [(f, v)]) := ⟨_, hns.at (fun o q => (gk d M.dne).trans q), fun y => relO_one rv y⟩
    have J : Inv X pins σ (upd H1 d (.xd [(f, v)])) ⟨G', g, dr, tk', os⟩ := I1.laid (t' := tk') old M.dbig ob
    refine ⟨e, oe, fv, ⟨G', g, dr, tk', os⟩, _, .ref C, some d, rfl, J, fun b o q => ?_, ge, hoe, ⟨hc, hd⟩, hdat, h1, ?_, rfl, I1.bare, raises_own T.exC T.tyC, q1 d (I1.hok.fresh M.dbig)⟩
    · by_cases hb : b = e
      · have q' : G'.get? b = some o := q
        rw [hb, ge] at q'; cases q'
      · exact (gk b hb).symm.trans q
    · rw [upd_ne (Ne.symm M.dne)]
      exact I1.hok.fresh M.new
end
end L2

set_option Elab.async false
set_option linter.all false
set_option maxRecDepth 100000
set_option maxHeartbeats 4000000
/-! Sx12: calls of defs as expressions; raise. -/
namespace Sx
open PySem L2

/-! ### a def that may be called by its name -/
structure CalS (P : Program) (w : World) (K : PySem.W.Frag) (mg : Str → Option Value) (base : Heap) (k : Nat) (x : Str) (n : Nat) (m : Fn) : Prop where
  ex : ∃ (f : Addr) (fd : FuncData) (ps : List Str), FnOk P w K mg base (L2.CX P w) k f fd ps (spF K mg n m) ∧ mg x = some (.ref f) ∧ PySem.W.keepIn K (.ref f) = true ∧ Binds K fd ps []
/-- what the written part says of a def -/
structure Df (K : PySem.W.Frag) (mg : Str → Option Value) (x : Str) (st : Stmt) (ps : List Str) : Prop where
  ex : ∃ (f : Addr) (fd : FuncData), Fun K x x st f fd ∧ mg x = some (.ref f) ∧ Binds K fd ps []
theorem cal_of {P : Program} {w : World} {K : PySem.W.Frag} {mg : Str → Option Value} {base : Heap} {x : Str} {st : Stmt} {N ps : List Str} {k n : Nat} {sem : Ev Fl} (F : Df K mg x st ps) (S : FnScope N ps (defScope st)) (hn : n = ps.length)
    (hbody : ∀ (f : Addr) (cdv : Value) (A : Around) (outer : List Env) (s : Shared) (H : Hp) (E : XK), Room k (A.deeper (PyProof.Rows.envOfC x (defScope st) s.heap.objs.size f cdv)) →
      Takes (cxOf (L2.CX P w) P w K mg base N x (defScope st) f cdv A outer s H E) (fun cls d _ H => E cls d H) →
      SSs (cxOf (L2.CX P w) P w K mg base N x (defScope st) f cdv A outer s H E) (fun cls d _ H => E cls d H) (defBody st) sem) :
    CalS P w K mg base (k + 1) x n (fnR n N.length sem) := by
  obtain ⟨f, fd, Fn, hm, hb⟩ := F.ex
  exact ⟨f, fd, ps, fn_sx Fn S hn fun cdv A outer s H E hr tk => hbody f cdv A outer s H E hr tk, hm, Fn.kp, hb⟩
/-- a meaning that has none: the ground of a recursion -/
theorem cal_bad {P : Program} {w : World} {K : PySem.W.Frag} {mg : Str → Option Value} {base : Heap} {x : Str} {st : Stmt} {ps : List Str} {n : Nat} (F : Df K mg x st ps) : CalS P w K mg base 0 x n (fun _ => .bad) := by
  obtain ⟨f, fd, Fn, hm, hb⟩ := F.ex
  refine ⟨f, fd, ps, ⟨fun vs H Q E h => ?_, fun A outer s H args us vs Q E hr he hbd hv h => ?_⟩, hm, Fn.kp, hb⟩
  · obtain ⟨_, _, _, _, _, z⟩ := h
    exact z.elim
  · obtain ⟨_, _, _, _, _, z⟩ := h
    exact z.elim
theorem CalS.mono {P : Program} {w : World} {K : PySem.W.Frag} {mg : Str → Option Value} {base : Heap} {j k : Nat} {x : Str} {n : Nat} {m : Fn} (c : CalS P w K mg base j x n m) (h : j ≤ k) : CalS P w K mg base k x n m := by
  obtain ⟨f, fd, ps, F, r⟩ := c.ex
  exact ⟨f, fd, ps, F.mono h, r⟩
section
variable {X : Cx} {W : W4} {e : Expr} {es : List Expr} {x : Str} {p pos : Pos} {k j n : Nat} {m : Fn} {f : Ev (List EV)}
theorem se_call (mds : List Md) (c : CalS X.prog X.w X.K X.mg X.base k x n m) (tk : Takes X W) (hr : Room j X.A) (ha : SA X W (e :: es) f) (hk : k ≤ j := by decide) (hn : mds.length = n := by rfl) (hg : Gl X x := by rfl)
    (hdb : (x == ("__debug__" : Str)) = false := by decide) (he : starEach (e :: es) X.env = (false, eval e X.env) :: starEach es X.env := by rfl) (hpl : (backTo pos (starEach es X.env)).any (·.1) = false := by rfl) :
    SE X W (.Call (.Name x p) (e :: es) [] pos) (vCall mds m f) := by
  obtain ⟨fa, fd, ps, F, hm, kp, b⟩ := c.ex
  refine peW (pe_callS (E := WE W) F (hr.mono hk) hg hm kp b (fun σ => passAt tk σ) ha hdb he hpl) fun σ H Q ⟨r, G, S, h⟩ => ?_
  exact into upL S A0.self h fun evs r1 vs G1 H1 S1 a1 st1 e1 h1 => call_read hn S1 a1 e1.wk h1
/-- f(k = v, ..): every parameter by its name, in their order -/
structure CalK (P : Program) (w : World) (K : PySem.W.Frag) (mg : Str → Option Value) (base : Heap) (k : Nat) (x : Str) (ks : List Str) (n : Nat) (m : Fn) : Prop where
  ex : ∃ (f : Addr) (fd : FuncData) (ps : List Str), FnOk P w K mg base (L2.CX P w) k f fd ps (spF K mg n m) ∧ mg x = some (.ref f) ∧ PySem.W.keepIn K (.ref f) = true ∧ ∀ (s : Shared) (ws : List Value), ws.length = ks.length → BindsTo s fd ⟨[], ks.zip ws⟩ (ps.zip ws)
theorem se_callK {ks : List Str} {kws : List Keyword} {g : Ev (List EV)} (mds : List Md) (c : CalK X.prog X.w X.K X.mg X.base k x ks n m) (tk : Takes X W) (hr : Room j X.A) (ha : PK X kws (tL X.K X.mg W g)) (hln : n = ks.length := by rfl) (hk : k ≤ j := by decide) (hn : mds.length = n := by rfl) (hg : Gl X x := by rfl)
    (hall : (backToKw pos (keywordEach kws X.env)).all (·.1.isSome) = true := by rfl) (hks : (backToKw pos (keywordEach kws X.env)).filterMap (·.1) = ks := by rfl) (hdb : (x == ("__debug__" : Str)) = false := by decide)
    (hpl : ((backTo pos (starEach [] X.env)).any (·.1) || (backToKw pos (keywordEach kws X.env)).any (·.1.isNone)) = false := by rfl) :
    SE X W (.Call (.Name x p) [] kws pos) (vCall mds m g) := by
  obtain ⟨fa, fd, ps, F, hm, kp, b⟩ := c.ex
  refine peW (t := fun σ H Q => tL X.K X.mg W g σ H fun zs H1 => zs.length = n ∧ spF X.K X.mg n m zs H1 Q (WE W σ)) ⟨fun pins s σ H Q I h => ?_⟩ fun σ H Q ⟨r, G, S, h⟩ => ?_
  · refine wpAny_Call_Name_kw (ld_glob I hg hm ?_ hdb)
    refine PySem.W.callWith_KW0 (h₀ := X.base) I.ok.mod.kin kp hall (thn (ha.run pos pins s σ H _ I h) fun ws s1 ⟨zs, H1, I1, rz, l1, q⟩ => ⟨I1.kIn, ?_⟩) hpl
    rw [hks]
    have lw : ws.length = ks.length := by rw [← rz.length, l1, hln]
    refine wpAny_call (codeAny_mono (F.run X.A X.stack s1 H1 ⟨[], ks.zip ws⟩ ws zs Q (WE W σ) (hr.mono hk) I1.env0 (b s1 ws lw) rz q) fun r s' hq => ?_)
    cases r with
    | error u => exact passAt tk σ pins H1 s1 u s' I1 hq
    | ok fl =>
      cases fl with
      | ret u => exact I1.after hq
      | next => exact hq.elim
      | brk => exact hq.elim
      | cont => exact hq.elim
  · refine into upL S A0.self h fun evs r1 vs G1 H1 S1 a1 st1 e1 h1 => ?_
    have q := call_read hn S1 a1 e1.wk h1
    obtain ⟨args, G2, l, S2, z⟩ := id q
    exact ⟨by rw [← l, S2.len, List.length_map], q⟩
theorem sk_nil : PK X [] (tL X.K X.mg W vNil) := ⟨fun pos pins s σ H Q I ⟨r, G, S, h⟩ => pk_nil.run pos pins s σ H Q I (h _ G H S (.refl A0.self) .nil)⟩
theorem sk_cons {kws : List Keyword} {nm : Option Str} {kpos : Pos} {fe : Ev EV} {g : Ev (List EV)} (ha : SE X W e fe) (hr : PK X kws (tL X.K X.mg W g)) : PK X (⟨nm, e, kpos⟩ :: kws) (tL X.K X.mg W (vCons fe g)) := by
  refine ⟨fun pos pins s σ H Q I ⟨r, G, S, h⟩ => (pk_cons ha hr).run pos pins s σ H Q I ?_⟩
  refine into upE S A0.self h fun ev r1 v G1 H1 S1 a1 st1 e1 h1 => ?_
  refine into upL S1 a1 h1 fun evs r2 vs G2 H2 S2 a2 st2 e2 h2 => ?_
  exact h2 _ G2 H2 S2 (.refl a2) (.cons (e1.step st2) e2)

/-! ### raise -/
def sRaise (c : String) (f : Ev EV) : Ev Fl := bnd f fun e => bnd (frz e) fun m => fun r => .ex c m r
theorem ss_raise {a : Expr} {fa : Ev EV} {c : String} {C fI : Addr} {pos2 : Pos} (hc : X.calm = true) (T : Sup.Txt X.prog X.K X.mg (Str.ofString c) (fieldOf c) C fI) (tk : Takes X W) (hr : Room j X.A) (ha : SE X W a fa) (hg : Gl X (Str.ofString c) := by rfl) (hdb : (Str.ofString c == ("__debug__" : Str)) = false := by decide)
    (he : starEach (a :: []) X.env = (false, eval a X.env) :: starEach [] X.env := by rfl) (hpl : (backTo pos (starEach [] X.env)).any (·.1) = false := by rfl) :
    SS X W (.Raise (some (.Call (.Name (Str.ofString c) p) [a] [] pos)) none pos2) (sRaise c fa) := by
  refine psW (ps_raise hc tk (pmk_sup T hr (pa_cons ha pa_nil he) hg hdb he hpl)) fun D σ H ⟨r, G, S, h⟩ => ?_
  refine intoS upE S A0.self h fun ev r1 v G1 H1 S1 a1 st1 e1 h1 => ⟨v, rfl, fun d hd => ?_⟩
  cases q : frz ev r1 with
  | bad => rw [bnd_bad q] at h1; exact h1.elim
  | ex c m r' => exact (frz_noex q).elim
  | ok m r2 =>
    rw [bnd_ok q] at h1
    obtain ⟨G2, S2, st2, rp, _⟩ := frz_ok S1 a1 e1.wk q
    exact h1 σ _ _ _ (some d) (S2.alloc hd) (st2.trans (step_alloc S2 (st2.allow' a1) hd)) ⟨T.gC, d, v, rfl, upd_same, rp.mono (same_up (S2.gnone hd))⟩
end
end Sx

set_option Elab.async false
set_option linter.all false
set_option maxRecDepth 100000
set_option maxHeartbeats 4000000
/-! SxT: a call whose first argument is a new list that the callee changes. -/
namespace Sx
open PySem L2
def callT (mds : List Md) (m : Fn) (es : List EV) : Ev EV := fun r => match es with
  | .tmp xs :: es => match callK mds m (.bor r.length :: es) (r ++ [.o .free xs]) with
    | .ok a r' => .ok a (r'.take r.length)
    | .ex c x r' => .ex c x (r'.take r.length)
    | .bad => .bad
  | _ => .bad
def vCallT (mds : List Md) (m : Fn) (f : Ev (List EV)) : Ev EV := bnd f fun es => callT mds m es
section
variable {K : PySem.W.Frag} {A A' : Addr → Prop} {r r1 r2 : Ro} {G G1 G2 : Hp} {σ σ1 σ2 : St} {H H1 H2 : Hp} {mg : Str → Option Value} {W : W4}
theorem get_app {i : Nat} {s : Slot} : get (r ++ [s]) i = if i < r.length then get r i else if i = r.length then s else .un := by
  unfold get
  rw [List.getD_eq_getElem?_getD, List.getD_eq_getElem?_getD]
  by_cases h : i < r.length
  · rw [if_pos h, List.getElem?_append_left h]
  · rw [if_neg h, List.getElem?_append_right (by omega)]
    by_cases h2 : i = r.length
    · rw [if_pos h2, h2, Nat.sub_self]; rfl
    · rw [if_neg h2, List.getElem?_eq_none (by simp; omega)]; rfl
theorem get_take {i n : Nat} : get (r.take n) i = if i < n then get r i else .un := by
  unfold get
  rw [List.getD_eq_getElem?_getD, List.getD_eq_getElem?_getD, List.getElem?_take]
  by_cases h : i < n
  · rw [if_pos h, if_pos h]
  · rw [if_neg h, if_neg h]; rfl
theorem app_get {i : Nat} {v : Option V} {x : Option V} (h : σ[i]? = some x) : (σ ++ [v])[i]? = some x := by
  rw [List.getElem?_append_left (List.getElem?_eq_some_iff.mp h).1]; exact h
theorem app_last {v : Option V} : (σ ++ [v])[σ.length]? = some v := by simp
theorem sim_app {a : Addr} {xs : Cont} (S : Sim K r G σ H) (bx : Bx K G H a xs) (no : ∀ c, Foot H a xs c → ¬ Own r σ H c) : Sim K (r ++ [.o .free xs]) G (σ ++ [some (.ref a)]) H := by
  have gl : ∀ {i : Nat}, i < r.length → i < σ.length := fun h => by rw [← S.len]; exact h
  refine ⟨S.sub, by simp [S.len], fun i m e => ?_, fun i p ys e => ?_, fun i j p q ys zs b b' c e1 e2 s1 s2 f1 f2 => ?_⟩
  · rw [get_app] at e
    by_cases h : i < r.length
    · rw [if_pos h] at e
      obtain ⟨v, s, rp⟩ := S.val i m e
      exact ⟨v, app_get s, rp⟩
    · rw [if_neg h] at e
      split at e <;> cases e
  · rw [get_app] at e
    by_cases h : i < r.length
    · rw [if_pos h] at e
      obtain ⟨b, s, q1⟩ := S.own i p ys e
      exact ⟨b, app_get s, q1⟩
    · rw [if_neg h] at e
      split at e
      · rename_i h2
        cases e
        subst h2
        exact ⟨a, by rw [S.len]; exact app_last, bx⟩
      · cases e
  · rw [get_app] at e1 e2
    have old : ∀ {i : Nat} {p : Pin} {ys : Cont} {b : Addr}, i < r.length → get r i = .o p ys → (σ ++ [some (V.ref a)])[i]? = some (some (.ref b)) → σ[i]? = some (some (.ref b)) := fun {i p ys b} h _ s => by
      rw [List.getElem?_append_left (gl h)] at s; exact s
    have new : ∀ {i : Nat} {b : Addr}, i = r.length → (σ ++ [some (V.ref a)])[i]? = some (some (.ref b)) → b = a := fun {i b} h s => by
      subst h
      rw [S.len, app_last] at s
      cases s; rfl
    by_cases h1 : i < r.length
    · rw [if_pos h1] at e1
      by_cases h2 : j < r.length
      · rw [if_pos h2] at e2
        exact S.inj i j p q ys zs b b' c e1 e2 (old h1 e1 s1) (old h2 e2 s2) f1 f2
      · rw [if_neg h2] at e2
        split at e2
        · rename_i h3
          have := new h3 s2
          subst this
          cases e2
          exact absurd ⟨i, p, ys, b, e1, old h1 e1 s1, f1⟩ (no c f2)
        · cases e2
    · rw [if_neg h1] at e1
      split at e1
      · rename_i h4
        by_cases h2 : j < r.length
        · rw [if_pos h2] at e2
          have := new h4 s1
          subst this
          cases e1
          exact absurd ⟨j, q, zs, b', e2, old h2 e2 s2, f2⟩ (no c f1)
        · rw [if_neg h2] at e2
          split at e2
          · rename_i h3
            rw [h3, h4]
          · cases e2
      · cases e1
theorem a0_app {a : Addr} {xs : Cont} (S : Sim K r G σ H) (hA : ∀ b, A0 r σ H b → A b) (al : ∀ c, Foot H a xs c → A c) : ∀ b, A0 (r ++ [.o .free xs]) (σ ++ [some (.ref a)]) H b → A b := fun b h => by
  rcases h with ⟨i, p, ys, a', e, s, f⟩ | h
  · rw [get_app] at e
    by_cases h : i < r.length
    · rw [if_pos h] at e
      rw [List.getElem?_append_left (by rw [← S.len]; exact h)] at s
      exact hA b (.inl ⟨i, p, ys, a', e, s, f⟩)
    · rw [if_neg h] at e
      split at e
      · rename_i h2
        subst h2
        rw [S.len, app_last] at s
        cases s
        cases e
        exact al b f
      · cases e
  · exact hA b (.inr h)
theorem own_take {b : Addr} {x : Option V} {n : Nat} (hn : n = σ.length) (h : Own (r1.take n) σ H b) : Own r1 (σ ++ [x]) H b := by
  obtain ⟨i, p, xs, a, e, s, f⟩ := h
  rw [get_take] at e
  by_cases h : i < n
  · rw [if_pos h] at e
    exact ⟨i, p, xs, a, e, app_get s, f⟩
  · rw [if_neg h] at e
    cases e
theorem drop_last {x : Option V} {xs : Cont} {G' H' : Hp} (S : Sim K r G σ H) (S1 : Sim K r1 G' (σ ++ [x]) H') (st : Step A (r ++ [.o .free xs]) G (σ ++ [x]) H r1 G' (σ ++ [x]) H') : Sim K (r1.take r.length) G' σ H' ∧ Step A r G σ H (r1.take r.length) G' σ H' := by
  have hl : r1.length = r.length + 1 := by rw [S1.len]; simp [S.len]
  have old : ∀ {i : Nat}, i < r.length → (σ ++ [x])[i]? = σ[i]? := fun {i} h => List.getElem?_append_left (by rw [← S.len]; exact h)
  refine ⟨⟨S1.sub, by rw [List.length_take, hl, ← S.len]; omega, fun i m e => ?_, fun i p ys e => ?_, fun i j p q ys zs b b' c e1 e2 s1 s2 => ?_⟩, ⟨st.grow, st.keep, st.gnew, fun b h => st.onew b (own_take S.len h), fun i p ys e n => ?_, st.free⟩⟩
  · rw [get_take] at e
    by_cases h : i < r.length
    · rw [if_pos h] at e
      obtain ⟨v, s, rp⟩ := S1.val i m e
      exact ⟨v, by rw [← old h]; exact s, rp⟩
    · rw [if_neg h] at e; cases e
  · rw [get_take] at e
    by_cases h : i < r.length
    · rw [if_pos h] at e
      obtain ⟨b, s, q⟩ := S1.own i p ys e
      exact ⟨b, by rw [← old h]; exact s, q⟩
    · rw [if_neg h] at e; cases e
  · rw [get_take] at e1 e2
    by_cases h1 : i < r.length
    · rw [if_pos h1] at e1
      by_cases h2 : j < r.length
      · rw [if_pos h2] at e2
        exact S1.inj i j p q ys zs b b' c e1 e2 (by rw [old h1]; exact s1) (by rw [old h2]; exact s2)
      · rw [if_neg h2] at e2; cases e2
    · rw [if_neg h1] at e1; cases e1
  · have h : i < r.length := get_lt (by rw [e]; exact fun z => nomatch z)
    obtain ⟨_, ys', e2, l⟩ := st.pin i p ys (by rw [get_app, if_pos h]; exact e) n
    exact ⟨rfl, ys', by rw [get_take, if_pos h]; exact e2, l⟩
theorem noTmp : ∀ {es : List EV} {vs : List V} {mds : List Md} {args : List Slot} {x : Option V} {s : Slot}, EvsRep K A r G σ H es vs → slotsOf (r ++ [s]) mds es = some args → ArgsRep K G (σ ++ [x]) es vs
  | [], _, _, _, _, _, .nil, _ => .nil
  | e :: es, _, mds, args, x, s, .cons h1 h2, q => by
    cases mds with
    | nil => cases q
    | cons md mds =>
      unfold slotsOf at q
      split at q
      · rename_i e1 e2
        refine .cons ?_ (noTmp h2 e2)
        cases e with
        | fr m => exact h1
        | tmp ys => cases e1
        | bor i =>
          obtain ⟨a, rfl, sa⟩ := h1
          exact ⟨a, rfl, app_get sa⟩
      · cases q
theorem callT_read {n : Nat} {mds : List Md} {m : Fn} {evs : List EV} {vs : List V} {Q : VK} (hn : mds.length = n) (S : Sim K r G σ H) (hA : ∀ b, A0 r σ H b → A b) (w : EvsRep K A r G σ H evs vs)
    (h : Post (rpE K σ) K mg W A r G σ H Q (callT mds m evs r)) : spF K mg n m vs H Q (WE W σ) := by
  cases w with
  | nil => exact h.elim
  | cons w1 w2 =>
    rename_i e es v vs
    cases e with
    | fr m => exact h.elim
    | bor i => exact h.elim
    | tmp xs =>
      obtain ⟨a, rfl, bx, al⟩ := w1
      have S2 := sim_app S bx fun c f => (al c f).1
      have hA2 := a0_app (xs := xs) S hA fun c f => (al c f).2
      unfold callT callK at h
      dsimp only at h
      cases q : slotsOf (r ++ [.o .free xs]) mds (.bor r.length :: es) with
      | none => rw [q] at h; exact h.elim
      | some args =>
        rw [q] at h
        dsimp only at h
        have R : ArgsRep K G (σ ++ [some (.ref a)]) (.bor r.length :: es) (.ref a :: vs) := by
          cases mds with
          | nil => cases q
          | cons md mds =>
            unfold slotsOf at q
            split at q
            · rename_i e1 e2
              exact .cons ⟨a, rfl, by rw [S.len]; exact app_last⟩ (noTmp w2 e2)
            · cases q
        by_cases nd : (borsOf (r ++ [.o .free xs]) (.bor r.length :: es)).Nodup
        · rw [if_pos nd] at h
          obtain ⟨S3, nf⟩ := call_in S2 R q nd
          have la : args.length = n := by
            have : ∀ {r2 : Ro} {mds : List Md} {es : List EV} {args : List Slot}, slotsOf r2 mds es = some args → args.length = mds.length := by
              intro r2 mds
              induction mds with
              | nil => intro es args e; cases es with
                | nil => cases e; rfl
                | cons _ _ => cases e
              | cons md mds ih => intro es args e; cases es with
                | nil => cases e
                | cons ev es =>
                  unfold slotsOf at e
                  split at e
                  · rename_i s l _ e2
                    cases e
                    simp [ih e2]
                  · cases e
            rw [this q, hn]
          refine ⟨args, G, la, S3, nf, ?_⟩
          cases q3 : m args with
          | bad => rw [q3] at h; exact h
          | ex c x o =>
            rw [q3] at h
            intro G' H' cls d S' st x
            obtain ⟨S4, st4, _⟩ := call_back S2 hA2 R q nd S' st
            obtain ⟨S5, st5⟩ := drop_last S S4 st4
            exact h σ G' H' cls d S5 st5 x
          | ok ev o =>
            rw [q3] at h
            intro v G' H' S' st er
            obtain ⟨S4, st4, up, ow⟩ := call_back S2 hA2 R q nd S' st
            obtain ⟨S5, st5⟩ := drop_last S S4 st4
            cases ev with
            | bor i => exact h.elim
            | fr y => exact h v G' H' S5 st5 er
            | tmp ys =>
              refine h v G' H' S5 st5 ?_
              obtain ⟨b, e, bx', al'⟩ := er
              exact ⟨b, e, bx', fun c f => ⟨fun z => (al' c f).1 (ow c (own_take S.len z) (al' c f).2), up c (al' c f).2⟩⟩
        · rw [if_neg nd] at h
          exact h.elim
end
section
variable {X : Cx} {W : W4} {e : Expr} {es : List Expr} {x : Str} {p pos : Pos} {k j n : Nat} {m : Fn} {f : Ev (List EV)}
theorem se_callTmp (mds : List Md) (c : CalS X.prog X.w X.K X.mg X.base k x n m) (tk : Takes X W) (hr : Room j X.A) (ha : SA X W (e :: es) f) (hk : k ≤ j := by decide) (hn : mds.length = n := by rfl) (hg : Gl X x := by rfl)
    (hdb : (x == ("__debug__" : Str)) = false := by decide) (he : starEach (e :: es) X.env = (false, eval e X.env) :: starEach es X.env := by rfl) (hpl : (backTo pos (starEach es X.env)).any (·.1) = false := by rfl) :
    SE X W (.Call (.Name x p) (e :: es) [] pos) (vCallT mds m f) := by
  obtain ⟨fa, fd, ps, F, hm, kp, b⟩ := c.ex
  refine peW (pe_callS (E := WE W) F (hr.mono hk) hg hm kp b (fun σ => passAt tk σ) ha hdb he hpl) fun σ H Q ⟨r, G, S, h⟩ => ?_
  exact into upL S A0.self h fun evs r1 vs G1 H1 S1 a1 st1 e1 h1 => callT_read hn S1 a1 e1 h1
end
end Sx

set_option Elab.async false
set_option linter.all false
set_option maxRecDepth 100000
set_option maxHeartbeats 4000000
/-! Sx13: try .. except T as e; in the suite: isinstance(e, ..), e.f. -/
namespace L2
open PySem PySem.Spec PyProof.Rows
theorem call_isX {X : Cx} {a D : Addr} {dx : Option Addr} {oe : Obj} {pn : List (Addr × Obj)} (C : ExcC X.K D) (hz : Zc (.ref D) dx oe) (hf : ∃ vs, oe.data = .fields vs) :
    CallR (X.suite a ((a, oe) :: pn)) (.builtin "isinstance") (fun xs H Q => (∃ dd v f, dx = some dd ∧ H dd = some (.xd [(f, v)])) ∧ rIsE X.K D a xs H Q) := by
  intro pins s σ H xs us Q I r h
  obtain ⟨⟨dd, v0, f0, ed, hH⟩, c, cv, b, rfl, hcv, e, q⟩ := h
  cases r with
  | cons rx rr =>
    cases rr with
    | cons rt rr =>
      cases rr
      cases rx
      have ec := hcv _ rt
      subst ec
      obtain ⟨hget, _⟩ := I.pin (a, oe) (List.mem_append.mpr (.inl List.mem_cons_self))
      obtain ⟨vs, hv⟩ := hf
      have hx : ObjOk X.prog X.w H s.heap dd (.xd [(f0, v0)]) := I.hok dd _ hH
      obtain ⟨mA, hns, _⟩ := hx
      obtain ⟨od, ho, _⟩ := lookIn_ns hns
      have J : PySem.W.InstAt s.heap a oe D (some od) := by
        obtain ⟨oc, odd, oda, osl⟩ := oe
        obtain ⟨h1, h2⟩ := hz
        dsimp only at h1 h2 hv
        subst h1 h2 hv
        subst ed
        exact ⟨hget, rfl, rfl, ho⟩
      have Z := PySem.W.kitx_exc (x := a) (ox := oe) (od := some od) (by obtain ⟨cd, hc, _⟩ := PySem.W.any_some C.hd; rw [hc]; rfl) C.hg C.hk C.hs C.ha C.hn C.ht C.hm
      exact PySem.W.kia_one Z I.kIn J e (fun z => nomatch z) fun tk => ⟨.bl b, H, I.kept (t' := tk) fun _ _ z => z, rfl, q⟩
end L2
namespace Sx
open PySem L2
/-! ### judgements with a fact that stays -/
abbrev JP := St → Hp → Prop
def Stays (J : JP) : Prop := ∀ σ G G', Same G G' → J σ G → J σ G'
def tJ {α β : Type} (J : JP) (rp : RP α β) (K : PySem.W.Frag) (mg : Str → Option Value) (W : W4) (f : Ev α) : St → Hp → (β → Hp → Prop) → Prop := fun σ H Q => ∃ r G, Sim K r G σ H ∧ J σ G ∧ Post rp K mg W (A0 r σ H) r G σ H Q (f r)
def tSJ (J : JP) (K : PySem.W.Frag) (mg : Str → Option Value) (W : W4) (f : Ev Fl) : TS := fun D σ H => ∃ r G, Sim K r G σ H ∧ J σ G ∧ PostS K mg W (A0 r σ H) r G σ H D (f r)
def JE (J : JP) (X : Cx) (W : W4) (e : Expr) (f : Ev EV) : Prop := PE X e fun σ H Q => tJ J (rpE X.K σ) X.K X.mg W f σ H Q
def JA (J : JP) (X : Cx) (W : W4) (es : List Expr) (f : Ev (List EV)) : Prop := PA X es fun σ H Q => tJ J (rpL X.K σ) X.K X.mg W f σ H Q
def JT (J : JP) (X : Cx) (W : W4) (e : Expr) (f : Ev Bool) : Prop := PT X e fun σ H Q => tJ J rpB X.K X.mg W f σ H Q
def JW (J : JP) (X : Cx) (W : W4) (e : Expr) (f : Ev Bool) : Prop := PW X e fun σ H Q => tJ J rpB X.K X.mg W f σ H Q
def JSs (J : JP) (X : Cx) (W : W4) (s : List Stmt) (f : Ev Fl) : Prop := PSs X s (tSJ J X.K X.mg W f)
section
variable {J : JP} {X : Cx} {W : W4} {e a b : Expr} {es : List Expr} {rest : List Expr} {pos : Pos} {f g : Ev Bool} {fa fb : Ev EV}
theorem je_of (h : SE X W e fa) : JE J X W e fa := peW h fun σ H Q ⟨r, G, S, _, p⟩ => ⟨r, G, S, p⟩
theorem jt_of (h : ST X W e f) : JT J X W e f := ptW h fun σ H Q ⟨r, G, S, _, p⟩ => ⟨r, G, S, p⟩
theorem jss_of {s : List Stmt} {fs : Ev Fl} (h : SSs X W s fs) : JSs J X W s fs := pssW h fun D σ H ⟨r, G, S, _, p⟩ => ⟨r, G, S, p⟩
/-- one after another -/
theorem intoJ0 {K : PySem.W.Frag} {A : Addr → Prop} {r : Ro} {G : Hp} {σ : St} {H : Hp} {mg : Str → Option Value} {α β γ : Type} {rp : RP α β} (hJ : Stays J) (up : Up rp) {fx : Ev α} {k : α → Ev γ} {Q1 : β → Hp → Prop} (P : R γ → Prop) (hb : ¬ P .bad) (hx : ∀ c m r', P (.ex c m r') → ExPost K mg W A r G σ H c m r')
    (S : Sim K r G σ H) (j : J σ G) (hA : ∀ b, A0 r σ H b → A b) (h : P (bnd fx k r))
    (hk : ∀ a r1 b G1 H1, Sim K r1 G1 σ H1 → J σ G1 → (∀ b, A0 r1 σ H1 b → A b) → Step (A0 r σ H) r G σ H r1 G1 σ H1 → Step A r G σ H r1 G1 σ H1 → rp A r1 G1 H1 a b → P (k a r1) → Q1 b H1) :
    tJ J rp K mg W fx σ H Q1 := by
  refine ⟨r, G, S, j, ?_⟩
  cases q : fx r with
  | bad => rw [bnd_bad q] at h; exact absurd h hb
  | ex c m r' =>
    rw [bnd_ex q] at h
    exact fun σ' G' H' cls d S' st x => hx c m r' h σ' G' H' cls d S' (st.mono hA) x
  | ok a r' =>
    rw [bnd_ok q] at h
    exact fun b G' H' S' st e => hk a r' b G' H' S' (hJ _ _ _ st.grow j) (st.allow hA) st (st.mono hA) (up _ _ _ _ _ _ _ hA e) h
theorem intoJ {K : PySem.W.Frag} {A : Addr → Prop} {r : Ro} {G : Hp} {σ : St} {H : Hp} {mg : Str → Option Value} {α β γ δ : Type} {rp : RP α β} {rq : RP γ δ} (hJ : Stays J) (up : Up rp) {fx : Ev α} {k : α → Ev γ} {Q : δ → Hp → Prop} {Q1 : β → Hp → Prop} (S : Sim K r G σ H) (j : J σ G) (hA : ∀ b, A0 r σ H b → A b) (h : Post rq K mg W A r G σ H Q (bnd fx k r))
    (hk : ∀ a r1 b G1 H1, Sim K r1 G1 σ H1 → J σ G1 → (∀ b, A0 r1 σ H1 b → A b) → Step (A0 r σ H) r G σ H r1 G1 σ H1 → rp A r1 G1 H1 a b → Post rq K mg W A r1 G1 σ H1 Q (k a r1) → Q1 b H1) :
    tJ J rp K mg W fx σ H Q1 :=
  intoJ0 hJ up (Post rq K mg W A r G σ H Q) (fun z => z) (fun _ _ _ z => z) S j hA h fun a r1 b G1 H1 S1 j1 a1 s1 s2 e p => hk a r1 b G1 H1 S1 j1 a1 s1 e (p.rebase s2)
theorem intoJS {K : PySem.W.Frag} {A : Addr → Prop} {r : Ro} {G : Hp} {σ : St} {H : Hp} {mg : Str → Option Value} {α β : Type} {rp : RP α β} (hJ : Stays J) (up : Up rp) {fx : Ev α} {k : α → Ev Fl} {D : Ends} {Q1 : β → Hp → Prop} (S : Sim K r G σ H) (j : J σ G) (hA : ∀ b, A0 r σ H b → A b) (h : PostS K mg W A r G σ H D (bnd fx k r))
    (hk : ∀ a r1 b G1 H1, Sim K r1 G1 σ H1 → J σ G1 → (∀ b, A0 r1 σ H1 b → A b) → Step (A0 r σ H) r G σ H r1 G1 σ H1 → rp A r1 G1 H1 a b → PostS K mg W A r1 G1 σ H1 D (k a r1) → Q1 b H1) :
    tJ J rp K mg W fx σ H Q1 :=
  intoJ0 hJ up (PostS K mg W A r G σ H D) (fun z => z) (fun _ _ _ z => z) S j hA h fun a r1 b G1 H1 S1 j1 a1 s1 s2 e p => hk a r1 b G1 H1 S1 j1 a1 s1 e (p.rebase s2)
theorem lastJ {K : PySem.W.Frag} {A : Addr → Prop} {r : Ro} {G : Hp} {σ : St} {H : Hp} {mg : Str → Option Value} {α β : Type} {rp : RP α β} {fx : Ev α} {Q : β → Hp → Prop} (S : Sim K r G σ H) (j : J σ G) (hA : ∀ b, A0 r σ H b → A b) (up : Up rp) (h : Post rp K mg W A r G σ H Q (fx r)) : tJ J rp K mg W fx σ H Q := by
  obtain ⟨r', G', S', p⟩ := (⟨r, G, S, h⟩ : ∃ r G, Sim K r G σ H ∧ Post rp K mg W A r G σ H Q (fx r))
  refine ⟨r, G, S, j, ?_⟩
  cases q : fx r with
  | bad => rw [q] at h; exact h
  | ex c m r' => rw [q] at h; exact fun σ' G' H' cls d S' st x => h σ' G' H' cls d S' (st.mono hA) x
  | ok a r' => rw [q] at h; exact fun b G' H' S' st e => h b G' H' S' (st.mono hA) (up _ _ _ _ _ _ _ hA e)
theorem lastJS {K : PySem.W.Frag} {A : Addr → Prop} {r : Ro} {G : Hp} {σ : St} {H : Hp} {mg : Str → Option Value} {fx : Ev Fl} {D : Ends} (S : Sim K r G σ H) (j : J σ G) (hA : ∀ b, A0 r σ H b → A b) (h : PostS K mg W A r G σ H D (fx r)) : tSJ J K mg W fx D σ H := by
  refine ⟨r, G, S, j, ?_⟩
  cases q : fx r with
  | bad => rw [q] at h; exact h
  | ex c m r' => rw [q] at h; exact fun σ' G' H' cls d S' st x => h σ' G' H' cls d S' (st.mono hA) x
  | ok a r' =>
    rw [q] at h
    cases a with
    | nx => exact fun σ' G' H' S' s' => h σ' G' H' S' (s'.mono hA)
    | bk => exact fun σ' G' H' S' s' => h σ' G' H' S' (s'.mono hA)
    | ct => exact fun σ' G' H' S' s' => h σ' G' H' S' (s'.mono hA)
    | rt ev => exact fun v σ' G' H' S' s' e => h v σ' G' H' S' (s'.mono hA) (e.imp hA)
theorem jt_tru (hJ : Stays J) (ha : JE J X W a fa) (he : ∀ whole, isTrue a X.env whole = (do let v ← whole; standAt a.pos; holding [v] (truthy v)) := by intro _; rfl) : JT J X W a (tru fa) := by
  refine ptW (pt_truth ha he) fun σ H Q ⟨r, G, S, j, h⟩ => ?_
  refine intoJ hJ upE S j A0.self h fun ev r1 v G1 H1 S1 j1 a1 st1 e1 h1 => ?_
  unfold truT at h1
  cases q : trueM r1 ev with
  | none => rw [q] at h1; exact h1.elim
  | some c =>
    rw [q] at h1
    exact ⟨c, tru_okM S1 e1.wk q, h1 c G1 H1 S1 (.refl a1) rfl⟩
theorem jt_not (hJ : Stays J) (ha : JT J X W a f) : JT J X W (.UnaryOp .Not a pos) (tNotM f) := by
  refine ptW (pt_not ha) fun σ H Q ⟨r, G, S, j, h⟩ => ?_
  refine intoJ hJ upB S j A0.self h fun c r1 c' G1 H1 S1 j1 a1 st1 e1 h1 => ?_
  subst e1
  exact h1 _ G1 H1 S1 (.refl a1) rfl
theorem jw_and1 (ha : JT J X W a f) : JW J X W (.BoolOp .And [a] pos) f := pw_and1 ha
theorem jw_or1 (ha : JT J X W a f) : JW J X W (.BoolOp .Or [a] pos) f := pw_or1 ha
theorem jt_w (h : JW J X W e f) : JT J X W e f := PW.pt h
theorem jw_and (hJ : Stays J) (ha : JT J X W a f) (hb : JW J X W (.BoolOp .And (b :: rest) pos) g) : JW J X W (.BoolOp .And (a :: b :: rest) pos) (tAndM f g) := by
  refine pwW (pw_and ha hb) fun σ H Q ⟨r, G, S, j, h⟩ => ?_
  refine intoJ hJ upB S j A0.self h fun c r1 c' G1 H1 S1 j1 a1 st1 e1 h1 => ?_
  subst e1
  cases c with
  | true => rw [if_pos rfl] at h1; exact iteT (lastJ S1 j1 a1 upB h1)
  | false => rw [if_neg Bool.false_ne_true] at h1; exact iteF (h1 _ G1 H1 S1 (.refl a1) rfl)
theorem jw_or (hJ : Stays J) (ha : JT J X W a f) (hb : JW J X W (.BoolOp .Or (b :: rest) pos) g) : JW J X W (.BoolOp .Or (a :: b :: rest) pos) (tOrM f g) := by
  refine pwW (pw_or ha hb) fun σ H Q ⟨r, G, S, j, h⟩ => ?_
  refine intoJ hJ upB S j A0.self h fun c r1 c' G1 H1 S1 j1 a1 st1 e1 h1 => ?_
  subst e1
  cases c with
  | true => rw [if_pos rfl] at h1; exact iteT (h1 _ G1 H1 S1 (.refl a1) rfl)
  | false => rw [if_neg Bool.false_ne_true] at h1; exact iteF (lastJ S1 j1 a1 upB h1)
theorem je_if {c : Expr} (hJ : Stays J) (hc : JT J X W c f) (ha : JE J X W a fa) (hb : JE J X W b fb) : JE J X W (.IfExp c a b pos) (vIf f fa fb) := by
  refine peW (pe_ifExp hc ha hb) fun σ H Q ⟨r, G, S, j, h⟩ => ?_
  refine intoJ hJ upB S j A0.self h fun c r1 c' G1 H1 S1 j1 a1 st1 e1 h1 => ?_
  subst e1
  cases c with
  | true => rw [if_pos rfl] at h1; exact iteT (lastJ S1 j1 a1 upE h1)
  | false => rw [if_neg Bool.false_ne_true] at h1; exact iteF (lastJ S1 j1 a1 upE h1)
theorem ja_nil : JA J X W [] vNil := paW pa_nil fun σ H Q h => by
  obtain ⟨r, G, S, _, h⟩ := h
  exact h _ G H S (.refl A0.self) .nil
theorem ja_cons {fs : Ev (List EV)} (hJ : Stays J) (ha : JE J X W e fa) (hr : JA J X W es fs) (hs : starEach (e :: es) X.env = (false, eval e X.env) :: starEach es X.env := by rfl) : JA J X W (e :: es) (vCons fa fs) := by
  refine paW (pa_cons ha hr hs) fun σ H Q ⟨r, G, S, j, h⟩ => ?_
  refine intoJ hJ upE S j A0.self h fun ev r1 v G1 H1 S1 j1 a1 st1 e1 h1 => ?_
  refine intoJ hJ upL S1 j1 a1 h1 fun evs r2 vs G2 H2 S2 j2 a2 st2 e2 h2 => ?_
  exact h2 _ G2 H2 S2 (.refl a2) (.cons (e1.step st2) e2)
theorem je_tup {x1} {fs : Ev (List EV)} (hJ : Stays J) (h : JA J X W es fs) : JE J X W (.Tuple es x1 pos) (vTup fs) := by
  refine peW (pe_tup h) fun σ H Q ⟨r, G, S, j, h⟩ => ?_
  refine intoJ hJ upL S j A0.self h fun evs r1 vs G1 H1 S1 j1 a1 st1 e1 h1 => ?_
  obtain ⟨ms, r2, G2, S2, a2, rl, h2⟩ := post_frzL S1 a1 e1.wk h1
  by_cases c : ms.length ≤ 1000
  · rw [if_pos c] at h2
    exact ⟨by rw [← rl.len]; exact small c, fun p n => fin_tup S2 a2 h2 rl n⟩
  · rw [if_neg c] at h2
    exact h2.elim
/-- return e, not a name's list -/
def retF : EV → Ev Fl
  | .bor _ => bad
  | e => ret (.rt e)
theorem jss_ret (hJ : Stays J) (he : JE J X W e fa) : JSs J X W [.Return (some e) pos] (bnd fa retF) := by
  refine pssW (pss_one (ps_ret he)) fun D σ H ⟨r, G, S, j, h⟩ => ?_
  refine intoJS hJ upE S j A0.self h fun ev r1 v G1 H1 S1 j1 a1 st1 e1 h1 => ?_
  cases ev with
  | fr m => exact h1 v σ G1 H1 S1 (.refl a1) e1
  | tmp xs => exact h1 v σ G1 H1 S1 (.refl a1) e1
  | bor i => exact h1.elim
/-- nothing goes on behind it -/
def noNx (f : Ev Fl) : Ev Fl := fun r => match f r with
  | .ok .nx _ => .bad
  | x => x
theorem jss_if {c : Expr} {p : List Stmt} {more : List Stmt} {f1 f2 : Ev Fl} (hJ : Stays J) (hc : JT J X W c f) (h1 : JSs J X W p f1) (h2 : JSs J X W more f2) : JSs J X W (.If c p [] pos :: more) (sIf f (noNx f1) f2) := by
  refine pssW (pss_cons (ps_if hc h1 pss_nil) h2) fun D σ H ⟨r, G, S, j, h⟩ => ?_
  refine intoJS hJ upB S j A0.self h fun c r1 c' G1 H1 S1 j1 a1 st1 e1 p1 => ?_
  subst e1
  cases c with
  | true =>
    rw [if_pos rfl] at p1
    refine iteT (lastJS (D := { D with nx := fun σ H => tSJ J X.K X.mg W f2 D σ H }) S1 j1 a1 ?_)
    unfold noNx at p1
    cases q : f1 r1 with
    | bad => rw [q] at p1; exact p1
    | ex c m r' => rw [q] at p1; exact p1
    | ok fl r' =>
      rw [q] at p1
      cases fl with
      | nx => exact p1.elim
      | bk => exact p1
      | ct => exact p1
      | rt ev => exact p1
  | false =>
    rw [if_neg Bool.false_ne_true] at p1
    exact iteF (lastJS S1 j1 a1 p1)
end
/-! ### the exception in the suite -/
/-- slot i holds the exception at a, whose dict is at dx -/
def XH (K : PySem.W.Frag) (i : Nat) (a dx : Addr) (f : Str) (m : M) : JP := fun σ G => σ[i]? = some (some (.ref a)) ∧ ∃ v, G dx = some (.xd [(f, v)]) ∧ Rep K G m v
theorem xh_stays {K : PySem.W.Frag} {i : Nat} {a dx : Addr} {f : Str} {m : M} : Stays (XH K i a dx f m) := fun _ _ _ g ⟨h, v, e, rp⟩ => ⟨h, v, g _ _ e, rp.mono g⟩
section
variable {X : Cx} {W : W4} {i : Nat} {a C dx : Addr} {oe : Obj} {pn : List (Addr × Obj)} {f : Str} {m : M} {pos p : Pos}
theorem je_isX {n y : Str} {pe py : Pos} {c : V} {cv : Value} {b : Bool} (T : ExcC X.K C) (hz : Zc (.ref C) (some dx) oe) (hf : ∃ vs, oe.data = .fields vs) (hi : X.N[i]? = some n) (hv : Vis X.env.scope n) (hg : Gl X "isinstance") (hm : X.mg "isinstance" = none)
    (hy : PE (X.suite a ((a, oe) :: pn)) (.Name y py) (tC c)) (hcv : ∀ u, RelV c u → u = cv) (hk : PySem.W.kitOne X.K (.ref C) cv = some b) (hd : (n == ("__debug__" : Str)) = false := by decide) (hcd : (n == ("__classdict__" : Str)) = false := by decide)
    (he : starEach [.Name n pe, .Name y py] X.env = (false, eval (.Name n pe) X.env) :: starEach [.Name y py] X.env := by rfl) (he2 : starEach [.Name y py] X.env = [(false, eval (.Name y py) X.env)] := by rfl) (hpl : (backTo pos (starEach [.Name y py] X.env)).any (·.1) = false := by rfl) :
    JE (XH X.K i a dx f m) (X.suite a ((a, oe) :: pn)) W (.Call (.Name "isinstance" p) [.Name n pe, .Name y py] [] pos) (vLit (.bl b)) := by
  refine peW (pe_callB (X := X.suite a ((a, oe) :: pn)) (call_isX T hz hf) hg hm (by decide +kernel) (pa_cons (X := X.suite a ((a, oe) :: pn)) (pe_var (X := X.suite a ((a, oe) :: pn)) hi hv hd hcd) (pa_cons hy pa_nil he2) he) (by decide) (by decide) he hpl) fun σ H Q ⟨r, G, S, ⟨ha, v, hG, rp⟩, h⟩ => ?_
  exact ⟨.ref a, ha, ⟨dx, v, f, rfl, S.sub _ _ hG⟩, c, cv, b, rfl, hcv, hk, fin_plain S A0.self h rfl⟩
theorem je_xf {n : Str} {pe : Pos} (T : ExcC X.K C) (hno : PySem.W.findIn X.K (.ref C) f = some none) (hz : Zc (.ref C) (some dx) oe) (hf : ∃ vs, oe.data = .fields vs) (hi : X.N[i]? = some n) (hv : Vis X.env.scope n) (hd : (n == ("__debug__" : Str)) = false := by decide) (hcd : (n == ("__classdict__" : Str)) = false := by decide)
    (hb : attributeBase (.Name n pe) f X.env (eval (.Name n pe) X.env) = eval (.Name n pe) X.env := by rfl) :
    JE (XH X.K i a dx f m) (X.suite a ((a, oe) :: pn)) W (.Attribute (.Name n pe) f pos) (vLit m) := by
  refine peW (pe_xf ⟨T.hg, T.hk, T.hs, T.hd⟩ hno hz hf (pe_var (X := X.suite a ((a, oe) :: pn)) hi hv hd hcd) hb) fun σ H Q ⟨r, G, S, ⟨ha, v, hG, rp⟩, h⟩ => ?_
  exact ⟨.ref a, ha, rfl, rfl, dx, _, v, rfl, S.sub _ _ hG, by simp [List.lookup], fin_plain S A0.self h rp⟩
end
/-! ### try -/
def noBor : Fl → Bool
  | .rt (.bor _) => false
  | _ => true
def unE (i : Nat) (f : Ev Fl) : Ev Fl := fun r => match f r with
  | .ok fl r' => if noBor fl = true ∧ canSet (get r' i) = true then .ok fl (r'.set i .un) else .bad
  | _ => .bad
def sTry (rs : List String) (cat : String → Bool) (i : Nat) (fb : Ev Fl) (su : String → M → Ev Fl) : Ev Fl := fun r => match fb r with
  | .ok fl r' => .ok fl r'
  | .bad => .bad
  | .ex c m r' => if rs.contains c = true then (if cat c = true then (if i < r'.length ∧ canSet (get r' i) = true then unE i (su c m) (r'.set i .un) else .bad) else .ex c m r') else .bad
section
variable {K : PySem.W.Frag} {A : Addr → Prop} {r : Ro} {G : Hp} {σ : St} {H : Hp}
theorem Sim.hide {i : Nat} {x : Option V} (S : Sim K r G σ H) (hA : ∀ b, A0 r σ H b → A b) (hc : canSet (get r i) = true) :
    Sim K (r.set i .un) G (σ.set i x) H ∧ Step A r G σ H (r.set i .un) G (σ.set i x) H ∧ ∀ b, Own (r.set i .un) (σ.set i x) H b → Own r σ H b := by
  have hl : (r.set i Slot.un).length = (σ.set i x).length := by rw [List.length_set, List.length_set]; exact S.len
  obtain ⟨S2, ow⟩ := S.forget (r' := r.set i .un) (σ' := σ.set i x) hl fun j => by
    by_cases h : i = j
    · subst h
      refine .inl ?_
      rw [get_set]
      by_cases l : i < r.length
      · rw [if_pos ⟨rfl, l⟩]
      · rw [if_neg (fun z => l z.2)]
        unfold get
        rw [List.getD_eq_getElem?_getD, List.getElem?_eq_none (Nat.le_of_not_lt l)]
        rfl
    · refine .inr ⟨?_, List.getElem?_set_ne h⟩
      rw [get_set, if_neg (fun z => h z.1)]
  refine ⟨S2, ⟨Same.refl _, fun _ _ e _ => e, fun b e => .inl e, fun b z => hA b (.inl (ow b z)), fun j p xs e nf => ?_, fun _ e => e⟩, ow⟩
  have h : i ≠ j := fun h => by
    subst h
    rw [e] at hc
    cases p
    · exact nf rfl
    · cases hc
    · cases hc
  rw [get_set, if_neg (fun z => h z.1), List.getElem?_set_ne h]
  exact ⟨rfl, xs, e, fun _ => rfl⟩
end
theorem ss_try {X : Cx} {W : W4} {x n : Str} {cv : Value} {i : Nat} {body suite : List Stmt} {b₀ : Stmt} {np pos pos' : Pos} {fb : Ev Fl} {rs : List String} {cat : String → Bool} {su : String → M → Ev Fl}
    (hs : X.stack = X.env :: X.outer) (hf : X.env.frame = some X.env.locals) (hN : X.N.Nodup) (hi : X.N[i]? = some n) (hln : X.env.kindOf n = some .local) (hc : Names X x cv) (tk : Takes X W)
    (hx : ∀ c, rs.contains c = true → ∀ cls, X.mg (Str.ofString c) = some cls → PySem.W.exmOne X.K cls cv = some (cat c))
    (hb : ∀ (W' : W4) (pn : List (Addr × Obj)) (xe : Value → Shared → Prop), Takes (X.tr pn xe) W' → PassesOwn (model X.prog X.w) X.A X.env xe → SSs (X.tr pn xe) W' body fb)
    (hsu : ∀ (a : Addr) (oe : Obj) (cls : Value) (dx : Addr) (pn : List (Addr × Obj)) (c : String) (m : M), rs.contains c = true → cat c = true → X.mg (Str.ofString c) = some cls → Zc cls (some dx) oe → (∃ vs, oe.data = .fields vs) →
      JSs (XH X.K i a dx (fieldOf c) m) (X.suite a ((a, oe) :: pn)) W0 (b₀ :: suite) (su c m)) :
    SS X W (.Try body [.ExceptHandler (some (.Name x np)) (some n) (b₀ :: suite) pos'] [] [] pos) (sTry rs cat i fb su) := by
  refine psW (ps_try_as (tb := fun W' => tS X.K X.mg W' fb)
    (ts := fun a cls d D σ H => ∃ c m dx, rs.contains c = true ∧ cat c = true ∧ X.mg (Str.ofString c) = some cls ∧ d = some dx ∧ tSJ (XH X.K i a dx (fieldOf c) m) X.K X.mg W0 (su c m) D σ H)
    hs hf hN hi hln hc tk (fun W' pn xe t p => hb W' pn xe t p) (fun a oe cls d pn hz hfl => ⟨fun pins s σ H D I h => ?_⟩)) fun D σ H ⟨r, G, S, h⟩ => ?_
  · obtain ⟨c, m, dx, h1, h2, h3, rfl, h4⟩ := h
    exact (hsu a oe cls dx pn c m h1 h2 h3 hz hfl).run pins s σ H D I h4
  · refine ⟨r, G, S, ?_⟩
    unfold sTry at h
    cases q : fb r with
    | bad => rw [q] at h; exact h
    | ok fl r' =>
      rw [q] at h
      cases fl with
      | nx => exact h
      | bk => exact h
      | ct => exact h
      | rt ev => exact h
    | ex c m r' =>
      rw [q] at h
      dsimp only at h
      intro σ' G' H' cls d S' st x
      obtain ⟨hmg, dx, v, rfl, hG, rp⟩ := x
      by_cases h1 : rs.contains c = true
      · rw [if_pos h1] at h
        refine ⟨cat c, hx c h1 cls hmg, fun h2 a na => ?_, fun h2 => ?_⟩
        · rw [if_pos h2] at h
          by_cases h3 : i < r'.length ∧ canSet (get r' i) = true
          · rw [if_pos h3] at h
            have hA : ∀ b, A0 r' σ' H' b → A0 r σ H b := st.allow' A0.self
            obtain ⟨S1, st1, _⟩ := S'.hide (i := i) (x := some (.ref a)) hA h3.2
            have st1' := st.trans st1
            have a1 := st1.allow' hA
            have hl : i < σ'.length := by rw [← S'.len]; exact h3.1
            refine ⟨c, m, dx, h1, h2, hmg, rfl, r'.set i .un, G', S1, ⟨List.getElem?_set_self hl, v, hG, rp⟩, ?_⟩
            unfold unE at h
            cases q2 : su c m (r'.set i .un) with
            | bad => rw [q2] at h; exact h
            | ex c2 m2 r2 => rw [q2] at h; exact h.elim
            | ok fl r2 =>
              rw [q2] at h
              dsimp only at h
              by_cases h4 : noBor fl = true ∧ canSet (get r2 i) = true
              · rw [if_pos h4] at h
                have go : ∀ σ2 G2 H2, Sim X.K r2 G2 σ2 H2 → Step (A0 (r'.set i .un) (σ'.set i (some (.ref a))) H') (r'.set i .un) G' (σ'.set i (some (.ref a))) H' r2 G2 σ2 H2 →
                    Sim X.K (r2.set i .un) G2 (σ2.set i none) H2 ∧ Step (A0 r σ H) r G σ H (r2.set i .un) G2 (σ2.set i none) H2 ∧ ∀ b, Own (r2.set i .un) (σ2.set i none) H2 b → Own r2 σ2 H2 b := fun σ2 G2 H2 S2 st2 => by
                  have st2' := st2.mono a1
                  obtain ⟨S3, st3, ow⟩ := S2.hide (i := i) (x := none) (st2'.allow' a1) h4.2
                  exact ⟨S3, (st1'.trans st2').trans st3, ow⟩
                cases fl with
                | nx => exact fun σ2 G2 H2 S2 st2 => let ⟨S3, st3, _⟩ := go σ2 G2 H2 S2 st2; h _ G2 H2 S3 st3
                | bk => exact fun σ2 G2 H2 S2 st2 => let ⟨S3, st3, _⟩ := go σ2 G2 H2 S2 st2; h _ G2 H2 S3 st3
                | ct => exact fun σ2 G2 H2 S2 st2 => let ⟨S3, st3, _⟩ := go σ2 G2 H2 S2 st2; h _ G2 H2 S3 st3
                | rt ev =>
                  intro w σ2 G2 H2 S2 st2 er
                  obtain ⟨S3, st3, ow⟩ := go σ2 G2 H2 S2 st2
                  refine h w _ G2 H2 S3 st3 ?_
                  cases ev with
                  | fr y => exact er
                  | tmp ys =>
                    obtain ⟨b, e1, bx, al⟩ := er
                    exact ⟨b, e1, bx, fun c f => ⟨fun z => (al c f).1 (ow c z), a1 c (al c f).2⟩⟩
                  | bor j => exact nomatch h4.1
              · rw [if_neg h4] at h; exact h.elim
          · rw [if_neg h3] at h; exact h.elim
        · rw [if_neg (by rw [h2]; exact Bool.false_ne_true)] at h
          exact h σ' G' H' cls (some dx) S' st ⟨hmg, dx, v, rfl, hG, rp⟩
      · rw [if_neg h1] at h; exact h.elim
end Sx

set_option Elab.async false
set_option linter.all false
set_option maxRecDepth 100000
set_option maxHeartbeats 4000000
/-! Sx14: a, b, c = x, y, z; tuple * int; list(range(n)); a try whose body raises nothing. -/
namespace Sx
open PySem L2
section
variable {X : Cx} {W : W4} {a b c e : Expr} {es : List Expr} {p pos : Pos} {fa fb : Ev EV}
def isTmp : EV → Nat
  | .tmp _ => 1
  | _ => 0
def sto3 (i j l : Nat) (a b c : EV) : Ev Fl := bnd (sto i (slotE a)) fun _ => bnd (sto j (slotE b)) fun _ => bnd (sto l (slotE c)) fun _ => ret .nx
def par3 (i j l : Nat) : List EV → Ev Fl
  | [a, b, c] => if isTmp a + isTmp b + isTmp c ≤ 1 then bnd (settle a) fun a => bnd (settle b) fun b => bnd (settle c) fun c => sto3 i j l a b c else bad
  | _ => bad
def sPar3 (i j l : Nat) (f : Ev (List EV)) : Ev Fl := bnd f (par3 i j l)
theorem post_sto {K : PySem.W.Frag} {mg : Str → Option Value} {A : Addr → Prop} {r : Ro} {G : Hp} {σ : St} {H : Hp} {D : Ends} {ev : EV} {v : V} {i : Nat} {k : Unit → Ev Fl} (S : Sim K r G σ H) (hA : ∀ b, A0 r σ H b → A b) (h : EvRep K A r G σ H ev v) (nb : ∀ j, ev ≠ .bor j) (p : PostS K mg W A r G σ H D (bnd (sto i (slotE ev)) k r)) :
    i < r.length ∧ Sim K (r.set i (slotE ev)) G (σ.set i (some v)) H ∧ (∀ b, A0 (r.set i (slotE ev)) (σ.set i (some v)) H b → A b) ∧ Step A r G σ H (r.set i (slotE ev)) G (σ.set i (some v)) H ∧ PostS K mg W A (r.set i (slotE ev)) G (σ.set i (some v)) H D (k () (r.set i (slotE ev))) := by
  by_cases c : i < r.length ∧ canSet (get r i) = true
  · have z : sto i (slotE ev) r = .ok () (r.set i (slotE ev)) := if_pos c
    rw [bnd_ok z] at p
    obtain ⟨S2, st⟩ := S.store hA h nb c.1 c.2
    exact ⟨c.1, S2, st.allow' hA, st, p.rebase st⟩
  · have z : sto i (slotE ev) r = .bad := if_neg c
    rw [bnd_bad z] at p
    exact p.elim
theorem ss_par3 {i j l : Nat} {x y z : Str} {px py pz pt : Pos} {kt k2 pt2} {f : Ev (List EV)} (hc : X.calm = true) (hN : X.N.Nodup) (hi : X.N[i]? = some x) (hj : X.N[j]? = some y) (hl : X.N[l]? = some z) (hij : i ≠ j) (hil : i ≠ l) (hjl : j ≠ l)
    (hx : X.env.scope.names.lookup x = some .local) (hy : X.env.scope.names.lookup y = some .local) (hz : X.env.scope.names.lookup z = some .local) (ha : SA X W [a, b, c] f)
    (hw : swappedStores [.Tuple [.Name x px, .Name y py, .Name z pz] kt pt] (.Tuple [a, b, c] k2 pt2) X.env = pure (some [x, y, z]))
    (hs : swapsWithSole [.Tuple [.Name x px, .Name y py, .Name z pz] kt pt] (.Tuple [a, b, c] k2 pt2) pos.line X.env = pure false := by rfl) :
    SS X W (.Assign [.Tuple [.Name x px, .Name y py, .Name z pz] kt pt] (.Tuple [a, b, c] k2 pt2) pos) (sPar3 i j l f) := by
  refine psW (ps_par3 hc hN hi hj hl hij hil hjl hx hy hz ha hw hs) fun D σ H ⟨r, G, S, h⟩ => ?_
  refine intoS upL S A0.self h fun evs r1 vs G1 H1 S1 a1 st1 e1 h1 => ?_
  cases e1 with
  | nil => exact h1.elim
  | cons r1' t1 =>
    cases t1 with
    | nil => exact h1.elim
    | cons r2' t2 =>
      cases t2 with
      | nil => exact h1.elim
      | cons r3' t3 =>
        cases t3 with
        | cons _ _ => exact h1.elim
        | nil =>
          rename_i ea va eb vb ec vc
          have h1 : PostS X.K X.mg W (A0 r σ H) r1 G1 σ H1 D ((if isTmp ea + isTmp eb + isTmp ec ≤ 1 then bnd (settle ea) (fun a => bnd (settle eb) fun b => bnd (settle ec) fun c => sto3 i j l a b c) else bad) r1) := h1
          by_cases hT : isTmp ea + isTmp eb + isTmp ec ≤ 1
          · rw [if_pos hT] at h1
            obtain ⟨sa, r2, G2, S2, a2, st2, ea2, na, p2, qa⟩ := post_settle S1 a1 r1' h1
            obtain ⟨sb, r3, G3, S3, a3, st3, eb3, nb, p3, qb⟩ := post_settle S2 a2 (r2'.step st2) p2
            obtain ⟨sc, r4, G4, S4, a4, st4, ec4, nc, p4, qc⟩ := post_settle S3 a3 ((r3'.step st2).step st3) p3
            have ea4 := (ea2.step st3).step st4
            have eb4 := eb3.step st4
            have nab : ∀ xs ys, sa = .tmp xs → sb ≠ .tmp ys := fun xs ys h1 h2 => by
              rw [qa xs h1, qb ys h2] at hT
              simp only [isTmp] at hT
              omega
            have nac : ∀ xs ys, sa = .tmp xs → sc ≠ .tmp ys := fun xs ys h1 h2 => by
              rw [qa xs h1, qc ys h2] at hT
              simp only [isTmp] at hT
              omega
            have nbc : ∀ xs ys, sb = .tmp xs → sc ≠ .tmp ys := fun xs ys h1 h2 => by
              rw [qb xs h1, qc ys h2] at hT
              simp only [isTmp] at hT
              omega
            unfold sto3 at p4
            obtain ⟨l5, S5, a5, st5, p5⟩ := post_sto S4 a4 ea4 na p4
            have eb5 := EvRep.store ea4 eb4 na nb l5 S4.len (fun c ⟨_, xs, _, z1, _⟩ ⟨_, ys, _, z2, _⟩ => nab xs ys z1 z2)
            have ec5 := EvRep.store ea4 ec4 na nc l5 S4.len (fun c ⟨_, xs, _, z1, _⟩ ⟨_, ys, _, z2, _⟩ => nac xs ys z1 z2)
            obtain ⟨l6, S6, a6, st6, p6⟩ := post_sto S5 a5 eb5 nb p5
            have ec6 := EvRep.store eb5 ec5 nb nc l6 S5.len (fun c ⟨_, xs, _, z1, _⟩ ⟨_, ys, _, z2, _⟩ => nbc xs ys z1 z2)
            obtain ⟨l7, S7, a7, st7, p7⟩ := post_sto S6 a6 ec6 nc p6
            exact ⟨va, vb, vc, rfl, p7 _ G4 H1 S7 (.refl a7)⟩
          · rw [if_neg hT] at h1
            exact h1.elim

/-! ### tuple * int -/
def gMulT (a b : EV) : Ev EV := fun r => match seqOf r a, intOf b with
  | some (.t, xs), some k => if xs.isEmpty = false ∧ 2 ≤ k ∧ k ≤ 1000 ∧ xs.length ≤ 1000 then .ok (.fr (.tup (List.replicate k.toNat xs).flatten)) r else .bad
  | _, _ => .bad
theorem RepL.rep {K : PySem.W.Frag} {G : Hp} {xs : List M} {vs : List V} (h : RepL K G xs vs) : ∀ n : Nat, RepL K G (List.replicate n xs).flatten (List.replicate n vs).flatten
  | 0 => rfl
  | n + 1 => by
    rw [List.replicate_succ, List.replicate_succ, List.flatten_cons, List.flatten_cons]
    exact h.app (RepL.rep h n)
theorem imp_mulT : Imp2 X W (rRepT X.K) gMulT := by
  intro A r G σ H ex ey x y Q S hA hx hy h
  unfold gMulT at h
  cases q1 : seqOf r ex with
  | none => simp only [q1] at h; exact h.elim
  | some kx =>
    obtain ⟨k, xs⟩ := kx
    cases q2 : intOf ey with
    | none => simp only [q1, q2] at h; cases k <;> exact h.elim
    | some n =>
      cases k with
      | l => simp only [q1, q2] at h; exact h.elim
      | ro => simp only [q1, q2] at h; exact h.elim
      | t =>
        simp only [q1, q2] at h
        obtain ⟨a, vs, e, s, rl⟩ := seq_ok S hx.wk q1
        by_cases c : xs.isEmpty = false ∧ 2 ≤ n ∧ n ≤ 1000 ∧ xs.length ≤ 1000
        · rw [if_pos c] at h
          have hl := rl.len
          refine ⟨a, n, vs, e, int_ok hy q2, s, fun z => ?_, c.2.1, c.2.2.1, by rw [← hl]; exact c.2.2.2, fun p hp => fin_tup S hA h (rl.rep _) hp⟩
          rw [z] at hl
          have : xs = [] := List.eq_nil_of_length_eq_zero hl
          rw [this] at c
          exact nomatch c.1
        · rw [if_neg c] at h
          exact h.elim
theorem se_mulT (ha : SE X W a fa) (hb : SE X W b fb) : SE X W (.BinOp a .Mult b pos) (v2 gMulT fa fb) := se_op2 op_repT imp_mulT ha hb

/-! ### list(range(n)) -/
def rgM (n : Nat) : List M := (List.range n).map fun i => M.int (i : Nat)
def lstRg (e : EV) : Ev EV := match intOf e with
  | some n => if 0 ≤ n ∧ n ≤ 16777216 then ret (.tmp (rgM n.toNat)) else bad
  | none => bad
theorem rg_rep {K : PySem.W.Frag} {G : Hp} {n : Int} : RepL K G (rgM n.toNat) (rgV 0 n) := by
  have gen : ∀ l : List Nat, RepL K G (l.map fun i => M.int (i : Nat)) (l.map fun i => V.int (0 + (i : Nat))) := fun l => by
    induction l with
    | nil => rfl
    | cons i l ih => exact ⟨_, _, rfl, by show V.int (0 + (i : Int)) = V.int (i : Int); rw [Int.zero_add], ih⟩
  unfold rgM rgV
  rw [Int.sub_zero]
  exact gen _
theorem se_listRg {p2 pos2 : Pos} (hc : X.calm = true) (hg : Gl X "list") (hm : X.mg "list" = none) (hg2 : Gl X "range") (hm2 : X.mg "range" = none) (ha : SE X W a fa) (na : starEach [a] X.env = (false, eval a X.env) :: starEach [] X.env := by rfl)
    (na2 : starEach [.Call (.Name "range" p2) [a] [] pos2] X.env = (false, eval (.Call (.Name "range" p2) [a] [] pos2) X.env) :: starEach [] X.env := by rfl) :
    SE X W (.Call (.Name "list" p) [.Call (.Name "range" p2) [a] [] pos2] [] pos) (v1 lstRg fa) := by
  refine peW (pe_listRg hc hg hm (prg_1 hg2 hm2 ha na) na2) fun σ H Q ⟨r, G, S, h⟩ => ?_
  refine into upE S A0.self h fun ev r1 v G1 H1 S1 a1 st1 e1 h1 => ?_
  unfold lstRg at h1
  cases q : intOf ev with
  | none => rw [q] at h1; exact h1.elim
  | some n =>
    simp only [q] at h1
    by_cases c : 0 ≤ n ∧ n ≤ 16777216
    · rw [if_pos c] at h1
      exact ⟨n, int_ok e1 q, RgOk.of_le (Int.le_refl _) c.2 (by decide) c.1, fun q hq => fin_lst S1 a1 h1 rg_rep hq⟩
    · rw [if_neg c] at h1
      exact h1.elim
/-- a try whose body raises nothing -/
theorem ss_try0 {body : List Stmt} {h₀ : ExceptHandler} {hs : List ExceptHandler} {f : Ev Fl} (hb : SSs X.nox W0 body f) : SS X W (.Try body (h₀ :: hs) [] [] pos) (noX f) := by
  refine psW (ps_try_thru0 hb) fun D σ H ⟨r, G, S, h⟩ => ⟨r, G, S, ?_⟩
  unfold noX at h
  cases q : f r with
  | bad => rw [q] at h; exact h.elim
  | ex c m r' => rw [q] at h; exact h.elim
  | ok fl r' =>
    rw [q] at h
    cases fl with
    | nx => exact h
    | bk => exact h
    | ct => exact h
    | rt ev => exact h
end
end Sx

set_option Elab.async false
set_option linter.all false
set_option maxRecDepth 100000
set_option maxHeartbeats 4000000
/-! Sx15: short words for the printed derivations; the end. -/
namespace Sx
open PySem L2
theorem hu64 {k : Nat} {A : Around} (h : Room k A) : A.units + 64 < cLine := by have := h.un; omega
theorem hu65 {k : Nat} {A : Around} (h : Room k A) : A.units + 65 < cLine := by have := h.un; omega
/-- a def's facts, its call with every parameter named -/
structure DfK (K : PySem.W.Frag) (mg : Str → Option Value) (x : Str) (st : Stmt) (ps ks : List Str) : Prop where
  ex : ∃ (f : Addr) (fd : FuncData), Fun K x x st f fd ∧ mg x = some (.ref f) ∧ ∀ (s : Shared) (ws : List Value), ws.length = ks.length → BindsTo s fd ⟨[], ks.zip ws⟩ (ps.zip ws)
section
variable {P : Program} {w : World} {K : PySem.W.Frag} {mg : Str → Option Value} {base : Heap} {x : Str} {st : Stmt} {ps : List Str} {k n : Nat} {m : Fn}
theorem cal_mk (D : Df K mg x st ps) (o : ∀ f fd, Fun K x x st f fd → FnOk P w K mg base (L2.CX P w) k f fd ps (spF K mg n m)) : CalS P w K mg base k x n m := by
  obtain ⟨f, fd, F, hm, hb⟩ := D.ex
  exact ⟨f, fd, ps, o f fd F, hm, F.kp, hb⟩
theorem calk_mk {ks : List Str} (D : DfK K mg x st ps ks) (o : ∀ f fd, Fun K x x st f fd → FnOk P w K mg base (L2.CX P w) k f fd ps (spF K mg n m)) : CalK P w K mg base k x ks n m := by
  obtain ⟨f, fd, F, hm, hb⟩ := D.ex
  exact ⟨f, fd, ps, o f fd F, hm, F.kp, hb⟩
end
/-- what the law promises of a script -/
def spLaw (K : PySem.W.Frag) : Sp := fun vs H Q _ => ∃ (a : Addr) (ns : List Int), vs = [.ref a] ∧ ns.length ≤ 63 ∧ SqL K H a (ns.map V.int) ∧ ∀ H', Q (.bl true) H'
theorem rep_ints {K : PySem.W.Frag} {G : Hp} : ∀ ns : List Int, RepL K G (ns.map M.int) (ns.map V.int)
  | [] => rfl
  | n :: ns => ⟨_, _, rfl, rfl, rep_ints ns⟩
theorem law_end {P : Program} {w : World} {K : PySem.W.Frag} {mg : Str → Option Value} {base : Heap} {f : Addr} {fd : FuncData} {ps : List Str} {k : Nat} {m : Fn} (F : FnOk P w K mg base (L2.CX P w) k f fd ps (spF K mg 1 m))
    (hm : ∀ ns : List Int, ns.length ≤ 63 → ∃ o, m [.v (.ro (ns.map M.int))] = .ok (.fr (.bl true)) o) : FnOk P w K mg base (L2.CX P w) k f fd ps (spLaw K) := by
  refine F.imp fun vs H Q E h => ?_
  obtain ⟨a, ns, rfl, hl, hs, hq⟩ := h
  obtain ⟨o, ho⟩ := hm ns hl
  refine ⟨[.v (.ro (ns.map M.int))], H, rfl, ⟨fun _ _ e => e, rfl, fun i m e => ?_, fun i p xs e => ?_, fun i j p q xs ys b b' c' e => ?_⟩, fun i p xs e => ?_, ?_⟩
  · match i, e with
    | 0, e => cases e; exact ⟨.ref a, rfl, a, _, rfl, hs, rep_ints ns⟩
    | _ + 1, e => cases e
  · match i, e with
    | 0, e => cases e
    | _ + 1, e => cases e
  · match i, e with
    | 0, e => cases e
    | _ + 1, e => cases e
  · match i, e with
    | 0, e => cases e
    | _ + 1, e => cases e
  · rw [ho]
    intro v G' H' _ _ er
    have er : v = .bl true := er
    subst er
    exact hq H'
end Sx
namespace Sx
open PySem L2
theorem kit_self {K : PySem.W.Frag} {a : Addr} : PySem.W.kitOne K (.ref a) (.ref a) = some true := if_pos (beq_self_eq_true _)
theorem kit_ref {K : PySem.W.Frag} {a b : Addr} {r : Bool} (n : (Value.ref a == Value.ref b) = false) (hc : PySem.W.isClsIn K b = true) (ht : PySem.W.typeIn K (.ref b) = some (.type "type")) (hs : PySem.W.subIn K (.ref a) (.ref b) = some r) : PySem.W.kitOne K (.ref a) (.ref b) = some r := by
  unfold PySem.W.kitOne
  rw [n, if_neg Bool.false_ne_true]
  have hc' : (PySem.W.clsIn K b).isSome = true := hc
  have e : ((PySem.W.clsIn K b).isSome && PySem.W.typeIn K (.ref b) == some (.type "type")) = true := by rw [hc', ht]; rfl
  show (if ((PySem.W.clsIn K b).isSome && PySem.W.typeIn K (.ref b) == some (.type "type")) = true then PySem.W.subIn K (.ref a) (.ref b) else none) = some r
  rw [if_pos e]
  exact hs
theorem kit_typ {K : PySem.W.Frag} {a : Addr} {T : String} {r : Bool} (hm : PySem.W.kitMeta T = true) (hs : PySem.W.subIn K (.ref a) (.type T) = some r) : PySem.W.kitOne K (.ref a) (.type T) = some r := by
  unfold PySem.W.kitOne
  rw [if_neg (by simp)]
  show (if PySem.W.kitMeta T = true then PySem.W.subIn K (.ref a) (.type T) else none) = some r
  rw [if_pos hm]
  exact hs
end Sx

set_option Elab.async false
set_option linter.all false
set_option maxRecDepth 100000
set_option maxHeartbeats 4000000
/-! SxD: defs with defaults, called with fewer arguments; a module's whole numbers. -/
namespace Sx
open PySem L2
/-- as Fun, whatever stands for the defaults -/
structure FunG (K : PySem.W.Frag) (x qual : Str) (st : Stmt) (f : Addr) (fd : FuncData) : Prop where
  ex : ∃ (oc : Value) (od : Option Addr) (dV kV doc pm : Value) (an : Option Addr) (cdv ct : Value) (osl : Array (Option Value)),
    fd = PySem.W.fnOf x qual (defArgs st) (defBody st) (defScope st) dV kV doc pm an cdv ct ∧ K.lookup f = some ⟨oc, od, .func fd, osl⟩ ∧ PySem.W.codeIn K cdv qual = true
  kp : PySem.W.keepIn K (.ref f) = true
theorem fnG_sx {P : Program} {w : World} {K : PySem.W.Frag} {mg : Str → Option Value} {base : Heap} {x qual : Str} {st : Stmt} {f : Addr} {fd : FuncData} {N ps : List Str} {k n : Nat} {sem : Ev Fl} (F : FunG K x qual st f fd) (S : FnScope N ps (defScope st)) (hn : n = ps.length)
    (hbody : ∀ (cdv : Value) (A : Around) (outer : List Env) (s : Shared) (H : Hp) (E : XK), Room k (A.deeper (PyProof.Rows.envOfC qual (defScope st) s.heap.objs.size f cdv)) →
      Takes (cxOf (L2.CX P w) P w K mg base N qual (defScope st) f cdv A outer s H E) (fun cls d _ H => E cls d H) →
      SSs (cxOf (L2.CX P w) P w K mg base N qual (defScope st) f cdv A outer s H E) (fun cls d _ H => E cls d H) (defBody st) sem) :
    FnOk P w K mg base (L2.CX P w) (k + 1) f fd ps (spF K mg n (fnR n N.length sem)) := by
  obtain ⟨oc, od, dV, kV, doc, pm, an, cdv, ct, osl, rfl, lk, hcd⟩ := F.ex
  refine fn_of lk hcd S (fun vs H Q E h => hn ▸ (body_of h).1) fun A outer s H vs Q E hr h => ⟨_, hbody cdv A outer s H E hr (takes_of rfl rfl rfl rfl), ?_⟩
  exact (body_of h).2
/-- a plain value as the model has it -/
def mV : M → V
  | .bl b => .bl b
  | .int i => .int i
  | _ => .non
def atomM : M → Bool
  | .non => true
  | .bl _ => true
  | .int _ => true
  | _ => false
theorem atom_rep {K : PySem.W.Frag} {G : Hp} {m : M} (h : atomM m = true) : Rep K G m (mV m) := by
  cases m <;> first | rfl | cases h
structure DfD (K : PySem.W.Frag) (mg : Str → Option Value) (x : Str) (st : Stmt) (ps : List Str) (dms : List M) : Prop where
  ex : ∃ (f : Addr) (fd : FuncData) (ds : List Value), FunG K x x st f fd ∧ mg x = some (.ref f) ∧ Binds K fd ps ds ∧ Vals (dms.map mV) ds
structure CalD (P : Program) (w : World) (K : PySem.W.Frag) (mg : Str → Option Value) (base : Heap) (k : Nat) (x : Str) (n : Nat) (m : Fn) (dms : List M) : Prop where
  ex : ∃ (f : Addr) (fd : FuncData) (ps : List Str) (ds : List Value), FnOk P w K mg base (L2.CX P w) k f fd ps (spF K mg n m) ∧ mg x = some (.ref f) ∧ PySem.W.keepIn K (.ref f) = true ∧ Binds K fd ps ds ∧ Vals (dms.map mV) ds
section
variable {P : Program} {w : World} {K : PySem.W.Frag} {mg : Str → Option Value} {base : Heap} {x : Str} {st : Stmt} {ps : List Str} {k n : Nat} {m : Fn}
theorem cald_mk {dms : List M} (D : DfD K mg x st ps dms) (o : ∀ f fd, FunG K x x st f fd → FnOk P w K mg base (L2.CX P w) k f fd ps (spF K mg n m)) : CalD P w K mg base k x n m dms := by
  obtain ⟨f, fd, ds, F, hm, hb, hv⟩ := D.ex
  exact ⟨f, fd, ps, ds, o f fd F, hm, F.kp, hb, hv⟩
theorem funG_mk {x qual : Str} {st : Stmt} {f : Addr} {oc : Value} {od an : Option Addr} {osl : Array (Option Value)} {dV kV doc pm cdv ct : Value} (l : K.lookup f = some ⟨oc, od, .func (PySem.W.fnOf x qual (defArgs st) (defBody st) (defScope st) dV kV doc pm an cdv ct), osl⟩)
    (c : PySem.W.codeIn K cdv qual = true) (k : PySem.W.keepIn K (.ref f) = true) : FunG K x qual st f (PySem.W.fnOf x qual (defArgs st) (defBody st) (defScope st) dV kV doc pm an cdv ct) := ⟨⟨oc, od, dV, kV, doc, pm, an, cdv, ct, osl, rfl, l, c⟩, k⟩
/-- n values are written, the defaults behind the first j fill up -/
theorem bindsG {fd : FuncData} {T : Addr} {o : Obj} {its : List Value} {z n j : Nat} (lT : K.lookup T = some o) (oT : o.data = .seq its.toArray z) (hn : n + (its.length - j) = ps.length)
    (h : ∀ us : List Value, us.length = n → ∃ k, bindArgs fd ⟨us, []⟩ = seqItems? (.ref T) >>= k ∧ k (some its.toArray) = pure (ps.zip (us ++ its.drop j))) : Binds K fd ps (its.drop j) := fun s us X hlen => by
  have l2 : us.length = n := by
    rw [List.length_append, List.length_drop] at hlen
    omega
  obtain ⟨k, e1, e2⟩ := h us l2
  refine BindsTo.of_looks fun M => ?_
  rw [e1]
  exact looks_items X lT oT (.of_pure e2)
end
def vCallD (mds : List Md) (m : Fn) (dms : List M) (f : Ev (List EV)) : Ev EV := bnd f fun es => bnd (frzA mds (es ++ dms.map .fr)) fun es => callK mds m es
theorem wkL_app {K : PySem.W.Frag} {A : Addr → Prop} {r : Ro} {G : Hp} {σ : St} {H : Hp} {es : List EV} {vs : List V} {dms : List M} (h : WkL K A r G σ H es vs) (hd : dms.all atomM = true) : WkL K A r G σ H (es ++ dms.map .fr) (vs ++ dms.map mV) := by
  induction h with
  | nil =>
    induction dms with
    | nil => exact .nil
    | cons m ms ih =>
      rw [List.all_cons, Bool.and_eq_true] at hd
      exact .cons (atom_rep hd.1) (ih hd.2)
  | cons h1 _ ih => exact .cons h1 ih
section
variable {X : Cx} {W : W4} {e : Expr} {es : List Expr} {x : Str} {p pos : Pos} {k j n : Nat} {m : Fn} {f : Ev (List EV)}
theorem se_callD (mds : List Md) (dms : List M) (c : CalD X.prog X.w X.K X.mg X.base k x n m dms) (tk : Takes X W) (hr : Room j X.A) (ha : SA X W (e :: es) f) (hk : k ≤ j := by decide) (hn : mds.length = n := by rfl) (hat : dms.all atomM = true := by rfl) (hg : Gl X x := by rfl)
    (hdb : (x == ("__debug__" : Str)) = false := by decide) (he : starEach (e :: es) X.env = (false, eval e X.env) :: starEach es X.env := by rfl) (hpl : (backTo pos (starEach es X.env)).any (·.1) = false := by rfl) :
    SE X W (.Call (.Name x p) (e :: es) [] pos) (vCallD mds m dms f) := by
  obtain ⟨fa, fd, ps, ds, F, hm, kp, b, hv⟩ := c.ex
  refine peW (pe_callSD (E := WE W) F (hr.mono hk) hg hm kp b hv (fun σ => passAt tk σ) ha hdb he hpl) fun σ H Q ⟨r, G, S, h⟩ => ?_
  exact into upL S A0.self h fun evs r1 vs G1 H1 S1 a1 st1 e1 h1 => call_read hn S1 a1 (wkL_app e1.wk hat) h1
/-- a module's whole number -/
theorem se_gint {i : Int} (h : ∃ t, X.mg x = some (.int i t)) (hg : Gl X x := by rfl) (hd : (x == ("__debug__" : Str)) = false := by decide) : SE X W (.Name x p) (vLit (.int i)) := by
  obtain ⟨t, h⟩ := h
  refine peW (pe_glob (v := .int i) hg h ⟨t, rfl⟩ hd) fun σ H Q ⟨r, G, S, h⟩ => ?_
  exact h _ G H S (.refl A0.self) rfl
end
end Sx

set_option Elab.async false
set_option linter.all false
set_option maxRecDepth 100000
set_option maxHeartbeats 4000000
/-! SxU: tuple * int, also by one. -/
namespace Sx
open PySem L2 PyProof.Rows
theorem tuple_mul1 (l : Addr) (items : Array Value) (n : Nat) (dd : Option Addr) (sl : Array (Option Value)) (u : Tok) :
    Meets (Builtin.«tuple.__mul__» ⟨[.ref l, .int 1 u], []⟩) (fun _ R s => s.heap.get? l = some { cls := .type "tuple", dict := dd, data := .seq items n, slots := sl } ∧ R (.ok (.ret (Value.ref l))) s) :=
  .of_wp fun prog w A R s h => by
    obtain ⟨hp, g, d, tk, os⟩ := s
    obtain ⟨hl, h⟩ := h
    have f1 := AutoSeq1.idx_int
    wp_walk using wpAny_loadPart' hl
    exact ⟨_, rfl, h⟩
def rRep1 (K : PySem.W.Frag) : R2 := fun x y H Q => ∃ l xs, x = .ref l ∧ y = .int 1 ∧ SqT K H l xs ∧ Q (.ref l) H
section
variable {X : Cx} {W : W4} {a b : Expr} {fa fb : Ev EV} {pos : Pos}
theorem op_rep1 : OpR X (binaryOp .Mult) (rRep1 X.K) := by
  intro pins s σ H x y v u Q I rx ry h
  obtain ⟨l, xs, rfl, rfl, hT, q⟩ := h
  cases rx
  obtain ⟨t, rfl⟩ := ry
  obtain ⟨its, r, ⟨⟨cls, dd, data, sl⟩, ho, hc, n, hd⟩, hs⟩ := I.tuple hT
  simp only at hc hd
  subst hc hd
  refine wpAny_binaryOp_repeat_ref (T := "tuple") (U := "int") (by decide) ⟨_, ho, rfl⟩ (fun s' => typeIs_int s' 1 t) noFill_tuple_mul F.fills_int_mul F.slot_int_rmul repeat_tuple F.slot_int_index.lookup
    (call_meets F.slot_int_rmul (typeIs_int s 1 t) F.entry_int_rmul (F.args_int_rmul_2 _ _) (int_rmul_tuple 1 t l its.toArray n dd sl)
      ⟨ho, rfl, ⟨_, ho, rfl⟩, call_meets F.slot_tuple_mul ⟨_, ho, rfl⟩ F.entry_tuple_mul (F.args_tuple_mul_2 _ _) (tuple_mul1 l its.toArray n dd sl t) ⟨ho, ?_⟩⟩)
  exact ⟨.ref l, H, I, rfl, q⟩
def gMulU (a b : EV) : Ev EV := fun r => match seqOf r a, intOf b with
  | some (.t, xs), some k => if k = 1 then .ok (.fr (.tup xs)) r else gMulT a b r
  | _, _ => .bad
theorem imp_mulU : Imp2 X W (fun x y H Q => rRepT X.K x y H Q ∨ rRep1 X.K x y H Q) gMulU := by
  intro A r G σ H ex ey x y Q S hA hx hy h
  unfold gMulU at h
  cases q1 : seqOf r ex with
  | none => simp only [q1] at h; exact h.elim
  | some kx =>
    obtain ⟨k, xs⟩ := kx
    cases q2 : intOf ey with
    | none => simp only [q1, q2] at h; cases k <;> exact h.elim
    | some n =>
      cases k with
      | l => simp only [q1, q2] at h; exact h.elim
      | ro => simp only [q1, q2] at h; exact h.elim
      | t =>
        simp only [q1, q2] at h
        by_cases c : n = 1
        · subst c
          rw [if_pos rfl] at h
          obtain ⟨a, vs, e, s, rl⟩ := seq_ok S hx.wk q1
          refine .inr ⟨a, vs, e, int_ok hy q2, s, ?_⟩
          have rp : Rep X.K G (.tup xs) x := by
            cases ex with
            | fr m =>
              have hx : Rep X.K G m x := hx
              have q1 : seqM m = some (.t, xs) := q1
              cases m <;> cases q1
              exact hx
            | tmp ys => obtain ⟨_, z⟩ := seqB_some (show seqB ys = some (.t, xs) from q1); cases z
            | bor i =>
              obtain ⟨c, rfl, sv⟩ := hx
              have q1 : seqS (get r i) = some (.t, xs) := q1
              cases z : get r i with
              | un => rw [z] at q1; cases q1
              | o p ys => rw [z] at q1; obtain ⟨_, z⟩ := seqB_some (show seqB ys = some (.t, xs) from q1); cases z
              | v m =>
                rw [z] at q1
                have q1 : seqM m = some (.t, xs) := q1
                obtain ⟨v, sv2, rp⟩ := S.val i m z
                rw [sv] at sv2; cases sv2
                cases m <;> cases q1
                exact rp
          rw [e] at rp
          exact fin_plain S hA h rp
        · rw [if_neg c] at h
          exact .inl (imp_mulT A r G σ H ex ey x y Q S hA hx hy h)
theorem se_mulU (ha : SE X W a fa) (hb : SE X W b fb) : SE X W (.BinOp a .Mult b pos) (v2 gMulU fa fb) := se_op2 (op_repT.or op_rep1) imp_mulU ha hb
end
end Sx

set_option Elab.async false
set_option linter.all false
set_option maxRecDepth 100000
set_option maxHeartbeats 4000000
/-! SxJ: comparisons and stores in a suite -/
namespace Sx
open PySem L2
theorem hu64m {k : Nat} {A : Around} {v : Option Value} (h : Room k A) : (A.mark v).units + 64 < cLine := by have := hu64 h; simpa [Around.mark] using this
theorem hu65m {k : Nat} {A : Around} {v : Option Value} (h : Room k A) : (A.mark v).units + 65 < cLine := by have := hu65 h; simpa [Around.mark] using this
section
variable {J : JP} {X : Cx} {W : W4} {a b : Expr} {pos : Pos} {fa fb : Ev EV}
theorem jop2_read {t : R2} {g : EV → EV → Ev EV} (hJ : Stays J) (hi : Imp2 X W t g) {σ : St} {H : Hp} {Q : VK} (h : tJ J (rpE X.K σ) X.K X.mg W (v2 g fa fb) σ H Q) :
    tOp t (fun σ H Q => tJ J (rpE X.K σ) X.K X.mg W fa σ H Q) (fun σ H Q => tJ J (rpE X.K σ) X.K X.mg W fb σ H Q) σ H Q := by
  obtain ⟨r, G, S, j, h⟩ := h
  refine intoJ hJ upE S j A0.self h fun ea r1 x G1 H1 S1 j1 a1 st1 e1 h1 => ?_
  refine intoJ hJ upE S1 j1 a1 h1 fun eb r2 y G2 H2 S2 j2 a2 st2 e2 h2 => ?_
  exact hi _ r2 G2 σ H2 ea eb x y Q S2 a2 (e1.step st2) e2 h2
theorem jt_c {op : CmpOp} {g : EV → EV → Ev EV} (hJ : Stays J) (c : Cmp X W op g) (ha : JE J X W a fa) (hb : JE J X W b fb) (hm : behindInMarks op b = false) : JT J X W (.Compare a [op] [b] pos) (tst (v2 g fa fb)) := by
  obtain ⟨t, ho, hi⟩ := c.ok
  refine ptW (pt_cmpR ho ha hb hm) fun σ H Q ⟨r, G, S, j, h⟩ => ?_
  refine jop2_read hJ hi ?_
  refine intoJ hJ upE S j A0.self h fun ev r1 v G1 H1 S1 j1 a1 st1 e1 h1 => ?_
  unfold boolT at h1
  split at h1
  · exact ⟨_, e1, h1 _ G1 H1 S1 (.refl a1) rfl⟩
  · exact h1.elim
theorem jss_asg {e tg : Expr} {ix : List Nat} {t : Tg} {fe : Ev EV} (hJ : Stays J) (he : JE J X W e fe) (hg : SG X tg ix t) (hs : swapsWithSole [tg] e pos.line X.env = pure false := by rfl) (hw : swappedStores [tg] e X.env = pure none := by rfl)
    (h1 : (assignEach [tg] X.env).map (·.2) = [assign tg X.env] := by rfl) : JSs J X W [.Assign [tg] e pos] (sAsgT t fe) := by
  refine pssW (pss_one (ps_asg he hg hs hw h1)) fun D σ H ⟨r, G, S, j, h⟩ => ?_
  refine intoJS hJ upE S j A0.self h fun ev r1 v G1 H1 S1 j1 a1 st1 e1 h1 => ?_
  cases q : frz ev r1 with
  | bad => rw [bnd_bad q] at h1; exact h1.elim
  | ex c m r' => exact (frz_noex q).elim
  | ok m r2 =>
    rw [bnd_ok q] at h1
    obtain ⟨G2, S2, st2, rp, _⟩ := frz_ok S1 a1 e1.wk q
    refine ⟨r2, G2, m, S2, rp, ?_⟩
    cases q2 : noX (t m) r2 with
    | bad => rw [bnd_bad q2] at h1; exact absurd h1 (fun z => z)
    | ex c m r' => exact (noX_ex q2).elim
    | ok u r3 =>
      rw [bnd_ok q2] at h1
      rw [noX_ok q2]
      exact fun σ3 G3 H3 S3 st3 _ _ => h1 σ3 G3 H3 S3 (st2.trans (st3.mono (st2.allow' a1)))
end
end Sx

set_option Elab.async false
set_option linter.all false
set_option maxRecDepth 100000
set_option maxHeartbeats 4000000
/-! SxP: a, b, c, d, .. = x, y, z, u, ..: four names or more; lists among the values stay the names' own. -/
namespace Sx
open PySem L2
/-- lists that are made one behind the other are as many -/
def Dst (H : Hp) (es : List EV) (vs : List V) : Prop := ∀ (i j : Nat) (xi xj : Cont) (a a' c : Addr), i < j → es[i]? = some (.tmp xi) → es[j]? = some (.tmp xj) → vs[i]? = some (.ref a) → vs[j]? = some (.ref a') → Foot H a xi c → ¬ Foot H a' xj c
abbrev rpD (K : PySem.W.Frag) (σ : St) : RP (List EV) (List V) := fun A r G H evs vs => EvsRep K A r G σ H evs vs ∧ Dst H evs vs
theorem upD {K : PySem.W.Frag} {σ : St} : Up (rpD K σ) := fun _ _ _ _ _ _ _ h x => ⟨EvsRep.imp x.1 h, x.2⟩
def SD (X : Cx) (W : W4) (es : List Expr) (f : Ev (List EV)) : Prop := PA X es fun σ H Q => tG (rpD X.K σ) X.K X.mg W f σ H Q
def stoL : List Nat → List EV → Ev Fl
  | [], [] => ret .nx
  | i :: is, e :: es => bnd (sto i (slotE e)) fun _ => stoL is es
  | _, _ => bad
def settleL : List EV → Ev (List EV)
  | [] => ret []
  | e :: es => bnd (settle e) fun a => bnd (settleL es) fun as => ret (a :: as)
def sParN (is : List Nat) (f : Ev (List EV)) : Ev Fl := bnd f fun es => bnd (settleL es) fun es => stoL is es
def gNames : List Nat → TGs
  | [] => gNil
  | i :: is => gCons (gName i) (gNames is)
theorem evs_at {K : PySem.W.Frag} {A : Addr → Prop} {r : Ro} {G : Hp} {σ : St} {H : Hp} {evs : List EV} {vs : List V} (h : EvsRep K A r G σ H evs vs) : ∀ {k : Nat} {e : EV} {v : V}, evs[k]? = some e → vs[k]? = some v → EvRep K A r G σ H e v := by
  induction h with
  | nil => intro k e v h1 _; simp at h1
  | cons h1 _ ih =>
    intro k e v e1 e2
    cases k with
    | zero => simp at e1 e2; subst e1 e2; exact h1
    | succ k => exact ih (by simpa using e1) (by simpa using e2)
section
variable {X : Cx} {W : W4} {e : Expr} {es : List Expr} {pos : Pos} {fa : Ev EV}
theorem sd_nil : SD X W [] vNil := paW pa_nil fun σ H Q h => by
  obtain ⟨r, G, S, h⟩ := h
  exact h _ G H S (.refl A0.self) ⟨.nil, fun i j xi xj a a' c _ h => by simp at h⟩
theorem sd_cons {fs : Ev (List EV)} (ha : SE X W e fa) (hr : SD X W es fs) (hs : starEach (e :: es) X.env = (false, eval e X.env) :: starEach es X.env := by rfl) : SD X W (e :: es) (vCons fa fs) := by
  refine paW (pa_cons ha hr hs) fun σ H Q ⟨r, G, S, h⟩ => ?_
  refine into upE S A0.self h fun ev r1 v G1 H1 S1 a1 st1 e1 h1 => ?_
  refine into1 (Post (rpD X.K σ) X.K X.mg W (A0 r σ H) r1 G1 σ H1 Q) (fun z => z) (fun _ _ _ z => z) S1 a1 h1 fun evs r2 vs G2 H2 S2 a2 st2 e2 h2 => ?_
  refine h2.rebase (st2.mono a1) _ G2 H2 S2 (.refl a2) ⟨.cons (e1.step st2) (e2.1.imp a1), ?_⟩
  intro i j xi xj a a' c hij h3 h4 h5 h6 f1 f2
  cases j with
  | zero => omega
  | succ j =>
    cases i with
    | succ i => exact e2.2 i j xi xj a a' c (by omega) (by simpa using h3) (by simpa using h4) (by simpa using h5) (by simpa using h6) f1 f2
    | zero =>
      simp at h3 h4 h5 h6
      subst h3 h5
      obtain ⟨a3, e3, x3, al3⟩ := e1
      cases e3
      obtain ⟨a4, e4, x4, al4⟩ := evs_at e2.1 h4 h6
      cases e4
      obtain ⟨_, fo, _⟩ := st2.hold x3 fun c f => (al3 c f).1
      have f1' := (fo c).mp f1
      rcases (al4 c f2).2 with z | z
      · exact (al3 c f1').1 z
      · obtain ⟨o, e⟩ := x3.2.dom f1'
        rw [e] at z; cases z
theorem post_settleL {K : PySem.W.Frag} {mg : Str → Option Value} {A : Addr → Prop} {σ : St} {H : Hp} {D : Ends} : ∀ (evs : List EV) (vs : List V) (r : Ro) (G : Hp) (k : List EV → Ev Fl), Sim K r G σ H → (∀ b, A0 r σ H b → A b) → EvsRep K A r G σ H evs vs → PostS K mg W A r G σ H D (bnd (settleL evs) k r) →
    ∃ es2 r' G', Sim K r' G' σ H ∧ (∀ b, A0 r' σ H b → A b) ∧ Step (A0 r σ H) r G σ H r' G' σ H ∧ EvsRep K A r' G' σ H es2 vs ∧ (∀ e ∈ es2, ∀ j, e ≠ .bor j) ∧ PostS K mg W A r' G' σ H D (k es2 r') ∧ ∀ (i : Nat) xs, es2[i]? = some (.tmp xs) → evs[i]? = some (.tmp xs)
  | [], _, r, G, k, S, hA, .nil, p => ⟨[], r, G, S, hA, .refl A0.self, .nil, (by intro _ z; cases z), p, (by intro i xs z; simp at z)⟩
  | e :: es, v :: vs, r, G, k, S, hA, .cons e1 e2, p => by
    have p : PostS K mg W A r G σ H D (bnd (settle e) (fun a => bnd (settleL es) fun as => k (a :: as)) r) := by
      have : bnd (settleL (e :: es)) k r = bnd (settle e) (fun a => bnd (settleL es) fun as => k (a :: as)) r := by
        show bnd (bnd (settle e) fun a => bnd (settleL es) fun as => ret (a :: as)) k r = _
        unfold bnd
        cases settle e r with
        | bad => rfl
        | ex c m r' => rfl
        | ok a r' =>
          dsimp only
          cases settleL es r' with
          | bad => rfl
          | ex c m r2 => rfl
          | ok as r2 => rfl
      rwa [this] at p
    obtain ⟨a, r1, G1, S1, a1, st1, r1', n1, p1, q1⟩ := post_settle S hA e1 p
    obtain ⟨es2, r2, G2, S2, a2, st2, r2', n2, p2, q2⟩ := post_settleL es vs r1 G1 (fun as => k (a :: as)) S1 a1 (EvsRep.step e2 st1) p1
    refine ⟨a :: es2, r2, G2, S2, a2, st1.trans (st2.mono (st1.allow A0.self)), .cons (r1'.step st2) r2', ?_, p2, ?_⟩
    · intro e he
      rcases List.mem_cons.mp he with z | z
      · subst z; exact n1
      · exact n2 e z
    · intro i xs h
      cases i with
      | zero => simp at h ⊢; exact q1 xs h
      | succ i => simpa using q2 i xs (by simpa using h)
theorem stoL_ok {K : PySem.W.Frag} {mg : Str → Option Value} {A : Addr → Prop} {H : Hp} {D : Ends} {G : Hp} : ∀ (is : List Nat) (evs : List EV) (vs : List V) (r : Ro) (σ : St), Sim K r G σ H → (∀ b, A0 r σ H b → A b) → EvsRep K A r G σ H evs vs → Dst H evs vs → (∀ e ∈ evs, ∀ j, e ≠ .bor j) → PostS K mg W A r G σ H D (stoL is evs r) → vs.length = is.length ∧ gNames is vs σ H D.nx
  | [], _, _, r, σ, S, hA, .nil, _, _, p => ⟨rfl, rfl, p σ G H S (.refl hA)⟩
  | i :: is, _, _, r, σ, S, hA, .nil, _, _, p => p.elim
  | [], _, _, r, σ, S, hA, .cons _ _, _, _, p => p.elim
  | i :: is, e :: es, v :: vs, r, σ, S, hA, .cons e1 e2, ds, nb, p => by
    obtain ⟨hi, S2, a2, st, p2⟩ := post_sto S hA e1 (nb e (List.mem_cons_self ..)) (show PostS K mg W A r G σ H D (bnd (sto i (slotE e)) (fun _ => stoL is es) r) from p)
    have go : ∀ (es : List EV) (vs : List V), EvsRep K A r G σ H es vs → (∀ e' ∈ es, ∀ j, e' ≠ .bor j) → (∀ (k : Nat) xs ys a a' c, e = .tmp xs → v = .ref a → es[k]? = some (.tmp ys) → vs[k]? = some (.ref a') → Foot H a xs c → ¬ Foot H a' ys c) → EvsRep K A (r.set i (slotE e)) G (σ.set i (some v)) H es vs := fun es vs h => by
      induction h with
      | nil => exact fun _ _ => .nil
      | @cons e' es' v' vs' h1 h2 ih =>
        intro nb' dd
        refine .cons (EvRep.store e1 h1 (nb e (List.mem_cons_self ..)) (nb' e' (List.mem_cons_self ..)) hi S.len fun c ⟨a, b, z1, z2, z3⟩ ⟨a', b', y1, y2, y3⟩ => ?_) (ih (fun x hx => nb' x (List.mem_cons_of_mem _ hx)) fun k xs ys a a' c z1 z2 z3 z4 => ?_)
        · subst y2 y1
          exact dd 0 b b' a a' c z2 z1 rfl rfl z3 y3
        · exact dd (k + 1) xs ys a a' c z1 z2 (by simpa using z3) (by simpa using z4)
    obtain ⟨l, g⟩ := stoL_ok is es vs (r.set i (slotE e)) (σ.set i (some v)) S2 a2 (go es vs e2 (fun x hx => nb x (List.mem_cons_of_mem _ hx)) fun k xs ys a a' c z1 z0 z2 z3 => by
        subst z1 z0
        exact ds 0 (k + 1) xs ys a a' c (by omega) rfl (by simpa using z2) rfl (by simpa using z3))
      (fun i' j xi xj a a' c hij h3 h4 h5 h6 => ds (i' + 1) (j + 1) xi xj a a' c (by omega) (by simpa using h3) (by simpa using h4) (by simpa using h5) (by simpa using h6)) (fun x hx => nb x (List.mem_cons_of_mem _ hx)) p2
    exact ⟨by simp [l], v, vs, rfl, g⟩
theorem ss_parN {is : List Nat} {ts : List Expr} {n : Nat} {kt : Nat} {x1} {pt pt2 : Pos} {f : Ev (List EV)} (hc : X.calm = true) (hg : PGs X ts (gNames is)) (ha : SD X W es f) (hl : is.length = n := by rfl) (hle : is.length ≤ 1000 := by decide)
    (hn : (assignEach ts X.env).length = n := by rfl) (hst : (assignEach ts X.env).findIdx? (·.1) = none := by rfl)
    (hs : swapsWithSole [.Tuple ts kt pt] (.Tuple es x1 pt2) pos.line X.env = pure false := by rfl) (hw : swappedStores [.Tuple ts kt pt] (.Tuple es x1 pt2) X.env = pure none := by rfl)
    (h1 : (assignEach [.Tuple ts kt pt] X.env).map (·.2) = [assign (.Tuple ts kt pt) X.env] := by rfl) :
    SS X W (.Assign [.Tuple ts kt pt] (.Tuple es x1 pt2) pos) (sParN is f) := by
  refine psW (ps_asg (pe_tup ha) (pg_tup hc hg hn hst) hs hw h1) fun D σ H ⟨r, G, S, h⟩ => ?_
  refine intoS upD S A0.self h fun evs r1 vs G1 H1 S1 a1 st1 e1 h1 => ?_
  obtain ⟨es2, r2, G2, S2, a2, st2, e2, nb, p2, q2⟩ := post_settleL evs vs r1 G1 (fun es => stoL is es) S1 a1 e1.1 h1
  have ds : Dst H1 es2 vs := fun i j xi xj a a' c hij h1 h2 h3 h4 => e1.2 i j xi xj a a' c hij (q2 i xi h1) (q2 j xj h2) h3 h4
  have l := (stoL_ok is es2 vs r2 σ S2 a2 e2 ds nb p2).1
  refine ⟨by rw [l]; exact small hle, fun p hp => ?_⟩
  have st3 := step_fresh (o := .tup vs) S2 a2 hp
  obtain ⟨_, g⟩ := stoL_ok is es2 vs r2 σ (S2.fresh hp) (st3.allow' a2) (EvsRep.step e2 (step_fresh (o := .tup vs) S2 A0.self hp)) (fun i j xi xj a a' c hij h1 h2 h3 h4 f1 f2 => by
    have w1 := evs_at e2 h1 h3
    have w2 := evs_at e2 h2 h4
    obtain ⟨b1, z1, x1, _⟩ := w1
    obtain ⟨b2, z2, x2, _⟩ := w2
    cases z1
    cases z2
    exact ds i j xi xj a a' c hij h1 h2 h3 h4 (((x1.2.up hp).2 c).mp f1) (((x2.2.up hp).2 c).mp f2)) nb (p2.rebase st3)
  exact ⟨p, vs, rfl, .inl (.of upd_same), l.trans hl, g⟩
theorem ss_par3D {a b c : Expr} {i j l : Nat} {x y z : Str} {px py pz pt : Pos} {kt k2 pt2} {f : Ev (List EV)} (hc : X.calm = true) (hN : X.N.Nodup) (hi : X.N[i]? = some x) (hj : X.N[j]? = some y) (hl : X.N[l]? = some z) (hij : i ≠ j) (hil : i ≠ l) (hjl : j ≠ l)
    (hx : X.env.scope.names.lookup x = some .local) (hy : X.env.scope.names.lookup y = some .local) (hz : X.env.scope.names.lookup z = some .local) (ha : SD X W [a, b, c] f)
    (hw : swappedStores [.Tuple [.Name x px, .Name y py, .Name z pz] kt pt] (.Tuple [a, b, c] k2 pt2) X.env = pure (some [x, y, z]))
    (hs : swapsWithSole [.Tuple [.Name x px, .Name y py, .Name z pz] kt pt] (.Tuple [a, b, c] k2 pt2) pos.line X.env = pure false := by rfl) :
    SS X W (.Assign [.Tuple [.Name x px, .Name y py, .Name z pz] kt pt] (.Tuple [a, b, c] k2 pt2) pos) (sParN [i, j, l] f) := by
  refine psW (ps_par3 hc hN hi hj hl hij hil hjl hx hy hz ha hw hs) fun D σ H ⟨r, G, S, h⟩ => ?_
  refine intoS upD S A0.self h fun evs r1 vs G1 H1 S1 a1 st1 e1 h1 => ?_
  obtain ⟨es2, r2, G2, S2, a2, st2, e2, nb, p2, q2⟩ := post_settleL evs vs r1 G1 (fun es => stoL [i, j, l] es) S1 a1 e1.1 h1
  have ds : Dst H1 es2 vs := fun i j xi xj a a' c hij h1 h2 h3 h4 => e1.2 i j xi xj a a' c hij (q2 i xi h1) (q2 j xj h2) h3 h4
  obtain ⟨_, va, t1, rfl, vb, t2, rfl, vc, t3, rfl, rfl, q⟩ := stoL_ok [i, j, l] es2 vs r2 σ S2 a2 e2 ds nb p2
  exact ⟨va, vb, vc, rfl, q⟩
end
end Sx

set_option Elab.async false
set_option linter.all false
set_option maxRecDepth 100000
set_option maxHeartbeats 4000000
/-! SxI: x.insert(i, e), x.pop(i). -/
namespace Sx
open PySem L2
def gIns (n : Int) (m : M) : List M → Option (List M × M) := fun xs => if xs.length < big ∧ 0 ≤ n ∧ n < 2 ^ 63 then some (xs.take n.toNat ++ [m] ++ xs.drop n.toNat, .non) else none
def insK (i : Nat) (a : EV) (m : M) : Ev EV := match intOf a with
  | some n => chg i (gIns n m)
  | none => bad
def vIns (i : Nat) (f g : Ev EV) : Ev EV := chk i (bnd f fun a => bnd g fun e => bnd (frz e) fun m => insK i a m)
section
variable {X : Cx} {W : W4} {a b : Expr} {fa fb : Ev EV} {i : Nat} {x : Str} {px apos cpos : Pos}
theorem se_insert (ha : SE X W a fa) (hb : SE X W b fb) (hN : X.N[i]? = some x := by rfl) (hv : Vis X.env.scope x := by first | exact Or.inl rfl | exact Or.inr (Or.inl rfl) | exact Or.inr (Or.inr rfl)) (hd : (x == ("__debug__" : Str)) = false := by decide) (hcd : (x == ("__classdict__" : Str)) = false := by decide)
    (hbase : attributeBase (.Name x px) "insert" X.env (eval (.Name x px) X.env) = eval (.Name x px) X.env := by rfl)
    (hfew : ((backTo cpos (starEach [a, b] X.env)).all (fun x => !x.1) && (backToKw cpos (keywordEach [] X.env)).all (fun x => x.1.isSome)
      && decide (([a, b] : List Expr).length + ([] : List Keyword).length + (if ([] : List Keyword).isEmpty then 0 else 1) < 30)) = true := by rfl)
    (hline : (apos.endLine == cpos.line) = true := by rfl) (hs : starEach [a, b] X.env = (false, eval a X.env) :: starEach [b] X.env := by rfl) (hs2 : starEach [b] X.env = (false, eval b X.env) :: starEach [] X.env := by rfl) (hpl : (backTo cpos (starEach [b] X.env)).any (·.1) = false := by rfl) :
    SE X W (.Call (.Attribute (.Name x px) "insert" apos) [a, b] [] cpos) (vIns i fa fb) := by
  refine peW (pe_bm PySem.F.plainAttrs_list PySem.F.slot_list_insert PySem.F.type_list_insert mt_insert (pe_var hN hv hd hcd) (pa_cons ha (pa_cons hb pa_nil hs2) hs) hbase hfew hline hs hpl) fun σ H Q ⟨r, G, S, h⟩ => ?_
  obtain ⟨c, vs0, sv, hc0, h⟩ := chk_ok S h
  refine ⟨_, sv, .inl ⟨rfl, _, .of hc0⟩, ?_⟩
  refine into upE S A0.self h fun ea r1 va G1 H1 S1 a1 st1 e1 h1 => ?_
  refine into upE S1 a1 h1 fun eb r2 vb G2 H2 S2 a2 st2 e2 h2 => ?_
  obtain ⟨m, r3, G3, S3, a3, rp, h3, st3, _⟩ := post_frz S2 a2 e2.wk h2
  unfold insK at h3
  cases q0 : intOf ea with
  | none => rw [q0] at h3; exact h3.elim
  | some n =>
    rw [q0] at h3
    obtain rfl := int_ok e1 q0
    obtain ⟨vs, xs, ys, m2, hc, rl, q, fin⟩ := chg_ok S3 a3 sv h3
    unfold gIns at q
    by_cases z : xs.length < big ∧ 0 ≤ n ∧ n < 2 ^ 63
    · rw [if_pos z] at q
      cases q
      exact ⟨c, vs, n, vb, rfl, rfl, hc, by rw [← rl.len]; exact z.1, z.2.1, z.2.2, fin _ _ (((rl.tk _).app (.one rp)).app (rl.dp _)) rfl⟩
    · rw [if_neg z] at q; cases q
theorem RepL.er {K : PySem.W.Frag} {G : Hp} {ms : List M} {vs : List V} (h : RepL K G ms vs) (i : Nat) : RepL K G (ms.eraseIdx i) (vs.eraseIdx i) := by
  rw [List.eraseIdx_eq_take_drop_succ, List.eraseIdx_eq_take_drop_succ]
  exact (h.tk _).app (h.dp _)
def gPopI (n : Int) : List M → Option (List M × M) := fun xs => if 0 ≤ n ∧ n < 2 ^ 63 then match xs[n.toNat]? with
  | some m => some (xs.eraseIdx n.toNat, m)
  | none => none else none
def popK (i : Nat) (a : EV) : Ev EV := match intOf a with
  | some n => chg i (gPopI n)
  | none => bad
def vPopI (i : Nat) (f : Ev EV) : Ev EV := chk i (bnd f fun a => popK i a)
theorem se_popI (ha : SE X W a fa) (hN : X.N[i]? = some x := by rfl) (hv : Vis X.env.scope x := by first | exact Or.inl rfl | exact Or.inr (Or.inl rfl) | exact Or.inr (Or.inr rfl)) (hd : (x == ("__debug__" : Str)) = false := by decide) (hcd : (x == ("__classdict__" : Str)) = false := by decide)
    (hbase : attributeBase (.Name x px) "pop" X.env (eval (.Name x px) X.env) = eval (.Name x px) X.env := by rfl)
    (hfew : ((backTo cpos (starEach [a] X.env)).all (fun x => !x.1) && (backToKw cpos (keywordEach [] X.env)).all (fun x => x.1.isSome)
      && decide (([a] : List Expr).length + ([] : List Keyword).length + (if ([] : List Keyword).isEmpty then 0 else 1) < 30)) = true := by rfl)
    (hline : (apos.endLine == cpos.line) = true := by rfl) (hs : starEach [a] X.env = (false, eval a X.env) :: starEach [] X.env := by rfl) (hpl : (backTo cpos (starEach [] X.env)).any (·.1) = false := by rfl) :
    SE X W (.Call (.Attribute (.Name x px) "pop" apos) [a] [] cpos) (vPopI i fa) := by
  refine peW (pe_bm PySem.F.plainAttrs_list PySem.F.slot_list_pop PySem.F.type_list_pop mt_popAt (pe_var hN hv hd hcd) (pa_cons ha pa_nil hs) hbase hfew hline hs hpl) fun σ H Q ⟨r, G, S, h⟩ => ?_
  obtain ⟨c, vs0, sv, hc0, h⟩ := chk_ok S h
  refine ⟨_, sv, .inl ⟨rfl, _, .of hc0⟩, ?_⟩
  refine into upE S A0.self h fun ea r1 va G1 H1 S1 a1 st1 e1 h1 => ?_
  unfold popK at h1
  cases q0 : intOf ea with
  | none => rw [q0] at h1; exact h1.elim
  | some n =>
    rw [q0] at h1
    obtain rfl := int_ok e1 q0
    obtain ⟨vs, xs, ys, m2, hc, rl, q, fin⟩ := chg_ok S1 a1 sv h1
    unfold gPopI at q
    by_cases z : 0 ≤ n ∧ n < 2 ^ 63
    · rw [if_pos z] at q
      cases q2 : xs[n.toNat]? with
      | none => rw [q2] at q; cases q
      | some m =>
        rw [q2] at q
        cases q
        obtain ⟨v, hv, rp⟩ := rl.at q2
        have hlt : n.toNat < vs.length := (List.getElem?_eq_some_iff.mp hv).1
        have e : seqIndex? n vs.length = some n.toNat := by
          unfold seqIndex?
          have h1 : ¬ n < 0 := by omega
          have h2 : n < (vs.length : Int) := by omega
          simp [h1, h2, z.1]
        exact ⟨c, vs, n, n.toNat, v, rfl, rfl, hc, by omega, z.2, e, hv, fin _ _ (rl.er _) rp⟩
    · rw [if_neg z] at q; cases q
theorem RepL.rv {K : PySem.W.Frag} {G : Hp} : ∀ {ms : List M} {vs : List V}, RepL K G ms vs → RepL K G ms.reverse vs.reverse
  | [], vs, h => by cases h; rfl
  | m :: ms, vs, h => by
    obtain ⟨v, vr, rfl, rp, rl⟩ := h
    rw [List.reverse_cons, List.reverse_cons]
    exact (RepL.rv rl).app (.one rp)
def gRev : List M → Option (List M × M) := fun xs => some (xs.reverse, .non)
def vRev (i : Nat) : Ev EV := chk i (chg i gRev)
theorem se_reverse (hN : X.N[i]? = some x := by rfl) (hv : Vis X.env.scope x := by first | exact Or.inl rfl | exact Or.inr (Or.inl rfl) | exact Or.inr (Or.inr rfl)) (hd : (x == ("__debug__" : Str)) = false := by decide) (hcd : (x == ("__classdict__" : Str)) = false := by decide)
    (hbase : attributeBase (.Name x px) "reverse" X.env (eval (.Name x px) X.env) = eval (.Name x px) X.env := by rfl) (hline : (apos.endLine == cpos.line) = true := by rfl) :
    SE X W (.Call (.Attribute (.Name x px) "reverse" apos) [] [] cpos) (vRev i) := by
  refine peW (pe_bm0 PySem.F.plainAttrs_list PySem.F.slot_list_reverse PySem.F.type_list_reverse mt_reverse (pe_var hN hv hd hcd) hbase hline) fun σ H Q ⟨r, G, S, h⟩ => ?_
  obtain ⟨c, vs0, sv, hc0, h⟩ := chk_ok S h
  refine ⟨_, sv, .inl ⟨rfl, _, .of hc0⟩, ?_⟩
  obtain ⟨vs, xs, ys, m2, hc, rl, q, fin⟩ := chg_ok S A0.self sv h
  cases q
  exact ⟨c, vs, rfl, rfl, hc, fin _ _ rl.rv rfl⟩
end
end Sx
namespace Sx
open PySem L2
/-! ### two keyword arguments in the other order -/
def swap2 {α : Type} : List α → List α
  | [a, b] => [b, a]
  | l => l
structure CalK2 (P : Program) (w : World) (K : PySem.W.Frag) (mg : Str → Option Value) (base : Heap) (k : Nat) (x : Str) (ks : List Str) (m : Fn) : Prop where
  ex : ∃ (f : Addr) (fd : FuncData) (ps : List Str), FnOk P w K mg base (L2.CX P w) k f fd ps (spF K mg 2 m) ∧ mg x = some (.ref f) ∧ PySem.W.keepIn K (.ref f) = true ∧ ∀ (s : Shared) (ws : List Value), ws.length = 2 → BindsTo s fd ⟨[], ks.zip ws⟩ (ps.zip (swap2 ws))
structure DfK2 (K : PySem.W.Frag) (mg : Str → Option Value) (x : Str) (st : Stmt) (ps ks : List Str) : Prop where
  ex : ∃ (f : Addr) (fd : FuncData), Fun K x x st f fd ∧ mg x = some (.ref f) ∧ ∀ (s : Shared) (ws : List Value), ws.length = 2 → BindsTo s fd ⟨[], ks.zip ws⟩ (ps.zip (swap2 ws))
theorem calk2_mk {P : Program} {w : World} {K : PySem.W.Frag} {mg : Str → Option Value} {base : Heap} {x : Str} {st : Stmt} {ps : List Str} {k : Nat} {m : Fn} {ks : List Str} (D : DfK2 K mg x st ps ks) (o : ∀ f fd, Fun K x x st f fd → FnOk P w K mg base (L2.CX P w) k f fd ps (spF K mg 2 m)) : CalK2 P w K mg base k x ks m := by
  obtain ⟨f, fd, F, hm, hb⟩ := D.ex
  exact ⟨f, fd, ps, o f fd F, hm, F.kp, hb⟩
def vSwap (g : Ev (List EV)) : Ev (List EV) := bnd g fun es => ret (swap2 es)
section
variable {X : Cx} {W : W4} {x : Str} {m : Fn} {k j : Nat} {p pos : Pos}
theorem se_callK2 {ks : List Str} {kws : List Keyword} {g : Ev (List EV)} (mds : List Md) (c : CalK2 X.prog X.w X.K X.mg X.base k x ks m) (tk : Takes X W) (hr : Room j X.A) (ha : PK X kws (tL X.K X.mg W g)) (hln : 2 = ks.length := by rfl) (hk : k ≤ j := by decide) (hn : mds.length = 2 := by rfl) (hg : Gl X x := by rfl)
    (hall : (backToKw pos (keywordEach kws X.env)).all (·.1.isSome) = true := by rfl) (hks : (backToKw pos (keywordEach kws X.env)).filterMap (·.1) = ks := by rfl) (hdb : (x == ("__debug__" : Str)) = false := by decide)
    (hpl : ((backTo pos (starEach [] X.env)).any (·.1) || (backToKw pos (keywordEach kws X.env)).any (·.1.isNone)) = false := by rfl) :
    SE X W (.Call (.Name x p) [] kws pos) (vCall mds m (vSwap g)) := by
  obtain ⟨fa, fd, ps, F, hm, kp, b⟩ := c.ex
  refine peW (t := fun σ H Q => tL X.K X.mg W g σ H fun zs H1 => zs.length = 2 ∧ spF X.K X.mg 2 m (swap2 zs) H1 Q (WE W σ)) ⟨fun pins s σ H Q I h => ?_⟩ fun σ H Q ⟨r, G, S, h⟩ => ?_
  · refine wpAny_Call_Name_kw (ld_glob I hg hm ?_ hdb)
    refine PySem.W.callWith_KW0 (h₀ := X.base) I.ok.mod.kin kp hall (thn (ha.run pos pins s σ H _ I h) fun ws s1 ⟨zs, H1, I1, rz, l1, q⟩ => ⟨I1.kIn, ?_⟩) hpl
    rw [hks]
    have lw : ws.length = 2 := by rw [← rz.length, l1]
    have rz2 : Vals (swap2 zs) (swap2 ws) := by
      cases rz with
      | nil => cases l1
      | cons r1 t1 =>
        cases t1 with
        | nil => cases l1
        | cons r2 t2 =>
          cases t2 with
          | nil => exact .cons r2 (.cons r1 .nil)
          | cons _ _ => simp at l1
    refine wpAny_call (codeAny_mono (F.run X.A X.stack s1 H1 ⟨[], ks.zip ws⟩ (swap2 ws) (swap2 zs) Q (WE W σ) (hr.mono hk) I1.env0 (b s1 ws lw) rz2 q) fun r s' hq => ?_)
    cases r with
    | error u => exact passAt tk σ pins H1 s1 u s' I1 hq
    | ok fl =>
      cases fl with
      | ret u => exact I1.after hq
      | next => exact hq.elim
      | brk => exact hq.elim
      | cont => exact hq.elim
  · have h : Post (rpE X.K σ) X.K X.mg W (A0 r σ H) r G σ H Q (bnd g (fun es => vCall mds m (ret (swap2 es))) r) := by
      have e : bnd g (fun es => vCall mds m (ret (swap2 es))) r = vCall mds m (vSwap g) r := by
        show _ = bnd (bnd g fun es => ret (swap2 es)) _ r
        unfold bnd
        cases g r with
        | bad => rfl
        | ex c m r' => rfl
        | ok a r' => rfl
      rw [e]
      exact h
    refine into upL S A0.self h fun evs r1 vs G1 H1 S1 a1 st1 e1 h1 => ?_
    have e2 : EvsRep X.K (A0 r σ H) r1 G1 σ H1 (swap2 evs) (swap2 vs) := by
      cases e1 with
      | nil => exact .nil
      | cons r1 t1 =>
        cases t1 with
        | nil => exact .cons r1 .nil
        | cons r2 t2 =>
          cases t2 with
          | nil => exact .cons r2 (.cons r1 .nil)
          | cons r3 t3 => exact .cons r1 (.cons r2 (.cons r3 t3))
    have q := call_read hn S1 a1 e2.wk h1
    obtain ⟨args, G2, l, S2, z⟩ := id q
    have l2 : (swap2 vs).length = 2 := by rw [← l, S2.len, List.length_map]
    refine ⟨?_, q⟩
    cases vs with
    | nil => cases l2
    | cons a vs => cases vs with
      | nil => cases l2
      | cons b vs => cases vs with
        | nil => rfl
        | cons c vs => exact l2
end
end Sx

set_option Elab.async false
set_option linter.all false
set_option maxRecDepth 100000
set_option maxHeartbeats 4000000
/-! SxL: lists of own lists: comprehensions. -/
namespace Sx
open PySem L2
def ownL : EV → Ev (List M)
  | .tmp (.l xs) => ret xs
  | _ => bad
theorem ownL_ok {ev : EV} {xs : List M} {r r' : Ro} (e : ownL ev r = .ok xs r') : ev = .tmp (.l xs) ∧ r' = r := by
  unfold ownL at e
  split at e
  · cases e; exact ⟨rfl, rfl⟩
  · cases e
theorem ownL_noex {ev : EV} {c : String} {m : M} {r r' : Ro} : ownL ev r ≠ .ex c m r' := fun e => by
  unfold ownL at e
  split at e <;> cases e
def lcFL (vs : List Nat) (t : Tg) (c : Ev Bool) (e : Ev EV) : List M → Ev (List (List M))
  | [] => bnd (wipeE vs) fun _ => ret []
  | m :: ms => bnd (wipeE vs) fun _ => bnd (noX (t m)) fun _ => bnd (noX c) fun b => if b = true then bnd (noX e) (fun ev => bnd (ownL ev) fun x => bnd (lcFL vs t c e ms) fun xs => ret (x :: xs)) else lcFL vs t c e ms
def lcXL (vs : List Nat) (t : Tg) (c : Ev Bool) (e : Ev EV) (ms : List M) : Ev EV := fun r0 =>
  if vs.all (fun j => plainS (get r0 j)) = true ∧ ms.length ≤ big then match lcFL vs t c e ms r0 with
    | .ok xs r => .ok (.tmp (.ll xs)) (restR vs r0 r)
    | _ => .bad
  else .bad
/-- a comprehension whose items are lists of its own -/
def vLcL (vs : List Nat) (src : Ev (List M × List Src)) (t : Tg) (c : Ev Bool) (e : Ev EV) : Ev EV := bnd src fun p => brk p.2 (lcXL vs t c e p.1)
section
variable {K : PySem.W.Frag} {A A' : Addr → Prop} {r r1 r2 : Ro} {G G1 G2 : Hp} {σ σ1 σ2 : St} {H H1 H2 : Hp} {mg : Str → Option Value} {W : W4} {vs : List Nat}
theorem lcFL_wipe {t : Tg} {c : Ev Bool} {e : Ev EV} {ms : List M} (hc : vs.all (fun j => canSet (get r j)) = true) : lcFL vs t c e ms (wipeR vs r) = lcFL vs t c e ms r := by
  have e1 : wipeE vs r = .ok () (wipeR vs r) := if_pos hc
  have hc2 : vs.all (fun j => canSet (get (wipeR vs r) j)) = true := List.all_eq_true.mpr fun j hj => by rw [get_wipe, if_pos hj]; rfl
  have ww : wipeR vs (wipeR vs r) = wipeR vs r := by
    apply List.ext_getElem (by rw [wipeR_len])
    intro j h1 h2
    have g : ∀ {r : Ro} (h : j < r.length), r[j] = get r j := fun {r} h => by
      unfold get
      rw [List.getD_eq_getElem?_getD, List.getElem?_eq_getElem h]
      rfl
    rw [g h1, g h2, get_wipe, get_wipe]
    by_cases m : j ∈ vs
    · rw [if_pos m, if_pos m]
    · rw [if_neg m]
  have e2 : wipeE vs (wipeR vs r) = .ok () (wipeR vs r) := by
    have z : wipeE vs (wipeR vs r) = .ok () (wipeR vs (wipeR vs r)) := if_pos hc2
    rw [z, ww]
  cases ms with
  | nil =>
    show bnd (wipeE vs) _ _ = bnd (wipeE vs) _ _
    rw [bnd_ok e1, bnd_ok e2]
  | cons m ms =>
    show bnd (wipeE vs) _ _ = bnd (wipeE vs) _ _
    rw [bnd_ok e1, bnd_ok e2]
/-- lists that are being gathered at D -/
def Held (K : PySem.W.Frag) (A : Addr → Prop) (r : Ro) (G : Hp) (σ : St) (H : Hp) (D : Addr) (acc : List (List M)) : Prop := Bx K G H D (.ll acc) ∧ ∀ c, Foot H D (.ll acc) c → ¬ Own r σ H c ∧ A c
theorem Held.step {D : Addr} {acc : List (List M)} (h : Held K A r G σ H D acc) (s : Step (A0 r σ H) r G σ H r1 G1 σ1 H1) : Held K A r1 G1 σ1 H1 D acc := by
  obtain ⟨x, f, n⟩ := s.hold h.1 fun c f => (h.2 c f).1
  exact ⟨x, fun c z => ⟨n c ((f c).mp z), (h.2 c ((f c).mp z)).2⟩⟩
theorem Held.less {D : Addr} {acc : List (List M)} (h : Held K A r G σ H D acc) (s : ∀ b, Own r1 σ1 H b → Own r σ H b) : Held K A r1 G σ1 H D acc := ⟨h.1, fun c f => ⟨fun z => (h.2 c f).1 (s c z), (h.2 c f).2⟩⟩
theorem Held.refs {D : Addr} {acc : List (List M)} (h : Held K A r G σ H D acc) : ∃ bs : List Addr, H D = some (.lst (bs.map V.ref)) ∧ bs.length = acc.length ∧ (D :: bs).Nodup ∧ Rows K G H acc bs := by
  obtain ⟨bs, e, nd, rr⟩ := h.1.2
  exact ⟨bs, e, rr.len, nd, rr⟩
theorem foot_new {D c : Addr} (f : Foot (upd H D (.lst [])) D (.ll []) c) : c = D := by
  rcases f with f | ⟨vs, e, m⟩
  · exact f
  · rw [upd_same] at e; cases e; cases m
theorem held_new {D : Addr} (g : G D = none) (n : ¬ Own r σ (upd H D (.lst [])) D) (a : A D) : Held K A r G σ (upd H D (.lst [])) D [] :=
  ⟨⟨fun c f => by rw [foot_new f]; exact g, [], upd_same, by simp, rfl⟩, fun c f => by rw [foot_new f]; exact ⟨n, a⟩⟩
theorem rows_app : ∀ {xss : List (List M)} {bs : List Addr} {xs : List M} {b : Addr} {vs : List V}, Rows K G H xss bs → H b = some (.lst vs) → RepL K G xs vs → Rows K G H (xss ++ [xs]) (bs ++ [b])
  | [], _, _, b, vs, h, h1, h2 => by cases h; exact ⟨b, [], vs, rfl, h1, h2, rfl⟩
  | _ :: _, _, _, _, _, ⟨b, br, vs, e, h, rl, r⟩, h1, h2 => by subst e; exact ⟨b, br ++ _, vs, rfl, h, rl, rows_app r h1 h2⟩
theorem Held.more {D a6 : Addr} {acc : List (List M)} {bs : List Addr} {xm : List M} (h : Held K A r G σ H D acc) (S : Sim K r G σ H) (hb : H D = some (.lst (bs.map V.ref)) ∧ bs.length = acc.length ∧ (D :: bs).Nodup ∧ Rows K G H acc bs)
    (n6 : ¬ Foot H D (.ll acc) a6) (x6 : Bx K G H a6 (.l xm)) (no : ¬ Own r σ H a6) (al : A a6) : Held K A r G σ (upd H D (.lst (bs.map V.ref ++ [.ref a6]))) D (acc ++ [xm]) := by
  obtain ⟨e, _, nd, rr⟩ := hb
  have nD := (h.2 D Foot.self).1
  have mem : ∀ c ∈ bs, Foot H D (.ll acc) c := fun c m => .inr ⟨_, e, List.mem_map_of_mem m⟩
  have a6D : a6 ≠ D := fun z => n6 (z ▸ Foot.self)
  have a6b : a6 ∉ bs := fun z => n6 (mem a6 z)
  have nin : D ∉ bs := (List.nodup_cons.mp nd).1
  have rr2 : Rows K G (upd H D (.lst (bs.map V.ref ++ [.ref a6]))) acc bs := rr.keep (Same.refl _) fun c m o q => by
    have ne : c ≠ D := fun z => nin (by rw [← z]; exact m)
    rw [upd_ne ne]; exact q
  obtain ⟨vs, hv, rv⟩ := x6.2
  have foot : ∀ c, Foot (upd H D (.lst (bs.map V.ref ++ [.ref a6]))) D (.ll (acc ++ [xm])) c → Foot H D (.ll acc) c ∨ c = a6 := fun c f => by
    rcases f with f | ⟨ws, e2, m⟩
    · exact .inl (.inl f)
    · rw [upd_same] at e2
      cases e2
      rcases List.mem_append.mp m with m | m
      · exact .inl (.inr ⟨_, e, m⟩)
      · have := List.mem_singleton.mp m
        cases this
        exact .inr rfl
  refine ⟨⟨fun c f => ?_, bs ++ [a6], ?_, ?_, ?_⟩, fun c f => ⟨fun z => ?_, ?_⟩⟩
  · rcases foot c f with z | z
    · exact h.1.1 c z
    · rw [z]; exact x6.1 a6 rfl
  · rw [upd_same, List.map_append]; rfl
  · rw [← List.cons_append, List.nodup_append]
    refine ⟨nd, by simp, fun x hx y hy q => ?_⟩
    have hy : y = a6 := by simpa using hy
    subst hy
    subst q
    rcases List.mem_cons.mp hx with z | z
    · exact a6D z
    · exact a6b z
  · exact rows_app rr2 (by rw [upd_ne a6D]; exact hv) rv
  · have z := S.own_beside nD z
    rcases foot c f with q | q
    · exact (h.2 c q).1 z
    · rw [q] at z; exact no z
  · rcases foot c f with q | q
    · exact (h.2 c q).2
    · rw [q]; exact al
end
section
variable {X : Cx} {W : W4} {elt tg iter : Expr} {ifs : List Expr} {scope : Scope} {own : List (Str × Nat)} {pos : Pos} {src : Ev (List M × List Src)} {t : Tg} {ix : List Nat} {c : Ev Bool} {e : Ev EV}
theorem lc_readL {vs : List Nat} {σ : St} {H : Hp} {Q : VK} (hix : ∀ j ∈ ix, j ∈ vs) (h : tE X.K X.mg W (vLcL vs src t c e) σ H Q) :
    tLc (fun σ H Q => ∃ r G, Sim X.K r G σ H ∧ PostI X.K X.mg W r G σ H Q (src r)) (tgR X.K ix t) (tB X.K X.mg W0 c) (tE X.K X.mg W0 e) vs σ H Q := by
  obtain ⟨r, G, S, h⟩ := h
  refine ⟨r, G, S, ?_⟩
  unfold vLcL at h
  cases q : src r with
  | bad => rw [bnd_bad q] at h; exact h
  | ex c m r' => rw [bnd_ex q] at h; exact h
  | ok p r1 =>
    obtain ⟨ms, ss⟩ := p
    rw [bnd_ok q] at h
    intro J G1 H1 S1 lk a1 wl D hD
    have h1 := brkE lk h
    unfold lcXL at h1
    by_cases c0 : vs.all (fun j => plainS (get r1 j)) = true ∧ ms.length ≤ big
    · rw [if_pos c0] at h1
      obtain ⟨pl, hbig⟩ := c0
      cases q1 : lcFL vs t c e ms r1 with
      | bad => rw [q1] at h1; exact h1.elim
      | ex x m r' => rw [q1] at h1; exact h1.elim
      | ok total rE =>
        rw [q1] at h1
        have cs1 : vs.all (fun j => canSet (get r1 j)) = true := List.all_eq_true.mpr fun j hj => by
          have z := List.all_eq_true.mp pl j hj
          cases q : get r1 j with
          | un => rfl
          | v _ => rfl
          | o _ _ => rw [q] at z; cases z
        have nlock : ∀ j p xs, get r1 j = .o p xs → j ∉ vs := fun j p xs e m => by
          have z := List.all_eq_true.mp pl j m
          rw [e] at z; cases z
        obtain ⟨Sw, ow⟩ := S1.wiped (vs := vs)
        refine ⟨fun i n H' => n = ms.length - i ∧ i ≤ ms.length ∧ ∃ r' G' acc rest, Sim X.K r' G' (wipe σ vs) H' ∧ (∀ j ∈ vs, get r' j = .un) ∧ Step (A0 r σ H) (wipeR vs r1) G1 (wipe σ vs) H1 r' G' (wipe σ vs) H' ∧
          Held X.K (A0 r σ H) r' G' (wipe σ vs) H' D acc ∧ acc.length ≤ i ∧ lcFL vs t c e (ms.drop i) r' = .ok rest rE ∧ acc ++ rest = total,
          ⟨_, rfl, Nat.zero_le _, wipeR vs r1, G1, [], total, Sw.fresh hD, fun j hj => by rw [get_wipe, if_pos hj], step_fresh Sw (fun b z => a1 b (z.imp (ow b) id)) hD, held_new (S1.gnone hD) (fun z => S1.nown hD (ow D ((Sw.own_up hD).mp z))) (a1 D (.inr hD)), Nat.le_refl _, ?_, rfl⟩, ?_⟩
        · rw [List.drop_zero, lcFL_wipe cs1]; exact q1
        rintro i n H' ⟨rfl, hi, r', G', acc, rest, S', un, st, hd, la, ef, et⟩
        have a' : ∀ b, A0 r' (wipe σ vs) H' b → A0 r σ H b := st.allow' fun b z => a1 b (z.imp (ow b) id)
        have lt : Later r1 G1 σ r' G' (wipe σ vs) := ⟨st.grow, fun j xs ej => by
          have m := nlock j _ _ ej
          obtain ⟨e1, xs1, e2, l1⟩ := st.pin j .lock xs (by rw [get_wipe, if_neg m]; exact ej) (fun z => nomatch z)
          exact ⟨wipe_out m, by rw [e2, l1 rfl]⟩⟩
        have cs' : vs.all (fun j => canSet (get r' j)) = true := List.all_eq_true.mpr fun j hj => by rw [un j hj]; rfl
        have ew : wipeE vs r' = .ok () (wipeR vs r') := if_pos cs'
        obtain ⟨w1, w2⟩ := wl r' G' _ H' S' lt
        by_cases cl : i < ms.length
        · obtain ⟨go, yl⟩ := w1 i cl
          refine .inr ⟨go, fun H2 => i + 1 ≤ ms.length ∧ ∃ r' G' acc rest, Sim X.K r' G' (wipe σ vs) H2 ∧ (∀ j ∈ vs, get r' j = .un) ∧ Step (A0 r σ H) (wipeR vs r1) G1 (wipe σ vs) H1 r' G' (wipe σ vs) H2 ∧
            Held X.K (A0 r σ H) r' G' (wipe σ vs) H2 D acc ∧ acc.length ≤ i + 1 ∧ lcFL vs t c e (ms.drop (i + 1)) r' = .ok rest rE ∧ acc ++ rest = total, fun H2 z => ⟨ms.length - (i + 1), by omega, rfl, z⟩, fun x H2 y => ?_⟩
          obtain ⟨G2, m, S2, st2, em, rp⟩ := yl x H2 y
          have ed : ms.drop i = m :: ms.drop (i + 1) := by
            rw [List.drop_eq_getElem_cons cl]
            congr 1
            rw [List.getElem?_eq_getElem cl] at em
            exact Option.some.inj em
          rw [ed] at ef
          have ef : bnd (wipeE vs) (fun _ => bnd (noX (t m)) fun _ => bnd (noX c) fun b => if b = true then bnd (noX e) (fun ev => bnd (ownL ev) fun x => bnd (lcFL vs t c e (ms.drop (i + 1))) fun xs => ret (x :: xs)) else lcFL vs t c e (ms.drop (i + 1))) r' = .ok rest rE := ef
          rw [bnd_ok ew] at ef
          obtain ⟨S3, ow3⟩ := S2.forget (r' := wipeR vs r') (σ' := wipe σ vs) (by rw [wipeR_len]; exact S2.len) fun j => by
            rw [get_wipe]
            by_cases mj : j ∈ vs
            · rw [if_pos mj]; exact .inl rfl
            · rw [if_neg mj]; exact .inr ⟨rfl, rfl⟩
          have st3 : Step (A0 r σ H) r' G' (wipe σ vs) H' (wipeR vs r') G2 (wipe σ vs) H2 := by
            have stA := st2.mono a'
            refine ⟨stA.grow, stA.keep, stA.gnew, fun b z => stA.onew b (ow3 b z), fun j p xs ej nf => ?_, stA.free⟩
            have mj : j ∉ vs := fun mj => by rw [un j mj] at ej; cases ej
            rw [get_wipe, if_neg mj]
            exact stA.pin j p xs ej nf
          have hd2 : Held X.K (A0 r σ H) (wipeR vs r') G2 (wipe σ vs) H2 D acc := (hd.step st2).less ow3
          refine ⟨wipeR vs r', G2, m, S3, rp, ?_⟩
          cases q2 : noX (t m) (wipeR vs r') with
          | bad => rw [bnd_bad q2] at ef; cases ef
          | ex x m r3 => rw [bnd_ex q2] at ef; cases ef
          | ok u r4 =>
            rw [bnd_ok q2] at ef
            rw [noX_ok q2]
            intro σ4 G4 H4 S4 st4 l4 o4
            have ws : wipe σ4 vs = wipe σ vs := by
              have z : wipe σ4 vs = wipe (wipe σ vs) vs := wipe_ext l4 fun j hj => o4 j fun z => hj (hix j z)
              rw [z]
              exact wipe_ext (wipe_length σ vs) fun j hj => wipe_out hj
            have hd4 := hd2.step st4
            have al3 := st3.allow' a'
            have st4' := (st3.trans (st4.mono al3))
            have al4 := st4'.allow' a'
            -- behind a turn: the slots are forgotten
            have next : ∀ {r5 : Ro} {G5 : Hp} {H5 : Hp} {acc5 : List (List M)} {rest5 : List (List M)}, Sim X.K r5 G5 σ4 H5 → Step (A0 r σ H) r' G' (wipe σ vs) H' r5 G5 σ4 H5 → Held X.K (A0 r σ H) r5 G5 σ4 H5 D acc5 → acc5.length ≤ i + 1 →
                lcFL vs t c e (ms.drop (i + 1)) r5 = .ok rest5 rE → acc5 ++ rest5 = total → i + 1 ≤ ms.length ∧ ∃ r' G' acc rest, Sim X.K r' G' (wipe σ vs) H5 ∧ (∀ j ∈ vs, get r' j = .un) ∧ Step (A0 r σ H) (wipeR vs r1) G1 (wipe σ vs) H1 r' G' (wipe σ vs) H5 ∧
                Held X.K (A0 r σ H) r' G' (wipe σ vs) H5 D acc ∧ acc.length ≤ i + 1 ∧ lcFL vs t c e (ms.drop (i + 1)) r' = .ok rest rE ∧ acc ++ rest = total := fun {r5 G5 H5 acc5 rest5} S5 st5 h5 l5 f5 e5 => by
              have cs5 : vs.all (fun j => canSet (get r5 j)) = true := by
                by_cases z : vs.all (fun j => canSet (get r5 j)) = true
                · exact z
                · have zb : wipeE vs r5 = .bad := if_neg z
                  cases qd : ms.drop (i + 1) with
                  | nil =>
                    rw [qd] at f5
                    have f5 : bnd (wipeE vs) (fun _ => ret []) r5 = .ok rest5 rE := f5
                    rw [bnd_bad zb] at f5; cases f5
                  | cons m' ms' =>
                    rw [qd] at f5
                    have f5 : bnd (wipeE vs) _ r5 = .ok rest5 rE := f5
                    rw [bnd_bad zb] at f5; cases f5
              have w5 := S5.wiped (vs := vs)
              have stw := step_wiped (vs := vs) S5 (st5.allow' a') cs5
              rw [ws] at w5 stw
              exact ⟨cl, wipeR vs r5, G5, acc5, rest5, w5.1, fun j hj => by rw [get_wipe, if_pos hj], (st.trans st5).trans stw, h5.less w5.2, l5, by rw [lcFL_wipe cs5]; exact f5, e5⟩
            refine ⟨ws, r4, G4, S4, ?_⟩
            cases q3 : noX c r4 with
            | bad => rw [bnd_bad q3] at ef; cases ef
            | ex x m r3 => rw [bnd_ex q3] at ef; cases ef
            | ok b r5 =>
              rw [bnd_ok q3] at ef
              rw [noX_ok q3]
              intro b' G5 H5 S5 st5 eb
              subst eb
              have hd5 := hd4.step st5
              have st5' := st4'.trans (st5.mono al4)
              have al5 := st5'.allow' a'
              cases b with
              | false =>
                rw [if_neg Bool.false_ne_true] at ef
                exact iteF (next S5 st5' hd5 (by omega) ef et)
              | true =>
                rw [if_pos rfl] at ef
                refine iteT ⟨r5, G5, S5, ?_⟩
                cases q4 : noX e r5 with
                | bad => rw [bnd_bad q4] at ef; cases ef
                | ex x m r3 => rw [bnd_ex q4] at ef; cases ef
                | ok ev r6 =>
                  rw [bnd_ok q4] at ef
                  rw [noX_ok q4]
                  intro y G6 H6 S6 st6 er
                  have hd6 := hd5.step st6
                  have st6' := st5'.trans (st6.mono al5)
                  cases q5 : ownL ev r6 with
                  | bad => rw [bnd_bad q5] at ef; cases ef
                  | ex x m r3 => exact (ownL_noex q5).elim
                  | ok xm r7 =>
                    rw [bnd_ok q5] at ef
                    obtain ⟨rfl, rfl⟩ := ownL_ok q5
                    cases q6 : lcFL vs t c e (ms.drop (i + 1)) r7 with
                    | bad => rw [bnd_bad q6] at ef; cases ef
                    | ex x m r3 => rw [bnd_ex q6] at ef; cases ef
                    | ok xs r8 =>
                      rw [bnd_ok q6] at ef
                      cases ef
                      obtain ⟨a6, rfl, x6, al6⟩ := er
                      obtain ⟨bs, hbs⟩ := hd6.refs
                      refine ⟨bs.map V.ref, hbs.1, by rw [List.length_map, hbs.2.1]; exact Nat.lt_of_le_of_lt la (Nat.lt_of_lt_of_le cl hbig), ?_⟩
                      have nA : ∀ c, Foot H5 D (.ll acc) c → ¬ A0 r5 σ4 H5 c := fun c f z => by
                        rcases z with z | z
                        · exact (hd5.2 c f).1 z
                        · obtain ⟨o, e⟩ := hd5.1.2.dom f
                          rw [e] at z; cases z
                      have f56 : ∀ c, Foot H6 D (.ll acc) c ↔ Foot H5 D (.ll acc) c := (st6.hold hd5.1 fun c f => (hd5.2 c f).1).2.1
                      have n6 : ¬ Foot H6 D (.ll acc) a6 := fun f => nA a6 ((f56 a6).mp f) (al6 a6 rfl).2
                      have gD6 := hd6.1.1 D Foot.self
                      have nD6 := (hd6.2 D Foot.self).1
                      have S8 : Sim X.K r7 G6 σ4 (upd H6 D (.lst (bs.map V.ref ++ [.ref a6]))) := S6.beside gD6 nD6
                      have aD : A0 r σ H D := a1 D (.inr hD)
                      have st8 : Step (A0 r σ H) r' G' (wipe σ vs) H' r7 G6 σ4 (upd H6 D (.lst (bs.map V.ref ++ [.ref a6]))) := by
                        refine ⟨st6'.grow, fun b o hb nb => ?_, st6'.gnew, fun b z => st6'.onew b (S6.own_beside nD6 z), st6'.pin, fun b hb => ?_⟩
                        · have z : b ≠ D := fun z => by subst z; exact nb aD
                          rw [upd_ne z]; exact st6'.keep b o hb nb
                        · by_cases z : b = D
                          · subst z; rw [upd_same] at hb; cases hb
                          · rw [upd_ne z] at hb; exact st6'.free b hb
                      have hd8 : Held X.K (A0 r σ H) r7 G6 σ4 (upd H6 D (.lst (bs.map V.ref ++ [.ref a6]))) D (acc ++ [xm]) := hd6.more S6 hbs n6 x6 (al6 a6 rfl).1 (al5 a6 (al6 a6 rfl).2)
                      exact next S8 st8 hd8 (by rw [List.length_append]; simp; exact la) q6 (by rw [List.append_assoc]; exact et)
        · have ei : i = ms.length := by omega
          subst ei
          rw [List.drop_length] at ef
          have ef : bnd (wipeE vs) (fun _ => ret []) r' = .ok rest rE := ef
          rw [bnd_ok ew] at ef
          cases ef
          rw [List.append_nil] at et
          subst et
          refine .inl ⟨w2, ?_⟩
          have hl : r1.length = (wipeR vs r').length := by
            rw [wipeR_len]
            have z1 := S1.len
            have z2 := S'.len
            rw [wipe_length] at z2
            omega
          have gr : ∀ j, get (restR vs r1 (wipeR vs r')) j = if j ∈ vs then get r1 j else get r' j := fun j => by
            rw [get_rest hl, get_wipe]
            by_cases m : j ∈ vs
            · rw [if_pos m, if_pos m]
            · rw [if_neg m, if_neg m, if_neg m]
          have pv : ∀ j, j ∈ vs → ∀ p xs, get r1 j ≠ .o p xs := fun j m p xs e => nlock j p xs e m
          have key : ∀ j p xs, get (restR vs r1 (wipeR vs r')) j = .o p xs → j ∉ vs ∧ get r' j = .o p xs := fun j p xs e => by
            rw [gr] at e
            by_cases m : j ∈ vs
            · rw [if_pos m] at e; exact absurd e (pv j m p xs)
            · rw [if_neg m] at e; exact ⟨m, e⟩
          have bk : ∀ b, Own (restR vs r1 (wipeR vs r')) σ H' b → Own r' (wipe σ vs) H' b := fun b ⟨j, p, xs, a, e1, e2, f⟩ => by
            obtain ⟨m, e3⟩ := key j p xs e1
            exact ⟨j, p, xs, a, e3, (wipe_out m).trans e2, f⟩
          have SF : Sim X.K (restR vs r1 (wipeR vs r')) G' σ H' := by
            refine ⟨S'.sub, by rw [restR_len, ← hl]; exact S1.len, fun j m e => ?_, fun j p xs e => ?_, fun j k p q xs ys a a' b e1 e2 s1 s2 => ?_⟩
            · rw [gr] at e
              by_cases mj : j ∈ vs
              · rw [if_pos mj] at e
                obtain ⟨v, sv, rp⟩ := S1.val j m e
                exact ⟨v, sv, rp.mono st.grow⟩
              · rw [if_neg mj] at e
                obtain ⟨v, sv, rp⟩ := S'.val j m e
                exact ⟨v, (wipe_out mj).symm.trans sv, rp⟩
            · obtain ⟨mj, e3⟩ := key j p xs e
              obtain ⟨a, sv, z⟩ := S'.own j p xs e3
              exact ⟨a, (wipe_out mj).symm.trans sv, z⟩
            · obtain ⟨mj, e3⟩ := key j p xs e1
              obtain ⟨mk, e4⟩ := key k q ys e2
              exact S'.inj j k p q xs ys a a' b e3 e4 ((wipe_out mj).trans s1) ((wipe_out mk).trans s2)
          refine h1 (.ref D) G' H' SF ⟨st.grow, st.keep, st.gnew, fun b z => st.onew b (bk b z), fun j p xs ej nf => ?_, st.free⟩ ⟨D, rfl, hd.1, fun c f => ⟨fun z => (hd.2 c f).1 (bk c z), (hd.2 c f).2⟩⟩
          have mj := nlock j p xs ej
          obtain ⟨e1, xs1, e2, l1⟩ := st.pin j p xs (by rw [get_wipe, if_neg mj]; exact ej) nf
          exact ⟨rfl, xs1, by rw [gr, if_neg mj]; exact e2, l1⟩
    · rw [if_neg c0] at h1
      exact h1.elim
theorem se_lcL (hc : X.calm = true) (hN : X.N.Nodup) (hi : SI X W tg iter src) (ok : BlkOk X.N X.env.scope scope own) (hix : ∀ j ∈ ix, j ∈ own.map (·.2))
    (hg : ∀ (s : Shared) (H : Hp) (C : Addr) (cl : List (Str × Addr)) (fp : List Addr), SG (X.blk s H scope (compEnvC scope cl C X.env) fp) tg ix t) (ht : ∀ (s : Shared) (H : Hp) (C : Addr) (cl : List (Str × Addr)) (fp : List Addr), STs (X.blk s H scope (compEnvC scope cl C X.env) fp) W0 ifs c)
    (he : ∀ (s : Shared) (H : Hp) (C : Addr) (cl : List (Str × Addr)) (fp : List Addr), SE (X.blk s H scope (compEnvC scope cl C X.env) fp) W0 elt e) (hs : ∀ x, foldedSetIterable iter X.env x = pure x := by intro _; rfl) :
    SE X W (.ListComp elt [⟨tg, iter, ifs, 0⟩] scope pos) (vLcL (own.map (·.2)) src t c e) :=
  peW (pe_lc (g := tgR X.K ix t) (tt := tB X.K X.mg W0 c) (te := tE X.K X.mg W0 e) hc hN hi ok hg ht he hs) fun σ H Q h => lc_readL hix h
theorem ss_setLcL {i : Nat} {y : Str} {py spos : Pos} (hc : X.calm = true) (hN : X.N.Nodup) (hy : X.N[i]? = some y) (hyl : X.env.scope.names.lookup y = some .local)
    (hsw : swapsWith (.ListComp elt [⟨tg, iter, ifs, 0⟩] scope pos) (some (.Name y py)) spos.line X.env = pure true) (hi : SI X W tg iter src) (ok : BlkOk X.N X.env.scope scope own) (hix : ∀ j ∈ ix, j ∈ own.map (·.2))
    (hg : ∀ (s : Shared) (H : Hp) (C : Addr) (cl : List (Str × Addr)) (fp : List Addr), SG (X.blk s H scope (compEnvC scope cl C X.env) fp) tg ix t) (ht : ∀ (s : Shared) (H : Hp) (C : Addr) (cl : List (Str × Addr)) (fp : List Addr), STs (X.blk s H scope (compEnvC scope cl C X.env) fp) W0 ifs c)
    (he : ∀ (s : Shared) (H : Hp) (C : Addr) (cl : List (Str × Addr)) (fp : List Addr), SE (X.blk s H scope (compEnvC scope cl C X.env) fp) W0 elt e) (hs : ∀ x, foldedSetIterable iter X.env x = pure x := by intro _; rfl) :
    SS X W (.Assign [.Name y py] (.ListComp elt [⟨tg, iter, ifs, 0⟩] scope pos) spos) (sAsg i (vLcL (own.map (·.2)) src t c e)) := by
  refine psW (ps_setLc (g := tgR X.K ix t) (tt := tB X.K X.mg W0 c) (te := tE X.K X.mg W0 e) hc hN hy hyl hsw hi ok hg ht he hs) fun D σ H ⟨r, G, S, h⟩ => lc_readL hix ?_
  refine intoS upE S A0.self h fun ev r1 v G1 H1 S1 a1 st1 e1 h1 => ?_
  obtain ⟨r2, G2, S2, a2, st2, p2⟩ := post_asg S1 a1 e1 h1
  exact p2 _ G2 H1 S2 (.refl a2)
end
end Sx

set_option Elab.async false
set_option linter.all false
set_option maxRecDepth 100000
set_option maxHeartbeats 4000000
/-! SxN: lists of own lists: rows[i][j], rows[i][j] = e, rows[i].append(e); a return that freezes. -/
namespace Sx
open PySem L2
/-- nothing that stands is changed -/
structure Quiet (G H G' H' : Hp) : Prop where
  grow : Same G G'
  keep : ∀ b o, H b = some o → H' b = some o
  gnew : ∀ b, G' b ≠ none → G b ≠ none ∨ H b = none
section
variable {K : PySem.W.Frag} {A A' : Addr → Prop} {r r1 r2 : Ro} {G G1 G2 : Hp} {σ σ1 σ2 : St} {H H1 H2 : Hp}
theorem Quiet.refl : Quiet G H G H := ⟨Same.refl _, fun _ _ e => e, fun _ e => .inl e⟩
theorem Quiet.trans (a : Quiet G H G1 H1) (b : Quiet G1 H1 G2 H2) : Quiet G H G2 H2 := ⟨a.grow.trans b.grow, fun c o e => b.keep c o (a.keep c o e), fun c e => (b.gnew c e).elim (a.gnew c) fun z => .inr (by
  cases q : H c with
  | none => rfl
  | some o => rw [a.keep c o q] at z; cases z)⟩
theorem Quiet.step (S : Sim K r G σ H) (hA : ∀ b, A0 r σ H b → A b) (q : Quiet G H G1 H1) : Step A r G σ H r G1 σ H1 := by
  refine ⟨q.grow, fun b o e _ => q.keep b o e, fun b e => (q.gnew b e).imp id fun z => hA b (.inr z), fun c ⟨i, p, b, a, e1, e2, f⟩ => hA c (.inl ⟨i, p, b, a, e1, e2, ?_⟩), fun i p xs e _ => ⟨rfl, xs, e, fun _ => rfl⟩, fun b e => ?_⟩
  · obtain ⟨a', sv, x⟩ := S.own i p b e1
    rw [e2] at sv; cases sv
    exact (x.2.foot fun o => q.keep a o).mp f
  · cases z : H b with
    | none => rfl
    | some o => rw [q.keep b o z] at e; cases e
theorem quiet_new {p : Addr} {o : HO} (S : Sim K r G σ H) (n : H p = none) : Quiet G H (upd G p o) (upd H p o) :=
  ⟨same_up (S.gnone n), fun b u e => same_up n b u e, fun b e => by
    by_cases z : b = p
    · subst z; exact .inr n
    · rw [upd_ne z] at e; exact .inl e⟩
end
def tQ (K : PySem.W.Frag) (f : Ro → Option M) : TE := fun σ H Q => ∃ r G m, Sim K r G σ H ∧ f r = some m ∧ ∀ v G' H', Sim K r G' σ H' → Quiet G H G' H' → Rep K G' m v → Q v H'
def SQ (X : Cx) (e : Expr) (f : Ro → Option M) : Prop := PE X e (tQ X.K f)
def tQs (K : PySem.W.Frag) (f : Ro → Option (List M)) : TA := fun σ H Q => ∃ r G ms, Sim K r G σ H ∧ f r = some ms ∧ ∀ vs G' H', Sim K r G' σ H' → Quiet G H G' H' → RepL K G' ms vs → Q vs H'
def SQs (X : Cx) (es : List Expr) (f : Ro → Option (List M)) : Prop := PA X es (tQs X.K f)
def qVar (i : Nat) : Ro → Option M := fun r => match get r i with
  | .v m => some m
  | _ => none
def qLit (m : M) : Ro → Option M := fun _ => some m
def qNil : Ro → Option (List M) := fun _ => some []
def qCons (f : Ro → Option M) (g : Ro → Option (List M)) : Ro → Option (List M) := fun r => match f r, g r with
  | some m, some ms => some (m :: ms)
  | _, _ => none
def qTup (f : Ro → Option (List M)) : Ro → Option M := fun r => match f r with
  | some ms => if ms.length ≤ 1000 then some (.tup ms) else none
  | none => none
def qIx (f g : Ro → Option M) : Ro → Option M := fun r => match f r, g r with
  | some a, some (.int i) => match seqM a with
    | some (_, xs) => atI xs i
    | none => none
  | _, _ => none
def qInt (F : Int → Int → Int) (f g : Ro → Option M) : Ro → Option M := fun r => match f r, g r with
  | some (.int a), some (.int b) => some (.int (F a b))
  | _, _ => none
section
variable {X : Cx} {W : W4} {a b e : Expr} {es : List Expr} {pos : Pos} {fa fb : Ro → Option M} {fs : Ro → Option (List M)}
theorem sq_name (i : Nat) {x : Str} (hN : X.N[i]? = some x := by rfl) (hv : Vis X.env.scope x := by first | exact Or.inl rfl | exact Or.inr (Or.inl rfl) | exact Or.inr (Or.inr rfl)) (hd : (x == ("__debug__" : Str)) = false := by decide)
    (hcd : (x == ("__classdict__" : Str)) = false := by decide) : SQ X (.Name x pos) (qVar i) := by
  refine peW (pe_var hN hv hd hcd) fun σ H Q ⟨r, G, m, S, e, h⟩ => ?_
  unfold qVar at e
  split at e
  · rename_i m' q
    cases e
    obtain ⟨v, sv, rp⟩ := S.val i _ q
    exact ⟨v, sv, h v G H S .refl rp⟩
  · cases e
theorem sq_int {i : Int} {j} : SQ X (.Constant (.int i) j pos) (qLit (.int i)) := peW pe_int fun σ H Q ⟨r, G, m, S, e, h⟩ => by
  cases e
  exact h _ G H S .refl rfl
theorem sq_bl {i : Bool} {j} : SQ X (.Constant (.bool i) j pos) (qLit (.bl i)) := peW pe_bl fun σ H Q ⟨r, G, m, S, e, h⟩ => by
  cases e
  exact h _ G H S .refl rfl
theorem sq_non {j} : SQ X (.Constant .none j pos) (qLit .non) := peW pe_non fun σ H Q ⟨r, G, m, S, e, h⟩ => by
  cases e
  exact h _ G H S .refl rfl
theorem sqs_nil : SQs X [] qNil := paW pa_nil fun σ H Q h => by
  obtain ⟨r, G, m, S, e, h⟩ := h
  cases e
  exact h _ G H S .refl rfl
theorem sqs_cons (ha : SQ X e fa) (hr : SQs X es fs) (hs : starEach (e :: es) X.env = (false, eval e X.env) :: starEach es X.env := by rfl) : SQs X (e :: es) (qCons fa fs) := by
  refine paW (pa_cons ha hr hs) fun σ H Q ⟨r, G, m, S, e, h⟩ => ?_
  unfold qCons at e
  split at e
  · rename_i m1 ms1 e1 e2
    cases e
    exact ⟨r, G, m1, S, e1, fun v G1 H1 S1 q1 r1 => ⟨r, G1, ms1, S1, e2, fun vs G2 H2 S2 q2 r2 => h _ G2 H2 S2 (q1.trans q2) ⟨v, vs, rfl, r1.mono q2.grow, r2⟩⟩⟩
  · cases e
theorem sq_tup {x1} (h : SQs X es fs) : SQ X (.Tuple es x1 pos) (qTup fs) := by
  refine peW (pe_tup h) fun σ H Q ⟨r, G, m, S, e, h⟩ => ?_
  unfold qTup at e
  split at e
  · rename_i ms e1
    by_cases c : ms.length ≤ 1000
    · rw [if_pos c] at e
      cases e
      refine ⟨r, G, ms, S, e1, fun vs G1 H1 S1 q1 rl => ⟨by rw [← rl.len]; exact small c, fun p n => ?_⟩⟩
      have q2 := quiet_new (o := .tup vs) S1 n
      exact h _ _ _ (S1.alloc n) (q1.trans q2) ⟨p, vs, rfl, .of upd_same, rl.mono q2.grow⟩
    · rw [if_neg c] at e; cases e
  · cases e
theorem sq_ix (ha : SQ X a fa) (hb : SQ X b fb) (hs : PlainIx b) : SQ X (.Subscript a b pos) (qIx fa fb) := by
  refine peW (pe_ix (ix_list.or ix_tup) ha hb hs) fun σ H Q ⟨r, G, m, S, e, h⟩ => ?_
  unfold qIx at e
  split at e
  · rename_i ma i e1 e2
    split at e
    · rename_i k xs e3
      refine ⟨r, G, ma, S, e1, fun v G1 H1 S1 q1 r1 => ⟨r, G1, _, S1, e2, fun w G2 H2 S2 q2 r2 => ?_⟩⟩
      cases r2
      obtain ⟨p, vs, rfl, sk, rl⟩ := seqM_ok (r1.mono q2.grow) e3
      obtain ⟨u, hu, ru⟩ := atI_rep rl e
      have fin := h u G2 H2 S2 (q1.trans q2) ru
      have sk := sk.mono S2.sub
      cases k with
      | t => exact .inr ⟨p, vs, i, u, rfl, rfl, sk, hu, fin⟩
      | l => exact .inl ⟨p, vs, i, u, rfl, rfl, .of sk, hu, fin⟩
      | ro => exact .inl ⟨p, vs, i, u, rfl, rfl, sk, hu, fin⟩
    · cases e
  · cases e
theorem sq_op {op : Operator} {F : Int → Int → Int} (ho : OpR X (binaryOp op) (rI (fun _ _ => True) fun i j => .int (F i j))) (ha : SQ X a fa) (hb : SQ X b fb) : SQ X (.BinOp a op b pos) (qInt F fa fb) := by
  refine peW (pe_op ho ha hb) fun σ H Q ⟨r, G, m, S, e, h⟩ => ?_
  unfold qInt at e
  split at e
  · rename_i i j e1 e2
    cases e
    refine ⟨r, G, _, S, e1, fun v G1 H1 S1 q1 r1 => ⟨r, G1, _, S1, e2, fun w G2 H2 S2 q2 r2 => ?_⟩⟩
    cases r1
    cases r2
    exact ⟨i, j, rfl, rfl, True.intro, h _ G2 H2 S2 (q1.trans q2) rfl⟩
  · cases e
theorem sq_add (ha : SQ X a fa) (hb : SQ X b fb) : SQ X (.BinOp a .Add b pos) (qInt (fun i j => i + j) fa fb) := sq_op (rI_of op_add) ha hb
theorem sq_sub (ha : SQ X a fa) (hb : SQ X b fb) : SQ X (.BinOp a .Sub b pos) (qInt (fun i j => i - j) fa fb) := sq_op (rI_of op_sub) ha hb
end
/-! ### rows -/
/-- the row of a list of own lists -/
def rowE : Slot → EV → Option (Pin × List (List M) × Nat × List M)
  | .o p (.ll xss), .fr (.int k) => match ixN xss.length k with
    | some j => (xss[j]?).map fun xs => (p, xss, j, xs)
    | none => none
  | _, _ => none
section
variable {K : PySem.W.Frag} {A A' : Addr → Prop} {r r1 r2 : Ro} {G G1 G2 : Hp} {σ σ1 σ2 : St} {H H1 H2 : Hp}
theorem rowE_some {s : Slot} {e : EV} {p : Pin} {xss : List (List M)} {j : Nat} {xs : List M} (h : rowE s e = some (p, xss, j, xs)) : s = .o p (.ll xss) ∧ ∃ k, e = .fr (.int k) ∧ ixN xss.length k = some j ∧ xss[j]? = some xs := by
  unfold rowE at h
  split at h
  · rename_i p' xss' k
    split at h
    · rename_i j' e1
      cases q : xss'[j']? with
      | none => rw [q] at h; cases h
      | some xs' => rw [q] at h; cases h; exact ⟨rfl, k, rfl, e1, q⟩
    · cases h
  · cases h
theorem rows_at {xss : List (List M)} {bs : List Addr} (rr : Rows K G H xss bs) {j : Nat} {xs : List M} (e : xss[j]? = some xs) : ∃ b vs, bs[j]? = some b ∧ H b = some (.lst vs) ∧ RepL K G xs vs := rr.nth e
/-- a row's list, as it stands -/
theorem row_ok {i : Nat} {e : EV} {a : Addr} {v : V} {p : Pin} {xss : List (List M)} {j : Nat} {xs : List M} (S : Sim K r G σ H) (sv : σ[i]? = some (some (.ref a))) (h : rowE (get r i) e = some (p, xss, j, xs)) (rv : EvRep K A r G σ H e v) :
    get r i = .o p (.ll xss) ∧ ∃ bs b vs k, H a = some (.lst (bs.map V.ref)) ∧ v = .int k ∧ atI (bs.map V.ref) k = some (.ref b) ∧ bs[j]? = some b ∧ (a :: bs).Nodup ∧ Rows K G H xss bs ∧ H b = some (.lst vs) ∧ RepL K G xs vs ∧ xss[j]? = some xs := by
  obtain ⟨e1, k, rfl, e2, e3⟩ := rowE_some h
  obtain ⟨a', sv', x⟩ := S.own i p _ e1
  rw [sv] at sv'; cases sv'
  obtain ⟨bs, ha, nd, rr⟩ := x.2
  obtain ⟨b, vs, hb, hv, rl⟩ := rr.nth e3
  refine ⟨e1, bs, b, vs, k, ha, rv, ?_, hb, nd, rr, hv, rl, e3⟩
  unfold atI
  rw [List.length_map, rr.len, e2]
  show (bs.map V.ref)[j]? = _
  rw [List.getElem?_map, hb]; rfl
theorem Rows.put : ∀ {xss : List (List M)} {bs : List Addr} {j : Nat} {b : Addr} {ys : List M} {ws : List V}, Rows K G H xss bs → bs.Nodup → bs[j]? = some b → RepL K G ys ws → Rows K G (upd H b (.lst ws)) (xss.set j ys) bs
  | [], _, _, _, _, _, h, _, e, _ => by cases h; simp at e
  | _ :: _, _, 0, b, ys, ws, ⟨b0, br, vs, e, h, rl, r⟩, nd, hb, ry => by
    subst e
    simp at hb
    subst hb
    refine ⟨b0, br, ws, rfl, upd_same, ry, r.keep (Same.refl _) fun c m o q => ?_⟩
    have ne : c ≠ b0 := fun z => (List.nodup_cons.mp nd).1 (by rw [← z]; exact m)
    rw [upd_ne ne]; exact q
  | _ :: _, _, j + 1, b, ys, ws, ⟨b0, br, vs, e, h, rl, r⟩, nd, hb, ry => by
    subst e
    have hb : br[j]? = some b := by simpa using hb
    have ne : b0 ≠ b := fun z => (List.nodup_cons.mp nd).1 (by rw [z]; exact List.mem_of_getElem? hb)
    exact ⟨b0, br, vs, rfl, by rw [upd_ne ne]; exact h, rl, r.put (List.nodup_cons.mp nd).2 hb ry⟩
/-- a row is changed -/
theorem Sim.writeRow {i : Nat} {p : Pin} {xss : List (List M)} {a b : Addr} {bs : List Addr} {j : Nat} {ys : List M} {ws : List V} (S : Sim K r G σ H) (hA : ∀ b, A0 r σ H b → A b) (e : get r i = .o p (.ll xss)) (nl : p ≠ .lock) (sv : σ[i]? = some (some (.ref a)))
    (ha : H a = some (.lst (bs.map V.ref))) (hb : bs[j]? = some b) (nd : (a :: bs).Nodup) (rr : Rows K G H xss bs) (ry : RepL K G ys ws) :
    Sim K (r.set i (.o p (.ll (xss.set j ys)))) G σ (upd H b (.lst ws)) ∧ Step A r G σ H (r.set i (.o p (.ll (xss.set j ys)))) G σ (upd H b (.lst ws)) := by
  have mb : b ∈ bs := List.mem_of_getElem? hb
  have ne : a ≠ b := fun z => (List.nodup_cons.mp nd).1 (by rw [z]; exact mb)
  have ha2 : upd H b (.lst ws) a = some (.lst (bs.map V.ref)) := by rw [upd_ne ne]; exact ha
  refine S.writeB hA e nl sv (.inr ⟨_, ha, List.mem_map_of_mem mb⟩) ⟨bs, ha2, nd, rr.put (List.nodup_cons.mp nd).2 hb ry⟩ fun c => ?_
  constructor
  · rintro (f | ⟨vs, e1, m⟩)
    · exact .inl f
    · rw [ha2] at e1; exact .inr ⟨vs, by rw [ha]; exact e1, m⟩
  · rintro (f | ⟨vs, e1, m⟩)
    · exact .inl f
    · rw [ha] at e1; exact .inr ⟨vs, by rw [ha2]; exact e1, m⟩
end
def ix2 (i : Nat) (a : EV) (fj : Ro → Option M) : Ev EV := fun r => match rowE (get r i) a, fj r with
  | some (_, _, _, xs), some (.int q) => okO r (atI xs q)
  | _, _ => .bad
def vIx2 (i : Nat) (fi : Ev EV) (fj : Ro → Option M) : Ev EV := chkO i (bnd fi fun a => ix2 i a fj)
def sto2 (i : Nat) (a : EV) (fj : Ro → Option M) (m : M) : Ev Unit := fun r => match rowE (get r i) a, fj r with
  | some (p, xss, j, xs), some (.int q) => if p = .lock then .bad else match ixN xs.length q with
    | some l => .ok () (r.set i (.o p (.ll (xss.set j (xs.set l m)))))
    | none => .bad
  | _, _ => .bad
def sSet2 (i : Nat) (fi : Ev EV) (fj : Ro → Option M) (fe : Ev EV) : Ev Fl := bnd fe fun e => chkO i (bnd fi fun a => bnd (frz e) fun m => bnd (sto2 i a fj m) fun _ => ret .nx)
def app2 (i : Nat) (a : EV) (fe : Ro → Option M) : Ev EV := fun r => match rowE (get r i) a, fe r with
  | some (p, xss, j, xs), some m => if p = .lock then .bad else if xs.length < big then .ok (.fr .non) (r.set i (.o p (.ll (xss.set j (xs ++ [m]))))) else .bad
  | _, _ => .bad
def vApp2 (i : Nat) (fi : Ev EV) (fe : Ro → Option M) : Ev EV := chkO i (bnd fi fun a => app2 i a fe)
def retF0 (e : EV) : Ev Fl := bnd (frz e) fun m => ret (.rt (.fr m))
def sRetF (f : Ev EV) : Ev Fl := bnd f retF0
section
variable {X : Cx} {W : W4} {a b e : Expr} {es : List Expr} {pos p' p2 : Pos} {fi fe : Ev EV} {fj fq : Ro → Option M} {i : Nat} {x : Str} {px apos cpos : Pos}
theorem chkO_ok {K : PySem.W.Frag} {mg : Str → Option Value} {A : Addr → Prop} {r : Ro} {G : Hp} {σ : St} {H : Hp} {Q : VK} {i : Nat} {k : Ev EV} (S : Sim K r G σ H) (h : Post (rpE K σ) K mg W A r G σ H Q (chkO i k r)) :
    ∃ a, σ[i]? = some (some (.ref a)) ∧ Post (rpE K σ) K mg W A r G σ H Q (k r) := by
  unfold chkO at h
  cases q : get r i with
  | un => rw [q] at h; exact h.elim
  | v m => rw [q] at h; exact h.elim
  | o p b =>
    rw [q] at h
    obtain ⟨c, sv, _⟩ := S.own i p _ q
    exact ⟨c, sv, h⟩
theorem se_ix2 (hb : SE X W a fi) (hj : SQ X b fj) (hs : PlainIx a) (hs2 : PlainIx b) (hN : X.N[i]? = some x := by rfl) (hv : Vis X.env.scope x := by first | exact Or.inl rfl | exact Or.inr (Or.inl rfl) | exact Or.inr (Or.inr rfl)) (hd : (x == ("__debug__" : Str)) = false := by decide) (hcd : (x == ("__classdict__" : Str)) = false := by decide) :
    SE X W (.Subscript (.Subscript (.Name x px) a p') b pos) (vIx2 i fi fj) := by
  refine peW (pe_ix ix_list (pe_ix ix_list (pe_var hN hv hd hcd) hb hs) hj hs2) fun σ H Q ⟨r, G, S, h⟩ => ?_
  obtain ⟨c, sv, h⟩ := chkO_ok S h
  refine ⟨_, sv, ?_⟩
  refine into upE S A0.self h fun ev r1 v G1 H1 S1 a1 st1 e1 h1 => ?_
  unfold ix2 at h1
  split at h1
  · rename_i p xss j xs q e2 e3
    obtain ⟨_, bs, b, vs, k, ha, rfl, hk, hbj, nd, rr, hbv, rl, _⟩ := row_ok S1 sv e2 e1
    refine ⟨c, _, k, _, rfl, rfl, .of ha, hk, ?_⟩
    refine ⟨r1, G1, _, S1, e3, fun w G2 H2 S2 q2 rw' => ?_⟩
    cases rw'
    cases q4 : atI xs q with
    | none => rw [q4] at h1; exact h1.elim
    | some m =>
      rw [q4] at h1
      obtain ⟨u, hu, ru⟩ := atI_rep rl q4
      exact ⟨b, vs, q, u, rfl, rfl, .of (q2.keep _ _ hbv), hu, h1 u G2 H2 S2 (q2.step S1 a1) (ru.mono q2.grow)⟩
  · exact h1.elim
theorem ss_set2 {v : Expr} (he : SE X W v fe) (hb : SE X W a fi) (hj : SQ X b fj) (hs : PlainIx a) (hN : X.N[i]? = some x := by rfl) (hv : Vis X.env.scope x := by first | exact Or.inl rfl | exact Or.inr (Or.inl rfl) | exact Or.inr (Or.inr rfl)) (hd : (x == ("__debug__" : Str)) = false := by decide) (hcd : (x == ("__classdict__" : Str)) = false := by decide)
    (hasg : ∀ v, assign (.Subscript (.Subscript (.Name x px) a p') b p2) X.env v = (do
      let ov ← holding [v] (eval (.Subscript (.Name x px) a p') X.env)
      let iv ← holding [v, ov] (eval b X.env)
      standAt p2
      holding [v, ov, iv] (setItem ov iv v)
      release [v, ov, iv] []) := by intro _; rfl)
    (hs1 : swapsWithSole [.Subscript (.Subscript (.Name x px) a p') b p2] v pos.line X.env = pure false := by rfl) (hw : swappedStores [.Subscript (.Subscript (.Name x px) a p') b p2] v X.env = pure none := by rfl)
    (h1 : (assignEach [.Subscript (.Subscript (.Name x px) a p') b p2] X.env).map (·.2) = [assign (.Subscript (.Subscript (.Name x px) a p') b p2) X.env] := by rfl) :
    SS X W (.Assign [.Subscript (.Subscript (.Name x px) a p') b p2] v pos) (sSet2 i fi fj fe) := by
  refine psW (ps_asg he (pg_sub (pe_ix ix_list (pe_var hN hv hd hcd) hb hs) hj set_list hasg) hs1 hw h1) fun D σ H ⟨r, G, S, h⟩ => ?_
  refine intoS upE S A0.self h fun ev r1 v G1 H1 S1 a1 st1 e1 h1 => ?_
  unfold chkO at h1
  cases q : get r1 i with
  | un => rw [q] at h1; exact h1.elim
  | v m => rw [q] at h1; exact h1.elim
  | o p xs =>
    rw [q] at h1
    obtain ⟨c, sv, _⟩ := S1.own i p xs q
    refine ⟨_, sv, ?_⟩
    refine intoS upE S1 a1 h1 fun eb r2 w G2 H2 S2 a2 st2 e2 h2 => ?_
    have e1' := e1.step st2
    cases q3 : frz ev r2 with
    | bad => rw [bnd_bad q3] at h2; exact h2.elim
    | ex c m r' => exact (frz_noex q3).elim
    | ok m r3 =>
      rw [bnd_ok q3] at h2
      obtain ⟨G3, S3, st3, rp, so⟩ := frz_ok S2 a2 e1'.wk q3
      have a3 := st3.allow' a2
      have h3 := h2.rebase st3
      cases q4 : sto2 i eb fj m r3 with
      | bad => rw [bnd_bad q4] at h3; exact h3.elim
      | ex c m r' =>
        exfalso
        unfold sto2 at q4
        split at q4
        · split at q4
          · cases q4
          · split at q4 <;> cases q4
        · cases q4
      | ok u r4 =>
        rw [bnd_ok q4] at h3
        unfold sto2 at q4
        split at q4
        · rename_i p xss j xs q e5 e6
          by_cases nl : p = .lock
          · rw [if_pos nl] at q4; cases q4
          · rw [if_neg nl] at q4
            split at q4
            · rename_i l e7
              cases q4
              have e2' : EvRep X.K (A0 r σ H) r3 G3 σ H2 eb w := by
                obtain ⟨_, k, rfl, _⟩ := rowE_some e5
                exact Rep.mono st3.grow e2
              obtain ⟨eg, bs, b, vs, k, ha, rfl, hk, hbj, nd, rr, hbv, rl, _⟩ := row_ok S3 sv e5 e2'
              refine ⟨c, _, k, _, rfl, rfl, .of ha, hk, ?_⟩
              refine ⟨r3, G3, _, S3, e6, fun y G4 H4 S4 q4 ry => ?_⟩
              cases ry
              have a4 := (q4.step S3 a3).allow' a3
              have eg4 : get r3 i = .o p (.ll xss) := eg
              have rr4 : Rows X.K G4 H4 xss bs := rr.keep q4.grow fun c _ o z => q4.keep c o z
              have rl4 := rl.mono q4.grow
              obtain ⟨S6, st6⟩ := S4.writeRow (ys := xs.set l m) (ws := vs.set l v) a4 eg4 nl sv (q4.keep _ _ ha) hbj nd rr4 (rl4.setAt l (rp.mono q4.grow))
              exact ⟨b, vs, q, l, rfl, rfl, q4.keep _ _ hbv, by rw [← rl.len]; exact e7, h3 σ _ _ S6 ((q4.step S3 a3).trans st6)⟩
            · cases q4
        · cases q4
theorem se_app2 (hb : SE X W a fi) (hq : SQ X e fq) (hs : PlainIx a) (hN : X.N[i]? = some x := by rfl) (hv : Vis X.env.scope x := by first | exact Or.inl rfl | exact Or.inr (Or.inl rfl) | exact Or.inr (Or.inr rfl)) (hd : (x == ("__debug__" : Str)) = false := by decide) (hcd : (x == ("__classdict__" : Str)) = false := by decide)
    (hbase : attributeBase (.Subscript (.Name x px) a p') "append" X.env (eval (.Subscript (.Name x px) a p') X.env) = eval (.Subscript (.Name x px) a p') X.env := by rfl)
    (hfew : ((backTo cpos (starEach [e] X.env)).all (fun x => !x.1) && (backToKw cpos (keywordEach [] X.env)).all (fun x => x.1.isSome)
      && decide (([e] : List Expr).length + ([] : List Keyword).length + (if ([] : List Keyword).isEmpty then 0 else 1) < 30)) = true := by rfl)
    (hline : (apos.endLine == cpos.line) = true := by rfl) (hst : starEach [e] X.env = (false, eval e X.env) :: starEach [] X.env := by rfl) (hpl : (backTo cpos (starEach [] X.env)).any (·.1) = false := by rfl) :
    SE X W (.Call (.Attribute (.Subscript (.Name x px) a p') "append" apos) [e] [] cpos) (vApp2 i fi fq) := by
  refine peW (pe_bm PySem.F.plainAttrs_list PySem.F.slot_list_append PySem.F.type_list_append mt_append (pe_ix ix_list (pe_var hN hv hd hcd) hb hs) (pa_cons hq pa_nil hst) hbase hfew hline hst hpl) fun σ H Q ⟨r, G, S, h⟩ => ?_
  obtain ⟨c, sv, h⟩ := chkO_ok S h
  refine ⟨_, sv, ?_⟩
  refine into upE S A0.self h fun ev r1 v G1 H1 S1 a1 st1 e1 h1 => ?_
  unfold app2 at h1
  split at h1
  · rename_i p xss j xs m e2 e3
    by_cases nl : p = .lock
    · rw [if_pos nl] at h1; exact h1.elim
    · rw [if_neg nl] at h1
      by_cases z : xs.length < big
      · rw [if_pos z] at h1
        obtain ⟨eg, bs, b, vs, k, ha, rfl, hk, hbj, nd, rr, hbv, rl, _⟩ := row_ok S1 sv e2 e1
        refine ⟨c, _, k, _, rfl, rfl, .of ha, hk, .inl ⟨rfl, _, .of hbv⟩, ?_⟩
        refine ⟨r1, G1, _, S1, e3, fun w G2 H2 S2 q2 rw' => ?_⟩
        have a2 := (q2.step S1 a1).allow' a1
        have rr2 : Rows X.K G2 H2 xss bs := rr.keep q2.grow fun c _ o z => q2.keep c o z
        obtain ⟨S6, st6⟩ := S2.writeRow (ys := xs ++ [m]) (ws := vs ++ [w]) a2 eg nl sv (q2.keep _ _ ha) hbj nd rr2 ((rl.mono q2.grow).app (.one rw'))
        exact ⟨b, vs, w, rfl, rfl, q2.keep _ _ hbv, by rw [← rl.len]; exact z, h1 _ _ _ S6 ((q2.step S1 a1).trans st6) rfl⟩
      · rw [if_neg z] at h1; exact h1.elim
  · exact h1.elim
theorem ss_retF (he : SE X W e fe) : SS X W (.Return (some e) pos) (sRetF fe) := by
  refine psW (ps_ret he) fun D σ H ⟨r, G, S, h⟩ => ?_
  refine intoS upE S A0.self h fun ev r1 v G1 H1 S1 a1 st1 e1 h1 => ?_
  have h1 : PostS X.K X.mg W (A0 r σ H) r1 G1 σ H1 D (bnd (frz ev) (fun m => ret (.rt (.fr m))) r1) := h1
  cases q : frz ev r1 with
  | bad => rw [bnd_bad q] at h1; exact h1.elim
  | ex c m r' => exact (frz_noex q).elim
  | ok m r2 =>
    rw [bnd_ok q] at h1
    obtain ⟨G2, S2, st2, rp, _⟩ := frz_ok S1 a1 e1.wk q
    exact h1 v σ G2 H1 S2 st2 rp
end
end Sx

set_option Elab.async false
set_option linter.all false
set_option maxRecDepth 100000
set_option maxHeartbeats 4000000
/-! SxM: new dicts. -/
namespace Sx
open PySem L2
def vDict0I : Ev EV := ret (.tmp (.di []))
def vDict0T : Ev EV := ret (.tmp (.dt []))
def dictI (a b : EV) : Ev EV := match intOf a with
  | some i => bnd (frz b) fun m => ret (.tmp (.di [(i, m)]))
  | none => bad
def vDictI (fk fv : Ev EV) : Ev EV := bnd fk fun a => bnd fv fun b => dictI a b
def dictT (a b : EV) : Ev EV := match a with
  | .fr k => match keyT k with
    | some _ => bnd (frz b) fun m => ret (.tmp (.dt [(k, m)]))
    | none => bad
  | _ => bad
def vDictT (fk fv : Ev EV) : Ev EV := bnd fk fun a => bnd fv fun b => dictT a b
section
variable {X : Cx} {W : W4} {a b e : Expr} {pos : Pos} {fa fb : Ev EV}
theorem dictP_new {h : Heap} (hb : sysModules < h.objs.size) : DictP h.objs.size [] (h.push { cls := .type "dict", data := .dict #[] }) :=
  ⟨Nat.zero_le _, beq_eq_false_iff_ne.mpr (Ne.symm (Nat.ne_of_lt hb)), _, #[], 0, Heap.get?_push_size _ rfl, ⟨rfl, rfl, rfl⟩, rfl, .nil⟩
theorem pe_dnewO : PE X (.Dict [] [] pos) (fun _ H Q => ∀ p, H p = none → Q (.ref p) (upd H p (DictO p []))) := ⟨fun pins s σ H Q I h =>
  wpAny_Dict_empty ⟨.ref s.heap.objs.size, _, I.laid (a := s.heap.objs.size) (o := DictO s.heap.objs.size []) (t' := s.toks) (fun _ _ q => Heap.get?_push_of_some _ q) (Nat.le_refl _) (dictO_ok (dictP_new I.big)), rfl, h _ (I.hok.fresh (Nat.le_refl _))⟩⟩
/-- a new own object -/
theorem fin_new {K : PySem.W.Frag} {A : Addr → Prop} {r : Ro} {G : Hp} {σ : St} {H : Hp} {mg : Str → Option Value} {c : Cont} {p : Addr} {o : HO} {Q : VK} (S : Sim K r G σ H) (hA : ∀ b, A0 r σ H b → A b) (h : Post (rpE K σ) K mg W A r G σ H Q (.ok (.tmp c) r)) (n : H p = none)
    (hf : ∀ d, Foot (upd H p o) p c d → d = p) (hb : Body K G (upd H p o) p c) : Q (.ref p) (upd H p o) :=
  h _ _ _ (S.fresh n) (step_fresh S hA n) ⟨p, rfl, ⟨fun c f => by rw [hf c f]; exact S.gnone n, hb⟩, fun c f => by rw [hf c f]; exact ⟨fun z => S.nown n ((S.own_up n).mp z), hA p (.inr n)⟩⟩
theorem se_dict0I : SE X W (.Dict [] [] pos) vDict0I := peW pe_dnewK fun σ H Q ⟨r, G, S, h⟩ p n => fin_new S A0.self h n (fun _ f => f) ⟨[], upd_same, .nil, List.nodup_nil⟩
theorem se_dict0T : SE X W (.Dict [] [] pos) vDict0T := peW pe_dnewO fun σ H Q ⟨r, G, S, h⟩ p n => fin_new S A0.self h n (fun _ f => f) ⟨[], upd_same, .nil, List.nodup_nil⟩
/-- an own object that is written once more before it is given -/
theorem fin_over {K : PySem.W.Frag} {A : Addr → Prop} {r1 : Ro} {G1 : Hp} {σ : St} {H1 : Hp} {mg : Str → Option Value} {c : Cont} {p : Addr} {o : HO} {Q : VK} (S1 : Sim K r1 G1 σ H1) (g : G1 p = none) (no : ¬ Own r1 σ H1 p) (al : A p) (hA : ∀ b, A0 r1 σ H1 b → A b)
    (h : Post (rpE K σ) K mg W A r1 G1 σ H1 Q (.ok (.tmp c) r1)) (hf : ∀ d, Foot (upd H1 p o) p c d → d = p) (hb : Body K G1 (upd H1 p o) p c) (hp : ∃ u, H1 p = some u) : Q (.ref p) (upd H1 p o) := by
  refine h _ _ _ (S1.beside g no) ⟨Same.refl _, fun b u e n => ?_, fun b e => .inl e, fun b z => hA b (.inl (S1.own_beside no z)), fun i q xs e _ => ⟨rfl, xs, e, fun _ => rfl⟩, fun b e => ?_⟩ ⟨p, rfl, ⟨fun c f => by rw [hf c f]; exact g, hb⟩, fun c f => by rw [hf c f]; exact ⟨fun z => no (S1.own_beside no z), al⟩⟩
  · have nb : b ≠ p := fun z => by subst z; exact n al
    rw [upd_ne nb]; exact e
  · by_cases z : b = p
    · subst z; rw [upd_same] at e; cases e
    · rw [upd_ne z] at e; exact e
/-- what stands beside the state is not frozen -/
theorem frz_apart {K : PySem.W.Frag} {A : Addr → Prop} {r r' : Ro} {G : Hp} {σ : St} {H : Hp} {ev : EV} {v : V} {m : M} {p : Addr} (S : Sim K r G σ H) (hA : ∀ b, A0 r σ H b → A b) (e : EvRep K A r G σ H ev v) (q : frz ev r = .ok m r') (g : G p = none) (nA : ¬ A p) :
    ∃ G', Sim K r' G' σ H ∧ Step A r G σ H r' G' σ H ∧ Rep K G' m v ∧ G' p = none ∧ ∀ b, Own r' σ H b → Own r σ H b := by
  obtain ⟨G', S', st, rp, so⟩ := frz_ok S hA e.wk q
  refine ⟨G', S', st, rp, ?_, so⟩
  cases z : G' p with
  | none => rfl
  | some u =>
    rcases st.gnew p (by rw [z]; exact fun z => nomatch z) with z | z
    · exact absurd g z
    · exact absurd z nA
theorem se_dictI {pk : Option Expr} (ha : SE X W a fa) (hb : SE X W b fb) : SE X W (.Dict [some a] [b] pos) (vDictI fa fb) := by
  refine peW (pe_disp (pps_cons ha hb pps_nil) rfl rfl (by simp) (by simp)) fun σ H Q ⟨r, G, S, h⟩ p n => ?_
  have S0 := S.fresh (o := .dK []) n
  have st0 := step_fresh (o := .dK []) S A0.self n
  have h0 := h.rebase st0
  have a0 := st0.allow A0.self
  have x0 : Bx X.K G (upd H p (.dK [])) p (.di []) := ⟨fun c f => by cases f; exact S.gnone n, [], upd_same, .nil, List.nodup_nil⟩
  have n0 : ¬ Own r σ (upd H p (.dK [])) p := fun z => S.nown n ((S.own_up n).mp z)
  have A0n : ¬ A0 r σ (upd H p (.dK [])) p := by
    rintro (z | z)
    · exact n0 z
    · rw [upd_same] at z; cases z
  refine into upE S0 a0 h0 fun ea r1 v G1 H1 S1 a1 st1 e1 h1 => ?_
  have e1H : H1 p = some (.dK []) := st1.keep p _ upd_same A0n
  have n1 : ¬ Own r1 σ H1 p := fun z => A0n (st1.onew p z)
  have g1 : G1 p = none := (st1.hold x0 fun c f => by cases f; exact n0).1.self
  have A1n : ¬ A0 r1 σ H1 p := by
    rintro (z | z)
    · exact n1 z
    · rw [e1H] at z; cases z
  refine into1 (Post (rpE X.K σ) X.K X.mg W (A0 r σ H) r1 G1 σ H1 Q) (fun z => z) (fun _ _ _ z => z) S1 a1 h1 fun eb r2 w G2 H2 S2 a2 st2 e2 h2 => ?_
  have e2H : H2 p = some (.dK []) := st2.keep p _ e1H A1n
  have n2 : ¬ Own r2 σ H2 p := fun z => A1n (st2.onew p z)
  have g2 : G2 p = none := by
    cases z : G2 p with
    | none => rfl
    | some u =>
      rcases st2.gnew p (by rw [z]; exact fun z => nomatch z) with z | z
      · exact absurd g1 z
      · exact absurd z A1n
  unfold dictI at h2
  cases q : intOf ea with
  | none => rw [q] at h2; exact h2.elim
  | some i =>
    rw [q] at h2
    have h2 : Post (rpE X.K σ) X.K X.mg W (A0 r σ H) r1 G1 σ H1 Q (bnd (frz eb) (fun m => ret (.tmp (.di [(i, m)]))) r2) := h2
    cases q3 : frz eb r2 with
    | bad => rw [bnd_bad q3] at h2; exact h2.elim
    | ex c m r' => exact (frz_noex q3).elim
    | ok m r3 =>
      rw [bnd_ok q3] at h2
      obtain ⟨G3, S3, st3, rp, g3, so⟩ := frz_apart S2 (st2.allow A0.self) e2 q3 g2 A1n
      have st23 := (st2.trans st3).mono a1
      have h3 := h2.rebase st23
      have hv := int_ok e1 q
      refine ⟨e2H, [(.inl i, w)], by rw [hv]; rfl, by simp, ?_⟩
      exact fin_over (o := .dK (mergeK [] [(.inl i, w)])) S3 g3 (fun z => n2 (so p z)) (.inr n) (st23.allow' a1) h3 (fun _ f => f) ⟨[(.inl i, w)], upd_same, .cons ⟨rfl, rp⟩ .nil, by simp⟩ ⟨_, e2H⟩
/-- {k: v}, k a tuple -/
def tDispT (K : PySem.W.Frag) (tk tv : TE) : TE := fun σ H Q => ∀ p, H p = none → tk σ (upd H p (DictO p [])) fun x H1 => tv σ H1 fun y H2 => H2 p = some (DictO p []) ∧ ∃ m k b, x = .ref b ∧ KeyAt K H2 m k x ∧ Q (.ref p) (upd H2 p (DictO p [(k, b, y)]))
theorem pe_dispT (hu : X.A.units + 65 < cLine) {tk tv : TE} (ha : PE X a tk) (hb : PE X b tv) : PE X (.Dict [some a] [b] pos) (tDispT X.K tk tv) := by
  refine ⟨fun pins s σ H Q I q => ?_⟩
  have hn := I.hok.fresh (Nat.le_refl s.heap.objs.size)
  have I1 := I.laid (a := s.heap.objs.size) (o := DictO s.heap.objs.size []) (h' := s.heap.push { cls := .type "dict", data := .dict #[] }) (t' := s.toks) (fun _ _ q => Heap.get?_push_of_some _ q) (Nat.le_refl _) (dictO_ok (dictP_new I.big))
  rw [arm_eval_Dict, zip_pairTrees [some a] [b] X.env pos rfl rfl, dictDisplay_pairs _ (by simp [pairTrees]) (by simp [pairTrees])]
  refine wpAny_bind (wpAny_standAt (wpAny_bind (wpAny_subDictH (knd := nestedKind X.prog X.w) (Q := fun d s' => wpAny (model X.prog X.w) X.A (pure (Value.ref d)) (EP X pins σ Q) X.xe s') (show X.A.units + 8 < cLine by omega) (by simp [pairTrees]) ?_)))
  refine pairTrees_cons_walk (thn (ha.run pins _ σ _ _ I1 (q _ hn)) fun u s1 ⟨x, H1, I1, rx, q1⟩ => thn (hb.run pins s1 σ H1 _ I1 q1) fun w2 s2 ⟨y, H2, I2, ry, e, m, k, b, ex, hk, q2⟩ => ?_)
  refine pairTrees_nil_walk ?_
  subst ex
  cases rx
  have d0 : DtAt X.K H2 s.heap.objs.size [] [] := ⟨e, .nil, List.nodup_nil⟩
  obtain ⟨z, hs, xs, p, dd⟩ := dt_lib I2 d0
  cases p
  refine ⟨[(k, b, w2)], ⟨rfl, rfl, key_kind I2 hk, True.intro⟩, dd, fun h' tk' dd' sb => wpAny_pure ⟨.ref s.heap.objs.size, _, ?_, rfl, q2⟩⟩
  have px : PX [(k, b, y)] [(k, b, w2)] := .cons ⟨rfl, rfl, ry⟩ .nil
  have dd2 : h'.DictOfH (nestedKind X.prog X.w) s.heap.objs.size [(k, b, w2)] := dd'
  have dp := dt_back (X := X) px dd2 (by show 1 ≤ sizeLine; decide) hs fun x hx => by
    rw [List.mem_singleton.mp hx]; exact ⟨m, hk.key⟩
  refine d_write I2 (by rw [e]; trivial) sb ?_ (dictO_ok dp)
  obtain ⟨_, _, o, _, _, ho, _⟩ := dp
  exact ⟨o, ho⟩
theorem se_dictT (hu : X.A.units + 65 < cLine) (ha : SE X W a fa) (hb : SE X W b fb) : SE X W (.Dict [some a] [b] pos) (vDictT fa fb) := by
  refine peW (pe_dispT hu ha hb) fun σ H Q ⟨r, G, S, h⟩ p n => ?_
  have S0 := S.fresh (o := DictO p []) n
  have st0 := step_fresh (o := DictO p []) S A0.self n
  have h0 := h.rebase st0
  have a0 := st0.allow A0.self
  have x0 : Bx X.K G (upd H p (DictO p [])) p (.dt []) := ⟨fun c f => by cases f; exact S.gnone n, [], upd_same, .nil, List.nodup_nil⟩
  have n0 : ¬ Own r σ (upd H p (DictO p [])) p := fun z => S.nown n ((S.own_up n).mp z)
  have A0n : ¬ A0 r σ (upd H p (DictO p [])) p := by
    rintro (z | z)
    · exact n0 z
    · rw [upd_same] at z; cases z
  refine into upE S0 a0 h0 fun ea r1 v G1 H1 S1 a1 st1 e1 h1 => ?_
  have e1H : H1 p = some (DictO p []) := st1.keep p _ upd_same A0n
  have n1 : ¬ Own r1 σ H1 p := fun z => A0n (st1.onew p z)
  have g1 : G1 p = none := (st1.hold x0 fun c f => by cases f; exact n0).1.self
  have A1n : ¬ A0 r1 σ H1 p := by
    rintro (z | z)
    · exact n1 z
    · rw [e1H] at z; cases z
  refine into1 (Post (rpE X.K σ) X.K X.mg W (A0 r σ H) r1 G1 σ H1 Q) (fun z => z) (fun _ _ _ z => z) S1 a1 h1 fun eb r2 w G2 H2 S2 a2 st2 e2 h2 => ?_
  have e2H : H2 p = some (DictO p []) := st2.keep p _ e1H A1n
  have n2 : ¬ Own r2 σ H2 p := fun z => A1n (st2.onew p z)
  have g2 : G2 p = none := by
    cases z : G2 p with
    | none => rfl
    | some u =>
      rcases st2.gnew p (by rw [z]; exact fun z => nomatch z) with z | z
      · exact absurd g1 z
      · exact absurd z A1n
  cases ea with
  | tmp _ => exact h2.elim
  | bor _ => exact h2.elim
  | fr y =>
    have h2 : Post (rpE X.K σ) X.K X.mg W (A0 r σ H) r1 G1 σ H1 Q ((match keyT y with
      | some _ => bnd (frz eb) fun m => ret (EV.tmp (.dt [(y, m)]))
      | none => bad) r2) := h2
    cases q : keyT y with
    | none => rw [q] at h2; exact h2.elim
    | some k =>
      rw [q] at h2
      have h2 : Post (rpE X.K σ) X.K X.mg W (A0 r σ H) r1 G1 σ H1 Q (bnd (frz eb) (fun m => ret (.tmp (.dt [(y, m)]))) r2) := h2
      cases q3 : frz eb r2 with
      | bad => rw [bnd_bad q3] at h2; exact h2.elim
      | ex c m r' => exact (frz_noex q3).elim
      | ok m r3 =>
        rw [bnd_ok q3] at h2
        obtain ⟨G3, S3, st3, rp, g3, so⟩ := frz_apart S2 (st2.allow A0.self) e2 q3 g2 A1n
        have st23 := (st2.trans st3).mono a1
        have h3 := h2.rebase st23
        have e13 : EvRep X.K (A0 r σ H) r3 G3 σ H2 (.fr y) v := Rep.mono (st2.grow.trans st3.grow) e1
        obtain ⟨m', hk, e3, rk⟩ := keyE_ok S3 e13 (show keyE (.fr y) = some k from q)
        cases e3
        obtain ⟨b, rfl⟩ := hk.tup
        refine ⟨e2H, y, k, b, rfl, hk, ?_⟩
        exact fin_over (o := DictO p [(k, b, w)]) S3 g3 (fun z => n2 (so p z)) (.inr n) (st23.allow' a1) h3 (fun _ f => f) ⟨[(k, b, w)], upd_same, .cons ⟨hk.key, hk.dep, rk, rp⟩ .nil, by simp⟩ ⟨_, e2H⟩
end
end Sx

set_option Elab.async false
set_option linter.all false
set_option maxRecDepth 100000
set_option maxHeartbeats 4000000
/-! Sx16: the meanings, evaluated: rewriting rules at a state. -/
namespace Sx
open PySem L2
def R.th {α β : Type} : R α → (α → Ev β) → R β
  | .ok a r, k => k a r
  | .ex c m r, _ => .ex c m r
  | .bad, _ => .bad
section
variable {α β : Type} {r : Ro} {i j : Nat} {m : M} {x y : Int} {xs ys : List M}
@[simp] theorem th_ok {a : α} {k : α → Ev β} : (R.ok a r).th k = k a r := (rfl)
@[simp] theorem th_ex {c : String} {k : α → Ev β} : (R.ex c m r).th k = .ex c m r := (rfl)
@[simp] theorem th_bad {k : α → Ev β} : (R.bad : R α).th k = .bad := (rfl)
@[simp] theorem ev_bnd {f : Ev α} {k : α → Ev β} : bnd f k r = (f r).th k := by unfold bnd R.th; cases f r <;> rfl
@[simp] theorem ev_ret {a : α} : ret a r = .ok a r := (rfl)
@[simp] theorem ev_bad : (bad : Ev α) r = .bad := (rfl)
@[simp] theorem get0 {s : Slot} : get (s :: r) 0 = s := (rfl)
@[simp] theorem getS {s : Slot} : get (s :: r) (i + 1) = get r i := by simp [get]
theorem get_nil : get [] i = .un := by simp [get]
@[simp] theorem ev_lit : vLit m r = .ok (.fr m) r := (rfl)
theorem ev_var_v (h : get r i = .v m) : vVar i r = .ok (.fr m) r := by unfold vVar; rw [h]
theorem ev_var_o {p : Pin} (h : get r i = .o p xs) : vVar i r = .ok (.bor i) r := by unfold vVar; rw [h]
@[simp] theorem ev_v2 {g : EV → EV → Ev EV} {f1 f2 : Ev EV} : v2 g f1 f2 r = (f1 r).th fun a => bnd f2 fun b => g a b := by simp [v2]
@[simp] theorem ev_v1 {g : EV → Ev EV} {f1 : Ev EV} : v1 g f1 r = (f1 r).th g := by simp [v1]
@[simp] theorem ev_vC {g : List EV → Ev EV} {f : Ev (List EV)} : vC g f r = (f r).th g := by simp [vC]
@[simp] theorem ev_on1 {g : EV → Ev EV} {a : EV} : on1 g [a] = g a := (rfl)
@[simp] theorem ev_nil : vNil r = .ok [] r := (rfl)
@[simp] theorem ev_cons {f : Ev EV} {g : Ev (List EV)} : vCons f g r = (f r).th fun e => bnd g fun es => ret (e :: es) := by simp [vCons]
@[simp] theorem ev_one {f : Ev EV} : one f r = (f r).th fun e => ret [e] := by simp [one]
@[simp] theorem ev_tst {f : Ev EV} : tst f r = (f r).th boolT := by simp [tst]
@[simp] theorem ev_boolT {c : Bool} : boolT (.fr (.bl c)) = ret c := (rfl)
@[simp] theorem ev_tru {f : Ev EV} : tru f r = (f r).th truT := by simp [tru]
@[simp] theorem ev_truT_bl {c : Bool} : truT (.fr (.bl c)) r = .ok c r := (rfl)
@[simp] theorem ev_not {f : Ev Bool} : tNotM f r = (f r).th fun c => ret (!c) := by simp [tNotM]
@[simp] theorem ev_or {f g : Ev Bool} : tOrM f g r = (f r).th fun c => if c = true then ret true else g := by simp [tOrM]
@[simp] theorem ev_and {f g : Ev Bool} : tAndM f g r = (f r).th fun c => if c = true then g else ret false := by simp [tAndM]
@[simp] theorem ev_if {t : Ev Bool} {f g : Ev EV} : vIf t f g r = (t r).th fun c => if c = true then f else g := by simp [vIf]
@[simp] theorem ev_sIf {t : Ev Bool} {f g : Ev Fl} : sIf t f g r = (t r).th fun c => if c = true then f else g := by simp [sIf]
@[simp] theorem ev_seq {f g : Ev Fl} : sSeq f g r = (f r).th (seqK g) := by simp [sSeq]
@[simp] theorem seqK_nx {g : Ev Fl} : seqK g .nx = g := (rfl)
@[simp] theorem seqK_rt {g : Ev Fl} {e : EV} : seqK g (.rt e) = ret (.rt e) := (rfl)
@[simp] theorem seqK_bk {g : Ev Fl} : seqK g .bk = ret .bk := (rfl)
@[simp] theorem seqK_ct {g : Ev Fl} : seqK g .ct = ret .ct := (rfl)
@[simp] theorem ev_nx : sNx r = .ok .nx r := (rfl)
@[simp] theorem ev_bk : sBk r = .ok .bk r := (rfl)
@[simp] theorem ev_sEx {f : Ev EV} : sEx f r = (f r).th fun _ => ret .nx := by simp [sEx]
@[simp] theorem ev_sRet {f : Ev EV} : sRet f r = (f r).th retE := by simp [sRet]
@[simp] theorem retE_fr : retE (.fr m) r = .ok (.rt (.fr m)) r := (rfl)
@[simp] theorem retE_tmp {bx : Cont} : retE (.tmp bx) r = .ok (.rt (.tmp bx)) r := (rfl)
theorem retE_bor {bx : Cont} (h : get r i = .o .free bx) : retE (.bor i) r = .ok (.rt (.tmp bx)) (r.set i .un) := by
  show (match get r i with | .v m => R.ok (Fl.rt (.fr m)) r | .o .free xs => .ok (.rt (.tmp xs)) (r.set i .un) | _ => .bad) = _
  rw [h]
@[simp] theorem ev_asg {f : Ev EV} : sAsg i f r = (f r).th fun e => bnd (asg i e) fun _ => ret .nx := by simp [sAsg]
theorem asg_fr (hi : i < r.length) (hc : canSet (get r i) = true) : asg i (.fr m) r = .ok () (r.set i (.v m)) := by
  simp only [asg, settle, ev_bnd, ev_ret, th_ok, sto, slotE]
  exact if_pos ⟨hi, hc⟩
theorem asg_tmp {bx : Cont} (hi : i < r.length) (hc : canSet (get r i) = true) : asg i (.tmp bx) r = .ok () (r.set i (.o .free bx)) := by
  simp only [asg, settle, ev_bnd, ev_ret, th_ok, sto, slotE]
  exact if_pos ⟨hi, hc⟩
@[simp] theorem canSet_un : canSet .un = true := (rfl)
@[simp] theorem canSet_v : canSet (.v m) = true := (rfl)
@[simp] theorem canSet_f {bx : Cont} : canSet (.o .free bx) = true := (rfl)
@[simp] theorem g_lt : gLt (.fr (.int x)) (.fr (.int y)) r = .ok (.fr (.bl (decide (x < y)))) r := by simp [gInt, intOf]
@[simp] theorem g_le : gLe (.fr (.int x)) (.fr (.int y)) r = .ok (.fr (.bl (decide (x ≤ y)))) r := by simp [gInt, intOf]
@[simp] theorem g_gt : gGt (.fr (.int x)) (.fr (.int y)) r = .ok (.fr (.bl (decide (y < x)))) r := by simp [gInt, intOf]
@[simp] theorem g_ge : gGe (.fr (.int x)) (.fr (.int y)) r = .ok (.fr (.bl (decide (y ≤ x)))) r := by simp [gInt, intOf]
@[simp] theorem g_sub : gSub (.fr (.int x)) (.fr (.int y)) r = .ok (.fr (.int (x - y))) r := by simp [gInt, intOf]
@[simp] theorem g_add : gAdd (.fr (.int x)) (.fr (.int y)) r = .ok (.fr (.int (x + y))) r := by simp [gAdd, intOf]
theorem g_mul (h : y.natAbs < 18446744073709551616 ∨ x.natAbs < 18446744073709551616) : gMul (.fr (.int x)) (.fr (.int y)) r = .ok (.fr (.int (x * y))) r := by
  have : MulOk x y := .inl h.symm
  simp [gMul, intOf, this]
theorem g_mod (h : y ≠ 0) : gMod (.fr (.int x)) (.fr (.int y)) r = .ok (.fr (.int (x.fmod y))) r := by simp [gInt, intOf, h]
theorem g_div (h : DivOk y) : gFdiv (.fr (.int x)) (.fr (.int y)) r = .ok (.fr (.int (x.fdiv y))) r := by simp [gInt, intOf, h]
theorem divOk {n : Int} (h : 0 < n) (h2 : n < 18446744073709551616) : DivOk n := by
  refine ⟨by omega, ?_⟩
  have h3 : n.natAbs < 2 ^ 64 := by
    have : (2 : Nat) ^ 64 = 18446744073709551616 := by decide
    omega
  by_cases z : n.natAbs = 0
  · rw [z]; decide
  · exact Nat.lt_trans ((Nat.log2_lt z).mpr h3) (by decide)
@[simp] theorem g_neg : gNeg (.fr (.int x)) r = .ok (.fr (.int (-x))) r := (rfl)
@[simp] theorem g_int : gInt1 (.fr (.int x)) r = .ok (.fr (.int x)) r := (rfl)
@[simp] theorem g_isN_non : gIsN (.fr .non) (.fr .non) r = .ok (.fr (.bl true)) r := (rfl)
@[simp] theorem g_isN_tup : gIsN (.fr (.tup xs)) (.fr .non) r = .ok (.fr (.bl false)) r := (rfl)
@[simp] theorem g_isN_int : gIsN (.fr (.int x)) (.fr .non) r = .ok (.fr (.bl false)) r := (rfl)
@[simp] theorem g_notN_non : gNotN (.fr .non) (.fr .non) r = .ok (.fr (.bl false)) r := (rfl)
@[simp] theorem g_notN_tup : gNotN (.fr (.tup xs)) (.fr .non) r = .ok (.fr (.bl true)) r := (rfl)
@[simp] theorem g_notN_int : gNotN (.fr (.int x)) (.fr .non) r = .ok (.fr (.bl true)) r := (rfl)
@[simp] theorem seq_tup : seqOf r (.fr (.tup xs)) = some (.t, xs) := (rfl)
@[simp] theorem seq_lst : seqOf r (.fr (.lst xs)) = some (.l, xs) := (rfl)
@[simp] theorem seq_ro : seqOf r (.fr (.ro xs)) = some (.ro, xs) := (rfl)
@[simp] theorem seq_tmp : seqOf r (.tmp xs) = some (.l, xs) := (rfl)
theorem seq_bor {p : Pin} (h : get r i = .o p xs) : seqOf r (.bor i) = some (.l, xs) := by show seqS (get r i) = _; rw [h]; rfl
@[simp] theorem frz_fr : frz (.fr m) r = .ok m r := (rfl)
@[simp] theorem frz_tmp : frz (.tmp xs) r = .ok (.lst xs) r := (rfl)
@[simp] theorem frzL_nil : frzL [] r = .ok [] r := (rfl)
@[simp] theorem frzL_cons {e : EV} {es : List EV} : frzL (e :: es) r = (frz e r).th fun m => bnd (frzL es) fun ms => ret (m :: ms) := by simp [frzL]
@[simp] theorem ev_tup {f : Ev (List EV)} : vTup f r = (f r).th fun es => bnd (frzL es) fun ms => if ms.length ≤ 1000 then ret (.fr (.tup ms)) else bad := by simp [vTup]
@[simp] theorem ev_lst {f : Ev (List EV)} : vLst f r = (f r).th fun es => bnd (frzL es) fun ms => if ms.length ≤ 1000 then ret (.tmp ms) else bad := by simp [vLst]
/-! ### loops -/
@[simp] theorem forF_nil {t : Tg} {b : Ev Fl} : forF t b [] r = .ok .nx r := (rfl)
theorem forF_cons {t : Tg} {b : Ev Fl} {ms : List M} {r1 : Ro} (h : t m r = .ok () r1) : forF t b (m :: ms) r = (b r1).th (whK (forF t b ms)) := by
  show bnd (noX (t m)) (fun _ => bnd b (whK (forF t b ms))) r = _
  rw [ev_bnd, noX_of h, th_ok, ev_bnd]
@[simp] theorem whK_nx {w : Ev Fl} : whK w .nx = w := (rfl)
@[simp] theorem whK_ct {w : Ev Fl} : whK w .ct = w := (rfl)
@[simp] theorem whK_bk {w : Ev Fl} : whK w .bk = ret .nx := (rfl)
@[simp] theorem whK_rt {w : Ev Fl} {e : EV} : whK w (.rt e) = ret (.rt e) := (rfl)
@[simp] theorem brk_nil {x : Ev α} : brk [] x r = x r := by unfold brk; cases x r <;> rfl
theorem tName_ok (hi : i < r.length) (hc : canSet (get r i) = true) : tName i m r = .ok () (r.set i (.v m)) := if_pos ⟨hi, hc⟩
/-- a loop that goes through: an invariant over what is still to come -/
theorem forF_inv {t : Tg} {b : Ev Fl} (I : List M → Ro → Prop) (step : ∀ m ms r, I (m :: ms) r → ∃ r1 r2, t m r = .ok () r1 ∧ (b r1 = .ok .nx r2 ∨ b r1 = .ok .ct r2) ∧ I ms r2) : ∀ (ms : List M) (r : Ro), I ms r → ∃ r', forF t b ms r = .ok .nx r' ∧ I [] r'
  | [], r, h => ⟨r, rfl, h⟩
  | m :: ms, r, h => by
    obtain ⟨r1, r2, h1, h2, h3⟩ := step m ms r h
    obtain ⟨r', h4, h5⟩ := forF_inv I step ms r2 h3
    refine ⟨r', ?_, h5⟩
    rw [forF_cons h1]
    rcases h2 with h2 | h2 <;> rw [h2] <;> exact h4
/-- .. that may break -/
theorem forF_brk {t : Tg} {b : Ev Fl} (I : List M → Ro → Prop) (J : Ro → Prop) (hj : ∀ r, I [] r → J r) (step : ∀ m ms r, I (m :: ms) r → ∃ r1 r2, t m r = .ok () r1 ∧ ((b r1 = .ok .nx r2 ∧ I ms r2) ∨ (b r1 = .ok .bk r2 ∧ J r2))) : ∀ (ms : List M) (r : Ro), I ms r → ∃ r', forF t b ms r = .ok .nx r' ∧ J r'
  | [], r, h => ⟨r, rfl, hj r h⟩
  | m :: ms, r, h => by
    obtain ⟨r1, r2, h1, h2⟩ := step m ms r h
    rcases h2 with ⟨h2, h3⟩ | ⟨h2, h3⟩
    · obtain ⟨r', h4, h5⟩ := forF_brk I J hj step ms r2 h3
      exact ⟨r', by rw [forF_cons h1, h2]; exact h4, h5⟩
    · exact ⟨r2, by rw [forF_cons h1, h2]; rfl, h3⟩
theorem sFor_of {src : Ev (List M × List Src)} {t : Tg} {b : Ev Fl} {ms : List M} {r1 : Ro} (h : src r = .ok (ms, []) r1) : sFor src t b r = forF t b ms r1 := by
  unfold sFor
  rw [ev_bnd, h, th_ok, brk_nil]
theorem rng_ok {f : Ev EV} (h : f r = .ok (.fr (.int x)) r) (h0 : -4611686018427387904 ≤ x) (h1 : x < 4611686018427387904) : vRng1 (vCons f vNil) r = .ok (rngM 0 x.toNat, []) r := by
  simp [vRng1, h, rngE1, intOf, small62, h0, h1]
/-! ### calls -/
end
/-! ### the same, to be left to simp -/
section
variable {α β : Type} {r : Ro} {i j : Nat} {m : M} {x y : Int} {xs ys : List M} {p : Pin} {s : Slot}
def rdV (i : Nat) (r : Ro) : Slot → R EV
  | .v m => .ok (.fr m) r
  | .o _ _ => .ok (.bor i) r
  | .un => .bad
@[simp] theorem rdV_v : rdV i r (.v m) = .ok (.fr m) r := (rfl)
@[simp] theorem rdV_o {bx : Cont} : rdV i r (.o p bx) = .ok (.bor i) r := (rfl)
@[simp] theorem ev_var : vVar i r = rdV i r (get r i) := by unfold vVar rdV; cases get r i <;> rfl
@[simp] theorem sq_bor : seqOf r (.bor i) = seqS (get r i) := (rfl)
@[simp] theorem seqS_o : seqS (.o p xs) = some (.l, xs) := (rfl)
@[simp] theorem seqS_v : seqS (.v m) = seqM m := (rfl)
@[simp] theorem seqM_tup : seqM (.tup xs) = some (.t, xs) := (rfl)
@[simp] theorem seqM_lst : seqM (.lst xs) = some (.l, xs) := (rfl)
@[simp] theorem seqM_ro : seqM (.ro xs) = some (.ro, xs) := (rfl)
def optR (r : Ro) : Option M → R EV
  | some m => .ok (.fr m) r
  | none => .bad
@[simp] theorem optR_some : optR r (some m) = .ok (.fr m) r := (rfl)
def sqR {β : Type} (k : List M → R β) : Option (Kd × List M) → R β
  | some (_, xs) => k xs
  | none => .bad
@[simp] theorem sqR_some {k : List M → R β} {kd : Kd} : sqR k (some (kd, xs)) = k xs := (rfl)
@[simp] theorem boxOf_fr : boxOf r (.fr m) = none := (rfl)
@[simp] theorem boxOf_tmp {b : Cont} : boxOf r (.tmp b) = some b := (rfl)
@[simp] theorem boxOf_bor : boxOf r (.bor i) = slotB (get r i) := (rfl)
@[simp] theorem slotB_v : slotB (.v m) = none := (rfl)
@[simp] theorem slotB_o {b : Cont} : slotB (.o p b) = some b := (rfl)
@[simp] theorem okO_some : okO r (some m) = .ok (.fr m) r := (rfl)
@[simp] theorem a_ix {e f : EV} : gIx e f r = ixR e f r (boxOf r e) := (rfl)
theorem ixS {e : EV} : (match seqOf r e, intOf (.fr (.int x)) with
    | some (_, xs), some i => match atI xs i with
      | some m => R.ok (EV.fr m) r
      | none => .bad
    | _, _ => .bad) = sqR (fun xs => optR r (atI xs x)) (seqOf r e) := by
  unfold sqR optR
  simp only [intOf]
  cases seqOf r e with
  | none => rfl
  | some q => obtain ⟨k, xs⟩ := q; rfl
@[simp] theorem ixR_none {e : EV} : ixR e (.fr (.int x)) r none = sqR (fun xs => optR r (atI xs x)) (seqOf r e) := ixS
@[simp] theorem ixR_l {e : EV} : ixR e (.fr (.int x)) r (some (.l xs)) = sqR (fun xs => optR r (atI xs x)) (seqOf r e) := ixS
@[simp] theorem ixR_di {e : EV} {kvs : List (Int × M)} : ixR e (.fr (.int x)) r (some (.di kvs)) = okO r (findI kvs x) := (rfl)
def dtR (f : NestedKey → Option M) (r : Ro) : Option NestedKey → R EV
  | some k => okO r (f k)
  | none => .bad
@[simp] theorem dtR_some {f : NestedKey → Option M} {k : NestedKey} : dtR f r (some k) = okO r (f k) := (rfl)
@[simp] theorem ixR_dt {e : EV} {kvs : List (M × M)} : ixR e (.fr m) r (some (.dt kvs)) = dtR (findT kvs) r (keyT m) := by
  show (match keyT m with
    | some k => okO r (findT kvs k)
    | none => .bad) = _
  cases keyT m <;> rfl
@[simp] theorem a_len {e : EV} : gLen e r = lenR e r (boxOf r e) := (rfl)
theorem lenS {e : EV} : (match seqOf r e with
    | some (_, xs) => R.ok (EV.fr (.int xs.length)) r
    | none => .bad) = sqR (fun xs => .ok (.fr (.int xs.length)) r) (seqOf r e) := by
  unfold sqR
  cases seqOf r e with
  | none => rfl
  | some q => obtain ⟨k, xs⟩ := q; rfl
@[simp] theorem lenR_none {e : EV} : lenR e r none = sqR (fun xs => .ok (.fr (.int xs.length)) r) (seqOf r e) := lenS
@[simp] theorem lenR_l {e : EV} : lenR e r (some (.l xs)) = sqR (fun xs => .ok (.fr (.int xs.length)) r) (seqOf r e) := lenS
@[simp] theorem lenR_ll {e : EV} {xss : List (List M)} : lenR e r (some (.ll xss)) = .ok (.fr (.int xss.length)) r := (rfl)
@[simp] theorem lenR_di {e : EV} {kvs : List (Int × M)} : lenR e r (some (.di kvs)) = .ok (.fr (.int kvs.length)) r := (rfl)
@[simp] theorem lenR_dt {e : EV} {kvs : List (M × M)} : lenR e r (some (.dt kvs)) = .ok (.fr (.int kvs.length)) r := (rfl)
/-! in, not in -/
def inQ (f : Bool → Bool) (r : Ro) : Option M → Option (Kd × List M) → R EV
  | some x, some (_, ys) => if flat 60 x = true ∧ flats 59 ys = true then .ok (.fr (.bl (f (ys.any fun y => eqv y x)))) r else .bad
  | _, _ => .bad
@[simp] theorem inQ_some {f : Bool → Bool} {x : M} {k : Kd} {ys : List M} : inQ f r (some x) (some (k, ys)) = if flat 60 x = true ∧ flats 59 ys = true then .ok (.fr (.bl (f (ys.any fun y => eqv y x)))) r else .bad := (rfl)
@[simp] theorem a_in {e f : EV} : gIn e f r = inR (fun c => c) e f r (boxOf r f) := (rfl)
@[simp] theorem a_notIn {e f : EV} : gNotIn e f r = inR (fun c => !c) e f r (boxOf r f) := (rfl)
theorem inS {f : Bool → Bool} {a b : EV} : (match datOf r a, seqOf r b with
    | some x, some (_, ys) => if flat 60 x = true ∧ flats 59 ys = true then R.ok (EV.fr (.bl (f (ys.any fun y => eqv y x)))) r else .bad
    | _, _ => .bad) = inQ f r (datOf r a) (seqOf r b) := by
  unfold inQ
  cases datOf r a with
  | none => rfl
  | some x => cases seqOf r b with
    | none => rfl
    | some q => obtain ⟨k, xs⟩ := q; rfl
@[simp] theorem inR_none {f : Bool → Bool} {a b : EV} : inR f a b r none = inQ f r (datOf r a) (seqOf r b) := inS
@[simp] theorem inR_l {f : Bool → Bool} {a b : EV} : inR f a b r (some (.l xs)) = inQ f r (datOf r a) (seqOf r b) := inS
@[simp] theorem inR_di {f : Bool → Bool} {b : EV} {kvs : List (Int × M)} : inR f (.fr (.int x)) b r (some (.di kvs)) = .ok (.fr (.bl (f (findI kvs x).isSome))) r := (rfl)
def inT (f : Bool → Bool) (kvs : List (M × M)) (r : Ro) : Option NestedKey → R EV
  | some k => .ok (.fr (.bl (f (findT kvs k).isSome))) r
  | none => .bad
@[simp] theorem inT_some {f : Bool → Bool} {kvs : List (M × M)} {k : NestedKey} : inT f kvs r (some k) = .ok (.fr (.bl (f (findT kvs k).isSome))) r := (rfl)
@[simp] theorem inR_dt {f : Bool → Bool} {b : EV} {kvs : List (M × M)} : inR f (.fr m) b r (some (.dt kvs)) = inT f kvs r (keyT m) := by
  show (match keyT m with
    | some k => R.ok (EV.fr (.bl (f (findT kvs k).isSome))) r
    | none => .bad) = _
  cases keyT m <;> rfl
@[simp] theorem a_tupl {e : EV} : gTupl e r = sqR (fun xs => .ok (.fr (.tup xs)) r) (seqOf r e) := by
  unfold gTupl sqR
  cases seqOf r e with
  | none => rfl
  | some q => obtain ⟨k, xs⟩ := q; rfl
@[simp] theorem a_list {e : EV} : gList e r = listR e r (boxOf r e) := (rfl)
theorem listS {e : EV} : (match seqOf r e with
    | some (_, xs) => R.ok (EV.tmp xs) r
    | none => .bad) = sqR (fun xs => .ok (.tmp xs) r) (seqOf r e) := by
  unfold sqR
  cases seqOf r e with
  | none => rfl
  | some q => obtain ⟨k, xs⟩ := q; rfl
@[simp] theorem listR_none {e : EV} : listR e r none = sqR (fun xs => .ok (.tmp xs) r) (seqOf r e) := listS
@[simp] theorem listR_l {e : EV} : listR e r (some (.l xs)) = sqR (fun xs => .ok (.tmp xs) r) (seqOf r e) := listS
@[simp] theorem listR_di {e : EV} {kvs : List (Int × M)} : listR e r (some (.di kvs)) = .ok (.tmp (.l (kvs.map fun kv => .int kv.1))) r := (rfl)
@[simp] theorem listR_dt {e : EV} {kvs : List (M × M)} : listR e r (some (.dt kvs)) = .ok (.tmp (.l (kvs.map fun kv => kv.1))) r := (rfl)
@[simp] theorem a_asg_fr : asg i (.fr m) r = if i < r.length ∧ canSet (get r i) = true then .ok () (r.set i (.v m)) else .bad := by
  simp only [asg, settle, ev_bnd, ev_ret, th_ok, sto, slotE]
@[simp] theorem a_asg_tmp {bx : Cont} : asg i (.tmp bx) r = if i < r.length ∧ canSet (get r i) = true then .ok () (r.set i (.o .free bx)) else .bad := by
  simp only [asg, settle, ev_bnd, ev_ret, th_ok, sto, slotE]
@[simp] theorem a_sto : sto i s r = if i < r.length ∧ canSet (get r i) = true then .ok () (r.set i s) else .bad := (rfl)
@[simp] theorem a_mul : gMul (.fr (.int x)) (.fr (.int y)) r = if MulOk x y then .ok (.fr (.int (x * y))) r else .bad := (rfl)
@[simp] theorem a_mod : gMod (.fr (.int x)) (.fr (.int y)) r = if y ≠ 0 then .ok (.fr (.int (x.fmod y))) r else .bad := (rfl)
@[simp] theorem a_div : gFdiv (.fr (.int x)) (.fr (.int y)) r = if DivOk y then .ok (.fr (.int (x.fdiv y))) r else .bad := (rfl)
@[simp] theorem canCh_f : canCh (.o .free xs) = some (.free, xs) := (rfl)
@[simp] theorem canCh_p : canCh (.o .pin xs) = some (.pin, xs) := (rfl)
@[simp] theorem a_chk {k : Ev α} : chk i k r = (match get r i with | .o _ (.l _) => k r | _ => .bad) := (rfl)
@[simp] theorem a_chkO {k : Ev α} : chkO i k r = (match get r i with | .o _ _ => k r | _ => .bad) := (rfl)
def chgR (i : Nat) (g : List M → Option (List M × M)) (r : Ro) : Option (Pin × List M) → R EV
  | some (p, xs) => match g xs with
    | some (ys, m) => .ok (.fr m) (r.set i (.o p ys))
    | none => .bad
  | none => .bad
@[simp] theorem a_chg {g : List M → Option (List M × M)} : chg i g r = chgR i g r (canCh (get r i)) := by
  unfold chg chgR
  cases canCh (get r i) with
  | none => rfl
  | some q => rfl
@[simp] theorem chgR_some {g : List M → Option (List M × M)} {m : M} (h : g xs = some (ys, m)) : chgR i g r (some (p, xs)) = .ok (.fr m) (r.set i (.o p ys)) := by simp [chgR, h]
@[simp] theorem canB_f {b : Cont} : canB (.o .free b) = some (.free, b) := (rfl)
@[simp] theorem canB_p {b : Cont} : canB (.o .pin b) = some (.pin, b) := (rfl)
@[simp] theorem a_stoB {e : EV} : stoB i e m r = stoR i e m r (canB (get r i)) := (rfl)
def setR (i : Nat) (p : Pin) (xs : List M) (m : M) (r : Ro) : Option Nat → R Unit
  | some n => .ok () (r.set i (.o p (.l (xs.set n m))))
  | none => .bad
@[simp] theorem setR_some {n : Nat} : setR i p xs m r (some n) = .ok () (r.set i (.o p (.l (xs.set n m)))) := (rfl)
@[simp] theorem stoR_l : stoR i (.fr (.int x)) m r (some (p, .l xs)) = setR i p xs m r (ixN xs.length x) := by
  show (match (ixN xs.length x).map fun j => Cont.l (xs.set j m) with
    | some d' => R.ok () (r.set i (.o p d'))
    | none => .bad) = _
  cases ixN xs.length x <;> rfl
@[simp] theorem stoR_di {kvs : List (Int × M)} : stoR i (.fr (.int x)) m r (some (p, .di kvs)) = if kvs.length < big then .ok () (r.set i (.o p (.di (putI kvs x m)))) else .bad := by
  show (match if kvs.length < big then some (Cont.di (putI kvs x m)) else none with
    | some d' => R.ok () (r.set i (.o p d'))
    | none => .bad) = _
  by_cases c : kvs.length < big
  · rw [if_pos c, if_pos c]
  · rw [if_neg c, if_neg c]
def stT (i : Nat) (p : Pin) (kvs : List (M × M)) (y m : M) (r : Ro) : Option NestedKey → R Unit
  | some k => if kvs.length < big then .ok () (r.set i (.o p (.dt (putT kvs y k m)))) else .bad
  | none => .bad
@[simp] theorem stT_some {kvs : List (M × M)} {y : M} {k : NestedKey} : stT i p kvs y m r (some k) = if kvs.length < big then .ok () (r.set i (.o p (.dt (putT kvs y k m)))) else .bad := (rfl)
@[simp] theorem stoR_dt {kvs : List (M × M)} {y : M} : stoR i (.fr y) m r (some (p, .dt kvs)) = stT i p kvs y m r (keyT y) := by
  show (match (match keyT y with
      | some k => if kvs.length < big then some (Cont.dt (putT kvs y k m)) else none
      | none => none) with
    | some d' => R.ok () (r.set i (.o p d'))
    | none => .bad) = _
  cases keyT y with
  | none => rfl
  | some k =>
    show (match if kvs.length < big then some (Cont.dt (putT kvs y k m)) else none with
      | some d' => R.ok () (r.set i (.o p d'))
      | none => .bad) = if kvs.length < big then _ else _
    by_cases c : kvs.length < big
    · rw [if_pos c, if_pos c]
    · rw [if_neg c, if_neg c]
@[simp] theorem chgR_app : chgR i (gApp m) r (some (p, xs)) = if xs.length < big then .ok (.fr .non) (r.set i (.o p (xs ++ [m]))) else .bad := by
  unfold chgR gApp
  by_cases c : xs.length < big
  · simp only [if_pos c]
  · simp only [if_neg c]
@[simp] theorem a_setI {fi fe : Ev EV} : sSetI i fi fe r = (fe r).th fun e => chkO i (bnd fi fun b => bnd (frz e) fun m => bnd (stoB i b m) fun _ => ret .nx) := by
  unfold sSetI
  exact ev_bnd
@[simp] theorem a_app {f : Ev EV} : vApp i f r = chk i (bnd f fun e => bnd (frz e) fun m => chg i (gApp m)) r := (rfl)
@[simp] theorem intOf_int : intOf (.fr (.int x)) = some x := (rfl)
@[simp] theorem blOf_bl {b : Bool} : blOf (.fr (.bl b)) = some b := (rfl)
/-! ### a def's end -/
variable {n N : Nat} {body : Ev Fl} {args o : List Slot} {r' : Ro}
theorem fn_fr (hl : args.length = n) (h : body (args ++ List.replicate (N - n) .un) = .ok (.rt (.fr m)) r') (ho : outs args r' = o) : fnR n N body args = .ok (.fr m) o := by
  unfold fnR
  rw [if_pos hl, h, ← ho]
  rfl
theorem fn_tmp {bx : Cont} (hl : args.length = n) (h : body (args ++ List.replicate (N - n) .un) = .ok (.rt (.tmp bx)) r') (ho : outs args r' = o) : fnR n N body args = .ok (.tmp bx) o := by
  unfold fnR
  rw [if_pos hl, h, ← ho]
  rfl
theorem fn_ex {c : String} (hl : args.length = n) (h : body (args ++ List.replicate (N - n) .un) = .ex c m r') (ho : outs args r' = o) : fnR n N body args = .ex c m o := by
  unfold fnR
  rw [if_pos hl, h, ← ho]
  rfl
@[simp] theorem atI_0 {m : M} {xs : List M} : atI (m :: xs) 0 = some m := atI_nat (j := 0) rfl
@[simp] theorem atI_1 {m m2 : M} {xs : List M} : atI (m :: m2 :: xs) 1 = some m2 := atI_nat (j := 1) rfl
@[simp] theorem atI_2 {m m2 m3 : M} {xs : List M} : atI (m :: m2 :: m3 :: xs) 2 = some m3 := atI_nat (j := 2) rfl
@[simp] theorem atI_3 {m m2 m3 m4 : M} {xs : List M} : atI (m :: m2 :: m3 :: m4 :: xs) 3 = some m4 := atI_nat (j := 3) rfl
end
section
variable {α β : Type} {r : Ro} {i j : Nat} {m : M} {x y : Int} {xs ys : List M} {p : Pin} {s : Slot} {md : Md} {mds : List Md} {es : List EV} {o : List Slot}
@[simp] theorem ev_call {f : Ev (List EV)} {mm : Fn} : vCall mds mm f r = (f r).th fun es => bnd (frzA mds es) fun es => callK mds mm es := by simp only [vCall, ev_bnd]
@[simp] theorem frzA_nil : frzA [] [] r = .ok [] r := (rfl)
@[simp] theorem frzA_fr : frzA (md :: mds) (.fr m :: es) r = (frzA mds es r).th fun es => ret (.fr m :: es) := by
  cases md <;> simp [frzA, frz1]
@[simp] theorem frzA_tmp : frzA (md :: mds) (.tmp xs :: es) r = (frzA mds es r).th fun es => ret (.fr (.lst xs) :: es) := by
  cases md <;> simp [frzA, frz1]
@[simp] theorem frzA_lk : frzA (.lk :: mds) (.bor i :: es) r = (frzA mds es r).th fun es => ret (.bor i :: es) := by
  simp [frzA, frz1]
@[simp] theorem callK_1 {a : Md} {m1 : M} {mm : Fn} : callK [a] mm [.fr m1] r = callR [.fr m1] r (mm [.v m1]) := (rfl)
@[simp] theorem callK_2 {a b : Md} {m1 m2 : M} {mm : Fn} : callK [a, b] mm [.fr m1, .fr m2] r = callR [.fr m1, .fr m2] r (mm [.v m1, .v m2]) := (rfl)
@[simp] theorem callK_3 {a b c : Md} {m1 m2 m3 : M} {mm : Fn} : callK [a, b, c] mm [.fr m1, .fr m2, .fr m3] r = callR [.fr m1, .fr m2, .fr m3] r (mm [.v m1, .v m2, .v m3]) := (rfl)
@[simp] theorem callR_fr : callR es r (.ok (.fr m) o) = .ok (.fr m) (putBack es o r) := (rfl)
@[simp] theorem callR_tmp {bx : Cont} : callR es r (.ok (.tmp bx) o) = .ok (.tmp bx) (putBack es o r) := (rfl)
@[simp] theorem callR_ex {c : String} : callR es r (.ex c m o) = .ex c m (putBack es o r) := (rfl)
@[simp] theorem putBack_fr : putBack (.fr m :: es) (s :: o) r = putBack es o r := (rfl)
@[simp] theorem putBack_nil : putBack [] o r = r := (rfl)
@[simp] theorem canSet_set {s2 : Slot} : canSet (get (s :: s2 :: r) 0) = canSet s := (rfl)
@[simp] theorem src_seq {f : Ev EV} {g : List Src → Option (List M)} : vIt g (one f) r = (f r).th fun e => bnd (lockL [e]) fun ss => match g ss with
  | some ms => ret (ms, ss)
  | none => bad := by
  unfold vIt one
  rw [ev_bnd, ev_bnd]
  cases f r <;> rfl
/-- a walk over a plain sequence: nothing is locked -/
def srcF (k : Kd) (xs : List M) : Src := ⟨k, xs, none⟩
theorem seq_src {f : Ev EV} {k : Kd} (h : f r = .ok (.fr m) r) (hs : seqM m = some (k, xs)) : vIt iSeq (one f) r = .ok (xs, [srcF k xs]) r := by
  rw [src_seq, h, th_ok]
  simp [lockL, lock1, srcM, hs, iSeq, srcF]
theorem enum_src {f : Ev EV} {k : Kd} (h : f r = .ok (.fr m) r) (hs : seqM m = some (k, xs)) : vIt iEnum1 (vCons f vNil) r = .ok (enumM 0 xs, [srcF k xs]) r := by
  simp [vIt, h, lockL, lock1, srcM, hs, iEnum1, srcF]
@[simp] theorem brk_srcF {k : Kd} {x : Ev α} : brk [srcF k xs] x r = x r := by
  unfold brk
  cases x r <;> rfl
theorem sFor_src {src : Ev (List M × List Src)} {t : Tg} {b : Ev Fl} {ms : List M} {r1 : Ro} {k : Kd} (h : src r = .ok (ms, [srcF k xs]) r1) : sFor src t b r = forF t b ms r1 := by
  unfold sFor
  rw [ev_bnd, h, th_ok, brk_srcF]
theorem lc_src {src : Ev (List M × List Src)} {t : Tg} {c : Ev Bool} {e : Ev EV} {vs : List Nat} {ms : List M} {r1 : Ro} {k : Kd} (h : src r = .ok (ms, [srcF k xs]) r1) : vLc vs src t c e r = lcX vs t c e ms r1 := by
  unfold vLc
  rw [ev_bnd, h, th_ok, brk_srcF]
end
section
variable {r : Ro} {i j : Nat} {m : M} {ms xs : List M}
def retR (i : Nat) (r : Ro) : Slot → R Fl
  | .v m => .ok (.rt (.fr m)) r
  | .o .free xs => .ok (.rt (.tmp xs)) (r.set i .un)
  | _ => .bad
@[simp] theorem retR_v : retR i r (.v m) = .ok (.rt (.fr m)) r := (rfl)
@[simp] theorem retR_f {bx : Cont} : retR i r (.o .free bx) = .ok (.rt (.tmp bx)) (r.set i .un) := (rfl)
@[simp] theorem a_retE : retE (.bor i) r = retR i r (get r i) := by
  show (match get r i with | .v m => R.ok (Fl.rt (.fr m)) r | .o .free xs => .ok (.rt (.tmp xs)) (r.set i .un) | _ => .bad) = _
  unfold retR
  split <;> simp_all
@[simp] theorem settle_fr : settle (.fr m) r = .ok (.fr m) r := (rfl)
@[simp] theorem settle_tmp' : settle (.tmp xs) r = .ok (.tmp xs) r := (rfl)
@[simp] theorem slotE_fr : slotE (.fr m) = .v m := (rfl)
@[simp] theorem slotE_tmp {bx : Cont} : slotE (.tmp bx) = .o .free bx := (rfl)
@[simp] theorem a_par {f g : Ev EV} : sPar i j f g r = (f r).th fun a => bnd g fun b => bnd (settle a) fun a => bnd (settle b) fun b => bnd (sto i (slotE a)) fun _ => bnd (sto j (slotE b)) fun _ => ret .nx := by simp only [sPar, ev_bnd]
@[simp] theorem a_par3 {l : Nat} {f : Ev (List EV)} : sPar3 i j l f r = (f r).th (par3 i j l) := by simp only [sPar3, ev_bnd]
@[simp] theorem a_par3b {l : Nat} {a b c : EV} : par3 i j l [a, b, c] r = (if isTmp a + isTmp b + isTmp c ≤ 1 then bnd (settle a) fun a => bnd (settle b) fun b => bnd (settle c) fun c => sto3 i j l a b c else bad) r := (rfl)
@[simp] theorem isTmp_fr : isTmp (.fr m) = 0 := (rfl)
@[simp] theorem isTmp_tmp {bx : Cont} : isTmp (.tmp bx) = 1 := (rfl)
@[simp] theorem a_sto3 {l : Nat} {a b c : EV} : sto3 i j l a b c r = (sto i (slotE a) r).th fun _ => bnd (sto j (slotE b)) fun _ => bnd (sto l (slotE c)) fun _ => ret .nx := by simp only [sto3, ev_bnd]
/-- one name, no test, elements that change nothing -/
theorem lc_map1 {e : Ev EV} {g : M → M} (hi : i < r.length) (hp : plainS (get r i) = true) (hl : ms.length ≤ big) (he : ∀ m ∈ ms, e (r.set i (.v m)) = .ok (.fr (g m)) (r.set i (.v m))) : lcX [i] (tName i) (ret true) e ms r = .ok (.tmp (ms.map g)) r := by
  have gs : ∀ s, get (r.set i s) i = s := fun s => by rw [get_set, if_pos ⟨rfl, hi⟩]
  have wp : ∀ s, canSet s = true → wipeE [i] (r.set i s) = .ok () (r.set i .un) := fun s hs => by
    unfold wipeE
    rw [if_pos (by simp [gs, hs])]
    simp [wipeR, List.set_set]
  have key : ∀ (ms : List M) (s : Slot), canSet s = true → (∀ m ∈ ms, e (r.set i (.v m)) = .ok (.fr (g m)) (r.set i (.v m))) → lcF [i] (tName i) (ret true) e ms (r.set i s) = .ok (ms.map g) (r.set i .un) := by
    intro ms
    induction ms with
    | nil =>
      intro s hs _
      show bnd (wipeE [i]) (fun _ => ret []) _ = _
      rw [ev_bnd, wp s hs]
      rfl
    | cons m ms ih =>
      intro s hs hm
      have t1 : tName i m (r.set i .un) = .ok () (r.set i (.v m)) := by
        rw [tName_ok (by simpa using hi) (by rw [gs]; rfl), List.set_set]
      show bnd (wipeE [i]) (fun _ => bnd (noX (tName i m)) fun _ => bnd (noX (ret true)) fun b => if b = true then bnd (noX e) (fun ev => bnd (frz ev) fun x => bnd (lcF [i] (tName i) (ret true) e ms) fun xs => ret (x :: xs)) else lcF [i] (tName i) (ret true) e ms) _ = _
      rw [ev_bnd, wp s hs, th_ok, ev_bnd, noX_of t1, th_ok, ev_bnd, noX_of (show (ret true : Ev Bool) (r.set i (.v m)) = .ok true (r.set i (.v m)) from rfl), th_ok, if_pos rfl, ev_bnd, noX_of (hm m (List.mem_cons_self ..)), th_ok, ev_bnd, frz_fr, th_ok, ev_bnd, ih (.v m) rfl (fun x hx => hm x (List.mem_cons_of_mem _ hx))]
      rfl
  have k0 := key ms (get r i) (by cases q : get r i <;> first | rfl | (rw [q] at hp; cases hp)) he
  have hr : r.set i (get r i) = r := by
    apply List.ext_getElem?
    intro j
    by_cases h : i = j
    · subst h
      rw [List.getElem?_set_self hi]
      unfold get
      rw [List.getD_eq_getElem?_getD, List.getElem?_eq_getElem hi]
      rfl
    · rw [List.getElem?_set_ne h]
  rw [hr] at k0
  unfold lcX
  rw [if_pos ⟨by simp [hp], hl⟩, k0]
  show R.ok _ (restR [i] r (r.set i .un)) = _
  have : restR [i] r (r.set i .un) = r := by
    show (r.set i .un).set i (get r i) = r
    rw [List.set_set, hr]
  rw [this]
theorem tmp_src {f : Ev EV} {r1 : Ro} (h : f r = .ok (.tmp xs) r1) : vIt iSeq (one f) r = .ok (xs, [srcF .l xs]) r1 := by
  rw [src_seq, h, th_ok]
  rfl
theorem vLc_ex {src : Ev (List M × List Src)} {t : Tg} {c : Ev Bool} {e : Ev EV} {vs : List Nat} {x : String} (h : src r = .ex x m r) : vLc vs src t c e r = .ex x m r := by
  unfold vLc
  rw [ev_bnd, h]
  rfl
end
end Sx

set_option Elab.async false
set_option linter.all false
set_option maxRecDepth 100000
set_option maxHeartbeats 4000000
/-! Sx17: what is wanted behind a meaning, backwards: rules for simp, rules for loops. -/
namespace Sx
open PySem L2
abbrev QX := String → M → Ro → Prop
abbrev RQ {α : Type} (Q : α → Ro → Prop) (E : QX) : Type := R α
def wpD {α : Type} (Q : α → Ro → Prop) (E : QX) : R α → Prop
  | .ok a r => Q a r
  | .ex c m r => E c m r
  | .bad => False
@[irreducible] def wp {α : Type} (Q : α → Ro → Prop) (E : QX) (x : RQ Q E) : Prop := wpD Q E x
abbrev noE : QX := fun _ _ _ => False
section
variable {α β : Type} {r r1 : Ro} {i j : Nat} {m : M} {x y : R α} {xs ys : List M} {Q Q' : α → Ro → Prop} {E E' : QX}
theorem wp_congr (h : x = y) : wp Q E x = wp Q E y := by rw [h]
@[simp] theorem wp_ok {a : α} : wp Q E (.ok a r) = Q a r := by unfold wp; rfl
@[simp] theorem wp_ex {c : String} : wp Q E (.ex c m r : R α) = E c m r := by unfold wp; rfl
@[simp] theorem wp_bad : wp Q E (.bad : R α) = False := by unfold wp; rfl
@[simp] theorem wp_th {z : R β} {k : β → Ev α} : wp Q E (z.th k) = wp (fun a r => wp Q E (k a r)) E z := by cases z <;> simp
@[simp] theorem wp_guard {c : Prop} [Decidable c] : wp Q E (if c then x else .bad) = (c ∧ wp Q E x) := by
  by_cases h : c <;> simp [h]
theorem wp_ite {c : Prop} [Decidable c] : wp Q E (if c then x else y) = if c then wp Q E x else wp Q E y := by
  by_cases h : c <;> simp [h]
theorem wp_iff {c : Prop} [Decidable c] (h1 : c → wp Q E x) (h2 : ¬ c → wp Q E y) : wp Q E (if c then x else y) := by
  by_cases h : c
  · rw [if_pos h]; exact h1 h
  · rw [if_neg h]; exact h2 h
@[simp] theorem ite_ap {c : Prop} [Decidable c] {f g : Ev α} : (if c then f else g) r = if c then f r else g r := by
  by_cases h : c <;> simp [h]
theorem wp_mono (h : wp Q E x) (hq : ∀ a r, Q a r → Q' a r) (he : ∀ c m r, E c m r → E' c m r) : wp Q' E' x := by
  cases x with
  | ok a r => rw [wp_ok] at h ⊢; exact hq _ _ h
  | ex c m r => rw [wp_ex] at h ⊢; exact he _ _ _ h
  | bad => rw [wp_bad] at h; exact h.elim
/-- a cut: what is wanted here is sealed in the first goal -/
theorem wp_cut (P : α → Ro → Prop) (h1 : ∀ (J : α → Ro → Prop), (∀ a r, P a r → J a r) → wp J E x) (h2 : ∀ a r, P a r → Q a r) : wp Q E x :=
  wp_mono (h1 P fun _ _ z => z) h2 fun _ _ _ z => z
theorem wp_eq {a : α} (h : x = .ok a r) (q : Q a r) : wp Q E x := by rw [h, wp_ok]; exact q
theorem wp_eqx {c : String} (h : x = .ex c m r) (q : E c m r) : wp Q E x := by rw [h, wp_ex]; exact q
theorem wp_out (h : wp Q noE x) : ∃ a r, x = .ok a r ∧ Q a r := by
  cases x with
  | ok a r => rw [wp_ok] at h; exact ⟨a, r, rfl, h⟩
  | ex c m r => rw [wp_ex] at h; exact h.elim
  | bad => rw [wp_bad] at h; exact h.elim
/-! ### calls -/
def noB : EV → Prop
  | .bor _ => False
  | _ => True
@[simp] theorem noB_fr : noB (.fr m) = True := (rfl)
@[simp] theorem noB_tmp {bx : Cont} : noB (.tmp bx) = True := (rfl)
@[simp] theorem wp_callR {es : List EV} {z : R EV} {Q : EV → Ro → Prop} : wp Q E (callR es r z) = wp (fun a o => noB a ∧ Q a (putBack es o r)) (fun c m o => E c m (putBack es o r)) z := by
  cases z with
  | ok a o => cases a <;> simp [callR, noB]
  | ex c m o => simp [callR]
  | bad => simp [callR]
def callO (m : Fn) (es : List EV) (r : Ro) : Option (List Slot) → R EV
  | some a => if (borsOf r es).Nodup then callR es r (m a) else .bad
  | none => .bad
@[simp] theorem callO_some {m : Fn} {es : List EV} {a : List Slot} : callO m es r (some a) = if (borsOf r es).Nodup then callR es r (m a) else .bad := (rfl)
@[simp] theorem a_callK {mds : List Md} {m : Fn} {es : List EV} : callK mds m es r = callO m es r (slotsOf r mds es) := by
  unfold callK callO
  cases slotsOf r mds es <;> rfl
def consO : Option Slot → Option (List Slot) → Option (List Slot)
  | some s, some l => some (s :: l)
  | _, _ => none
@[simp] theorem consO_some {s : Slot} {l : List Slot} : consO (some s) (some l) = some (s :: l) := (rfl)
@[simp] theorem slots_nil : slotsOf r [] [] = some [] := (rfl)
@[simp] theorem slots_cons {md : Md} {mds : List Md} {e : EV} {es : List EV} : slotsOf r (md :: mds) (e :: es) = consO (argOf r md e) (slotsOf r mds es) := by
  show (match argOf r md e, slotsOf r mds es with | some s, some l => some (s :: l) | _, _ => none) = _
  cases argOf r md e <;> cases slotsOf r mds es <;> rfl
@[simp] theorem argOf_fr {md : Md} : argOf r md (.fr m) = some (.v m) := (rfl)
@[simp] theorem argOf_bor {md : Md} : argOf r md (.bor i) = argO md (get r i) := (rfl)
@[simp] theorem argO_vv {md : Md} : argO md (.v m) = some (.v m) := by cases md <;> rfl
@[simp] theorem argO_lk {bx : Cont} {p : Pin} : argO .lk (.o p bx) = some (.o .lock bx) := (rfl)
@[simp] theorem argO_iof {bx : Cont} : argO .io (.o .free bx) = some (.o .pin bx) := (rfl)
@[simp] theorem argO_iop {bx : Cont} : argO .io (.o .pin bx) = some (.o .pin bx) := (rfl)
def borS (i : Nat) (l : List Nat) : Slot → List Nat
  | .o _ _ => i :: l
  | _ => l
@[simp] theorem borS_o {bx : Cont} {p : Pin} {l : List Nat} : borS i l (.o p bx) = i :: l := (rfl)
@[simp] theorem borS_v {l : List Nat} : borS i l (.v m) = l := (rfl)
@[simp] theorem bors_nil : borsOf r [] = [] := (rfl)
@[simp] theorem bors_bor {es : List EV} : borsOf r (.bor i :: es) = borS i (borsOf r es) (get r i) := by
  show (match get r i with | .o _ _ => i :: borsOf r es | _ => borsOf r es) = _
  cases get r i <;> rfl
@[simp] theorem bors_fr {es : List EV} : borsOf r (.fr m :: es) = borsOf r es := (rfl)
@[simp] theorem bors_tmp {bx : Cont} {es : List EV} : borsOf r (.tmp bx :: es) = borsOf r es := (rfl)
@[simp] theorem frzA_io {mds : List Md} {es : List EV} : frzA (.io :: mds) (.bor i :: es) r = (frzA mds es r).th fun es => ret (.bor i :: es) := by
  simp [frzA, frz1]
def frzO (i : Nat) (r : Ro) : Option M → R M
  | some m => .ok m (r.set i (.v m))
  | none => .bad
def frzS (i : Nat) (r : Ro) : Slot → R M
  | .v m => .ok m r
  | .o .free b => frzO i r (frzB b)
  | _ => .bad
@[simp] theorem frzS_v : frzS i r (.v m) = .ok m r := (rfl)
@[simp] theorem frzS_f : frzS i r (.o .free (.l xs)) = .ok (.lst xs) (r.set i (.v (.lst xs))) := (rfl)
@[simp] theorem frzS_ll {xss : List (List M)} : frzS i r (.o .free (.ll xss)) = .ok (.lst (xss.map .lst)) (r.set i (.v (.lst (xss.map .lst)))) := (rfl)
@[simp] theorem a_frzb : frz (.bor i) r = frzS i r (get r i) := by
  show frzI i r = _
  unfold frzI frzS frzO
  cases get r i with
  | un => rfl
  | v m => rfl
  | o p xs => cases p <;> cases xs <;> rfl
@[simp] theorem frzA_f {mds : List Md} {es : List EV} : frzA (.f :: mds) (.bor i :: es) r = (frzS i r (get r i)).th fun m => bnd (frzA mds es) fun es => ret (.fr m :: es) := by
  simp only [frzA, frz1, ev_bnd, a_frzb, ev_ret]
  cases frzS i r (get r i) <;> rfl
def setS (r : Ro) (i : Nat) (s : Slot) : Slot → Ro
  | .o p _ => match s with
    | .o _ xs => r.set i (.o p xs)
    | _ => r
  | _ => r
@[simp] theorem setS_o {bx : Cont} {p q : Pin} {zs : Cont} : setS r i (.o q bx) (.o p zs) = r.set i (.o p bx) := (rfl)
@[simp] theorem setS_v {s : Slot} : setS r i s (.v m) = r := (rfl)
@[simp] theorem putBack_bor {es : List EV} {s : Slot} {o : List Slot} : putBack (.bor i :: es) (s :: o) r = putBack es o (setS r i s (get r i)) := by
  show putBack es o (put1 (.bor i) s r) = _
  congr 1
  show (match s with | .o _ xs => setO r i xs (get r i) | _ => r) = _
  cases s <;> cases get r i <;> rfl
@[simp] theorem putBack_tmp {bx : Cont} {es : List EV} {s : Slot} {o : List Slot} : putBack (.tmp bx :: es) (s :: o) r = putBack es o r := (rfl)
def tkR {α : Type} (n : Nat) : R α → R α
  | .ok a r => .ok a (r.take n)
  | .ex c m r => .ex c m (r.take n)
  | .bad => .bad
@[simp] theorem wp_tkR {n : Nat} : wp Q E (tkR n x) = wp (fun a r => Q a (r.take n)) (fun c m r => E c m (r.take n)) x := by
  cases x <;> simp [tkR]
@[simp] theorem a_vCallT {mds : List Md} {m : Fn} {f : Ev (List EV)} : vCallT mds m f r = (f r).th fun es => callT mds m es := by simp only [vCallT, ev_bnd]
@[simp] theorem a_callT {bx : Cont} {mds : List Md} {m : Fn} {es : List EV} : callT mds m (.tmp bx :: es) r = tkR r.length (callK mds m (.bor r.length :: es) (r ++ [.o .free bx])) := by
  show (match callK mds m (.bor r.length :: es) (r ++ [.o .free bx]) with
    | .ok a r' => R.ok a (r'.take r.length)
    | .ex c x r' => .ex c x (r'.take r.length)
    | .bad => .bad) = _
  cases callK mds m (.bor r.length :: es) (r ++ [.o .free bx]) <;> rfl
@[simp] theorem a_vCallD {mds : List Md} {m : Fn} {dms : List M} {f : Ev (List EV)} : vCallD mds m dms f r = (f r).th fun es => bnd (frzA mds (es ++ dms.map .fr)) fun es => callK mds m es := by simp only [vCallD, ev_bnd]
/-! ### a def -/
def finQ (args : List Slot) (Q : EV → Ro → Prop) : Fl → Ro → Prop
  | .rt (.bor _), _ => False
  | .rt e, r => Q e (outs args r)
  | .nx, r => Q (.fr .non) (outs args r)
  | _, _ => False
@[simp] theorem finQ_fr {args : List Slot} {Q : EV → Ro → Prop} : finQ args Q (.rt (.fr m)) r = Q (.fr m) (outs args r) := (rfl)
@[simp] theorem finQ_tmp {bx : Cont} {args : List Slot} {Q : EV → Ro → Prop} : finQ args Q (.rt (.tmp bx)) r = Q (.tmp bx) (outs args r) := (rfl)
@[simp] theorem finQ_nx {args : List Slot} {Q : EV → Ro → Prop} : finQ args Q .nx r = Q (.fr .non) (outs args r) := (rfl)
theorem wp_fnR {n N : Nat} {body : Ev Fl} {args : List Slot} {Q : EV → Ro → Prop} (hl : args.length = n) (h : wp (finQ args Q) (fun c m r => E c m (outs args r)) (body (args ++ List.replicate (N - n) .un))) : wp Q E (fnR n N body args) := by
  unfold fnR
  rw [if_pos hl]
  cases q : body (args ++ List.replicate (N - n) .un) with
  | bad => rw [q, wp_bad] at h; exact h.elim
  | ex c m r => rw [q, wp_ex] at h; simpa [fin] using h
  | ok fl r =>
    rw [q, wp_ok] at h
    cases fl with
    | nx => simpa [fin] using h
    | bk => exact h.elim
    | ct => exact h.elim
    | rt e => cases e with
      | bor i => exact h.elim
      | fr m => simpa [fin] using h
      | tmp m => simpa [fin] using h
@[simp] theorem outs_nil : outs [] r = [] := (rfl)
@[simp] theorem outs_v {a : List Slot} : outs (.v m :: a) r = .v m :: outs a r.tail := (rfl)
@[simp] theorem outs_o {bx : Cont} {p : Pin} {a : List Slot} : outs (.o p bx :: a) r = get r 0 :: outs a r.tail := (rfl)
/-! ### walks -/
@[simp] theorem wp_brk {ss : List Src} {f : Ev α} : wp Q E (brk ss f r) = wp (fun a r' => Q a (unl ss r')) (fun c m r' => E c m (unl ss r')) (f r) := by
  unfold brk
  cases f r <;> simp
@[simp] theorem wp_noX {f : Ev α} : wp Q E (noX f r) = wp Q noE (f r) := by
  unfold noX
  cases f r <;> simp
@[simp] theorem a_for {src : Ev (List M × List Src)} {t : Tg} {b : Ev Fl} : sFor src t b r = (src r).th fun p => brk p.2 (forF t b p.1) := by simp only [sFor, ev_bnd]
@[simp] theorem a_lc {src : Ev (List M × List Src)} {vs : List Nat} {t : Tg} {c : Ev Bool} {e : Ev EV} : vLc vs src t c e r = (src r).th fun p => brk p.2 (lcX vs t c e p.1) := by simp only [vLc, ev_bnd]
@[simp] theorem unl_nil : unl [] r = r := (rfl)
@[simp] theorem unl_cons {s : Src} {ss : List Src} : unl (s :: ss) r = unl1 s (unl ss r) := (rfl)
@[simp] theorem unl1_n {k : Kd} : unl1 ⟨k, xs, none⟩ r = r := (rfl)
@[simp] theorem unl1_s {k : Kd} {p : Pin} : unl1 ⟨k, xs, some (i, p)⟩ r = r.set i (.o p xs) := (rfl)
def itR (g : List Src → Option (List M)) (ss : List Src) (r : Ro) : R (List M × List Src) := match g ss with
  | some ms => .ok (ms, ss) r
  | none => .bad
@[simp] theorem a_it {g : List Src → Option (List M)} {f : Ev (List EV)} : vIt g f r = (f r).th fun evs => bnd (lockL evs) (itR g) := by
  unfold vIt
  rw [ev_bnd]
  congr 1
  funext evs
  congr 1
  funext ss r
  unfold itR
  cases g ss <;> rfl
@[simp] theorem it_seq {s : Src} : itR iSeq [s] r = .ok (s.xs, [s]) r := (rfl)
@[simp] theorem it_enum {s : Src} : itR iEnum1 [s] r = .ok (enumM 0 s.xs, [s]) r := (rfl)
@[simp] theorem it_zip2 {s t : Src} : itR iZip2M [s, t] r = .ok (zip2M s.xs t.xs, [s, t]) r := (rfl)
@[simp] theorem it_zip3 {s t u : Src} : itR iZip3M [s, t, u] r = .ok (zip3M s.xs t.xs u.xs, [s, t, u]) r := (rfl)
@[simp] theorem lockL_nil : lockL [] r = .ok [] r := (rfl)
@[simp] theorem lockL_cons {e : EV} {es : List EV} : lockL (e :: es) r = (lock1 e r).th fun s => bnd (lockL es) fun ss => ret (s :: ss) := by simp only [lockL, ev_bnd]
@[simp] theorem lock_fr : lock1 (.fr m) r = srcM m r := (rfl)
@[simp] theorem lock_tmp : lock1 (.tmp (.l xs)) r = .ok ⟨.l, xs, none⟩ r := (rfl)
@[simp] theorem lock_tmpll {xss : List (List M)} : lock1 (.tmp (.ll xss)) r = .ok ⟨.l, xss.map .lst, none⟩ r := (rfl)
@[simp] theorem lkS_v : lkS i r (.v m) = srcM m r := (rfl)
@[simp] theorem lkS_o {p : Pin} : lkS i r (.o p (.l xs)) = .ok ⟨.l, xs, some (i, p)⟩ (r.set i (.o .lock (.l xs))) := (rfl)
@[simp] theorem lkS_ll {xss : List (List M)} (h : get r i = .o .free (.ll xss)) : lkS i r (.o .free (.ll xss)) = .ok ⟨.l, xss.map .lst, none⟩ (r.set i (.v (.lst (xss.map .lst)))) := by
  show (match frzI i r with
    | .ok m r' => srcM m r'
    | _ => .bad) = _
  unfold frzI
  rw [h]
  rfl
@[simp] theorem lock_bor : lock1 (.bor i) r = lkS i r (get r i) := (rfl)
@[simp] theorem srcM_t : srcM (.tup xs) r = .ok ⟨.t, xs, none⟩ r := (rfl)
@[simp] theorem srcM_l : srcM (.lst xs) r = .ok ⟨.l, xs, none⟩ r := (rfl)
@[simp] theorem srcM_r : srcM (.ro xs) r = .ok ⟨.ro, xs, none⟩ r := (rfl)
@[simp] theorem a_rng1 {f : Ev (List EV)} : vRng1 f r = (f r).th rngE1 := by simp only [vRng1, ev_bnd]
@[simp] theorem a_rng2 {f : Ev (List EV)} : vRng2 f r = (f r).th rngE2 := by simp only [vRng2, ev_bnd]
@[simp] theorem a_rngE1 {n : Int} : rngE1 [.fr (.int n)] r = if small62 n = true then .ok (rngM 0 n.toNat, []) r else .bad := by
  unfold rngE1
  simp only [intOf_int]
  by_cases c : small62 n = true <;> simp [c]
@[simp] theorem a_rngE2 {n k : Int} : rngE2 [.fr (.int n), .fr (.int k)] r = if small62 n = true ∧ small62 k = true then .ok (rngM n (k - n).toNat, []) r else .bad := by
  unfold rngE2
  simp only [intOf_int]
  by_cases c : small62 n = true ∧ small62 k = true
  · rw [if_pos c, if_pos c]; rfl
  · rw [if_neg c, if_neg c]; rfl
theorem small_nat {n : Nat} (h : n < 4611686018427387904) : small62 (n : Int) = true := by
  unfold small62
  simp only [Bool.and_eq_true, decide_eq_true_eq]
  exact ⟨Int.le_trans (show (-4611686018427387904 : Int) ≤ 0 by decide) (Int.natCast_nonneg n), Int.ofNat_lt.mpr h⟩
@[simp] theorem small_int {n : Int} (h0 : 0 ≤ n) (h : n < 4611686018427387904) : small62 n = true := by
  unfold small62
  simp only [Bool.and_eq_true, decide_eq_true_eq]
  exact ⟨Int.le_trans (show (-4611686018427387904 : Int) ≤ 0 by decide) h0, h⟩
/-- where a loop's body goes on -/
def loopQ (nx : Ro → Prop) (Q : Fl → Ro → Prop) : Fl → Ro → Prop
  | .nx, r => nx r
  | .ct, r => nx r
  | .bk, r => Q .nx r
  | .rt e, r => Q (.rt e) r
@[simp] theorem loopQ_nx {n : Ro → Prop} {Q : Fl → Ro → Prop} : loopQ n Q .nx r = n r := (rfl)
@[simp] theorem loopQ_ct {n : Ro → Prop} {Q : Fl → Ro → Prop} : loopQ n Q .ct r = n r := (rfl)
@[simp] theorem loopQ_bk {n : Ro → Prop} {Q : Fl → Ro → Prop} : loopQ n Q .bk r = Q .nx r := (rfl)
@[simp] theorem loopQ_rt {n : Ro → Prop} {Q : Fl → Ro → Prop} {e : EV} : loopQ n Q (.rt e) r = Q (.rt e) r := (rfl)
theorem wp_for0 {t : Tg} {b : Ev Fl} {Q : Fl → Ro → Prop} (I : List M → Ro → Prop) : ∀ {ms : List M} {r : Ro}, I ms r →
    (∀ m ms r, I (m :: ms) r → wp (fun _ r => wp (loopQ (I ms) Q) E (b r)) noE (t m r)) → (∀ r, I [] r → Q .nx r) → wp Q E (forF t b ms r)
  | [], r, h, _, hd => by rw [forF_nil, wp_ok]; exact hd r h
  | m :: ms, r, h, hs, hd => by
    show wp Q E (bnd (noX (t m)) (fun _ => bnd b (whK (forF t b ms))) r)
    rw [ev_bnd, wp_th, wp_noX]
    refine wp_mono (hs m ms r h) (fun _ r1 h1 => ?_) (fun _ _ _ z => z.elim)
    rw [ev_bnd, wp_th]
    refine wp_mono h1 (fun fl r2 h2 => ?_) (fun _ _ _ z => z)
    cases fl with
    | nx => exact wp_for0 I h2 hs hd
    | ct => exact wp_for0 I h2 hs hd
    | bk => simpa using h2
    | rt e => simpa using h2
/-- .. the invariant is a sealed one in the body's goal -/
theorem wp_for {t : Tg} {b : Ev Fl} {Q : Fl → Ro → Prop} {ms : List M} (I : List M → Ro → Prop) (h : I ms r) (hs : ∀ (J : List M → Ro → Prop), (∀ ms r, I ms r → J ms r) → ∀ m ms r, I (m :: ms) r → wp (fun _ r => wp (loopQ (J ms) Q) E (b r)) noE (t m r)) (hd : ∀ r, I [] r → Q .nx r) : wp Q E (forF t b ms r) :=
  wp_for0 I h (hs I fun _ _ z => z) hd
theorem wp_rngL {t : Tg} {b : Ev Fl} {Q : Fl → Ro → Prop} {n : Nat} {lo : Int} (I : Nat → Ro → Prop) (h : I 0 r) (hs : ∀ (i : Nat), i < n → ∀ r, I i r → ∀ (J : Ro → Prop), (∀ r, I (i + 1) r → J r) → wp (fun _ r => wp (loopQ J Q) E (b r)) noE (t (.int (lo + (i : Int))) r)) (hd : ∀ r, I n r → Q .nx r) : wp Q E (forF t b (rngM lo n) r) := by
  refine wp_for0 (fun ms r => ∃ i, i + ms.length = n ∧ ms = (List.range' i ms.length).map (fun j : Nat => M.int (lo + (j : Int))) ∧ I i r) ⟨0, by simp [rngM], by simp [rngM, List.range_eq_range'], h⟩ ?_ ?_
  · rintro m ms r ⟨i, h1, h2, h3⟩
    have h1' : i + (ms.length + 1) = n := h1
    have h2' : m :: ms = (List.range' i (ms.length + 1)).map (fun j : Nat => M.int (lo + (j : Int))) := h2
    rw [List.range'_succ, List.map_cons] at h2'
    obtain ⟨rfl, h4⟩ := List.cons.inj h2'
    exact hs i (by omega) r h3 _ fun r h5 => ⟨i + 1, by omega, h4, h5⟩
  · rintro r ⟨i, h1, _, h3⟩
    have h1' : i + 0 = n := h1
    obtain rfl : i = n := by omega
    exact hd r h3
/-- a walk over range(n) -/
theorem wp_rng {t : Tg} {b : Ev Fl} {Q : Fl → Ro → Prop} {n : Nat} (I : Nat → Ro → Prop) (h : I 0 r) (hs : ∀ (i : Nat), i < n → ∀ r, I i r → ∀ (J : Ro → Prop), (∀ r, I (i + 1) r → J r) → wp (fun _ r => wp (loopQ J Q) E (b r)) noE (t (.int (i : Int)) r)) (hd : ∀ r, I n r → Q .nx r) : wp Q E (forF t b (rngM 0 n) r) :=
  wp_rngL I h (fun i hi r h J hJ => by rw [Int.zero_add]; exact hs i hi r h J hJ) hd
@[simp] theorem a_tName : tName i m r = if i < r.length ∧ canSet (get r i) = true then .ok () (r.set i (.v m)) else .bad := (rfl)
@[simp] theorem a_tTup {ts : List Tg} {ms : List M} : tTup ts (.tup ms) r = tAll ts ms r := (rfl)
@[simp] theorem tAll_nil : tAll [] [] r = .ok () r := (rfl)
@[simp] theorem tAll_cons {t : Tg} {ts : List Tg} {ms : List M} : tAll (t :: ts) (m :: ms) r = (t m r).th fun _ => tAll ts ms := by simp only [tAll, ev_bnd]
@[simp] theorem a_asgT {t : Tg} {f : Ev EV} : sAsgT t f r = (f r).th fun e => bnd (frz e) fun m => bnd (noX (t m)) fun _ => ret .nx := by simp only [sAsgT, ev_bnd]
/-- while: n bounds the turns that are left -/
theorem wp_while0 {c : Ev Bool} {b : Ev Fl} {Q : Fl → Ro → Prop} (I : Nat → Ro → Prop) {n : Nat} (h : I n r) (hs : ∀ n r, I n r → wp (fun t r => if t = true then wp (loopQ (fun r => ∃ k, k < n ∧ I k r) Q) E (b r) else Q .nx r) E (c r)) : wp Q E (sWh c b r) := by
  have key : ∀ (n : Nat) (r : Ro), I n r → wp Q E (whF c b (n + 1) r) := by
    intro n
    induction n using Nat.strongRecOn with
    | _ n ih =>
      intro r h
      have up : ∀ (k l : Nat) (r : Ro), wp Q E (whF c b k r) → wp Q E (whF c b (k + l) r) := by
        intro k
        induction k with
        | zero =>
          intro l r h
          rw [show whF c b 0 r = .bad from rfl, wp_bad] at h
          exact h.elim
        | succ k ih2 =>
          intro l r h
          have e : k + 1 + l = (k + l) + 1 := by omega
          rw [e]
          show wp Q E (bnd c (fun t => if t = true then bnd b (whK (whF c b (k + l))) else ret .nx) r)
          have h : wp Q E (bnd c (fun t => if t = true then bnd b (whK (whF c b k)) else ret .nx) r) := h
          rw [ev_bnd, wp_th] at h ⊢
          refine wp_mono h (fun t r1 h1 => ?_) (fun _ _ _ z => z)
          cases t with
          | false => simpa using h1
          | true =>
            rw [if_pos rfl] at h1 ⊢
            rw [ev_bnd, wp_th] at h1 ⊢
            refine wp_mono h1 (fun fl r2 h2 => ?_) (fun _ _ _ z => z)
            cases fl with
            | nx => exact ih2 l r2 h2
            | ct => exact ih2 l r2 h2
            | bk => simpa using h2
            | rt e => simpa using h2
      show wp Q E (bnd c (fun t => if t = true then bnd b (whK (whF c b n)) else ret .nx) r)
      rw [ev_bnd, wp_th]
      refine wp_mono (hs n r h) (fun t r1 h1 => ?_) (fun _ _ _ z => z)
      cases t with
      | false => simpa using h1
      | true =>
        rw [if_pos rfl] at h1 ⊢
        rw [ev_bnd, wp_th]
        refine wp_mono h1 (fun fl r2 h2 => ?_) (fun _ _ _ z => z)
        have go : (∃ k, k < n ∧ I k r2) → wp Q E (whF c b n r2) := fun ⟨k, hk, hi⟩ => by
          have e : n = (k + 1) + (n - (k + 1)) := by omega
          rw [e]
          exact up _ _ _ (ih k hk r2 hi)
        cases fl with
        | nx => exact go h2
        | ct => exact go h2
        | bk => simpa using h2
        | rt e => simpa using h2
  have hk := key n r h
  have hne : whF c b (n + 1) r ≠ .bad := fun z => by rw [z, wp_bad] at hk; exact hk
  have he : ∃ n, whF c b n r ≠ .bad := ⟨_, hne⟩
  unfold sWh
  rw [dif_pos he]
  have same : ∀ (k l : Nat) (r : Ro), whF c b k r ≠ .bad → whF c b (k + l) r = whF c b k r := by
    intro k
    induction k with
    | zero => intro l r h; exact absurd rfl h
    | succ k ih2 =>
      intro l r h
      have e : k + 1 + l = (k + l) + 1 := by omega
      rw [e]
      have h : bnd c (fun t => if t = true then bnd b (whK (whF c b k)) else ret .nx) r ≠ .bad := h
      show bnd c (fun t => if t = true then bnd b (whK (whF c b (k + l))) else ret .nx) r = bnd c (fun t => if t = true then bnd b (whK (whF c b k)) else ret .nx) r
      rw [ev_bnd] at h ⊢
      rw [ev_bnd]
      cases q : c r with
      | bad => rfl
      | ex c m r => rfl
      | ok t r1 =>
        rw [q] at h
        cases t with
        | false => rfl
        | true =>
          have h : bnd b (whK (whF c b k)) r1 ≠ .bad := h
          show bnd b (whK (whF c b (k + l))) r1 = bnd b (whK (whF c b k)) r1
          rw [ev_bnd] at h ⊢
          rw [ev_bnd]
          cases q : b r1 with
          | bad => rfl
          | ex c m r => rfl
          | ok fl r2 =>
            rw [q] at h
            cases fl with
            | nx => exact ih2 l r2 h
            | ct => exact ih2 l r2 h
            | bk => rfl
            | rt e => rfl
  have e2 : whF c b he.choose r = whF c b (n + 1) r := by
    have h1 := same (n + 1) he.choose r hne
    have h2 := same he.choose (n + 1) r he.choose_spec
    rw [Nat.add_comm] at h2
    rw [← h2, h1]
  rw [e2]
  exact hk
theorem wp_while {c : Ev Bool} {b : Ev Fl} {Q : Fl → Ro → Prop} (I : Nat → Ro → Prop) {n : Nat} (h : I n r) (hs : ∀ n r, I n r → ∀ (J : Ro → Prop), (∀ k r, k < n → I k r → J r) → wp (fun t r => if t = true then wp (loopQ J Q) E (b r) else Q .nx r) E (c r)) : wp Q E (sWh c b r) :=
  wp_while0 I h fun n r h => hs n r h _ fun k _ hk hi => ⟨k, hk, hi⟩
/-! ### comprehensions -/
@[simp] theorem wp_wipe {vs : List Nat} {Q : Unit → Ro → Prop} : wp Q E (wipeE vs r) = (vs.all (fun j => canSet (get r j)) = true ∧ Q () (wipeR vs r)) := by
  unfold wipeE
  rw [wp_guard, wp_ok]
theorem wp_lcF {vs : List Nat} {t : Tg} {c : Ev Bool} {e : Ev EV} {Q : List M → Ro → Prop} (I : List M → List M → Ro → Prop)
    (hs : ∀ acc m ms r, I acc (m :: ms) r → wp (fun _ r => wp (fun _ r => wp (fun b r => if b = true then wp (fun ev r => wp (fun x r => I (acc ++ [x]) ms r) E (frz ev r)) noE (e r) else I acc ms r) noE (c r)) noE (t m r)) E (wipeE vs r))
    (hd : ∀ acc r, I acc [] r → wp (fun _ r => Q acc r) E (wipeE vs r)) : ∀ {ms acc : List M} {r : Ro}, I acc ms r → wp (fun xs r => Q (acc ++ xs) r) E (lcF vs t c e ms r)
  | [], acc, r, h => by
    show wp _ E (bnd (wipeE vs) (fun _ => ret []) r)
    rw [ev_bnd, wp_th]
    refine wp_mono (hd acc r h) (fun _ r1 h1 => ?_) (fun _ _ _ z => z)
    rw [ev_ret, wp_ok, List.append_nil]
    exact h1
  | m :: ms, acc, r, h => by
    show wp _ E (bnd (wipeE vs) (fun _ => bnd (noX (t m)) fun _ => bnd (noX c) fun b => if b = true then bnd (noX e) (fun ev => bnd (frz ev) fun x => bnd (lcF vs t c e ms) fun xs => ret (x :: xs)) else lcF vs t c e ms) r)
    rw [ev_bnd, wp_th]
    refine wp_mono (hs acc m ms r h) (fun _ r1 h1 => ?_) (fun _ _ _ z => z)
    rw [ev_bnd, wp_th, wp_noX]
    refine wp_mono h1 (fun _ r2 h2 => ?_) (fun _ _ _ z => z)
    rw [ev_bnd, wp_th, wp_noX]
    refine wp_mono h2 (fun b r3 h3 => ?_) (fun _ _ _ z => z)
    cases b with
    | false => exact wp_lcF I hs hd h3
    | true =>
      rw [if_pos rfl] at h3
      rw [if_pos rfl, ev_bnd, wp_th, wp_noX]
      refine wp_mono h3 (fun ev r4 h4 => ?_) (fun _ _ _ z => z.elim)
      rw [ev_bnd, wp_th]
      refine wp_mono h4 (fun x r5 h5 => ?_) (fun _ _ _ z => z)
      rw [ev_bnd, wp_th]
      refine wp_mono (wp_lcF I hs hd h5) (fun xs r6 h6 => ?_) (fun _ _ _ z => z)
      rw [ev_ret, wp_ok]
      simpa using h6
/-- a comprehension: what is gathered, what is left to come -/
theorem wp_lc0 {vs : List Nat} {t : Tg} {c : Ev Bool} {e : Ev EV} {ms : List M} {Q : EV → Ro → Prop} (I : List M → List M → Ro → Prop) (hv : vs.all (fun j => plainS (get r j)) = true) (hl : ms.length ≤ big) (h0 : I [] ms r)
    (hs : ∀ acc m ms r, I acc (m :: ms) r → wp (fun _ r => wp (fun _ r => wp (fun b r => if b = true then wp (fun ev r => wp (fun x r => I (acc ++ [x]) ms r) noE (frz ev r)) noE (e r) else I acc ms r) noE (c r)) noE (t m r)) noE (wipeE vs r))
    (hd : ∀ acc r1, I acc [] r1 → vs.all (fun j => canSet (get r1 j)) = true ∧ Q (.tmp acc) (restR vs r (wipeR vs r1))) : wp Q E (lcX vs t c e ms r) := by
  unfold lcX
  rw [if_pos ⟨hv, hl⟩]
  have h := wp_lcF (E := noE) (Q := fun xs r1 => Q (.tmp xs) (restR vs r r1)) I hs (fun acc r1 h => by
    rw [wp_wipe]
    exact hd acc r1 h) h0
  obtain ⟨xs, r1, e1, h1⟩ := wp_out h
  rw [e1]
  simpa using h1
theorem wp_lc {vs : List Nat} {t : Tg} {c : Ev Bool} {e : Ev EV} {ms : List M} {Q : EV → Ro → Prop} (I : List M → List M → Ro → Prop) (hv : vs.all (fun j => plainS (get r j)) = true) (hl : ms.length ≤ big) (h0 : I [] ms r)
    (hs : ∀ (J : List M → List M → Ro → Prop), (∀ acc ms r, I acc ms r → J acc ms r) → ∀ acc m ms r, I acc (m :: ms) r → wp (fun _ r => wp (fun _ r => wp (fun b r => if b = true then wp (fun ev r => wp (fun x r => J (acc ++ [x]) ms r) noE (frz ev r)) noE (e r) else J acc ms r) noE (c r)) noE (t m r)) noE (wipeE vs r))
    (hd : ∀ acc r1, I acc [] r1 → vs.all (fun j => canSet (get r1 j)) = true ∧ Q (.tmp acc) (restR vs r (wipeR vs r1))) : wp Q E (lcX vs t c e ms r) :=
  wp_lc0 I hv hl h0 (hs I fun _ _ _ z => z) hd
theorem set_back (hi : i < r.length) : r.set i (get r i) = r := by
  apply List.ext_getElem?
  intro j
  by_cases h : i = j
  · subst h
    rw [List.getElem?_set_self hi]
    unfold get
    rw [List.getD_eq_getElem?_getD, List.getElem?_eq_getElem hi]
    rfl
  · rw [List.getElem?_set_ne h]
theorem plain_can {s : Slot} (h : plainS s = true) : canSet s = true := by
  cases s <;> first | rfl | cases h
/-- one own name, a test and an element that change nothing -/
theorem wp_lcp {c : Ev Bool} {e : Ev EV} {ms : List M} {Q : EV → Ro → Prop} (g : M → Option M) (hi : i < r.length) (hp : plainS (get r i) = true) (hl : ms.length ≤ big)
    (he : ∀ m ∈ ms, wp (fun b r' => r' = r.set i (.v m) ∧ if b = true then wp (fun ev r2 => wp (fun x r3 => g m = some x ∧ r3 = r.set i (.v m)) noE (frz ev r2)) noE (e (r.set i (.v m))) else g m = none) noE (c (r.set i (.v m))))
    (k : Q (.tmp (ms.filterMap g)) r) : wp Q E (lcX [i] (tName i) c e ms r) := by
  have gs : ∀ s, get (r.set i s) i = s := fun s => by rw [get_set, if_pos ⟨rfl, hi⟩]
  refine wp_lc (fun acc ms' r' => ∃ s done, r' = r.set i s ∧ canSet s = true ∧ ms = done ++ ms' ∧ acc = done.filterMap g) (by simp [hp]) hl ⟨get r i, [], (set_back hi).symm, plain_can hp, rfl, rfl⟩ ?_ ?_
  · rintro J hJ acc m ms' r' ⟨s, done, rfl, hs, hd, rfl⟩
    have hm : m ∈ ms := by rw [hd]; simp
    rw [wp_wipe]
    refine ⟨by simp [gs, hs], ?_⟩
    have e1 : wipeR [i] (r.set i s) = r.set i .un := by show (r.set i s).set i .un = _; rw [List.set_set]
    rw [e1]
    have e2 : tName i m (r.set i .un) = .ok () (r.set i (.v m)) := by
      rw [tName_ok (by simpa using hi) (by rw [gs]; rfl), List.set_set]
    rw [e2, wp_ok]
    refine wp_mono (he m hm) (fun b r1 h1 => ?_) (fun _ _ _ z => z)
    obtain ⟨rfl, h1⟩ := h1
    cases b with
    | false =>
      rw [if_neg Bool.false_ne_true] at h1 ⊢
      exact hJ _ _ _ ⟨.v m, done ++ [m], rfl, rfl, by rw [hd]; simp, by simp [h1]⟩
    | true =>
      rw [if_pos rfl] at h1 ⊢
      refine wp_mono h1 (fun ev r2 h2 => ?_) (fun _ _ _ z => z)
      refine wp_mono h2 (fun x r3 h3 => ?_) (fun _ _ _ z => z)
      obtain ⟨h3, rfl⟩ := h3
      exact hJ _ _ _ ⟨.v m, done ++ [m], rfl, rfl, by rw [hd]; simp, by simp [h3]⟩
  · rintro acc r1 ⟨s, done, rfl, hs, hd, rfl⟩
    rw [List.append_nil] at hd
    subst hd
    refine ⟨by simp [gs, hs], ?_⟩
    have e1 : restR [i] r (wipeR [i] (r.set i s)) = r := by
      show (((r.set i s).set i .un)).set i (get r i) = r
      rw [List.set_set, List.set_set, set_back hi]
    rw [e1]
    exact k
/-- .. without a test -/
theorem wp_lcm {e : Ev EV} {ms : List M} {Q : EV → Ro → Prop} (g : M → M) (hi : i < r.length) (hp : plainS (get r i) = true) (hl : ms.length ≤ big)
    (he : ∀ m ∈ ms, wp (fun ev r2 => wp (fun x r3 => x = g m ∧ r3 = r.set i (.v m)) noE (frz ev r2)) noE (e (r.set i (.v m))))
    (k : Q (.tmp (ms.map g)) r) : wp Q E (lcX [i] (tName i) (ret true) e ms r) := by
  refine wp_lcp (fun m => some (g m)) hi hp hl (fun m hm => ?_) ?_
  · rw [show (ret true : Ev Bool) (r.set i (.v m)) = .ok true (r.set i (.v m)) from rfl, wp_ok]
    refine ⟨rfl, ?_⟩
    rw [if_pos rfl]
    refine wp_mono (he m hm) (fun ev r2 h2 => ?_) (fun _ _ _ z => z)
    refine wp_mono h2 (fun x r3 h3 => ⟨by rw [h3.1], h3.2⟩) (fun _ _ _ z => z)
  · rw [show (fun m => some (g m)) = some ∘ g from rfl, List.filterMap_eq_map]
    exact k
@[simp] theorem wipeR_nil : wipeR [] r = r := (rfl)
@[simp] theorem wipeR_cons {vs : List Nat} : wipeR (j :: vs) r = (wipeR vs r).set j .un := (rfl)
@[simp] theorem restR_nil {r0 : Ro} : restR [] r0 r = r := (rfl)
@[simp] theorem restR_cons {r0 : Ro} {vs : List Nat} : restR (j :: vs) r0 r = (restR vs r0 r).set j (get r0 j) := (rfl)
@[simp] theorem plainS_v : plainS (.v m) = true := (rfl)
@[simp] theorem plainS_un : plainS .un = true := (rfl)
/-! ### raise, try -/
@[simp] theorem a_raise {c : String} {f : Ev EV} : sRaise c f r = (f r).th fun e => bnd (frz e) fun m => fun r => .ex c m r := by simp only [sRaise, ev_bnd]
theorem wp_try {rs : List String} {cat : String → Bool} {fb : Ev Fl} {su : String → M → Ev Fl} {Q : Fl → Ro → Prop} (h : wp Q (fun c m r' => rs.contains c = true ∧ if cat c = true then (i < r'.length ∧ canSet (get r' i) = true) ∧ wp (fun fl r2 => (noBor fl = true ∧ canSet (get r2 i) = true) ∧ Q fl (r2.set i .un)) noE (su c m (r'.set i .un)) else E c m r') (fb r)) : wp Q E (sTry rs cat i fb su r) := by
  unfold sTry
  cases q : fb r with
  | bad => rw [q] at h; simpa using h
  | ok fl r' => rw [q] at h; simpa using h
  | ex c m r' =>
    rw [q, wp_ex] at h
    obtain ⟨h1, h2⟩ := h
    show wp Q E (if rs.contains c = true then (if cat c = true then (if i < r'.length ∧ canSet (get r' i) = true then unE i (su c m) (r'.set i .un) else .bad) else .ex c m r') else .bad)
    rw [if_pos h1]
    by_cases c1 : cat c = true
    · rw [if_pos c1] at h2 ⊢
      rw [if_pos h2.1]
      unfold unE
      have h3 := h2.2
      cases q2 : su c m (r'.set i .un) with
      | bad => rw [q2, wp_bad] at h3; exact h3.elim
      | ex c m r => rw [q2, wp_ex] at h3; exact h3.elim
      | ok fl r2 =>
        rw [q2, wp_ok] at h3
        show wp Q E (if noBor fl = true ∧ canSet (get r2 i) = true then .ok fl (r2.set i .un) else .bad)
        rw [if_pos h3.1, wp_ok]
        exact h3.2
    · rw [if_neg c1] at h2 ⊢
      rw [wp_ex]
      exact h2
@[simp] theorem noBor_fr : noBor (.rt (.fr m)) = true := (rfl)
@[simp] theorem noBor_tmp {bx : Cont} : noBor (.rt (.tmp bx)) = true := (rfl)
@[simp] theorem noBor_nx : noBor .nx = true := (rfl)
@[simp] theorem retF_fr : retF (.fr m) r = .ok (.rt (.fr m)) r := (rfl)
@[simp] theorem retF_tmp {bx : Cont} : retF (.tmp bx) r = .ok (.rt (.tmp bx)) r := (rfl)
def nxQ (Q : Fl → Ro → Prop) : Fl → Ro → Prop
  | .nx, _ => False
  | fl, r => Q fl r
@[simp] theorem nxQ_rt {e : EV} {Q : Fl → Ro → Prop} : nxQ Q (.rt e) r = Q (.rt e) r := (rfl)
@[simp] theorem wp_noNx {f : Ev Fl} {Q : Fl → Ro → Prop} : wp Q E (noNx f r) = wp (nxQ Q) E (f r) := by
  unfold noNx
  cases q : f r with
  | bad => simp
  | ex c m r => simp
  | ok fl r => cases fl <;> simp [nxQ]
/-! ### what is a value -/
@[simp] theorem tyM_non  : tyM (.non) = .non := (rfl)
@[simp] theorem tyM_bl (b : Bool) : tyM (.bl b) = .bl := (rfl)
@[simp] theorem tyM_int (b : Int) : tyM (.int b) = .int := (rfl)
@[simp] theorem tyM_str (b : Str) : tyM (.str b) = .str := (rfl)
@[simp] theorem tyM_tup (b : List M) : tyM (.tup b) = .tup := (rfl)
@[simp] theorem tyM_lst (b : List M) : tyM (.lst b) = .lst := (rfl)
@[simp] theorem tyM_ro (b : List M) : tyM (.ro b) = .lst := (rfl)
@[simp] theorem isTy_tuple_non : isTy "tuple" .non = false := by decide
@[simp] theorem isTy_tuple_bl : isTy "tuple" .bl = false := by decide
@[simp] theorem isTy_tuple_int : isTy "tuple" .int = false := by decide
@[simp] theorem isTy_tuple_str : isTy "tuple" .str = false := by decide
@[simp] theorem isTy_tuple_tup : isTy "tuple" .tup = true := by decide
@[simp] theorem isTy_tuple_lst : isTy "tuple" .lst = false := by decide
@[simp] theorem isTy_str_non : isTy "str" .non = false := by decide
@[simp] theorem isTy_str_bl : isTy "str" .bl = false := by decide
@[simp] theorem isTy_str_int : isTy "str" .int = false := by decide
@[simp] theorem isTy_str_str : isTy "str" .str = true := by decide
@[simp] theorem isTy_str_tup : isTy "str" .tup = false := by decide
@[simp] theorem isTy_str_lst : isTy "str" .lst = false := by decide
@[simp] theorem isTy_int_non : isTy "int" .non = false := by decide
@[simp] theorem isTy_int_bl : isTy "int" .bl = true := by decide
@[simp] theorem isTy_int_int : isTy "int" .int = true := by decide
@[simp] theorem isTy_int_str : isTy "int" .str = false := by decide
@[simp] theorem isTy_int_tup : isTy "int" .tup = false := by decide
@[simp] theorem isTy_int_lst : isTy "int" .lst = false := by decide
@[simp] theorem isTy_bool_non : isTy "bool" .non = false := by decide
@[simp] theorem isTy_bool_bl : isTy "bool" .bl = true := by decide
@[simp] theorem isTy_bool_int : isTy "bool" .int = false := by decide
@[simp] theorem isTy_bool_str : isTy "bool" .str = false := by decide
@[simp] theorem isTy_bool_tup : isTy "bool" .tup = false := by decide
@[simp] theorem isTy_bool_lst : isTy "bool" .lst = false := by decide
@[simp] theorem isTy_list_non : isTy "list" .non = false := by decide
@[simp] theorem isTy_list_bl : isTy "list" .bl = false := by decide
@[simp] theorem isTy_list_int : isTy "list" .int = false := by decide
@[simp] theorem isTy_list_str : isTy "list" .str = false := by decide
@[simp] theorem isTy_list_tup : isTy "list" .tup = false := by decide
@[simp] theorem isTy_list_lst : isTy "list" .lst = true := by decide
@[simp] theorem a_isi2 {T : String} : gIsi T (.fr m) r = .ok (.fr (.bl (isTy T (tyM m)))) r := (rfl)
def andR (g : Ev EV) (r : Ro) : Option Bool → R EV
  | some true => g r
  | some false => .ok (.fr (.bl false)) r
  | none => .bad
def orR (g : Ev EV) (r : Ro) : Option Bool → R EV
  | some true => .ok (.fr (.bl true)) r
  | some false => g r
  | none => .bad
def notR (r : Ro) : Option Bool → R EV
  | some c => .ok (.fr (.bl (!c))) r
  | none => .bad
@[simp] theorem andR_some {g : Ev EV} {c : Bool} : andR g r (some c) = if c = true then g r else .ok (.fr (.bl false)) r := by cases c <;> rfl
@[simp] theorem orR_some {g : Ev EV} {c : Bool} : orR g r (some c) = if c = true then .ok (.fr (.bl true)) r else g r := by cases c <;> rfl
@[simp] theorem notR_some {c : Bool} : notR r (some c) = .ok (.fr (.bl (!c))) r := (rfl)
@[simp] theorem a_vAnd {f g : Ev EV} : vAnd f g r = (f r).th fun e r => andR g r (blOf e) := by
  unfold vAnd
  rw [ev_bnd]
  congr 1
  funext e r
  unfold andR
  cases blOf e with
  | none => rfl
  | some c => cases c <;> rfl
@[simp] theorem a_vOr {f g : Ev EV} : vOr f g r = (f r).th fun e r => orR g r (blOf e) := by
  unfold vOr
  rw [ev_bnd]
  congr 1
  funext e r
  unfold orR
  cases blOf e with
  | none => rfl
  | some c => cases c <;> rfl
@[simp] theorem a_vNot2 {f : Ev EV} : vNot f r = (f r).th fun e r => notR r (blOf e) := by
  unfold vNot
  rw [ev_bnd]
  congr 1
  funext e r
  unfold notR
  cases blOf e <;> rfl
@[simp] theorem a_pow2 {x y : Int} : gPow (.fr (.int x)) (.fr (.int y)) r = if PowOk x y then .ok (.fr (.int (x ^ y.toNat))) r else .bad := (rfl)
@[simp] theorem a_abs2 {x : Int} : gAbs (.fr (.int x)) r = .ok (.fr (.int (if x < 0 then -x else x))) r := (rfl)
@[simp] theorem a_lstRg {n : Int} : lstRg (.fr (.int n)) r = if 0 ≤ n ∧ n ≤ 16777216 then .ok (.tmp (rgM n.toNat)) r else .bad := by
  unfold lstRg
  simp only [intOf_int]
  by_cases c : 0 ≤ n ∧ n ≤ 16777216
  · rw [if_pos c, if_pos c]; rfl
  · rw [if_neg c, if_neg c]; rfl
@[simp] theorem a_addl {xs ys : List M} : gAdd (.tmp xs) (.tmp ys) r = if xs.length + ys.length ≤ big then .ok (.tmp (xs ++ ys)) r else .bad := (rfl)
@[simp] theorem a_addt2 {xs ys : List M} : gAdd (.fr (.tup xs)) (.fr (.tup ys)) r = if xs.length + ys.length ≤ big then .ok (.fr (.tup (xs ++ ys))) r else .bad := (rfl)
@[simp] theorem a_mulU {xs : List M} {k : Int} : gMulU (.fr (.tup xs)) (.fr (.int k)) r = if k = 1 then .ok (.fr (.tup xs)) r else gMulT (.fr (.tup xs)) (.fr (.int k)) r := (rfl)
@[simp] theorem a_mulT {xs : List M} {k : Int} : gMulT (.fr (.tup xs)) (.fr (.int k)) r = if xs.isEmpty = false ∧ 2 ≤ k ∧ k ≤ 1000 ∧ xs.length ≤ 1000 then .ok (.fr (.tup (List.replicate k.toNat xs).flatten)) r else .bad := (rfl)
@[simp] theorem a_mulL {xs : List M} {k : Int} : gMul (.tmp xs) (.fr (.int k)) r = if 0 ≤ k ∧ k ≤ 1000000 ∧ xs.length * k.toNat ≤ big then .ok (.tmp (List.replicate k.toNat xs).flatten) r else .bad := (rfl)
@[simp] theorem a_vSl {f : Ev EV} {lo hi : Ev (Option Int)} : vSl f lo hi r = (f r).th fun a => bnd lo fun l => bnd hi fun h => gSl a l h := by simp only [vSl, ev_bnd]
@[simp] theorem a_pNone : pNone r = .ok none r := (rfl)
@[simp] theorem a_pSome {f : Ev EV} : pSome f r = (f r).th partE := by simp only [pSome, ev_bnd]
@[simp] theorem a_partE {n : Int} : partE (.fr (.int n)) r = .ok (some n) r := (rfl)
@[simp] theorem a_slt {xs : List M} {lo hi : Option Int} : gSl (.fr (.tup xs)) lo hi r = .ok (.fr (.tup (cutM xs lo hi))) r := (rfl)
@[simp] theorem a_sll {xs : List M} {lo hi : Option Int} : gSl (.fr (.lst xs)) lo hi r = .ok (.tmp (cutM xs lo hi)) r := (rfl)
@[simp] theorem a_slm {xs : List M} {lo hi : Option Int} : gSl (.tmp xs) lo hi r = .ok (.tmp (cutM xs lo hi)) r := (rfl)
theorem cut_to {xs : List M} {n : Nat} : cutM xs none (some (n : Int)) = xs.take n := by
  unfold cutM
  rw [HT.sIx_none, HT.sIx_nat, List.drop_zero, Nat.sub_zero]
  by_cases h : n ≤ xs.length
  · rw [Nat.min_eq_left h]
  · rw [Nat.min_eq_right (by omega), List.take_length, List.take_of_length_le (by omega)]
theorem cut_from {xs : List M} {n : Nat} : cutM xs (some (n : Int)) none = xs.drop n := by
  unfold cutM
  rw [HT.sIx_none, HT.sIx_nat]
  by_cases h : n ≤ xs.length
  · rw [Nat.min_eq_left h, List.take_of_length_le (by simp)]
  · rw [Nat.min_eq_right (by omega), List.drop_length, Nat.sub_self, List.drop_eq_nil_of_le (by omega)]; rfl
theorem cut_to1 {xs : List M} {n : Nat} : cutM xs none (some ((n : Int) + 1)) = xs.take (n + 1) := cut_to (n := n + 1)
theorem cut_from1 {xs : List M} {n : Nat} : cutM xs (some ((n : Int) + 1)) none = xs.drop (n + 1) := cut_from (n := n + 1)
@[simp] theorem mulOk_l {x y : Int} (h : x.natAbs < 18446744073709551616) : MulOk x y := .inl (.inl h)
@[simp] theorem mulOk_r {x y : Int} (h : y.natAbs < 18446744073709551616) : MulOk x y := .inl (.inr h)
end
end Sx

set_option Elab.async false
set_option linter.all false
set_option maxRecDepth 100000
set_option maxHeartbeats 4000000
/-! Sx18: the laws' own helpers: box, take, pick, same. -/
namespace Sx
open PySem L2
@[simp] theorem a_parN {is : List Nat} {f : Ev (List EV)} {r : Ro} : sParN is f r = (f r).th fun es => bnd (settleL es) (stoL is) := by simp only [sParN, ev_bnd]
@[simp] theorem settleL_nil : settleL [] = ret [] := (rfl)
@[simp] theorem settleL_cons {e : EV} {es : List EV} : settleL (e :: es) = bnd (settle e) fun a => bnd (settleL es) fun as => ret (a :: as) := (rfl)
@[simp] theorem stoL_nil : stoL [] [] = ret .nx := (rfl)
@[simp] theorem stoL_cons {i : Nat} {is : List Nat} {e : EV} {es : List EV} : stoL (i :: is) (e :: es) = bnd (sto i (slotE e)) fun _ => stoL is es := (rfl)
@[simp] theorem a_addbt {i : Nat} {ys : List M} {r : Ro} : gAdd (.bor i) (.tmp ys) r = match seqOf r (.bor i) with
  | some (.l, xs) => if xs.length + ys.length ≤ big then .ok (.tmp (xs ++ ys)) r else .bad
  | _ => .bad := by
  show (match seqOf r (.bor i), seqOf r (.tmp ys) with
    | some (.t, xs), some (.t, ys) => if xs.length + ys.length ≤ big then R.ok (EV.fr (.tup (xs ++ ys))) r else .bad
    | some (.l, xs), some (.l, ys) => if xs.length + ys.length ≤ big then .ok (.tmp (xs ++ ys)) r else .bad
    | _, _ => .bad) = _
  cases seqOf r (.bor i) with
  | none => rfl
  | some p => obtain ⟨k, xs⟩ := p; cases k <;> rfl
@[simp] theorem a_ins {i : Nat} {f g : Ev EV} {r : Ro} : vIns i f g r = chk i (bnd f fun a => bnd g fun e => bnd (frz e) fun m => insK i a m) r := (rfl)
@[simp] theorem insK_int {i : Nat} {n : Int} {m : M} : insK i (.fr (.int n)) m = chg i (gIns n m) := (rfl)
theorem gIns_pos {n : Int} {m : M} {xs : List M} (h : xs.length < big ∧ 0 ≤ n ∧ n < 2 ^ 63) : gIns n m xs = some (xs.take n.toNat ++ [m] ++ xs.drop n.toNat, .non) := if_pos h
theorem chgR_ins {i n : Nat} {m : M} {r : Ro} {p : Pin} {xs : List M} (h : xs.length < big) (h2 : n ≤ xs.length) : chgR i (gIns (n : Int) m) r (some (p, xs)) = .ok (.fr .non) (r.set i (.o p (xs.take n ++ [m] ++ xs.drop n))) := by
  have h3 : xs.length < 16777216 := h
  exact chgR_some (gIns_pos ⟨h, Int.natCast_nonneg n, by omega⟩)
@[simp] theorem a_popI {i : Nat} {f : Ev EV} {r : Ro} : vPopI i f r = chk i (bnd f fun a => popK i a) r := (rfl)
@[simp] theorem popK_int {i : Nat} {n : Int} : popK i (.fr (.int n)) = chg i (gPopI n) := (rfl)
theorem gPopI_pos {n : Int} {xs : List M} {m : M} (h : 0 ≤ n ∧ n < 2 ^ 63) (h2 : xs[n.toNat]? = some m) : gPopI n xs = some (xs.eraseIdx n.toNat, m) := by
  have e : gPopI n xs = match xs[n.toNat]? with
    | some m => some (xs.eraseIdx n.toNat, m)
    | none => none := if_pos h
  rw [e, h2]
theorem chgR_popI {i n : Nat} {r : Ro} {p : Pin} {xs : List M} {m : M} (h : xs[n]? = some m) (hn : xs.length < big) : chgR i (gPopI (n : Int)) r (some (p, xs)) = .ok (.fr m) (r.set i (.o p (xs.eraseIdx n))) := by
  have h3 : xs.length < 16777216 := hn
  have h4 : n < xs.length := (List.getElem?_eq_some_iff.mp h).1
  exact chgR_some (gPopI_pos ⟨Int.natCast_nonneg n, by omega⟩ h)
@[simp] theorem a_rev {i : Nat} {r : Ro} : vRev i r = chk i (chg i gRev) r := (rfl)
@[simp] theorem chgR_rev {i : Nat} {r : Ro} {p : Pin} {xs : List M} : chgR i gRev r (some (p, xs)) = .ok (.fr .non) (r.set i (.o p xs.reverse)) := (rfl)
@[simp] theorem a_swap {g : Ev (List EV)} {r : Ro} : vSwap g r = (g r).th fun es => ret (swap2 es) := by simp only [vSwap, ev_bnd]
@[simp] theorem swap2_two {α : Type} {a b : α} : swap2 [a, b] = [b, a] := (rfl)
def augE (i : Nat) (F : Int → Int → Int) (x : Int) (e : EV) : Ev Fl := match intOf e with
  | some y => bnd (sto i (.v (.int (F x y)))) fun _ => ret .nx
  | none => bad
def augR (i : Nat) (F : Int → Int → Int) (f : Ev EV) (r : Ro) : Slot → R Fl
  | .v (.int x) => (f r).th (augE i F x)
  | _ => .bad
@[simp] theorem a_aug {i : Nat} {F : Int → Int → Int} {f : Ev EV} {r : Ro} : sAug i F f r = augR i F f r (get r i) := by
  unfold sAug
  cases h : get r i with
  | un => rfl
  | o _ _ => rfl
  | v m => cases m <;> first | rfl | (show bnd f _ r = (f r).th _; rw [ev_bnd]; rfl)
@[simp] theorem augR_int {i : Nat} {F : Int → Int → Int} {f : Ev EV} {r : Ro} {x : Int} : augR i F f r (.v (.int x)) = (f r).th (augE i F x) := (rfl)
@[simp] theorem augE_int {i : Nat} {F : Int → Int → Int} {x y : Int} : augE i F x (.fr (.int y)) = bnd (sto i (.v (.int (F x y)))) fun _ => ret .nx := (rfl)
def bTake (c1 c2 md dv : Int) : Ev Fl :=
  (sSeq (sIf (tst (v2 gGt (v2 gIx (vVar 0) (vLit (.int 0))) (vLit (.int 0)))) (sSeq (sAsg 2 (v2 gMod (vC (on1 gInt1) (vCons (v2 gIx (vVar 0) (vLit (.int 0))) vNil)) (vVar 1)))
  (sSeq (sSetI 0 (vLit (.int 0)) (v2 gFdiv (v2 gIx (vVar 0) (vLit (.int 0))) (vVar 1)))
  (sRet (vVar 2)))) sNx)
  (sSeq (sAsg 3 (v2 gMod (vC (on1 gInt1) (vCons (v2 gAdd (v2 gMul (v2 gIx (vVar 0) (vLit (.int 1))) (vLit (.int 39373))) (vLit (.int c1))) vNil)) (vLit (.int 2147483647))))
  (sSeq (sSetI 0 (vLit (.int 1)) (v2 gAdd (v2 gMod (vC (on1 gInt1) (vCons (v2 gAdd (v2 gMul (vVar 3) (vLit (.int 40692))) (vLit (.int c2))) vNil)) (vLit (.int md))) (vLit (.int 1))))
  (sRet (v2 gMod (vC (on1 gInt1) (vCons (v2 gFdiv (v2 gAdd (v2 gMul (vVar 3) (vLit (.int 2147483629))) (v2 gIx (vVar 0) (vLit (.int 1)))) (vLit (.int dv))) vNil)) (vVar 1))))))
def Box (b : List M) : Prop := ∃ g q : Int, b = [.int g, .int q]
section
variable {Q : EV → Ro → Prop} {E : QX} {c1 c2 md dv : Int} {b : List M}
theorem take_w {n : Int} (hmd : md ≠ 0) (hdv : DivOk dv) (hb : Box b) (h : 0 < n) (h2 : n < 18446744073709551616) (k : ∀ (d : Nat) b', (d : Int) < n → Box b' → Q (.fr (.int d)) [.o .pin b', .v (.int n)]) : wp Q E (fnR 2 4 (bTake c1 c2 md dv) [.o .pin b, .v (.int n)]) := by
  obtain ⟨g, q, rfl⟩ := hb
  have hd := divOk h h2
  have hn : n ≠ 0 := by omega
  refine wp_fnR rfl ?_
  unfold bTake
  have fin : ∀ (x : Int) b', Box b' → Q (.fr (.int (x.fmod n))) [.o .pin b', .v (.int n)] := fun x b' hb' => by
    have h0 := Int.fmod_nonneg_of_pos x h
    have h1 := Int.fmod_lt_of_pos x h
    obtain ⟨d, hd⟩ := Int.eq_ofNat_of_zero_le h0
    rw [hd] at h1 ⊢
    exact k d b' h1 hb'
  by_cases c : 0 < g
  · simp [c, hn, hd, ixN, hmd, hdv]
    exact fin _ _ ⟨_, _, rfl⟩
  · simp [c, hn, hd, ixN, hmd, hdv]
    exact fin _ _ ⟨_, _, rfl⟩
def TakeOk (mt : Fn) : Prop := ∀ (Q : EV → Ro → Prop) (E : QX) (b : List M) (n : Int), Box b → 0 < n → n < 18446744073709551616 → (∀ (d : Nat) b', (d : Int) < n → Box b' → Q (.fr (.int d)) [.o .pin b', .v (.int n)]) → wp Q E (mt [.o .pin b, .v (.int n)])
theorem takeOk_of {c1 c2 md dv : Int} (hmd : md ≠ 0) (hdv : DivOk dv) : TakeOk (fnR 2 4 (bTake c1 c2 md dv)) := fun Q E b n hb h h2 k => take_w hmd hdv hb h h2 k
def PickOk (mp : Fn) : Prop := ∀ (Q : EV → Ro → Prop) (E : QX) (b : List M) (s : Slot) (k : Kd) (xs : List M), Box b → seqS s = some (k, xs) → 0 < xs.length → xs.length < 18446744073709551616 → (∀ p ys, s = .o p ys → p = .lock) → (∀ m b', m ∈ xs → Box b' → Q (.fr m) [.o .pin b', s]) → wp Q E (mp [.o .pin b, s])
def bPick (mt : Fn) : Ev Fl :=
  (sRet (v2 gIx (vVar 1) (vCall [.io, .lk] mt (vCons (vVar 0) (vCons (vC (on1 gLen) (vCons (vVar 1) vNil)) vNil)))))
theorem pickOk_of {mt : Fn} (ht : TakeOk mt) : PickOk (fnR 2 2 (bPick mt)) := by
  intro Q E b s k xs hb hs hx hl ho kk
  have fin : ∀ d : Nat, (d : Int) < (xs.length : Int) → ∃ m, m ∈ xs ∧ atI xs (d : Int) = some m := fun d hd => by
    have hn : d < xs.length := by omega
    exact ⟨xs[d], List.getElem_mem hn, atI_nat (List.getElem?_eq_getElem hn)⟩
  refine wp_fnR rfl ?_
  unfold bPick
  cases s with
  | un => cases hs
  | v m =>
    have hs : seqM m = some (k, xs) := hs
    have hs2 : ∀ r : Ro, seqOf r (.fr m) = some (k, xs) := fun _ => hs
    simp [hs2]
    refine ht _ _ b (xs.length : Int) hb (by omega) (by omega) fun d b' hd hb' => ?_
    obtain ⟨y, hy, ha⟩ := fin d hd
    simp [hs2, ha]
    exact kk y b' hy hb'
  | o p ys =>
    obtain ⟨rfl, rfl⟩ := seqB_some (show seqB ys = some (k, xs) from hs)
    obtain rfl := ho p _ rfl
    simp
    refine ht _ _ b (xs.length : Int) hb (by omega) (by omega) fun d b' hd hb' => ?_
    obtain ⟨y, hy, ha⟩ := fin d hd
    simp [ha]
    exact kk y b' hy hb'
def bBox (A B C D F : Int) : Ev Fl :=
  (sSeq (sAsg 2 (v2 gAdd (v2 gMul (vLit (.int A)) (vVar 1)) (vLit (.int B))))
  (sSeq (sIf (tst (v2 gLt (vVar 1) (vC (on1 gLen) (vCons (vVar 0) vNil)))) (sAsg 2 (vC (on1 gAbs) (vCons (vC (on1 gInt1) (vCons (v2 gIx (vVar 0) (vVar 1)) vNil)) vNil))) (sIf (tst (v2 gGt (vC (on1 gLen) (vCons (vVar 0) vNil)) (vLit (.int 0)))) (sAsg 2 (v2 gAdd (vVar 2) (v2 gMul (v2 gMod (vC (on1 gInt1) (vCons (vC (on1 gAbs) (vCons (vC (on1 gInt1) (vCons (v2 gIx (vVar 0) (v2 gMod (vC (on1 gInt1) (vCons (vVar 1) vNil)) (vC (on1 gLen) (vCons (vVar 0) vNil)))) vNil)) vNil)) vNil)) (vLit (.int 2147483563))) (vLit (.int C))))) sNx))
  (sSeq (sAsg 3 (vIf (tst (v2 gGe (vVar 2) (v2 gPow (vLit (.int 10)) (vLit (.int 18))))) (vVar 2) (vLit (.int 0))))
  (sRet (vLst (vCons (vVar 3) (vCons (v2 gAdd (v2 gMod (vC (on1 gInt1) (vCons (v2 gAdd (v2 gMul (v2 gMod (vC (on1 gInt1) (vCons (vVar 2) vNil)) (vLit (.int 2147483563))) (vLit (.int D))) (v2 gMul (vLit (.int F)) (vVar 1))) vNil)) (vLit (.int 2147483563))) (vLit (.int 1))) vNil)))))))
def BoxOk (mb : Fn) : Prop := ∀ (Q : EV → Ro → Prop) (E : QX) (ns : List Int) (k : Nat), (∀ b, Box b → Q (.tmp b) [.v (.ro (ns.map M.int)), .v (.int k)]) → wp Q E (mb [.v (.ro (ns.map M.int)), .v (.int k)])
theorem boxOk_of {A B C D F : Int} (hA : A.natAbs < 18446744073709551616) (hC : C.natAbs < 18446744073709551616) (hD : D.natAbs < 18446744073709551616) (hF : F.natAbs < 18446744073709551616) : BoxOk (fnR 2 4 (bBox A B C D F)) := by
  intro Q E ns k kk
  have p1 : PowOk 10 18 := by decide
  have rest : ∀ c : Int, wp (finQ [.v (.ro (ns.map M.int)), .v (.int k)] Q) (fun c m r => E c m (outs [.v (.ro (ns.map M.int)), .v (.int k)] r)) ((sSeq (sAsg 3 (vIf (tst (v2 gGe (vVar 2) (v2 gPow (vLit (.int 10)) (vLit (.int 18))))) (vVar 2) (vLit (.int 0))))
      (sRet (vLst (vCons (vVar 3) (vCons (v2 gAdd (v2 gMod (vC (on1 gInt1) (vCons (v2 gAdd (v2 gMul (v2 gMod (vC (on1 gInt1) (vCons (vVar 2) vNil)) (vLit (.int 2147483563))) (vLit (.int D))) (v2 gMul (vLit (.int F)) (vVar 1))) vNil)) (vLit (.int 2147483563))) (vLit (.int 1))) vNil))))) [.v (.ro (ns.map M.int)), .v (.int k), .v (.int c), .un]) := fun c => by
    by_cases h : (1000000000000000000 : Int) ≤ c
    · simp [p1, h, hD, hF]
      exact kk _ ⟨_, _, rfl⟩
    · simp [p1, h, hD, hF]
      exact kk _ ⟨_, _, rfl⟩
  refine wp_fnR rfl ?_
  unfold bBox
  rw [ev_seq, wp_th]
  simp only [List.cons_append, List.nil_append, List.replicate, Nat.sub_self, Nat.reduceSub]
  by_cases h1 : k < ns.length
  · have h1' : (k : Int) < (ns.length : Int) := by omega
    have a1 : atI (ns.map M.int) (k : Int) = some (.int ns[k]) := atI_nat (by rw [List.getElem?_map, List.getElem?_eq_getElem h1]; rfl)
    simp [hA, -ev_seq]
    rw [ev_seq, wp_th]
    simp [h1', a1, -ev_seq]
    exact rest _
  · have h1' : ¬ (k : Int) < (ns.length : Int) := by omega
    simp [hA, -ev_seq]
    rw [ev_seq, wp_th]
    by_cases h2 : 0 < ns.length
    · have h2' : (0 : Int) < (ns.length : Int) := by omega
      have hn0 : (ns.length : Int) ≠ 0 := by omega
      have f1 := Int.fmod_nonneg_of_pos (k : Int) h2'
      have f2 := Int.fmod_lt_of_pos (k : Int) h2'
      obtain ⟨j, hj⟩ := Int.eq_ofNat_of_zero_le f1
      have hjl : j < ns.length := by omega
      have a1 : atI (ns.map M.int) ((k : Int).fmod (ns.length : Int)) = some (.int ns[j]) := by
        rw [hj]
        exact atI_nat (by rw [List.getElem?_map, List.getElem?_eq_getElem hjl]; rfl)
      have hne : ns ≠ [] := List.length_pos_iff.mp h2
      simp [h1', h2, h2', hne, a1, hC, -ev_seq]
      exact rest _
    · have h2' : ¬ (0 : Int) < (ns.length : Int) := by omega
      simp [h1', h2, h2', -ev_seq]
      exact rest _
/-! ### what is the same -/
mutual
def Pl (at_ : M → Prop) : Nat → M → Prop
  | 0, _ => False
  | _ + 1, .non => True
  | _ + 1, .int _ => True
  | _ + 1, .str s => at_ (.str s)
  | _ + 1, .bl s => at_ (.bl s)
  | k + 1, .tup xs => Pls at_ k xs
  | _ + 1, _ => False
def Pls (at_ : M → Prop) : Nat → List M → Prop
  | _, [] => True
  | k, x :: xs => Pl at_ k x ∧ Pls at_ k xs
end
def bSame1 (m : Fn) : Ev Fl := (sIf (tNotM (tru (vCall [.lk, .lk] m (vCons (vVar 2) (vCons (vVar 3) vNil))))) (sRet (vLit (.bl false))) sNx)
def bSame (tail : Ev Fl) (m : Fn) : Ev Fl :=
  (sSeq (sIf (tru (v1 (gIsi "tuple") (vVar 1))) (sSeq (sIf (tOrM (tNotM (tru (v1 (gIsi "tuple") (vVar 0)))) (tst (v2 gNe (vC (on1 gLen) (vCons (vVar 0) vNil)) (vC (on1 gLen) (vCons (vVar 1) vNil))))) (sRet (vLit (.bl false))) sNx)
  (sSeq (sFor (vIt iZip2M (vCons (vVar 0) (vCons (vVar 1) vNil))) (tTup [(tName 2), (tName 3)]) (bSame1 m))
  (sRet (vLit (.bl true))))) sNx)
  (sSeq (sIf (tst (v2 gIsN (vVar 1) (vLit .non))) (sRet (v2 gIsN (vVar 0) (vLit .non))) sNx)
  tail))
def SameOk (at_ : M → Prop) (k : Nat) (ms : Fn) : Prop := ∀ (Q : EV → Ro → Prop) (E : QX) (m : M), Pl at_ k m → Q (.fr (.bl true)) [.v m, .v m] → wp Q E (ms [.v m, .v m])
@[simp] theorem eqv_int (x y : Int) : eqv (.int x) (.int y) = decide (x = y) := by
  show (x == y) = decide (x = y)
  by_cases h : x = y <;> simp [h]
@[simp] theorem eqv_str (x y : Str) : eqv (.str x) (.str y) = decide (x = y) := by
  show (x == y) = decide (x = y)
  by_cases h : x = y <;> simp [h]
@[simp] theorem flat_int {n : Nat} {x : Int} : flat n (.int x) = true := by cases n <;> rfl
@[simp] theorem flat_str {n : Nat} {x : Str} : flat n (.str x) = PyData.strOk x := by cases n <;> rfl
@[simp] theorem flat_non {n : Nat} : flat n .non = true := by cases n <;> rfl
@[simp] theorem flat_bl {n : Nat} {x : Bool} : flat n (.bl x) = true := by cases n <;> rfl
theorem a_eqf {x y : M} {r : Ro} : gEq (.fr x) (.fr y) r = if flat 60 x = true ∧ flat 60 y = true then .ok (.fr (.bl (eqv x y))) r else .bad := (rfl)
theorem a_nef {x y : M} {r : Ro} : gNe (.fr x) (.fr y) r = if flat 60 x = true ∧ flat 60 y = true then .ok (.fr (.bl (!eqv x y))) r else .bad := (rfl)
def eqR (r : Ro) (f : Bool → Bool) : Option M → Option M → R EV
  | some x, some y => if flat 60 x = true ∧ flat 60 y = true then .ok (.fr (.bl (f (eqv x y)))) r else .bad
  | _, _ => .bad
@[simp] theorem eqR_some {f : Bool → Bool} {x y : M} {r : Ro} : eqR r f (some x) (some y) = if flat 60 x = true ∧ flat 60 y = true then .ok (.fr (.bl (f (eqv x y)))) r else .bad := (rfl)
@[simp] theorem a_eqg {x y : EV} {r : Ro} : gEq x y r = eqR r (fun c => c) (datOf r x) (datOf r y) := by
  unfold gEq eqR
  cases datOf r x <;> cases datOf r y <;> rfl
@[simp] theorem a_neg {x y : EV} {r : Ro} : gNe x y r = eqR r (fun c => !c) (datOf r x) (datOf r y) := by
  unfold gNe eqR
  cases datOf r x <;> cases datOf r y <;> rfl
@[simp] theorem dat_fr {m : M} {r : Ro} : datOf r (.fr m) = some m := (rfl)
@[simp] theorem dat_tmp {xs : List M} {r : Ro} : datOf r (.tmp xs) = some (.lst xs) := (rfl)
@[simp] theorem dat_bor {i : Nat} {r : Ro} : datOf r (.bor i) = slotM (get r i) := (rfl)
@[simp] theorem slotM_v {m : M} : slotM (.v m) = some m := (rfl)
@[simp] theorem slotM_o {p : Pin} {xs : List M} : slotM (.o p xs) = some (.lst xs) := (rfl)
theorem flats_all (n : Nat) : ∀ xs : List M, flats n xs = xs.all (flat n)
  | [] => by unfold flats; rfl
  | x :: xs => by rw [flats, flats_all n xs]; rfl
@[simp] theorem flat_lst {n : Nat} {xs : List M} : flat (n + 1) (.lst xs) = xs.all (flat n) := by rw [← flats_all]; rfl
@[simp] theorem flat_tup {n : Nat} {xs : List M} : flat (n + 1) (.tup xs) = xs.all (flat n) := by rw [← flats_all]; rfl
def eqvs (xs ys : List M) : Bool := PyData.eqvAll (toDs xs) (toDs ys)
@[simp] theorem eqv_lst {xs ys : List M} : eqv (.lst xs) (.lst ys) = eqvs xs ys := by unfold eqv eqvs toD PyData.eqv; rfl
@[simp] theorem eqv_tup {xs ys : List M} : eqv (.tup xs) (.tup ys) = eqvs xs ys := by unfold eqv eqvs toD PyData.eqv; rfl
@[simp] theorem eqvs_nil : eqvs [] [] = true := by unfold eqvs toDs PyData.eqvAll; rfl
@[simp] theorem eqvs_cons {x y : M} {xs ys : List M} : eqvs (x :: xs) (y :: ys) = (eqv x y && eqvs xs ys) := by
  show PyData.eqvAll (toDs (x :: xs)) (toDs (y :: ys)) = _
  rw [toDs, toDs, PyData.eqvAll]
  rfl
@[simp] theorem eqvs_nc {y : M} {ys : List M} : eqvs [] (y :: ys) = false := by
  show PyData.eqvAll (toDs []) (toDs (y :: ys)) = _
  rw [toDs, toDs, PyData.eqvAll]
@[simp] theorem eqvs_cn {y : M} {ys : List M} : eqvs (y :: ys) [] = false := by
  show PyData.eqvAll (toDs (y :: ys)) (toDs []) = _
  rw [toDs, toDs, PyData.eqvAll]
@[simp] theorem eqv_non : eqv .non .non = true := by unfold eqv toD PyData.eqv; rfl
@[simp] theorem eqv_ni {x : Int} : eqv .non (.int x) = false := by unfold eqv toD PyData.eqv; rfl
@[simp] theorem eqv_in {x : Int} : eqv (.int x) .non = false := by unfold eqv toD PyData.eqv; rfl
@[simp] theorem eqv_nt {x : List M} : eqv .non (.tup x) = false := by unfold eqv toD PyData.eqv; rfl
@[simp] theorem eqv_tn {x : List M} : eqv (.tup x) .non = false := by unfold eqv toD PyData.eqv; rfl
theorem same_w {at_ : M → Prop} {tail : Ev Fl} {ms : Nat → Fn} (h0 : ∀ k, ms (k + 1) = fnR 2 4 (bSame tail (ms k)))
    (hi : ∀ (x : Int), tail [.v (.int x), .v (.int x), .un, .un] = .ok (.rt (.fr (.bl true))) [.v (.int x), .v (.int x), .un, .un])
    (hs : ∀ x, at_ (.str x) → tail [.v (.str x), .v (.str x), .un, .un] = .ok (.rt (.fr (.bl true))) [.v (.str x), .v (.str x), .un, .un])
    (hb : ∀ x, at_ (.bl x) → tail [.v (.bl x), .v (.bl x), .un, .un] = .ok (.rt (.fr (.bl true))) [.v (.bl x), .v (.bl x), .un, .un]) : ∀ k, SameOk at_ k (ms k)
  | 0, Q, E, m, h, q => by unfold Pl at h; exact h.elim
  | k + 1, Q, E, m, h, q => by
    rw [h0]
    refine wp_fnR rfl ?_
    unfold bSame
    have atom : ∀ x : M, isTy "tuple" (tyM x) = false → isNon (.fr x) = false → (tail [.v x, .v x, .un, .un] = .ok (.rt (.fr (.bl true))) [.v x, .v x, .un, .un]) → Q (.fr (.bl true)) [.v x, .v x] → wp (finQ [.v x, .v x] Q) (fun c m r => E c m (outs [.v x, .v x] r)) ((sSeq (sIf (tru (v1 (gIsi "tuple") (vVar 1))) (sSeq (sIf (tOrM (tNotM (tru (v1 (gIsi "tuple") (vVar 0)))) (tst (v2 gNe (vC (on1 gLen) (vCons (vVar 0) vNil)) (vC (on1 gLen) (vCons (vVar 1) vNil))))) (sRet (vLit (.bl false))) sNx)
        (sSeq (sFor (vIt iZip2M (vCons (vVar 0) (vCons (vVar 1) vNil))) (tTup [(tName 2), (tName 3)]) (bSame1 (ms k))) (sRet (vLit (.bl true))))) sNx)
        (sSeq (sIf (tst (v2 gIsN (vVar 1) (vLit .non))) (sRet (v2 gIsN (vVar 0) (vLit .non))) sNx) tail)) [.v x, .v x, .un, .un]) := fun x e1 e2 e3 q => by
      have e4 : ∀ r : Ro, gIsN (.fr x) (.fr .non) r = .ok (.fr (.bl false)) r := fun r => by
        show R.ok (EV.fr (.bl (isNon (.fr x)))) r = _
        rw [e2]
      simp [e1, e4, e3]
      exact q
    cases m with
    | lst xs => exact h.elim
    | ro xs => exact h.elim
    | non =>
      simp [show isTy "tuple" (tyM .non) = false by decide]
      exact q
    | int x => exact atom _ (by show isTy "tuple" .int = false; decide) rfl (hi x) q
    | str x => exact atom _ (by show isTy "tuple" .str = false; decide) rfl (hs x h) q
    | bl x => exact atom _ (by show isTy "tuple" .bl = false; decide) rfl (hb x h) q
    | tup xs =>
      have hx : Pls at_ k xs := h
      have e1 : isTy "tuple" (tyM (.tup xs)) = true := by show isTy "tuple" .tup = true; decide
      simp [e1]
      refine wp_for (fun ms r => ∃ ys x y, ms = zip2M ys ys ∧ Pls at_ k ys ∧ canSet x = true ∧ canSet y = true ∧ r = [.v (.tup xs), .v (.tup xs), x, y]) ⟨xs, .un, .un, rfl, hx, rfl, rfl, rfl⟩ ?_ ?_
      · rintro J hJ m0 ms0 r ⟨ys, x, y, e, hp, hx1, hy1, rfl⟩
        cases ys with
        | nil => cases e
        | cons z ys =>
          cases e
          simp [hx1, hy1]
          unfold bSame1
          simp
          refine same_w h0 hi hs hb k _ _ z hp.1 ?_
          simp
          exact hJ _ _ ⟨ys, _, _, by simp [zip2M], hp.2, rfl, rfl, rfl⟩
      · rintro r ⟨ys, x, y, e, hp, hx1, hy1, rfl⟩
        simp
        exact q
def strOkM : M → Prop
  | .str s => PyData.strOk s = true
  | _ => False
def blM : M → Prop
  | .bl _ => True
  | _ => False
def strBlM : M → Prop
  | .str s => PyData.strOk s = true
  | .bl _ => True
  | _ => False
@[simp] theorem eqv_bl (x y : Bool) : eqv (.bl x) (.bl y) = decide (x = y) := by
  cases x <;> cases y <;> decide
def tailA : Ev Fl := (sSeq (sIf (tru (v1 (gIsi "str") (vVar 1))) (sRet (vAnd (v1 (gIsi "str") (vVar 0)) (v2 gEq (vVar 0) (vVar 1)))) sNx)
  (sRet (vAnd (v1 (gIsi "int") (vVar 0)) (vAnd (vNot (v1 (gIsi "bool") (vVar 0))) (v2 gEq (vVar 0) (vVar 1))))))
theorem sameA {ms : Nat → Fn} (h0 : ∀ k, ms (k + 1) = fnR 2 4 (bSame tailA (ms k))) : ∀ k, SameOk strOkM k (ms k) :=
  same_w h0 (fun x => by unfold tailA; simp) (fun x hx => by unfold tailA; simp [show PyData.strOk x = true from hx]) (fun x hx => hx.elim)
def isBT : Ev Bool := tOrM (tst (v2 gIsB (vVar 1) (vLit (.bl true)))) (tst (v2 gIsB (vVar 1) (vLit (.bl false))))
@[simp] theorem a_isB {e : EV} {c : Bool} {r : Ro} : gIsB e (.fr (.bl c)) r = .ok (.fr (.bl (isBl c e))) r := (rfl)
@[simp] theorem isBl_int {c : Bool} {x : Int} : isBl c (.fr (.int x)) = false := (rfl)
@[simp] theorem isBl_str {c : Bool} {x : Str} : isBl c (.fr (.str x)) = false := (rfl)
@[simp] theorem isBl_bl {c x : Bool} : isBl c (.fr (.bl x)) = (x == c) := (rfl)
def tailB : Ev Fl := (sSeq (sIf (tOrM (tst (v2 gIsB (vVar 1) (vLit (.bl true)))) (tst (v2 gIsB (vVar 1) (vLit (.bl false))))) (sRet (vAnd (v1 (gIsi "bool") (vVar 0)) (v2 gEq (vVar 0) (vVar 1)))) sNx)
  (sRet (vAnd (v1 (gIsi "int") (vVar 0)) (vAnd (vNot (v1 (gIsi "bool") (vVar 0))) (v2 gEq (vVar 0) (vVar 1))))))
theorem sameB {ms : Nat → Fn} (h0 : ∀ k, ms (k + 1) = fnR 2 4 (bSame tailB (ms k))) : ∀ k, SameOk blM k (ms k) :=
  same_w h0 (fun x => by unfold tailB; simp) (fun x hx => hx.elim) (fun x _ => by unfold tailB; cases x <;> simp)
def tailC : Ev Fl := (sSeq (sIf (tOrM (tst (v2 gIsB (vVar 1) (vLit (.bl true)))) (tst (v2 gIsB (vVar 1) (vLit (.bl false))))) (sRet (vAnd (v1 (gIsi "bool") (vVar 0)) (v2 gEq (vVar 0) (vVar 1)))) sNx)
  (sSeq (sIf (tru (v1 (gIsi "int") (vVar 1))) (sRet (vAnd (v1 (gIsi "int") (vVar 0)) (vAnd (vNot (v1 (gIsi "bool") (vVar 0))) (v2 gEq (vVar 0) (vVar 1))))) sNx)
  (sRet (vAnd (v1 (gIsi "str") (vVar 0)) (vAnd (v1 (gIsi "str") (vVar 1)) (v2 gEq (vVar 0) (vVar 1)))))))
theorem sameC {ms : Nat → Fn} (h0 : ∀ k, ms (k + 1) = fnR 2 4 (bSame tailC (ms k))) : ∀ k, SameOk strBlM k (ms k) :=
  same_w h0 (fun x => by unfold tailC; simp) (fun x hx => by unfold tailC; simp [show PyData.strOk x = true from hx]) (fun x _ => by unfold tailC; cases x <;> simp)
theorem pls_int {at_ : M → Prop} {k : Nat} {α : Type} (f : α → Int) : ∀ l : List α, Pls at_ (k + 1) (l.map fun t => M.int (f t))
  | [] => trivial
  | _ :: l => ⟨trivial, pls_int f l⟩
theorem pls_all {at_ : M → Prop} {k : Nat} : ∀ l : List M, (∀ m ∈ l, Pl at_ k m) → Pls at_ k l
  | [], _ => by unfold Pls; trivial
  | m :: l, h => by unfold Pls; exact ⟨h m (List.mem_cons_self ..), pls_all l fun x hx => h x (List.mem_cons_of_mem _ hx)⟩
theorem pl_tup {at_ : M → Prop} {k : Nat} {l : List M} (h : ∀ m ∈ l, Pl at_ k m) : Pl at_ (k + 1) (.tup l) := pls_all l h
end
end Sx

set_option Elab.async false
set_option linter.all false
set_option maxRecDepth 100000
set_option maxHeartbeats 4000000
/-! Sx19: rules for lists of own lists and for dicts. -/
namespace Sx
open PySem L2
section
variable {α β : Type} {r r1 : Ro} {i j : Nat} {m : M} {xs ys : List M} {Q Q' : α → Ro → Prop} {E E' : QX}
theorem wp_lcFL {vs : List Nat} {t : Tg} {c : Ev Bool} {e : Ev EV} {Q : List (List M) → Ro → Prop} (I : List (List M) → List M → Ro → Prop)
    (hs : ∀ acc m ms r, I acc (m :: ms) r → wp (fun _ r => wp (fun _ r => wp (fun b r => if b = true then wp (fun ev r => wp (fun x r => I (acc ++ [x]) ms r) E (ownL ev r)) noE (e r) else I acc ms r) noE (c r)) noE (t m r)) E (wipeE vs r))
    (hd : ∀ acc r, I acc [] r → wp (fun _ r => Q acc r) E (wipeE vs r)) : ∀ {ms : List M} {acc : List (List M)} {r : Ro}, I acc ms r → wp (fun xs r => Q (acc ++ xs) r) E (lcFL vs t c e ms r)
  | [], acc, r, h => by
    show wp _ E (bnd (wipeE vs) (fun _ => ret []) r)
    rw [ev_bnd, wp_th]
    refine wp_mono (hd acc r h) (fun _ r1 h1 => ?_) (fun _ _ _ z => z)
    rw [ev_ret, wp_ok, List.append_nil]
    exact h1
  | m :: ms, acc, r, h => by
    show wp _ E (bnd (wipeE vs) (fun _ => bnd (noX (t m)) fun _ => bnd (noX c) fun b => if b = true then bnd (noX e) (fun ev => bnd (ownL ev) fun x => bnd (lcFL vs t c e ms) fun xs => ret (x :: xs)) else lcFL vs t c e ms) r)
    rw [ev_bnd, wp_th]
    refine wp_mono (hs acc m ms r h) (fun _ r1 h1 => ?_) (fun _ _ _ z => z)
    rw [ev_bnd, wp_th, wp_noX]
    refine wp_mono h1 (fun _ r2 h2 => ?_) (fun _ _ _ z => z)
    rw [ev_bnd, wp_th, wp_noX]
    refine wp_mono h2 (fun b r3 h3 => ?_) (fun _ _ _ z => z)
    cases b with
    | false => exact wp_lcFL I hs hd h3
    | true =>
      rw [if_pos rfl] at h3
      rw [if_pos rfl, ev_bnd, wp_th, wp_noX]
      refine wp_mono h3 (fun ev r4 h4 => ?_) (fun _ _ _ z => z.elim)
      rw [ev_bnd, wp_th]
      refine wp_mono h4 (fun x r5 h5 => ?_) (fun _ _ _ z => z)
      rw [ev_bnd, wp_th]
      refine wp_mono (wp_lcFL I hs hd h5) (fun xs r6 h6 => ?_) (fun _ _ _ z => z)
      rw [ev_ret, wp_ok]
      simpa using h6
/-- a comprehension: what is gathered, what is left to come -/
theorem wp_lcL0 {vs : List Nat} {t : Tg} {c : Ev Bool} {e : Ev EV} {ms : List M} {Q : EV → Ro → Prop} (I : List (List M) → List M → Ro → Prop) (hv : vs.all (fun j => plainS (get r j)) = true) (hl : ms.length ≤ big) (h0 : I [] ms r)
    (hs : ∀ acc m ms r, I acc (m :: ms) r → wp (fun _ r => wp (fun _ r => wp (fun b r => if b = true then wp (fun ev r => wp (fun x r => I (acc ++ [x]) ms r) noE (ownL ev r)) noE (e r) else I acc ms r) noE (c r)) noE (t m r)) noE (wipeE vs r))
    (hd : ∀ acc r1, I acc [] r1 → vs.all (fun j => canSet (get r1 j)) = true ∧ Q (.tmp (.ll acc)) (restR vs r (wipeR vs r1))) : wp Q E (lcXL vs t c e ms r) := by
  unfold lcXL
  rw [if_pos ⟨hv, hl⟩]
  have h := wp_lcFL (E := noE) (Q := fun xs r1 => Q (.tmp (.ll xs)) (restR vs r r1)) I hs (fun acc r1 h => by
    rw [wp_wipe]
    exact hd acc r1 h) h0
  obtain ⟨xs, r1, e1, h1⟩ := wp_out h
  rw [e1]
  simpa using h1
theorem wp_lcL {vs : List Nat} {t : Tg} {c : Ev Bool} {e : Ev EV} {ms : List M} {Q : EV → Ro → Prop} (I : List (List M) → List M → Ro → Prop) (hv : vs.all (fun j => plainS (get r j)) = true) (hl : ms.length ≤ big) (h0 : I [] ms r)
    (hs : ∀ (J : List (List M) → List M → Ro → Prop), (∀ acc ms r, I acc ms r → J acc ms r) → ∀ acc m ms r, I acc (m :: ms) r → wp (fun _ r => wp (fun _ r => wp (fun b r => if b = true then wp (fun ev r => wp (fun x r => J (acc ++ [x]) ms r) noE (ownL ev r)) noE (e r) else J acc ms r) noE (c r)) noE (t m r)) noE (wipeE vs r))
    (hd : ∀ acc r1, I acc [] r1 → vs.all (fun j => canSet (get r1 j)) = true ∧ Q (.tmp (.ll acc)) (restR vs r (wipeR vs r1))) : wp Q E (lcXL vs t c e ms r) :=
  wp_lcL0 I hv hl h0 (hs I fun _ _ _ z => z) hd
@[simp] theorem ownL_tmp : ownL (.tmp (.l xs)) r = .ok xs r := (rfl)
@[simp] theorem a_lcL {src : Ev (List M × List Src)} {vs : List Nat} {t : Tg} {c : Ev Bool} {e : Ev EV} : vLcL vs src t c e r = (src r).th fun p => brk p.2 (lcXL vs t c e p.1) := by simp only [vLcL, ev_bnd]
/-- one own name, no test, lists that are made of what is walked -/
theorem wp_lcmL {e : Ev EV} {ms : List M} {Q : EV → Ro → Prop} (g : M → List M) (hi : i < r.length) (hp : plainS (get r i) = true) (hl : ms.length ≤ big)
    (he : ∀ m ∈ ms, wp (fun ev r2 => wp (fun x r3 => x = g m ∧ r3 = r.set i (.v m)) noE (ownL ev r2)) noE (e (r.set i (.v m))))
    (k : Q (.tmp (.ll (ms.map g))) r) : wp Q E (lcXL [i] (tName i) (ret true) e ms r) := by
  have gs : ∀ s, get (r.set i s) i = s := fun s => by rw [get_set, if_pos ⟨rfl, hi⟩]
  refine wp_lcL (fun acc ms' r' => ∃ s done, r' = r.set i s ∧ canSet s = true ∧ ms = done ++ ms' ∧ acc = done.map g) (by simp [hp]) hl ⟨get r i, [], (set_back hi).symm, plain_can hp, rfl, rfl⟩ ?_ ?_
  · rintro J hJ acc m ms' r' ⟨s, done, rfl, hs, hd, rfl⟩
    have hm : m ∈ ms := by rw [hd]; simp
    rw [wp_wipe]
    refine ⟨by simp [gs, hs], ?_⟩
    have e1 : wipeR [i] (r.set i s) = r.set i .un := by show (r.set i s).set i .un = _; rw [List.set_set]
    rw [e1]
    have e2 : tName i m (r.set i .un) = .ok () (r.set i (.v m)) := by
      rw [tName_ok (by simpa using hi) (by rw [gs]; rfl), List.set_set]
    rw [e2, wp_ok, show (ret true : Ev Bool) (r.set i (.v m)) = .ok true (r.set i (.v m)) from rfl, wp_ok, if_pos rfl]
    refine wp_mono (he m hm) (fun ev r2 h2 => ?_) (fun _ _ _ z => z)
    refine wp_mono h2 (fun x r3 h3 => ?_) (fun _ _ _ z => z)
    obtain ⟨rfl, rfl⟩ := h3
    exact hJ _ _ _ ⟨.v m, done ++ [m], rfl, rfl, by rw [hd]; simp, by simp⟩
  · rintro acc r1 ⟨s, done, rfl, hs, hd, rfl⟩
    rw [List.append_nil] at hd
    subst hd
    refine ⟨by simp [gs, hs], ?_⟩
    have e1 : restR [i] r (wipeR [i] (r.set i s)) = r := by
      show (((r.set i s).set i .un)).set i (get r i) = r
      rw [List.set_set, List.set_set, set_back hi]
    rw [e1]
    exact k
/-! ### what changes nothing -/
def qV : Slot → Option M
  | .v m => some m
  | _ => none
@[simp] theorem qV_v : qV (.v m) = some m := (rfl)
@[simp] theorem a_qVar : qVar i r = qV (get r i) := by unfold qVar qV; cases get r i <;> rfl
@[simp] theorem a_qLit : qLit m r = some m := (rfl)
@[simp] theorem a_qNil : qNil r = some [] := (rfl)
def qC : Option M → Option (List M) → Option (List M)
  | some m, some ms => some (m :: ms)
  | _, _ => none
@[simp] theorem qC_some : qC (some m) (some xs) = some (m :: xs) := (rfl)
@[simp] theorem a_qCons {f : Ro → Option M} {g : Ro → Option (List M)} : qCons f g r = qC (f r) (g r) := by unfold qCons qC; cases f r <;> cases g r <;> rfl
def qT : Option (List M) → Option M
  | some ms => if ms.length ≤ 1000 then some (.tup ms) else none
  | none => none
@[simp] theorem qT_some : qT (some xs) = if xs.length ≤ 1000 then some (.tup xs) else none := (rfl)
@[simp] theorem a_qTup {f : Ro → Option (List M)} : qTup f r = qT (f r) := by unfold qTup qT; cases f r <;> rfl
def qY (n : Int) : Option (Kd × List M) → Option M
  | some (_, xs) => atI xs n
  | none => none
@[simp] theorem qY_some {n : Int} {k : Kd} : qY n (some (k, xs)) = atI xs n := (rfl)
def qX : Option M → Option M → Option M
  | some a, some (.int n) => qY n (seqM a)
  | _, _ => none
@[simp] theorem qX_some {a : M} {n : Int} : qX (some a) (some (.int n)) = qY n (seqM a) := (rfl)
@[simp] theorem a_qIx {f g : Ro → Option M} : qIx f g r = qX (f r) (g r) := by
  unfold qIx qX
  cases f r with
  | none => rfl
  | some a => cases g r with
    | none => rfl
    | some b => cases b with
      | int n => show (match seqM a with | some (_, xs) => atI xs n | none => none) = qY n (seqM a); cases seqM a <;> rfl
      | _ => rfl
def qI (F : Int → Int → Int) : Option M → Option M → Option M
  | some (.int a), some (.int b) => some (.int (F a b))
  | _, _ => none
@[simp] theorem qI_some {F : Int → Int → Int} {a b : Int} : qI F (some (.int a)) (some (.int b)) = some (.int (F a b)) := (rfl)
@[simp] theorem a_qInt {F : Int → Int → Int} {f g : Ro → Option M} : qInt F f g r = qI F (f r) (g r) := by
  unfold qInt qI
  cases f r with
  | none => rfl
  | some a => cases a <;> (cases g r with
    | none => rfl
    | some b => cases b <;> rfl)
/-! ### rows -/
def rowY (p : Pin) (xss : List (List M)) (j : Nat) : Option (List M) → Option (Pin × List (List M) × Nat × List M)
  | some xs => some (p, xss, j, xs)
  | none => none
@[simp] theorem rowY_some {p : Pin} {xss : List (List M)} : rowY p xss j (some xs) = some (p, xss, j, xs) := (rfl)
def rowX (p : Pin) (xss : List (List M)) : Option Nat → Option (Pin × List (List M) × Nat × List M)
  | some j => rowY p xss j xss[j]?
  | none => none
@[simp] theorem rowX_some {p : Pin} {xss : List (List M)} : rowX p xss (some j) = rowY p xss j xss[j]? := (rfl)
@[simp] theorem rowE_ll {p : Pin} {xss : List (List M)} {k : Int} : rowE (.o p (.ll xss)) (.fr (.int k)) = rowX p xss (ixN xss.length k) := by
  show (match ixN xss.length k with
    | some j => (xss[j]?).map fun xs => (p, xss, j, xs)
    | none => none) = _
  cases ixN xss.length k with
  | none => rfl
  | some j =>
    show (xss[j]?).map _ = rowY p xss j xss[j]?
    cases xss[j]? <;> rfl
def ix2R (r : Ro) : Option (Pin × List (List M) × Nat × List M) → Option M → R EV
  | some (_, _, _, xs), some (.int q) => okO r (atI xs q)
  | _, _ => .bad
@[simp] theorem ix2R_some {p : Pin} {xss : List (List M)} {q : Int} : ix2R r (some (p, xss, j, xs)) (some (.int q)) = okO r (atI xs q) := (rfl)
@[simp] theorem a_ix2 {a : EV} {fj : Ro → Option M} : ix2 i a fj r = ix2R r (rowE (get r i) a) (fj r) := by
  unfold ix2 ix2R
  cases rowE (get r i) a with
  | none => rfl
  | some x => cases fj r with
    | none => rfl
    | some b => cases b <;> rfl
@[simp] theorem a_vIx2 {fi : Ev EV} {fj : Ro → Option M} : vIx2 i fi fj r = chkO i (bnd fi fun a => ix2 i a fj) r := (rfl)
def sto2L (i : Nat) (m : M) (r : Ro) (p : Pin) (xss : List (List M)) (j : Nat) (xs : List M) : Option Nat → R Unit
  | some l => .ok () (r.set i (.o p (.ll (xss.set j (xs.set l m)))))
  | none => .bad
@[simp] theorem sto2L_some {p : Pin} {xss : List (List M)} {l : Nat} : sto2L i m r p xss j xs (some l) = .ok () (r.set i (.o p (.ll (xss.set j (xs.set l m))))) := (rfl)
def sto2R (i : Nat) (m : M) (r : Ro) : Option (Pin × List (List M) × Nat × List M) → Option M → R Unit
  | some (p, xss, j, xs), some (.int q) => if p = .lock then .bad else sto2L i m r p xss j xs (ixN xs.length q)
  | _, _ => .bad
@[simp] theorem sto2R_f {xss : List (List M)} {q : Int} : sto2R i m r (some (.free, xss, j, xs)) (some (.int q)) = sto2L i m r .free xss j xs (ixN xs.length q) := (rfl)
@[simp] theorem sto2R_p {xss : List (List M)} {q : Int} : sto2R i m r (some (.pin, xss, j, xs)) (some (.int q)) = sto2L i m r .pin xss j xs (ixN xs.length q) := (rfl)
@[simp] theorem a_sto2 {a : EV} {fj : Ro → Option M} : sto2 i a fj m r = sto2R i m r (rowE (get r i) a) (fj r) := by
  unfold sto2 sto2R
  cases rowE (get r i) a with
  | none => rfl
  | some x =>
    obtain ⟨p, xss, j, xs⟩ := x
    cases fj r with
    | none => rfl
    | some b => cases b with
      | int q =>
        show (if p = .lock then R.bad else match ixN xs.length q with | some l => .ok () (r.set i (.o p (.ll (xss.set j (xs.set l m))))) | none => .bad) = _
        by_cases c : p = .lock
        · rw [if_pos c]; show _ = if p = .lock then _ else _; rw [if_pos c]
        · rw [if_neg c]; show _ = if p = .lock then _ else _; rw [if_neg c]; cases ixN xs.length q <;> rfl
      | _ => rfl
@[simp] theorem a_set2 {fi fe : Ev EV} {fj : Ro → Option M} : sSet2 i fi fj fe r = (fe r).th fun e => chkO i (bnd fi fun a => bnd (frz e) fun m => bnd (sto2 i a fj m) fun _ => ret .nx) := by simp only [sSet2, ev_bnd]
def app2R (i : Nat) (r : Ro) : Option (Pin × List (List M) × Nat × List M) → Option M → R EV
  | some (p, xss, j, xs), some m => if p = .lock then .bad else if xs.length < big then .ok (.fr .non) (r.set i (.o p (.ll (xss.set j (xs ++ [m]))))) else .bad
  | _, _ => .bad
@[simp] theorem app2R_f {xss : List (List M)} : app2R i r (some (.free, xss, j, xs)) (some m) = if xs.length < big then .ok (.fr .non) (r.set i (.o .free (.ll (xss.set j (xs ++ [m]))))) else .bad := (rfl)
@[simp] theorem app2R_p {xss : List (List M)} : app2R i r (some (.pin, xss, j, xs)) (some m) = if xs.length < big then .ok (.fr .non) (r.set i (.o .pin (.ll (xss.set j (xs ++ [m]))))) else .bad := (rfl)
@[simp] theorem a_app2 {a : EV} {fe : Ro → Option M} : app2 i a fe r = app2R i r (rowE (get r i) a) (fe r) := by
  unfold app2 app2R
  cases rowE (get r i) a with
  | none => rfl
  | some x => cases fe r <;> rfl
@[simp] theorem a_vApp2 {fi : Ev EV} {fe : Ro → Option M} : vApp2 i fi fe r = chkO i (bnd fi fun a => app2 i a fe) r := (rfl)
@[simp] theorem a_retF0 {e : EV} : retF0 e r = (frz e r).th fun m => ret (.rt (.fr m)) := by simp only [retF0, ev_bnd]
@[simp] theorem a_sRetF {f : Ev EV} : sRetF f r = (f r).th retF0 := by simp only [sRetF, ev_bnd]
@[simp] theorem frz_tmpl : frz (.tmp (.l xs)) r = .ok (.lst xs) r := (rfl)
@[simp] theorem frz_tmpll {xss : List (List M)} : frz (.tmp (.ll xss)) r = .ok (.lst (xss.map .lst)) r := (rfl)
/-! ### new dicts -/
@[simp] theorem a_dict0I : vDict0I r = .ok (.tmp (.di [])) r := (rfl)
@[simp] theorem a_dict0T : vDict0T r = .ok (.tmp (.dt [])) r := (rfl)
@[simp] theorem a_dictI {f g : Ev EV} : vDictI f g r = (f r).th fun a => bnd g fun b => dictI a b := by simp only [vDictI, ev_bnd]
@[simp] theorem a_dictT {f g : Ev EV} : vDictT f g r = (f r).th fun a => bnd g fun b => dictT a b := by simp only [vDictT, ev_bnd]
@[simp] theorem a_dictI2 {n : Int} {b : EV} : dictI (.fr (.int n)) b = bnd (frz b) fun m => ret (.tmp (.di [(n, m)])) := (rfl)
def dT (k : M) (b : EV) (r : Ro) : Option NestedKey → R EV
  | some _ => bnd (frz b) (fun m => ret (.tmp (.dt [(k, m)]))) r
  | none => .bad
@[simp] theorem dT_some {k : M} {b : EV} {y : NestedKey} : dT k b r (some y) = bnd (frz b) (fun m => ret (.tmp (.dt [(k, m)]))) r := (rfl)
@[simp] theorem a_dictT2 {k : M} {b : EV} : dictT (.fr k) b r = dT k b r (keyT k) := by
  show (match keyT k with
    | some _ => bnd (frz b) fun m => ret (EV.tmp (.dt [(k, m)]))
    | none => bad) r = _
  cases keyT k <;> rfl
end
end Sx

set_option Elab.async false
set_option linter.all false
set_option maxRecDepth 100000
set_option maxHeartbeats 4000000
/-! SxR: reversed(x), xs[::-1] -/
namespace Sx
open PySem L2
section
variable {X : Cx} {W : W4} {tg e e2 : Expr} {pos p : Pos} {fa : Ev EV} {f : Ev (List EV)} {r : Ro} {G : Hp} {σ : St} {K : PySem.W.Frag}
def ItR (K : PySem.W.Frag) (a : Addr) (n : Nat) : Kd → It
  | .t => RT.ItvT K a n
  | _ => Itv K a n
theorem wlk_rev {s : Src} {a : Addr} (h : SrcOk K r G σ s (.ref a)) : Wlk K (ItR K a s.xs.length s.k) s.xs.reverse r G σ := by
  intro r' G' σ' H' S' lt
  obtain ⟨a', vs, e, sk, rl⟩ := (h.later lt).read S'
  cases e
  have len := rl.len
  obtain ⟨k, xs, lk⟩ := s
  dsimp only at len sk rl ⊢
  rw [List.length_reverse]
  refine ⟨fun i hi => ?_, ?_⟩
  · obtain ⟨v, m, hv, hm, rp⟩ := sqK_len (a := a) rl (i := xs.length - 1 - i) (by omega)
    have hm2 : xs.reverse[i]? = some m := by rw [List.getElem?_reverse (by omega)]; exact hm
    cases k with
    | t => exact ⟨⟨hi, vs, v, sk, hv⟩, fun x H2 y => by
        obtain ⟨e1, e2⟩ := y
        subst e1
        have e3 := e2 vs sk
        rw [hv] at e3; cases e3
        exact ⟨G', m, S', .refl A0.self, hm2, rp⟩⟩
    | l => exact ⟨⟨hi, vs, v, .of sk, hv⟩, fun x H2 y => by
        obtain ⟨e1, e2⟩ := y
        subst e1
        have e3 := e2 vs (.of sk)
        rw [hv] at e3; cases e3
        exact ⟨G', m, S', .refl A0.self, hm2, rp⟩⟩
    | ro => exact ⟨⟨hi, vs, v, sk, hv⟩, fun x H2 y => by
        obtain ⟨e1, e2⟩ := y
        subst e1
        have e3 := e2 vs sk
        rw [hv] at e3; cases e3
        exact ⟨G', m, S', .refl A0.self, hm2, rp⟩⟩
  · cases k with
    | t => exact Nat.le_refl _
    | l => exact Nat.le_refl _
    | ro => exact Nat.le_refl _
def iRevM : List Src → Option (List M)
  | [s] => some s.xs.reverse
  | _ => none
theorem si_rev (hg : Gl X "reversed") (hm : X.mg "reversed" = none) (ha : SE X W e fa) (hs : starEach [e] X.env = (false, eval e X.env) :: starEach [] X.env := by rfl) : SI X W tg (.Call (.Name "reversed" p) [e] [] pos) (vIt iRevM (one fa)) := by
  refine piW (RT.pi_revA hg hm ha hs) fun σ H Q h => ?_
  have z := into_it (Q1 := fun vs H1 => ∃ v, vs = [v] ∧ ∃ (a : Addr) (xs : List V), v = .ref a ∧ ((SqL X.K H1 a xs ∧ Q (Itv X.K a xs.length) H1) ∨ (SqT X.K H1 a xs ∧ Q (RT.ItvT X.K a xs.length) H1))) h fun ss ms vs H1 e1 ⟨r1, G1, S1, sos, fin⟩ => by
    match ss, e1 with
    | [s], e1 =>
      cases e1
      cases sos with
      | cons so so2 =>
        cases so2
        obtain ⟨a, vs', rfl, sk, rl⟩ := so.read S1
        have fw := fin _ (wlk_rev so)
        have len : s.xs.length = vs'.length := rl.len
        rw [len] at fw
        refine ⟨_, rfl, a, vs', rfl, ?_⟩
        obtain ⟨k, xs, lk⟩ := s
        cases k with
        | t => exact .inr ⟨sk, fw⟩
        | l => exact .inl ⟨.of sk, fw⟩
        | ro => exact .inl ⟨sk, fw⟩
  obtain ⟨r, G, S, z⟩ := z
  refine into1 (rp := rpE X.K σ) (A := A0 r σ H) (Post (rpL X.K σ) X.K X.mg W (A0 r σ H) r G σ H _) (fun z => z) (fun _ _ _ z => z) S A0.self z fun ev r1 v G1 H1 S1 a1 st1 e1 h1 => ?_
  obtain ⟨v', e2, q⟩ := h1 [v] G1 H1 S1 st1 (.cons e1 .nil)
  cases e2
  exact q
@[simp] theorem it_rev {s : Src} : itR iRevM [s] r = .ok (s.xs.reverse, [s]) r := (rfl)
/-! ### xs[::-1] -/
def revL (r : Ro) : Option (Kd × List M) → R EV
  | some (.l, xs) => .ok (.tmp (.l xs.reverse)) r
  | some (.ro, xs) => .ok (.tmp (.l xs.reverse)) r
  | _ => .bad
def gRvL (a : EV) : Ev EV := fun r => revL r (seqOf r a)
def vRvL (f : Ev EV) : Ev EV := bnd f gRvL
theorem se_rvl {k : Nat} {p1 p2 p3 : Pos} (ha : SE X W e fa) : SE X W (.Subscript e (.Slice none none (some (.UnaryOp .USub (.Constant (.int 1) k p1) p2)) p3) pos) (vRvL fa) := by
  refine peW (pe_revL ha) fun σ H Q ⟨r, G, S, h⟩ => ?_
  refine into upE S A0.self h fun ev r1 v G1 H1 S1 a1 st1 e1 h1 => ?_
  unfold gRvL at h1
  cases q : seqOf r1 ev with
  | none => rw [q] at h1; exact h1.elim
  | some p =>
    obtain ⟨k, xs⟩ := p
    rw [q] at h1
    obtain ⟨c, vs, rfl, s, rl⟩ := seq_ok S1 e1.wk q
    cases k with
    | t => exact h1.elim
    | l => exact ⟨c, vs, rfl, .of s, fun p n => fin_lst S1 a1 h1 rl.rv n⟩
    | ro => exact ⟨c, vs, rfl, s, fun p n => fin_lst S1 a1 h1 rl.rv n⟩
@[simp] theorem a_rvl : vRvL fa r = (fa r).th gRvL := by simp only [vRvL, ev_bnd]
@[simp] theorem g_rvl {a : EV} : gRvL a r = revL r (seqOf r a) := (rfl)
@[simp] theorem revL_l {xs : List M} : revL r (some (.l, xs)) = .ok (.tmp (.l xs.reverse)) r := (rfl)
end
end Sx

set_option Elab.async false
set_option linter.all false
set_option maxRecDepth 100000
set_option maxHeartbeats 4000000
/-! SxQ: min(x), x a list or tuple of tuples of whole numbers -/
namespace Sx
open PySem L2
mutual
def pti : M → Bool
  | .int _ => true
  | .tup xs => ptis xs
  | _ => false
def ptis : List M → Bool
  | [] => true
  | x :: xs => pti x && ptis xs
end
mutual
theorem toD_inj : ∀ {m m' : M}, pti m = true → pti m' = true → toD m = toD m' → m = m'
  | .int x, .int y, _, _, h => by simp only [toD, PyData.int.injEq] at h; rw [h]
  | .tup xs, .tup ys, h1, h2, h => by
    simp only [toD, PyData.tuple.injEq] at h
    rw [toDs_inj (by simpa [pti] using h1) (by simpa [pti] using h2) h]
  | .int _, .tup _, _, _, h => by simp only [toD] at h; cases h
  | .tup _, .int _, _, _, h => by simp only [toD] at h; cases h
  | .non, _, h, _, _ => by simp [pti] at h
  | .bl _, _, h, _, _ => by simp [pti] at h
  | .str _, _, h, _, _ => by simp [pti] at h
  | .lst _, _, h, _, _ => by simp [pti] at h
  | .ro _, _, h, _, _ => by simp [pti] at h
  | .int _, .non, _, h, _ => by simp [pti] at h
  | .int _, .bl _, _, h, _ => by simp [pti] at h
  | .int _, .str _, _, h, _ => by simp [pti] at h
  | .int _, .lst _, _, h, _ => by simp [pti] at h
  | .int _, .ro _, _, h, _ => by simp [pti] at h
  | .tup _, .non, _, h, _ => by simp [pti] at h
  | .tup _, .bl _, _, h, _ => by simp [pti] at h
  | .tup _, .str _, _, h, _ => by simp [pti] at h
  | .tup _, .lst _, _, h, _ => by simp [pti] at h
  | .tup _, .ro _, _, h, _ => by simp [pti] at h
theorem toDs_inj : ∀ {xs ys : List M}, ptis xs = true → ptis ys = true → toDs xs = toDs ys → xs = ys
  | [], [], _, _, _ => rfl
  | [], _ :: _, _, _, h => by simp only [toDs] at h; cases h
  | _ :: _, [], _, _, h => by simp only [toDs] at h; cases h
  | x :: xs, y :: ys, h1, h2, h => by
    simp only [toDs, List.cons.injEq] at h
    simp only [ptis, Bool.and_eq_true] at h1 h2
    rw [toD_inj h1.1 h2.1 h.1, toDs_inj h1.2 h2.2 h.2]
end
def ltM (x y : M) : Bool := PySem.W.dataLt (toD x) (toD y)
/-- the first of the least -/
def minMs (x : M) (xs : List M) : M := xs.foldl (fun a y => if ltM y a = true then y else a) x
theorem toDs_map : ∀ xs : List M, toDs xs = xs.map toD
  | [] => rfl
  | x :: xs => by rw [toDs, toDs_map xs]; rfl
theorem minMs_toD : ∀ (xs : List M) (x : M), toD (minMs x xs) = PySem.W.minD (toD x) (toDs xs)
  | [], x => rfl
  | y :: xs, x => by
    unfold minMs PySem.W.minD
    rw [toDs, List.foldl_cons, List.foldl_cons]
    have := minMs_toD xs (if ltM y x = true then y else x)
    unfold minMs PySem.W.minD at this
    rw [this]
    unfold ltM
    by_cases c : PySem.W.dataLt (toD y) (toD x) = true
    · rw [if_pos c, if_pos c]
    · rw [if_neg c, if_neg c]
theorem minMs_mem : ∀ (xs : List M) (x : M), minMs x xs ∈ x :: xs
  | [], x => by simp [minMs]
  | y :: xs, x => by
    have e : minMs x (y :: xs) = minMs (if ltM y x = true then y else x) xs := rfl
    rw [e]
    have := minMs_mem xs (if ltM y x = true then y else x)
    rcases List.mem_cons.mp this with z | z
    · rw [z]
      by_cases c : ltM y x = true
      · rw [if_pos c]; simp
      · rw [if_neg c]; simp
    · simp [z]
def alikes (ds : List PyData) : Bool := ds.all fun x => ds.all fun y => PySem.W.alike x y
def minQ (r : Ro) : Option (Kd × List M) → R EV
  | some (_, x :: xs) => if ptis (x :: xs) = true ∧ flats 59 (x :: xs) = true ∧ alikes (toDs (x :: xs)) = true then .ok (.fr (minMs x xs)) r else .bad
  | _ => .bad
def gMinP (a : EV) : Ev EV := fun r => minQ r (seqOf r a)
section
variable {X : Cx} {W : W4}
def rMinP (K : PySem.W.Frag) : List V → Hp → VK → Prop := fun vs H Q => ∃ (a : Addr) (xs : List V) (d : PyData) (ds : List PyData), vs = [V.ref a] ∧ (SqL K H a xs ∨ SqT K H a xs) ∧ DpAll K H xs (d :: ds) ∧ PyData.canLayAll0 (d :: ds) = true ∧ PyData.depthAll (d :: ds) ≤ 59 ∧ PySem.W.AlikeAll (d :: ds) ∧
  ∀ (i : Nat) v e, xs[i]? = some v → (d :: ds)[i]? = some e → e = PySem.W.minD d ds → Q v H
theorem ra_at {h : Heap} : ∀ {vs : List Value} {ds : List PyData} {as : List Addr} {i : Nat} {v : Value}, ReadsAll h vs ds as → vs[i]? = some v → ∃ d bs, ds[i]? = some d ∧ Reads h v d bs
  | _, _, _, _, _, .nil, e => by simp at e
  | _, _, _, 0, _, .cons r rs, e => by
    simp at e
    subst e
    exact ⟨_, _, rfl, r⟩
  | _, _, _, i + 1, _, .cons r rs, e => by
    obtain ⟨d, bs, h1, h2⟩ := ra_at (i := i) rs (by simpa using e)
    exact ⟨d, bs, by simpa using h1, h2⟩
theorem lay_at : ∀ {ds : List PyData} {i : Nat} {d : PyData}, PyData.canLayAll0 ds = true → ds[i]? = some d → d.canLay0 = true
  | [], _, _, _, e => by simp at e
  | x :: ds, 0, d, h, e => by
    simp at e
    subst e
    rw [PyData.canLayAll0, Bool.and_eq_true] at h
    exact h.1
  | x :: ds, i + 1, d, h, e => by
    rw [PyData.canLayAll0, Bool.and_eq_true] at h
    exact lay_at (i := i) h.2 (by simpa using e)
theorem cr_minP (hc : X.calm = true) (hu : X.A.units + 65 < cLine) : CallR X (.builtin "min") (rMinP X.K) := by
  intro pins s σ H vs us Q I r h
  obtain ⟨a, xs, d, ds, rfl, hs, hd, lay, dep, al, q⟩ := h
  rw [ref1 r]
  have fin : ∀ (its : List Value), Vals xs its → ∀ (as : List Addr), ReadsAll s.heap its (d :: ds) as → ∀ (i : Nat) (v : Value) (h' : Heap) (tk : Nat) (bs : List Addr), its.toArray[i]? = some v → Reads h' v (PySem.W.minD d ds) bs → (∀ b o, s.heap.get? b = some o → h'.get? b = some o) →
      EP X pins σ Q v { s with heap := h', toks := tk } := fun its rv as ra i v h' tk bs hi hr hk => by
    have hi : its[i]? = some v := by simpa using hi
    obtain ⟨e, cs, he, hr2⟩ := ra_at ra hi
    have e1 : e = PySem.W.minD d ds := PySem.SeqAt.Reads.unique e _ v cs bs (lay_at lay he) (PyProof.Rows.Reads.keeps hk hr2) hr
    have il : i < its.length := (List.getElem?_eq_some_iff.mp hi).1
    have xl : xs.length = its.length := rv.length
    have hx : xs[i]? = some xs[i] := List.getElem?_eq_getElem (by omega)
    obtain ⟨u, hu2, ru⟩ := rv.get hx
    rw [hi] at hu2
    cases hu2
    exact ⟨xs[i], H, I.kept hk, ru, q i _ e hx he e1⟩
  rcases hs with hs | hs
  · obtain ⟨its, rv, p', _⟩ := I.list hs
    obtain ⟨as, ra⟩ := Dp.readsAll I _ xs its hd rv
    exact PySem.W.min_list_data (I.ok.hd hc) p'.isList (by simpa using ra) al (by omega) fun i v h' tk bs hi hr hk => fin its rv as ra i v h' tk bs hi hr hk
  · obtain ⟨its, rv, p', _⟩ := I.tuple hs
    obtain ⟨as, ra⟩ := Dp.readsAll I _ xs its hd rv
    exact PySem.W.min_tuple_data (I.ok.hd hc) p' (by simpa using ra) al (by omega) fun i v h' tk bs hi hr hk => fin its rv as ra i v h' tk bs hi hr hk
theorem pti_non {m : M} (h : pti m = true) : toD m ≠ .none := by
  cases m with
  | int x => simp [toD]
  | tup xs => simp [toD]
  | non => simp [pti] at h
  | bl b => simp [pti] at h
  | str x => simp [pti] at h
  | lst x => simp [pti] at h
  | ro x => simp [pti] at h
theorem ptis_mem : ∀ {xs : List M} {m : M}, ptis xs = true → m ∈ xs → pti m = true
  | [], _, _, h => nomatch h
  | x :: xs, m, h, hm => by
    simp only [ptis, Bool.and_eq_true] at h
    rcases List.mem_cons.mp hm with e | hm
    · rw [e]; exact h.1
    · exact ptis_mem h.2 hm
theorem imp_minP : ImpC X W (rMinP X.K) (on1 gMinP) := by
  intro A r G σ H evs vs Q S hA er h
  obtain ⟨ev, v, rfl, e1, h⟩ := evs1 er h
  unfold gMinP at h
  cases q : seqOf r ev with
  | none => rw [q] at h; exact h.elim
  | some pr =>
    obtain ⟨k, ms⟩ := pr
    rw [q] at h
    cases ms with
    | nil => exact h.elim
    | cons x ms =>
      obtain ⟨c, vs, rfl, s, rl⟩ := seq_ok S e1.wk q
      have h : Post (rpE X.K σ) X.K X.mg W A r G σ H Q (if ptis (x :: ms) = true ∧ flats 59 (x :: ms) = true ∧ alikes (toDs (x :: ms)) = true then .ok (.fr (minMs x ms)) r else .bad) := h
      by_cases c0 : ptis (x :: ms) = true ∧ flats 59 (x :: ms) = true ∧ alikes (toDs (x :: ms)) = true
      · rw [if_pos c0] at h
        obtain ⟨c1, c2, c3⟩ := c0
        obtain ⟨l1, l2⟩ := flats_lay 59 _ c2
        refine ⟨c, vs, toD x, toDs ms, rfl, ?_, rep_dps (rl.mono S.sub), l1, l2, ⟨fun a ha b hb => ?_, fun a ha => ?_⟩, fun i v e hv he ee => ?_⟩
        · cases k with
          | t => exact .inr s
          | l => exact .inl (.of s)
          | ro => exact .inl s
        · unfold alikes at c3
          exact List.all_eq_true.mp (List.all_eq_true.mp c3 a ha) b hb
        · have ha : a ∈ toDs (x :: ms) := ha
          rw [toDs_map] at ha
          obtain ⟨m, hm, rfl⟩ := List.mem_map.mp ha
          exact pti_non (ptis_mem c1 hm)
        · have he : (toDs (x :: ms))[i]? = some e := he
          rw [toDs_map, List.getElem?_map] at he
          cases qm : (x :: ms)[i]? with
          | none => rw [qm] at he; cases he
          | some m =>
            rw [qm] at he
            cases he
            obtain ⟨v', hv', rp⟩ := rl.at qm
            rw [hv] at hv'
            cases hv'
            have em : m = minMs x ms := toD_inj (ptis_mem c1 (List.mem_of_getElem? qm)) (ptis_mem c1 (minMs_mem ms x)) (by rw [ee, minMs_toD])
            rw [← em] at h
            exact fin_plain S hA h rp
      · rw [if_neg c0] at h
        exact h.elim
end
@[simp] theorem a_minP {a : EV} {r : Ro} : on1 gMinP [a] r = minQ r (seqOf r a) := (rfl)
theorem minQ_ok {r : Ro} {k : Kd} {x : M} {xs : List M} (h : ptis (x :: xs) = true ∧ flats 59 (x :: xs) = true ∧ alikes (toDs (x :: xs)) = true) : minQ r (some (k, x :: xs)) = .ok (.fr (minMs x xs)) r := if_pos h
end Sx

set_option Elab.async false
set_option linter.all false
set_option maxRecDepth 100000
set_option maxHeartbeats 4000000
/-! Sx20: comprehensions over pairs and triples, elements that change nothing. -/
namespace Sx
open PySem L2
section
variable {r : Ro} {i j l : Nat} {m : M} {E : QX}
theorem ro_ext {r r' : Ro} (h : r.length = r'.length) (g : ∀ k, get r k = get r' k) : r = r' := by
  apply List.ext_getElem h
  intro k h1 h2
  have e : ∀ {r : Ro} (h : k < r.length), r[k] = get r k := fun {r} h => by
    unfold get
    rw [List.getD_eq_getElem?_getD, List.getElem?_eq_getElem h]
    rfl
  rw [e h1, e h2, g]
theorem gs1 (hi : i < r.length) {s : Slot} : get (r.set i s) i = s := by rw [get_set, if_pos ⟨rfl, hi⟩]
theorem gs0 {k : Nat} (h : i ≠ k) {s : Slot} : get (r.set i s) k = get r k := by rw [get_set, if_neg fun z => h z.1]
theorem wp_lc2 {c : Ev Bool} {e : Ev EV} {ms : List M} {Q : EV → Ro → Prop} (g : M → Option M) (hij : i ≠ j) (hi : i < r.length) (hj : j < r.length) (pi : plainS (get r i) = true) (pj : plainS (get r j) = true) (hl : ms.length ≤ big)
    (he : ∀ m ∈ ms, ∃ a b, m = .tup [a, b] ∧ wp (fun t r' => r' = (r.set i (.v a)).set j (.v b) ∧ if t = true then wp (fun ev r2 => wp (fun x r3 => g m = some x ∧ r3 = (r.set i (.v a)).set j (.v b)) noE (frz ev r2)) noE (e ((r.set i (.v a)).set j (.v b))) else g m = none) noE (c ((r.set i (.v a)).set j (.v b))))
    (k : Q (.tmp (ms.filterMap g)) r) : wp Q E (lcX [i, j] (tTup [tName i, tName j]) c e ms r) := by
  have sw : ∀ s u, (((r.set i s).set j u).set j .un).set i .un = (r.set i .un).set j .un := fun s u => ro_ext (by simp) fun k => by
    by_cases h1 : i = k
    · subst h1
      rw [gs1 (by simpa using hi), gs0 (Ne.symm hij), gs1 hi]
    · rw [gs0 h1]
      by_cases h2 : j = k
      · subst h2
        rw [gs1 (by simpa using hj), gs1 (by simpa using hj)]
      · rw [gs0 h2, gs0 h2, gs0 h1, gs0 h2, gs0 h1]
  have sb : (((r.set i .un).set j .un).set j (get r j)).set i (get r i) = r := ro_ext (by simp) fun k => by
    by_cases h1 : i = k
    · subst h1
      rw [gs1 (by simpa using hi)]
    · rw [gs0 h1]
      by_cases h2 : j = k
      · subst h2
        rw [gs1 (by simpa using hj)]
      · rw [gs0 h2, gs0 h2, gs0 h1]
  have g1 : ∀ s u, get ((r.set i s).set j u) i = s := fun s u => by rw [gs0 (Ne.symm hij), gs1 hi]
  have g2 : ∀ s u, get ((r.set i s).set j u) j = u := fun s u => by rw [gs1 (by simpa using hj)]
  have st : ∀ a b, tTup [tName i, tName j] (.tup [a, b]) ((r.set i .un).set j .un) = .ok () ((r.set i (.v a)).set j (.v b)) := fun a b => by
    show bnd (tName i a) (fun _ => bnd (tName j b) fun _ => ret ()) _ = _
    rw [ev_bnd, tName_ok (by simpa using hi) (by rw [g1]; rfl), th_ok, ev_bnd]
    have z : (((r.set i .un).set j .un).set i (.v a)) = (r.set i (.v a)).set j .un := ro_ext (by simp) fun k => by
      by_cases h1 : i = k
      · subst h1
        rw [gs1 (by simpa using hi), g1]
      · rw [gs0 h1]
        by_cases h2 : j = k
        · subst h2
          rw [g2, g2]
        · rw [gs0 h2, gs0 h2, gs0 h1, gs0 h1]
    rw [z, tName_ok (by simpa using hj) (by rw [g2]; rfl), th_ok, ev_ret, List.set_set]
  have s0 : (r.set i (get r i)).set j (get r j) = r := ro_ext (by simp) fun k => by
    by_cases h2 : j = k
    · subst h2; rw [g2]
    · rw [gs0 h2]
      by_cases h1 : i = k
      · subst h1; rw [gs1 hi]
      · rw [gs0 h1]
  refine wp_lc (fun acc ms' r' => ∃ s u done, r' = (r.set i s).set j u ∧ canSet s = true ∧ canSet u = true ∧ ms = done ++ ms' ∧ acc = done.filterMap g) (by simp [pi, pj]) hl ⟨get r i, get r j, [], s0.symm, plain_can pi, plain_can pj, rfl, rfl⟩ ?_ ?_
  · rintro J hJ acc m ms' r' ⟨s, u, done, rfl, hs, hu, hd, rfl⟩
    have hm : m ∈ ms := by rw [hd]; simp
    rw [wp_wipe]
    refine ⟨by simp [g1, g2, hs, hu], ?_⟩
    have e1 : wipeR [i, j] ((r.set i s).set j u) = (r.set i .un).set j .un := sw s u
    obtain ⟨a, b, rfl, h0⟩ := he m hm
    rw [e1, st, wp_ok]
    refine wp_mono h0 (fun t r1 h1 => ?_) (fun _ _ _ z => z)
    obtain ⟨rfl, h1⟩ := h1
    cases t with
    | false =>
      rw [if_neg Bool.false_ne_true] at h1 ⊢
      exact hJ _ _ _ ⟨.v a, .v b, done ++ [.tup [a, b]], rfl, rfl, rfl, by rw [hd]; simp, by simp [h1]⟩
    | true =>
      rw [if_pos rfl] at h1 ⊢
      refine wp_mono h1 (fun ev r2 h2 => ?_) (fun _ _ _ z => z)
      refine wp_mono h2 (fun x r3 h3 => ?_) (fun _ _ _ z => z)
      obtain ⟨h3, rfl⟩ := h3
      exact hJ _ _ _ ⟨.v a, .v b, done ++ [.tup [a, b]], rfl, rfl, rfl, by rw [hd]; simp, by simp [h3]⟩
  · rintro acc r1 ⟨s, u, done, rfl, hs, hu, hd, rfl⟩
    rw [List.append_nil] at hd
    subst hd
    refine ⟨by simp [g1, g2, hs, hu], ?_⟩
    have e1 : wipeR [i, j] ((r.set i s).set j u) = (r.set i .un).set j .un := sw s u
    rw [e1]
    have e2 : restR [i, j] r ((r.set i .un).set j .un) = r := sb
    rw [e2]
    exact k
theorem wp_lc3 {c : Ev Bool} {e : Ev EV} {ms : List M} {Q : EV → Ro → Prop} (g : M → Option M) (hij : i ≠ j) (hil : i ≠ l) (hjl : j ≠ l) (hi : i < r.length) (hj : j < r.length) (hll : l < r.length) (pi : plainS (get r i) = true) (pj : plainS (get r j) = true) (pl : plainS (get r l) = true) (hl : ms.length ≤ big)
    (he : ∀ m ∈ ms, ∃ a b d, m = .tup [a, b, d] ∧ wp (fun t r' => r' = ((r.set i (.v a)).set j (.v b)).set l (.v d) ∧ if t = true then wp (fun ev r2 => wp (fun x r3 => g m = some x ∧ r3 = ((r.set i (.v a)).set j (.v b)).set l (.v d)) noE (frz ev r2)) noE (e (((r.set i (.v a)).set j (.v b)).set l (.v d))) else g m = none) noE (c (((r.set i (.v a)).set j (.v b)).set l (.v d))))
    (k : Q (.tmp (ms.filterMap g)) r) : wp Q E (lcX [i, j, l] (tTup [tName i, tName j, tName l]) c e ms r) := by
  have g1 : ∀ s u w, get (((r.set i s).set j u).set l w) i = s := fun s u w => by rw [gs0 (Ne.symm hil), gs0 (Ne.symm hij), gs1 hi]
  have g2 : ∀ s u w, get (((r.set i s).set j u).set l w) j = u := fun s u w => by rw [gs0 (Ne.symm hjl), gs1 (by simpa using hj)]
  have g3 : ∀ s u w, get (((r.set i s).set j u).set l w) l = w := fun s u w => by rw [gs1 (by simpa using hll)]
  have g0 : ∀ s u w k, i ≠ k → j ≠ k → l ≠ k → get (((r.set i s).set j u).set l w) k = get r k := fun s u w k h1 h2 h3 => by rw [gs0 h3, gs0 h2, gs0 h1]
  have same : ∀ {s u w : Slot} {r' : Ro}, r'.length = r.length → get r' i = s → get r' j = u → get r' l = w → (∀ k, i ≠ k → j ≠ k → l ≠ k → get r' k = get r k) → r' = ((r.set i s).set j u).set l w := fun {s u w r'} h0 h1 h2 h3 h4 => ro_ext (by simp [h0]) fun k => by
    by_cases c1 : i = k
    · subst c1; rw [g1, h1]
    · by_cases c2 : j = k
      · subst c2; rw [g2, h2]
      · by_cases c3 : l = k
        · subst c3; rw [g3, h3]
        · rw [g0 _ _ _ _ c1 c2 c3, h4 k c1 c2 c3]
  have sw : ∀ s u w, (((((r.set i s).set j u).set l w).set l .un).set j .un).set i .un = ((r.set i .un).set j .un).set l .un := fun s u w => by
    refine same (by simp) (gs1 (by simpa using hi)) ?_ ?_ ?_
    · rw [gs0 hij, gs1 (by simpa using hj)]
    · rw [gs0 hil, gs0 hjl, gs1 (by simpa using hll)]
    · intro k h1 h2 h3
      rw [gs0 h1, gs0 h2, gs0 h3, g0 _ _ _ _ h1 h2 h3]
  have sb : ((((((r.set i .un).set j .un).set l .un).set l (get r l)).set j (get r j)).set i (get r i)) = r := ro_ext (by simp) fun k => by
    by_cases h1 : i = k
    · subst h1; rw [gs1 (by simpa using hi)]
    · rw [gs0 h1]
      by_cases h2 : j = k
      · subst h2; rw [gs1 (by simpa using hj)]
      · rw [gs0 h2]
        by_cases h3 : l = k
        · subst h3; rw [gs1 (by simpa using hll)]
        · rw [gs0 h3, g0 _ _ _ _ h1 h2 h3]
  have st : ∀ a b d, tTup [tName i, tName j, tName l] (.tup [a, b, d]) (((r.set i .un).set j .un).set l .un) = .ok () (((r.set i (.v a)).set j (.v b)).set l (.v d)) := fun a b d => by
    show bnd (tName i a) (fun _ => bnd (tName j b) fun _ => bnd (tName l d) fun _ => ret ()) _ = _
    rw [ev_bnd, tName_ok (by simpa using hi) (by rw [g1]; rfl), th_ok, ev_bnd]
    have z1 : ((((r.set i .un).set j .un).set l .un).set i (.v a)) = ((r.set i (.v a)).set j .un).set l .un := by
      refine same (by simp) (gs1 (by simpa using hi)) ?_ ?_ ?_
      · rw [gs0 hij, g2]
      · rw [gs0 hil, g3]
      · intro k h1 h2 h3
        rw [gs0 h1, g0 _ _ _ _ h1 h2 h3]
    rw [z1, tName_ok (by simpa using hj) (by rw [g2]; rfl), th_ok, ev_bnd]
    have z2 : ((((r.set i (.v a)).set j .un).set l .un).set j (.v b)) = ((r.set i (.v a)).set j (.v b)).set l .un := by
      refine same (by simp) ?_ (gs1 (by simpa using hj)) ?_ ?_
      · rw [gs0 (Ne.symm hij), g1]
      · rw [gs0 hjl, g3]
      · intro k h1 h2 h3
        rw [gs0 h2, g0 _ _ _ _ h1 h2 h3]
    rw [z2, tName_ok (by simpa using hll) (by rw [g3]; rfl), th_ok, ev_ret, List.set_set]
  have s0 : ((r.set i (get r i)).set j (get r j)).set l (get r l) = r := (same (s := get r i) (u := get r j) (w := get r l) rfl rfl rfl rfl fun _ _ _ _ => rfl).symm
  refine wp_lc (fun acc ms' r' => ∃ s u w done, r' = ((r.set i s).set j u).set l w ∧ canSet s = true ∧ canSet u = true ∧ canSet w = true ∧ ms = done ++ ms' ∧ acc = done.filterMap g) (by simp [pi, pj, pl]) hl ⟨get r i, get r j, get r l, [], s0.symm, plain_can pi, plain_can pj, plain_can pl, rfl, rfl⟩ ?_ ?_
  · rintro J hJ acc m ms' r' ⟨s, u, w, done, rfl, hs, hu, hw, hd, rfl⟩
    have hm : m ∈ ms := by rw [hd]; simp
    rw [wp_wipe]
    refine ⟨by simp [g1, g2, g3, hs, hu, hw], ?_⟩
    have e1 : wipeR [i, j, l] (((r.set i s).set j u).set l w) = ((r.set i .un).set j .un).set l .un := sw s u w
    obtain ⟨a, b, d, rfl, h0⟩ := he m hm
    rw [e1, st, wp_ok]
    refine wp_mono h0 (fun t r1 h1 => ?_) (fun _ _ _ z => z)
    obtain ⟨rfl, h1⟩ := h1
    cases t with
    | false =>
      rw [if_neg Bool.false_ne_true] at h1 ⊢
      exact hJ _ _ _ ⟨.v a, .v b, .v d, done ++ [.tup [a, b, d]], rfl, rfl, rfl, rfl, by rw [hd]; simp, by simp [h1]⟩
    | true =>
      rw [if_pos rfl] at h1 ⊢
      refine wp_mono h1 (fun ev r2 h2 => ?_) (fun _ _ _ z => z)
      refine wp_mono h2 (fun x r3 h3 => ?_) (fun _ _ _ z => z)
      obtain ⟨h3, rfl⟩ := h3
      exact hJ _ _ _ ⟨.v a, .v b, .v d, done ++ [.tup [a, b, d]], rfl, rfl, rfl, rfl, by rw [hd]; simp, by simp [h3]⟩
  · rintro acc r1 ⟨s, u, w, done, rfl, hs, hu, hw, hd, rfl⟩
    rw [List.append_nil] at hd
    subst hd
    refine ⟨by simp [g1, g2, g3, hs, hu, hw], ?_⟩
    have e1 : wipeR [i, j, l] (((r.set i s).set j u).set l w) = ((r.set i .un).set j .un).set l .un := sw s u w
    rw [e1]
    have e2 : restR [i, j, l] r (((r.set i .un).set j .un).set l .un) = r := sb
    rw [e2]
    exact k
end
end Sx

set_option Elab.async false
set_option linter.all false
set_option maxRecDepth 100000
set_option maxHeartbeats 4000000
/-! SxZ: enumerate over zip: what a zip draws whose tuple may still be out. -/
namespace Sx
open PySem L2
/-- a zip: its tuple is free, or out, or gone -/
def ZAny (h : Heap) (z TI TO : Addr) : Prop := ∃ (f0 : Value) (f : Bool), (f0 = .none ∨ ∃ T : Nat, f0 = rawInt T) ∧ h.get? z = some { cls := .type "zip", dict := none, data := .fields #[f0, .bool f, .bool false, .ref TI, .ref TO], slots := #[] }
section
variable {prog : Program} {w : World} {A : Around} {E : Value → Shared → Prop} {s : Shared} {z TI TO i1 i2 : Addr} {fp1 fp2 : List Addr} {n1 n2 i : Nat} {P1 P2 : Nat → Value → Prop} {St1 St2 : Nat → Heap → Prop} {a1 a2 : Value}
theorem alive_any {a : Addr} {Q : Option Obj → Shared → Prop} (h : Q (s.heap.get? a) s) : wpAny (model prog w) A (loadIfAlive a) Q E s := fun _ _ _ => h
theorem isFree_any {f0 : Value} {f : Bool} {Q : Bool → Shared → Prop} (hf : f0 = .none ∨ ∃ T : Nat, f0 = rawInt T)
    (hz : s.heap.get? z = some { cls := .type "zip", dict := none, data := .fields #[f0, .bool f, .bool false, .ref TI, .ref TO], slots := #[] }) (hT : Q true s)
    (hF : ∀ h', h'.get? z = some { cls := .type "zip", dict := none, data := .fields #[f0, .bool true, .bool false, .ref TI, .ref TO], slots := #[] } → Heap.SameBut z s.heap h' → Q false { s with heap := h' }) :
    wpAny (model prog w) A (Builtin.SmallTypes.ownedTupleIsFree (.ref z)) Q E s := by
  unfold Builtin.SmallTypes.ownedTupleIsFree
  rcases hf with rfl | ⟨T, rfl⟩
  · exact wpAny_bind (wpAny_field hz rfl (x := .none) rfl (wpAny_pure hT))
  · refine wpAny_bind (wpAny_field hz rfl (x := rawInt T) rfl ?_)
    show wpAny _ _ (loadIfAlive ((T : Int).toNat) >>= _) _ _ _
    rw [Int.toNat_natCast]
    refine wpAny_bind (alive_any ?_)
    cases q : s.heap.get? T with
    | none =>
      simp only [Option.isNone_none, if_true]
      exact wpAny_pure hT
    | some o =>
      simp only [Option.isNone_some, Bool.false_eq_true, if_false]
      refine wpAny_bind (wpAny_field hz rfl (x := .bool f) rfl ?_)
      cases f with
      | true =>
        rw [if_neg (show ¬ ((Value.bool true != Value.bool true) = true) from Bool.false_ne_true)]
        exact wpAny_pure (hF s.heap hz (Heap.SameBut.refl _ _))
      | false =>
        rw [if_pos (show (Value.bool false != Value.bool true) = true from rfl)]
        exact wpAny_bind (wpAny_setField_rec hz (by simp) fun h₁ hz₁ hs₁ => wpAny_pure (hF h₁ hz₁ hs₁))
theorem zipA_next_item {Q : Value → Shared → Prop} (S : ZipSep2 z TI TO i1 i2 fp1 fp2) (D1 : Draws prog w A i1 fp1 n1 P1 St1) (D2 : Draws prog w A i2 fp2 n2 P2 St2)
    (hz : ZAny s.heap z TI TO) (hTI : IsTupOf2 s.heap TI (.ref i1) (.ref i2)) (hTO : IsTupOf2 s.heap TO a1 a2) (st1 : St1 i s.heap) (st2 : St2 i s.heap) (hlt1 : i < n1) (hlt2 : i < n2)
    (hQ : ∀ x1 x2 h' tk, P1 i x1 → P2 i x2 → ZAny h' z TI TO → (∃ b1 b2, IsTupOf2 h' TO b1 b2) → St1 (i + 1) h' → St2 (i + 1) h' → IsTupOf2 h' s.heap.objs.size x1 x2 → h'.objs.size = s.heap.objs.size + 1 →
      (∀ c o, c ≠ z → c ≠ TO → c ≠ i1 → c ≠ i2 → s.heap.get? c = some o → h'.get? c = some o) → Q (.ref s.heap.objs.size) { s with heap := h', toks := tk }) :
    wpAny (model prog w) A (Builtin.«zip.__next__» ⟨[.ref z], []⟩) (fun fin s' => ∃ v, fin = .done (.ret v) ∧ Q v s') E s := by
  obtain ⟨f0, f, hf0, hz⟩ := hz
  obtain ⟨hp, g, d, tk0, os⟩ := s
  show wpAny _ _ (field (.ref z) 2 >>= _) _ _ _
  refine wpAny_bind (wpAny_field hz rfl (x := .bool false) rfl ?_)
  show wpAny _ _ (field (.ref z) 3 >>= _) _ _ _
  refine wpAny_bind (wpAny_field hz rfl (x := .ref TI) rfl ?_)
  refine wpAny_bind (wpAny_seqItems hTI rfl ?_)
  show wpAny _ _ (Builtin.SmallTypes.ownedTupleIsFree (.ref z) >>= _) _ _ _
  refine wpAny_bind (isFree_any hf0 hz ?_ fun h1 hz1 hs1 => ?_)
  · simp only [if_true]
    refine wpAny_bind (wpAny_rule ?_)
    refine wpAny_bind (wpAny_field hz rfl (x := .ref TO) rfl ?_)
    refine wpAny_bind (wpAny_setField_rec hz (by simp) fun g0 hz0 hs0 => ?_)
    replace hz0 : g0.get? z = some { cls := .type "zip", dict := none, data := .fields #[.ellipsis, .bool f, .bool false, .ref TI, .ref TO], slots := #[] } := hz0
    replace hs0 : Heap.SameBut z hp g0 := hs0
    refine wpAny_bind ?_
    simp only [List.zipIdx_cons, List.zipIdx_nil, List.forIn_cons, List.forIn_nil]
    refine wpAny_bind (wpAny_bind (wpAny_onRaise ?_))
    show wpAny _ _ (Builtin.SmallTypes.nextOf (.ref i1) >>= _) _ _ ⟨g0, g, d, tk0, os⟩
    refine wpAny_bind (D1.item i _ _ _ hlt1 (D1.over st1 hs0 S.zf1) fun x1 p1 tk1 hx1 sn1 hp1 => wpAny_pure ?_)
    replace hp1 : Heap.SameBut i1 g0 p1 := hp1
    have hU1 : IsTupOf2 p1 TO a1 a2 := hp1.extBut _ _ S.Ti1 (hs0.extBut _ _ S.TOz hTO)
    refine wpAny_bind (wpAny_seqItems (s := ⟨p1, g, d, tk1, os⟩) hU1 rfl ?_)
    refine wpAny_bind (updateSeq_IsTupOf2 (s := ⟨p1, g, d, tk1, os⟩) hU1 fun g1 hT1 hs1 => ?_)
    replace hT1 : IsTupOf2 g1 TO x1 a2 := hT1
    replace hs1 : Heap.SameBut TO p1 g1 := hs1
    refine wpAny_bind (wpAny_letGo (wpAny_pure ?_))
    refine wpAny_bind (wpAny_bind (wpAny_onRaise ?_))
    show wpAny _ _ (Builtin.SmallTypes.nextOf (.ref i2) >>= _) _ _ ⟨g1, g, d, tk1, os⟩
    refine wpAny_bind (D2.item i _ _ _ hlt2 (D2.over (D2.over (D2.over st2 hs0 S.zf2) hp1 S.sep1_2) hs1 S.Tf2) fun x2 p2 tk2 hx2 sn2 hp2 => wpAny_pure ?_)
    replace hp2 : Heap.SameBut i2 g1 p2 := hp2
    have hU2 : IsTupOf2 p2 TO x1 a2 := hp2.extBut _ _ S.Ti2 hT1
    refine wpAny_bind (wpAny_seqItems (s := ⟨p2, g, d, tk2, os⟩) hU2 rfl ?_)
    refine wpAny_bind (updateSeq_IsTupOf2 (s := ⟨p2, g, d, tk2, os⟩) hU2 fun g2 hT2 hs2 => ?_)
    replace hT2 : IsTupOf2 g2 TO x1 x2 := hT2
    replace hs2 : Heap.SameBut TO p2 g2 := hs2
    refine wpAny_bind (wpAny_letGo (wpAny_pure (wpAny_pure ?_)))
    refine wpAny_bind (wpAny_seqItems (s := ⟨g2, g, d, tk2, os⟩) hT2 rfl ?_)
    refine wpAny_bind (wpAny_newTuple ?_)
    have hsz : g2.objs.size = hp.objs.size := by rw [hs2.1, hp2.1, hs1.1, hp1.1, hs0.1]
    have hzz : g2.get? z = some { cls := .type "zip", dict := none, data := .fields #[.ellipsis, .bool f, .bool false, .ref TI, .ref TO], slots := #[] } := (hs2.extBut _ _ S.TOz.symm (hp2.extBut _ _ S.zi2 (hs1.extBut _ _ S.TOz.symm (hp1.extBut _ _ S.zi1 hz0))))
    have hkk : ∀ c o, c ≠ z → c ≠ TO → c ≠ i1 → c ≠ i2 → hp.get? c = some o → g2.get? c = some o := fun c o cz cT c1 c2 e =>
      (hs2.extBut _ _ cT (hp2.extBut _ _ c2 (hs1.extBut _ _ cT (hp1.extBut _ _ c1 (hs0.extBut _ _ cz e)))))
    have hj1 : St1 (i + 1) g2 := (D1.over (D1.over (D1.over sn1 hs1 S.Tf1) hp2 S.sep2_1) hs2 S.Tf1)
    have hj2 : St2 (i + 1) g2 := (D2.over sn2 hs2 S.Tf2)
    have hzlt : z < g2.objs.size := Heap.lt_size hzz
    show wpAny _ _ (Builtin.SmallTypes.ownedTupleHandOut (.ref z) (.ref g2.objs.size) >>= _) _ _ ⟨g2.push { cls := .type "tuple", data := .seq #[x1, x2] }, g, d, tk2, os⟩
    refine wpAny_bind ?_
    unfold Builtin.SmallTypes.ownedTupleHandOut
    have hz₆ : (g2.push { cls := .type "tuple", data := .seq #[x1, x2] }).get? z = some { cls := .type "zip", dict := none, data := .fields #[.ellipsis, .bool f, .bool false, .ref TI, .ref TO], slots := #[] } := Heap.get?_push_of_some _ hzz
    refine wpAny_bind (wpAny_setField_rec hz₆ (by simp) fun h₇ hz₇ hs₇ => ?_)
    replace hz₇ : h₇.get? z = some { cls := .type "zip", dict := none, data := .fields #[rawInt g2.objs.size, .bool f, .bool false, .ref TI, .ref TO], slots := #[] } := hz₇
    refine wpAny_setField_rec hz₇ (by simp) fun h₈ hz₈ hs₈ => ?_
    replace hz₈ : h₈.get? z = some { cls := .type "zip", dict := none, data := .fields #[rawInt g2.objs.size, .bool false, .bool false, .ref TI, .ref TO], slots := #[] } := hz₈
    replace hs₇ : Heap.SameBut z (g2.push { cls := .type "tuple", data := .seq #[x1, x2] }) h₇ := hs₇
    replace hs₈ : Heap.SameBut z h₇ h₈ := hs₈
    have up : ∀ c o, c ≠ z → g2.get? c = some o → h₈.get? c = some o := fun c o c1 e => hs₈.extBut _ _ c1 (hs₇.extBut _ _ c1 (Heap.get?_push_of_some _ e))
    have hT₈ : IsTupOf2 h₈ g2.objs.size x1 x2 := hs₈.extBut _ _ (Nat.ne_of_gt hzlt) (hs₇.extBut _ _ (Nat.ne_of_gt hzlt) (Heap.get?_push_size _ rfl))
    have hz8 : h₈.objs.size = g2.objs.size + 1 := by rw [hs₈.1, hs₇.1, Heap.size_push]
    rw [hsz] at hz₈ hT₈ hz8
    refine wpAny_pure ⟨_, rfl, ?_⟩
    show Q (.ref g2.objs.size) ⟨h₈, g, d, tk2, os⟩
    rw [hsz]
    exact hQ x1 x2 h₈ tk2 hx1 hx2 ⟨_, _, .inr ⟨_, rfl⟩, hz₈⟩ ⟨_, _, up _ _ S.TOz hT2⟩ (D1.frame _ _ _ hj1 fun b hb o e => up b o (fun q => S.zf1 (q ▸ hb)) e) (D2.frame _ _ _ hj2 fun b hb o e => up b o (fun q => S.zf2 (q ▸ hb)) e) hT₈ hz8 fun c o cz cT c1 c2 e => up c o cz (hkk c o cz cT c1 c2 e)
  · replace hs1 : Heap.SameBut z hp h1 := hs1
    simp only [Bool.false_eq_true, if_false]
    refine wpAny_bind ?_
    rw [← Array.forIn_toList]
    simp only [List.forIn_cons, List.forIn_nil]
    refine wpAny_bind (wpAny_bind (wpAny_holding ?_))
    show wpAny _ _ (Builtin.SmallTypes.nextOf (.ref i1) >>= _) _ _ _
    refine wpAny_bind (D1.item i _ _ _ hlt1 (D1.over st1 hs1 S.zf1) fun x1 p1 tk1 hx1 sn1 hp1 => wpAny_pure ?_)
    replace hp1 : Heap.SameBut i1 h1 p1 := hp1
    refine wpAny_pure ?_
    refine wpAny_bind (wpAny_bind (wpAny_holding ?_))
    show wpAny _ _ (Builtin.SmallTypes.nextOf (.ref i2) >>= _) _ _ _
    refine wpAny_bind (D2.item i _ _ _ hlt2 (D2.over (D2.over st2 hs1 S.zf2) hp1 S.sep1_2) fun x2 p2 tk2 hx2 sn2 hp2 => wpAny_pure ?_)
    replace hp2 : Heap.SameBut i2 p1 p2 := hp2
    refine wpAny_pure (wpAny_pure ?_)
    show wpAny _ _ (newTuple [x1, x2] >>= _) _ _ _
    refine wpAny_bind (wpAny_newTuple ?_)
    have hsz : p2.objs.size = hp.objs.size := by rw [hp2.1, hp1.1, hs1.1]
    have hk : ∀ c o, c ≠ z → c ≠ i1 → c ≠ i2 → hp.get? c = some o → p2.get? c = some o := fun c o c1 c2 c3 e => hp2.extBut _ _ c3 (hp1.extBut _ _ c2 (hs1.extBut _ _ c1 e))
    have hz2 := hp2.extBut _ _ S.zi2 (hp1.extBut _ _ S.zi1 hz1)
    have hT2 : IsTupOf2 p2 TO a1 a2 := hk TO _ S.TOz S.Ti1 S.Ti2 hTO
    have hj1 : St1 (i + 1) p2 := D1.over sn1 hp2 S.sep2_1
    have hp3 : IsTupOf2 (p2.push { cls := .type "tuple", data := .seq #[x1, x2] }) p2.objs.size x1 x2 := Heap.get?_push_size _ rfl
    have hz4 : (p2.push { cls := .type "tuple", data := .seq #[x1, x2] }).objs.size = p2.objs.size + 1 := Heap.size_push ..
    refine wpAny_pure ⟨_, rfl, ?_⟩
    show Q (.ref p2.objs.size) _
    rw [hsz] at hp3 hz4 ⊢
    exact hQ x1 x2 _ tk2 hx1 hx2 ⟨_, _, hf0, Heap.get?_push_of_some _ hz2⟩ ⟨_, _, Heap.get?_push_of_some _ hT2⟩ (D1.frame _ _ _ hj1 fun b hb o e => Heap.get?_push_of_some _ e) (D2.frame _ _ _ sn2 fun b hb o e => Heap.get?_push_of_some _ e) hp3 hz4 fun c o c1 _ c2 c3 e => Heap.get?_push_of_some _ (hk c o c1 c2 c3 e)
theorem zipA_next_end {Q : Fin → Shared → Prop} (S : ZipSep2 z TI TO i1 i2 fp1 fp2) (D1 : Draws prog w A i1 fp1 n1 P1 St1) (D2 : Draws prog w A i2 fp2 n2 P2 St2)
    (hz : ZAny s.heap z TI TO) (hTI : IsTupOf2 s.heap TI (.ref i1) (.ref i2)) (hTO : IsTupOf2 s.heap TO a1 a2) (st1 : St1 i s.heap) (st2 : St2 i s.heap) (hle1 : i ≤ n1) (hle2 : i ≤ n2) (hend : i = n1 ∨ i = n2)
    (hE : ∀ h' tk e, (∀ c o, c ≠ z → c ≠ TO → c ≠ i1 → c ≠ i2 → s.heap.get? c = some o → h'.get? c = some o) → (∃ o, h'.get? e = some o ∧ o.cls = .type "StopIteration") → E (.ref e) { s with heap := h', toks := tk }) :
    wpAny (model prog w) A (Builtin.«zip.__next__» ⟨[.ref z], []⟩) Q E s := by
  obtain ⟨f0, f, hf0, hz⟩ := hz
  obtain ⟨hp, g, d, tk0, os⟩ := s
  show wpAny _ _ (field (.ref z) 2 >>= _) _ _ _
  refine wpAny_bind (wpAny_field hz rfl (x := .bool false) rfl ?_)
  show wpAny _ _ (field (.ref z) 3 >>= _) _ _ _
  refine wpAny_bind (wpAny_field hz rfl (x := .ref TI) rfl ?_)
  refine wpAny_bind (wpAny_seqItems hTI rfl ?_)
  show wpAny _ _ (Builtin.SmallTypes.ownedTupleIsFree (.ref z) >>= _) _ _ _
  refine wpAny_bind (isFree_any hf0 hz ?_ fun h1 hz1 hs1 => ?_)
  · simp only [if_true]
    refine wpAny_bind (wpAny_rule ?_)
    refine wpAny_bind (wpAny_field hz rfl (x := .ref TO) rfl ?_)
    refine wpAny_bind (wpAny_setField_rec hz (by simp) fun g0 hz0 hs0 => ?_)
    replace hz0 : g0.get? z = some { cls := .type "zip", dict := none, data := .fields #[.ellipsis, .bool f, .bool false, .ref TI, .ref TO], slots := #[] } := hz0
    replace hs0 : Heap.SameBut z hp g0 := hs0
    refine wpAny_bind ?_
    simp only [List.zipIdx_cons, List.zipIdx_nil, List.forIn_cons, List.forIn_nil]
    refine wpAny_bind (wpAny_bind (wpAny_onRaise ?_))
    show wpAny _ _ (Builtin.SmallTypes.nextOf (.ref i1) >>= _) _ _ ⟨g0, g, d, tk0, os⟩
    by_cases hlt1 : i < n1
    · refine wpAny_bind (D1.item i _ _ _ hlt1 (D1.over st1 hs0 S.zf1) fun x1 p1 tk1 hx1 sn1 hp1 => wpAny_pure ?_)
      replace hp1 : Heap.SameBut i1 g0 p1 := hp1
      have hU1 : IsTupOf2 p1 TO a1 a2 := hp1.extBut _ _ S.Ti1 (hs0.extBut _ _ S.TOz hTO)
      refine wpAny_bind (wpAny_seqItems (s := ⟨p1, g, d, tk1, os⟩) hU1 rfl ?_)
      refine wpAny_bind (updateSeq_IsTupOf2 (s := ⟨p1, g, d, tk1, os⟩) hU1 fun g1 hT1 hs1 => ?_)
      replace hT1 : IsTupOf2 g1 TO x1 a2 := hT1
      replace hs1 : Heap.SameBut TO p1 g1 := hs1
      refine wpAny_bind (wpAny_letGo (wpAny_pure ?_))
      have hi2 : i = n2 := by omega
      refine wpAny_bind (wpAny_bind (wpAny_onRaise ?_))
      show wpAny _ _ (Builtin.SmallTypes.nextOf (.ref i2) >>= _) _ _ ⟨g1, g, d, tk1, os⟩
      refine wpAny_bind (D2.done ⟨g1, g, d, tk1, os⟩ _ _ (by rw [← hi2]; exact (D2.over (D2.over (D2.over st2 hs0 S.zf2) hp1 S.sep1_2) hs1 S.Tf2)) fun q e hq he => ?_)
      replace hq : Heap.ExtBut i2 g1 q := hq
      obtain ⟨oe, hoe, hce⟩ := he
      replace hoe : q.get? e = some oe := hoe
      have hzq : q.get? z = some { cls := .type "zip", dict := none, data := .fields #[.ellipsis, .bool f, .bool false, .ref TI, .ref TO], slots := #[] } := hq _ _ S.zi2 (hs1.extBut _ _ S.TOz.symm (hp1.extBut _ _ S.zi1 hz0))
      have hez : e ≠ z := fun x => by subst x; rw [hzq] at hoe; cases hoe; simp at hce
      refine wpAny_setField_rec (s := ⟨q, g, d, tk1, os⟩) hzq (by simp) fun q' _ hq' => ?_
      replace hq' : Heap.SameBut z q q' := hq'
      exact hE q' tk1 e (fun c o cz cT c1 c2 x => hq'.extBut _ _ cz (hq _ _ c2 (hs1.extBut _ _ cT (hp1.extBut _ _ c1 (hs0.extBut _ _ cz x))))) ⟨oe, hq'.extBut _ _ hez hoe, hce⟩
    · have hi1 : i = n1 := by omega
      refine wpAny_bind (D1.done ⟨g0, g, d, tk0, os⟩ _ _ (by rw [← hi1]; exact (D1.over st1 hs0 S.zf1)) fun q e hq he => ?_)
      replace hq : Heap.ExtBut i1 g0 q := hq
      obtain ⟨oe, hoe, hce⟩ := he
      replace hoe : q.get? e = some oe := hoe
      have hzq : q.get? z = some { cls := .type "zip", dict := none, data := .fields #[.ellipsis, .bool f, .bool false, .ref TI, .ref TO], slots := #[] } := hq _ _ S.zi1 hz0
      have hez : e ≠ z := fun x => by subst x; rw [hzq] at hoe; cases hoe; simp at hce
      refine wpAny_setField_rec (s := ⟨q, g, d, tk0, os⟩) hzq (by simp) fun q' _ hq' => ?_
      replace hq' : Heap.SameBut z q q' := hq'
      exact hE q' tk0 e (fun c o cz cT c1 c2 x => hq'.extBut _ _ cz (hq _ _ c1 (hs0.extBut _ _ cz x))) ⟨oe, hq'.extBut _ _ hez hoe, hce⟩
  · replace hs1 : Heap.SameBut z hp h1 := hs1
    simp only [Bool.false_eq_true, if_false]
    refine wpAny_bind ?_
    rw [← Array.forIn_toList]
    simp only [List.forIn_cons, List.forIn_nil]
    refine wpAny_bind (wpAny_bind (wpAny_holding ?_))
    show wpAny _ _ (Builtin.SmallTypes.nextOf (.ref i1) >>= _) _ _ _
    by_cases hlt1 : i < n1
    · refine wpAny_bind (D1.item i _ _ _ hlt1 (D1.over st1 hs1 S.zf1) fun x1 p1 tk1 hx1 sn1 hp1 => wpAny_pure ?_)
      replace hp1 : Heap.SameBut i1 h1 p1 := hp1
      refine wpAny_pure ?_
      have hi2 : i = n2 := by omega
      refine wpAny_bind (wpAny_bind (wpAny_holding ?_))
      show wpAny _ _ (Builtin.SmallTypes.nextOf (.ref i2) >>= _) _ _ _
      refine wpAny_bind (D2.done _ _ _ (by rw [← hi2]; exact D2.over (D2.over st2 hs1 S.zf2) hp1 S.sep1_2) fun q e hq he => ?_)
      replace hq : Heap.ExtBut i2 p1 q := hq
      exact hE q tk1 e (fun c o cz _ c1 c2 x => hq _ _ c2 (hp1.extBut _ _ c1 (hs1.extBut _ _ cz x))) he
    · have hi1 : i = n1 := by omega
      refine wpAny_bind (D1.done _ _ _ (by rw [← hi1]; exact D1.over st1 hs1 S.zf1) fun q e hq he => ?_)
      replace hq : Heap.ExtBut i1 h1 q := hq
      exact hE q tk0 e (fun c o cz _ c1 c2 x => hq _ _ c1 (hs1.extBut _ _ cz x)) he
theorem nextOf_zip_item {Q : Value → Shared → Prop} (S : ZipSep2 z TI TO i1 i2 fp1 fp2) (D1 : Draws prog w A.in1 i1 fp1 n1 P1 St1) (D2 : Draws prog w A.in1 i2 fp2 n2 P2 St2)
    (hz : ZAny s.heap z TI TO) (hTI : IsTupOf2 s.heap TI (.ref i1) (.ref i2)) (hTO : IsTupOf2 s.heap TO a1 a2) (st1 : St1 i s.heap) (st2 : St2 i s.heap) (hlt1 : i < n1) (hlt2 : i < n2)
    (hQ : ∀ x1 x2 h' tk, P1 i x1 → P2 i x2 → ZAny h' z TI TO → (∃ b1 b2, IsTupOf2 h' TO b1 b2) → St1 (i + 1) h' → St2 (i + 1) h' → IsTupOf2 h' s.heap.objs.size x1 x2 → h'.objs.size = s.heap.objs.size + 1 →
      (∀ c o, c ≠ z → c ≠ TO → c ≠ i1 → c ≠ i2 → s.heap.get? c = some o → h'.get? c = some o) → Q (.ref s.heap.objs.size) { s with heap := h', toks := tk }) :
    wpAny (model prog w) A (Builtin.SmallTypes.nextOf (.ref z)) Q E s := by
  have hT : s.TypeIs (.ref z) "zip" := by
    obtain ⟨f0, f, _, e⟩ := hz
    exact ⟨_, e, rfl⟩
  unfold Builtin.SmallTypes.nextOf
  exact wpAny_bind (wpAny_callSpecial?_slot (name := Str.ofString "__next__") hT F.slot_zip_next
    (wpAny_call_entry F.slot_zip_next hT F.entry_zip_next
      (zipA_next_item S D1 D2 hz hTI hTO st1 st2 hlt1 hlt2 fun x1 x2 h' tk y1 y2 b1 b2 d1 d2 b5 b6 b7 => wpAny_pure (hQ x1 x2 h' tk y1 y2 b1 b2 d1 d2 b5 b6 b7)) (F.args_zip_next_1 _)))
theorem nextOf_zip_end {Q : Value → Shared → Prop} (S : ZipSep2 z TI TO i1 i2 fp1 fp2) (D1 : Draws prog w A.in1 i1 fp1 n1 P1 St1) (D2 : Draws prog w A.in1 i2 fp2 n2 P2 St2)
    (hz : ZAny s.heap z TI TO) (hTI : IsTupOf2 s.heap TI (.ref i1) (.ref i2)) (hTO : IsTupOf2 s.heap TO a1 a2) (st1 : St1 i s.heap) (st2 : St2 i s.heap) (hle1 : i ≤ n1) (hle2 : i ≤ n2) (hend : i = n1 ∨ i = n2)
    (hE : ∀ h' tk e, (∀ c o, c ≠ z → c ≠ TO → c ≠ i1 → c ≠ i2 → s.heap.get? c = some o → h'.get? c = some o) → (∃ o, h'.get? e = some o ∧ o.cls = .type "StopIteration") → E (.ref e) { s with heap := h', toks := tk }) :
    wpAny (model prog w) A (Builtin.SmallTypes.nextOf (.ref z)) Q E s := by
  have hT : s.TypeIs (.ref z) "zip" := by
    obtain ⟨f0, f, _, e⟩ := hz
    exact ⟨_, e, rfl⟩
  unfold Builtin.SmallTypes.nextOf
  exact wpAny_bind (wpAny_callSpecial?_slot (name := Str.ofString "__next__") hT F.slot_zip_next
    (wpAny_call_entry F.slot_zip_next hT F.entry_zip_next
      (zipA_next_end S D1 D2 hz hTI hTO st1 st2 hle1 hle2 hend hE) (F.args_zip_next_1 _)))
/-- enumerate over a zip: its next -/
theorem enumZ_next_item {e : Addr} {c : Int} {old : Value} {Q : Value → Shared → Prop} (S : ZipSep2 z TI TO i1 i2 fp1 fp2) (D1 : Draws prog w A.in1 i1 fp1 n1 P1 St1) (D2 : Draws prog w A.in1 i2 fp2 n2 P2 St2)
    (he : IsEnum s.heap e z c old) (hz : ZAny s.heap z TI TO) (hTI : IsTupOf2 s.heap TI (.ref i1) (.ref i2)) (hTO : IsTupOf2 s.heap TO a1 a2) (st1 : St1 i s.heap) (st2 : St2 i s.heap) (hlt1 : i < n1) (hlt2 : i < n2)
    (hez : e ≠ z) (heT : e ≠ TO) (heI : e ≠ TI) (he1 : e ∉ fp1) (he2 : e ∉ fp2)
    (hQ : ∀ x1 x2 h' tk, P1 i x1 → P2 i x2 → IsEnumOut h' e z (c + 1) (.ref s.heap.objs.size) (s.heap.objs.size + 1) → ZAny h' z TI TO → IsTupOf2 h' TI (.ref i1) (.ref i2) → (∃ b1 b2, IsTupOf2 h' TO b1 b2) → St1 (i + 1) h' → St2 (i + 1) h' →
      IsTupOf2 h' s.heap.objs.size x1 x2 → h'.get? (s.heap.objs.size + 1) = some { cls := .type "tuple", data := .seq #[.int c tk, .ref s.heap.objs.size] } → h'.objs.size = s.heap.objs.size + 2 →
      (∀ b o, b ≠ e → b ≠ z → b ≠ TO → b ≠ i1 → b ≠ i2 → s.heap.get? b = some o → h'.get? b = some o) → Q (.ref (s.heap.objs.size + 1)) { s with heap := h', toks := tk + 1 }) :
    wpAny (model prog w) A (Builtin.«enumerate.__next__» ⟨[.ref e], []⟩) (fun fin s' => ∃ v, fin = .done (.ret v) ∧ Q v s') E s := by
  obtain ⟨hp, g, d, tk₀, os⟩ := s
  have hel : e < hp.objs.size := Heap.lt_size he
  have e1 : e ≠ i1 := fun q => he1 (q ▸ S.mem1)
  have e2 : e ≠ i2 := fun q => he2 (q ▸ S.mem2)
  show wpAny _ _ (field (.ref e) 2 >>= _) _ _ _
  refine wpAny_bind (wpAny_field he rfl (x := .ref z) rfl ?_)
  refine wpAny_bind (nextOf_zip_item S D1 D2 hz hTI hTO st1 st2 hlt1 hlt2 fun x1 x2 h₁ tk p1 p2 hz₁ hO₁ s1₁ s2₁ hT₁ hsz₁ hk₁ => ?_)
  replace hk₁ : ∀ c o, c ≠ z → c ≠ TO → c ≠ i1 → c ≠ i2 → hp.get? c = some o → h₁.get? c = some o := hk₁
  replace hsz₁ : h₁.objs.size = hp.objs.size + 1 := hsz₁
  have he₁ : IsEnum h₁ e z c old := hk₁ _ _ hez heT e1 e2 he
  have hI₁ : IsTupOf2 h₁ TI (.ref i1) (.ref i2) := hk₁ _ _ S.TIz S.TITO S.TIi1 S.TIi2 hTI
  show wpAny _ _ (field (.ref e) 3 >>= _) _ _ ⟨h₁, g, d, tk, os⟩
  refine wpAny_bind (wpAny_field he₁ rfl (x := rawInt c) rfl ?_)
  show wpAny _ _ (field (.ref e) 4 >>= _) _ _ ⟨h₁, g, d, tk, os⟩
  refine wpAny_bind (wpAny_field he₁ rfl (x := .none) rfl ?_)
  show wpAny _ _ (mkInt c >>= _) _ _ ⟨h₁, g, d, tk, os⟩
  refine wpAny_bind (wpAny_mkInt ?_)
  show wpAny _ _ (setField (.ref e) 3 (rawInt (c + 1)) >>= _) _ _ ⟨h₁, g, d, tk + 1, os⟩
  refine wpAny_bind (wpAny_setField_rec he₁ (by simp) fun h₂ he₂ hs₂ => ?_)
  replace hs₂ : Heap.SameBut e h₁ h₂ := hs₂
  replace he₂ : IsEnum h₂ e z (c + 1) old := he₂
  show wpAny _ _ (setField (.ref e) 4 .none >>= _) _ _ ⟨h₂, g, d, tk + 1, os⟩
  refine wpAny_bind (wpAny_setField_rec he₂ (by simp) fun h₃ he₃ hs₃ => ?_)
  replace hs₃ : Heap.SameBut e h₂ h₃ := hs₃
  replace he₃ : IsEnum h₃ e z (c + 1) old := he₃
  show wpAny _ _ (newTuple [.int c tk, .ref hp.objs.size] >>= _) _ _ ⟨h₃, g, d, tk + 1, os⟩
  refine wpAny_bind (wpAny_newTuple ?_)
  have he₄ : IsEnum (h₃.push { cls := .type "tuple", data := .seq #[.int c tk, .ref hp.objs.size] }) e z (c + 1) old := Heap.get?_push_of_some _ he₃
  generalize hh₄ : h₃.push { cls := .type "tuple", data := .seq #[.int c tk, .ref hp.objs.size] } = h₄ at he₄
  have hsz : h₃.objs.size = hp.objs.size + 1 := by rw [hs₃.1, hs₂.1, hsz₁]
  have ht₄ : h₄.get? (hp.objs.size + 1) = some { cls := .type "tuple", data := .seq #[.int c tk, .ref hp.objs.size] } := by rw [← hh₄, ← hsz]; exact Heap.get?_push_size _ rfl
  have hz₄ : h₄.objs.size = hp.objs.size + 2 := by rw [← hh₄, Heap.size_push, hsz]
  have up₄ : ∀ b o, b ≠ e → h₁.get? b = some o → h₄.get? b = some o := fun b o hbe hb => by
    rw [← hh₄]; exact Heap.get?_push_of_some _ (hs₃.extBut b o hbe (hs₂.extBut b o hbe hb))
  show wpAny _ _ (Builtin.SmallTypes.ownedTupleIsFree (.ref e) >>= _) _ _ ⟨h₄, g, d, tk + 1, os⟩
  rw [hsz]
  refine wpAny_bind ?_
  · unfold Builtin.SmallTypes.ownedTupleIsFree
    refine wpAny_bind (wpAny_field he₄ rfl (x := .none) rfl (wpAny_pure ?_))
    simp only [if_true]
    refine wpAny_bind (wpAny_rule ?_)
    refine wpAny_bind (wpAny_field he₄ rfl (x := old) rfl ?_)
    refine wpAny_bind (wpAny_setField_rec he₄ (by simp) fun h₅ he₅ hs₅ => ?_)
    replace hs₅ : Heap.SameBut e h₄ h₅ := hs₅
    replace he₅ : IsEnum h₅ e z (c + 1) (.ref hp.objs.size) := he₅
    show wpAny _ _ (Builtin.SmallTypes.ownedTupleHandOut (.ref e) (.ref (hp.objs.size + 1)) >>= _) _ _ ⟨h₅, g, d, tk + 1, os⟩
    refine wpAny_bind ?_
    · unfold Builtin.SmallTypes.ownedTupleHandOut
      refine wpAny_bind (wpAny_setField_rec he₅ (by simp) fun h₆ he₆ hs₆ => ?_)
      replace hs₆ : Heap.SameBut e h₅ h₆ := hs₆
      replace he₆ : IsEnumOut h₆ e z (c + 1) (.ref hp.objs.size) (hp.objs.size + 1) := he₆
      refine wpAny_setField_rec he₆ (by simp) fun h₇ he₇ hs₇ => ?_
      replace hs₇ : Heap.SameBut e h₆ h₇ := hs₇
      replace he₇ : IsEnumOut h₇ e z (c + 1) (.ref hp.objs.size) (hp.objs.size + 1) := he₇
      have up₇ : ∀ b o, b ≠ e → h₄.get? b = some o → h₇.get? b = some o := fun b o hbe y => hs₇.extBut b o hbe (hs₆.extBut b o hbe (hs₅.extBut b o hbe y))
      have up : ∀ b o, b ≠ e → h₁.get? b = some o → h₇.get? b = some o := fun b o hbe y => up₇ b o hbe (up₄ b o hbe y)
      obtain ⟨f0, f, hf, hzz⟩ := hz₁
      obtain ⟨b1, b2, hOO⟩ := hO₁
      refine wpAny_bind (wpAny_letGo (wpAny_pure ⟨_, rfl, hQ x1 x2 h₇ tk p1 p2 he₇ ⟨f0, f, hf, up _ _ hez.symm hzz⟩ (up _ _ heI.symm hI₁) ⟨b1, b2, up _ _ heT.symm hOO⟩ ?_ ?_ (up _ _ (Nat.ne_of_gt hel) hT₁) ?_ ?_ ?_⟩))
      · exact D1.frame _ _ _ s1₁ fun b hb o y => up b o (fun q => he1 (q ▸ hb)) y
      · exact D2.frame _ _ _ s2₁ fun b hb o y => up b o (fun q => he2 (q ▸ hb)) y
      · exact up₇ _ _ (Nat.ne_of_gt (Nat.lt_succ_of_lt hel)) ht₄
      · rw [hs₇.1, hs₆.1, hs₅.1, hz₄]
      · exact fun b o b1 b2 b3 b4 b5 hb => up b o b1 (hk₁ b o b2 b3 b4 b5 hb)
theorem pyNext_enumZ_item {e : Addr} {c : Int} {old : Value} {Q : Option Value → Shared → Prop} (S : ZipSep2 z TI TO i1 i2 fp1 fp2) (D1 : Draws prog w A.in1.in1 i1 fp1 n1 P1 St1) (D2 : Draws prog w A.in1.in1 i2 fp2 n2 P2 St2)
    (he : IsEnum s.heap e z c old) (hz : ZAny s.heap z TI TO) (hTI : IsTupOf2 s.heap TI (.ref i1) (.ref i2)) (hTO : IsTupOf2 s.heap TO a1 a2) (st1 : St1 i s.heap) (st2 : St2 i s.heap) (hlt1 : i < n1) (hlt2 : i < n2)
    (hez : e ≠ z) (heT : e ≠ TO) (heI : e ≠ TI) (he1 : e ∉ fp1) (he2 : e ∉ fp2)
    (hQ : ∀ x1 x2 h' tk, P1 i x1 → P2 i x2 → IsEnumOut h' e z (c + 1) (.ref s.heap.objs.size) (s.heap.objs.size + 1) → ZAny h' z TI TO → IsTupOf2 h' TI (.ref i1) (.ref i2) → (∃ b1 b2, IsTupOf2 h' TO b1 b2) → St1 (i + 1) h' → St2 (i + 1) h' →
      IsTupOf2 h' s.heap.objs.size x1 x2 → h'.get? (s.heap.objs.size + 1) = some { cls := .type "tuple", data := .seq #[.int c tk, .ref s.heap.objs.size] } → h'.objs.size = s.heap.objs.size + 2 →
      (∀ b o, b ≠ e → b ≠ z → b ≠ TO → b ≠ i1 → b ≠ i2 → s.heap.get? b = some o → h'.get? b = some o) → Q (some (.ref (s.heap.objs.size + 1))) { s with heap := h', toks := tk + 1 }) :
    wpAny (model prog w) A (pyNext (.ref e)) Q E s := by
  have hT : s.TypeIs (.ref e) "enumerate" := ⟨_, he, rfl⟩
  unfold pyNext
  exact wpAny_bind (wpAny_attempt (wpAny_callSpecial?_slot (name := Str.ofString "__next__") hT F.slot_enumerate_next
    (wpAny_call_entry F.slot_enumerate_next hT F.entry_enumerate_next
      (enumZ_next_item S D1 D2 he hz hTI hTO st1 st2 hlt1 hlt2 hez heT heI he1 he2 fun x1 x2 h' tk q1 q2 q3 q4 q5 q6 q7 q8 q9 q10 q11 q12 => wpAny_pure (hQ x1 x2 h' tk q1 q2 q3 q4 q5 q6 q7 q8 q9 q10 q11 q12)) (F.args_enumerate_next_1 _))))
theorem pyNext_enumZ_end {e : Addr} {c : Int} {old : Value} {Q : Option Value → Shared → Prop} (S : ZipSep2 z TI TO i1 i2 fp1 fp2) (D1 : Draws prog w A.in1.in1 i1 fp1 n1 P1 St1) (D2 : Draws prog w A.in1.in1 i2 fp2 n2 P2 St2)
    (he : IsEnum s.heap e z c old) (hz : ZAny s.heap z TI TO) (hTI : IsTupOf2 s.heap TI (.ref i1) (.ref i2)) (hTO : IsTupOf2 s.heap TO a1 a2) (st1 : St1 i s.heap) (st2 : St2 i s.heap) (hle1 : i ≤ n1) (hle2 : i ≤ n2) (hend : i = n1 ∨ i = n2)
    (hQ : ∀ h' tk, (∀ c o, c ≠ z → c ≠ TO → c ≠ i1 → c ≠ i2 → s.heap.get? c = some o → h'.get? c = some o) → Q none { s with heap := h', toks := tk }) :
    wpAny (model prog w) A (pyNext (.ref e)) Q E s := by
  have hT : s.TypeIs (.ref e) "enumerate" := ⟨_, he, rfl⟩
  unfold pyNext
  refine wpAny_bind (wpAny_attempt (wpAny_callSpecial?_slot (name := Str.ofString "__next__") hT F.slot_enumerate_next
    (wpAny_call_entry F.slot_enumerate_next hT F.entry_enumerate_next ?_ (F.args_enumerate_next_1 _))))
  show wpAny _ _ (field (.ref e) 2 >>= _) _ _ _
  refine wpAny_bind (wpAny_field he rfl (x := .ref z) rfl ?_)
  refine wpAny_bind (nextOf_zip_end S D1 D2 hz hTI hTO st1 st2 hle1 hle2 hend fun h' tk x hk hx' => ?_)
  obtain ⟨o, ho, hc⟩ := hx'
  refine wpAny_bind (wpAny_isInstance (T := "StopIteration") (b := true) ⟨o, ho, hc⟩ isSubtype_stop ?_)
  exact wpAny_pure (hQ _ _ hk)
theorem meets_enumS (Hh : Heap → Prop) (v : Value) (B : ∀ (prog : Program) (w : World) (A : Around) (E : Value → Shared → Prop) (s : Shared) (Q : Value → Shared → Prop), Hh s.heap → Q v s → wpAny (model prog w) A (pyIter v) Q E s) :
    Meets (Builtin.«enumerate.__new__» ⟨[.type "enumerate", v], []⟩) (fun _ R s => Hh s.heap ∧ R (.ok (.ret (.ref s.heap.objs.size)))
      { s with heap := s.heap.push { cls := .type "enumerate", data := .fields #[.none, .bool false, v, rawInt 0, .none, .none] } }) :=
  .of_wp fun prog w A R s h => by
    obtain ⟨hp, g, d, tk, os⟩ := s
    obtain ⟨hB, hR⟩ := h
    have hs := sub_enumerate
    have it : ∀ {A' : Around} {E : Value → Shared → Prop} {Q : Value → Shared → Prop}, Q v ⟨hp, g, d, tk, os⟩ → wpAny (model prog w) A' (pyIter v) Q E ⟨hp, g, d, tk, os⟩ :=
      fun q => B prog w _ _ ⟨hp, g, d, tk, os⟩ _ hB q
    wp_walk using it
    refine wpAny_stack_any fun st => wpAny_pure ?_
    split
    · rename_i c _ _ _ _ _
      cases (c == Value.type "enumerate")
      · wp_walk using it
        exact ⟨_, rfl, hR⟩
      · wp_walk using it
        exact ⟨_, rfl, hR⟩
    · wp_walk using it
      exact ⟨_, rfl, hR⟩
end
end Sx

set_option Elab.async false
set_option linter.all false
set_option maxRecDepth 100000
set_option maxHeartbeats 4000000
/-! SxZ3 (under way): the Turn of enumerate over a zip. -/
namespace L2
open PySem PySem.Spec PyProof.Rows
theorem Inv.turnedNew2 {X : Cx} {pins : List (Addr × Obj)} {σ : St} {H : Hp} {s : Shared} {h' : Heap} {t' : Nat} {ch : List Addr} {T U : Addr} {o1 o2 : HO} (I : Inv X pins σ H s) (k : ∀ b o, b ∉ ch → s.heap.get? b = some o → h'.get? b = some o) (hf : ∀ b ∈ ch, FpOk X pins H b) (hT : s.heap.objs.size ≤ T) (hU : s.heap.objs.size ≤ U) (hTU : T ≠ U)
    (new1 : ObjOk X.prog X.w (upd (upd H T o1) U o2) h' T o1) (new2 : ObjOk X.prog X.w (upd (upd H T o1) U o2) h' U o2) : Inv X pins σ (upd (upd H T o1) U o2) { s with heap := h', toks := t' } := by
  have hn : H T = none := I.hok.fresh hT
  have hn2 : H U = none := I.hok.fresh hU
  have nit : ∀ b u, H b = some u → b ∉ ch := fun b u e z => by
    have q := (hf b z).1
    rw [q] at e; cases e
  have up : ∀ b u, H b = some u → upd (upd H T o1) U o2 b = some u := fun b u e => by rw [upd_ne (ne_of_none e hn2), upd_ne (ne_of_none e hn)]; exact e
  refine I.step (g' := s.gens) (d' := s.drawn) (ch := ch) (fun b hb => ⟨(hf b hb).2.2.2.1, (hf b hb).2.1, (hf b hb).2.2.2.2.1, (hf b hb).2.2.2.2.2⟩) (fun b o _ _ hc e _ => k b o hc e) (fun b o _ _ hc e _ => ⟨o.slots, k b o hc e⟩)
    (fun b o _ e n => ?_) (fun b o hc e => ⟨o, k b o hc e⟩) (fun b xs e => ?_) (fun b o u e => ?_) (fun b ps e => ⟨#[], ?_⟩) (fun m hm => ?_) (fun b u e => ?_) I.bare
  · rw [upd_ne (Nat.ne_of_lt (Nat.lt_of_lt_of_le (Heap.lt_size e) hU)), upd_ne (Nat.ne_of_lt (Nat.lt_of_lt_of_le (Heap.lt_size e) hT))]; exact n
  · exact up _ _ e
  · exact up _ _ e
  · rw [up _ _ e]; simp
  · obtain ⟨o, es, ep, ho, r⟩ := hm
    exact ⟨o, es, ep, k _ o (fun z => (hf _ z).2.1 rfl) ho, r⟩
  · by_cases hb2 : b = U
    · subst hb2
      rw [upd_same] at e
      cases e
      exact new2
    · rw [upd_ne hb2] at e
      by_cases hb : b = T
      · subst hb
        rw [upd_same] at e
        cases e
        exact new1
      · rw [upd_ne hb] at e
        refine (I.hok b u e).stay (fun c v hc q => k c v ?_ q) (fun c q => up _ _ q) fun c xs q => up _ _ q
        rcases hc with z | z
        · rw [z]; exact nit b u e
        · exact nit c _ z
end L2
namespace Sx
open PySem L2
/-- i, (x, y) at each turn -/
def ItEZ (K : PySem.W.Frag) (a1 a2 : Addr) (k1 k2 : Kd) : It :=
  ⟨fun i H => goK K a1 k1 i H ∧ goK K a2 k2 i H, fun i H v H' => ∃ T U x y, v = .ref U ∧ H T = none ∧ H U = none ∧ T ≠ U ∧ H' = upd (upd H T (.tup [x, y])) U (.tup [.int (i : Nat), .ref T]) ∧ At K a1 k1 i H x ∧ At K a2 k2 i H y,
    fun i H => ∃ xs ys, SqK K H a1 xs k1 ∧ SqK K H a2 ys k2 ∧ i = min xs.length ys.length⟩
theorem turn_enumZ {P : Program} {w : World} {K : PySem.W.Frag} {elts : List Expr} {kk : Nat} {tpos : Pos} (k1 k2 : Kd) (a1 a2 e z TI TO i1 i2 : Addr) (Z : Z2 z TI TO i1 i2) (ez : e ∉ [z, TI, TO, i1, i2]) :
    Turn P w K (.Tuple elts kk tpos) (ItEZ K a1 a2 k1 k2) [e, z, TI, TO, i1, i2] e
      (fun i h => (∃ old, IsEnum h e z (0 + (i : Int)) old) ∧ ZAny h z TI TO ∧ IsTupOf2 h TI (.ref i1) (.ref i2) ∧ (∃ b1 b2, IsTupOf2 h TO b1 b2) ∧ ItH k1 h i1 a1 i ∧ ItH k2 h i2 a2 i) where
  mem := List.mem_cons_self ..
  obj := fun i h ⟨⟨old, he⟩, ⟨f0, f, _, hz⟩, hTI, ⟨b1, b2, hTO⟩, h1, h2⟩ b hb => by
    have hb : b = e ∨ b = z ∨ b = TI ∨ b = TO ∨ b = i1 ∨ b = i2 := by simpa using hb
    rcases hb with rfl | rfl | rfl | rfl | rfl | rfl
    · exact ⟨_, he, fun v q => nomatch q⟩
    · exact ⟨_, hz, fun v q => nomatch q⟩
    · exact ⟨_, hTI, fun v q => nomatch q⟩
    · exact ⟨_, hTO, fun v q => nomatch q⟩
    · exact h1.obj
    · exact h2.obj
  keep := fun i h h' ⟨⟨old, he⟩, ⟨f0, f, hf, hz⟩, hTI, ⟨b1, b2, hTO⟩, h1, h2⟩ kp =>
    ⟨⟨old, kp e (by simp) _ he⟩, ⟨f0, f, hf, kp z (by simp) _ hz⟩, kp TI (by simp) _ hTI, ⟨b1, b2, kp TO (by simp) _ hTO⟩, h1.keep fun o q => kp i1 (by simp) o q, h2.keep fun o q => kp i2 (by simp) o q⟩
  item := by
    intro X eP ew eK hc i pins s σ H E I hf ⟨⟨old, he⟩, hz, hTI, ⟨b1, b2, hTO⟩, h1, h2'⟩ ⟨⟨xs, hq, hl⟩, ys, hq2, hl2⟩
    subst eP ew eK
    obtain ⟨its, rv, sh⟩ := sqK_read I hq
    obtain ⟨its2, rv2, sh2⟩ := sqK_read I hq2
    have fne : ∀ b ∈ [e, z, TI, TO, i1, i2], a1 ≠ b ∧ a2 ≠ b := fun b hb => ⟨src_ne I hq (hf b hb), src_ne I hq2 (hf b hb)⟩
    have g0 := fne e (by simp); have g1 := fne z (by simp); have g2 := fne TI (by simp); have g3 := fne TO (by simp); have g4 := fne i1 (by simp); have g5 := fne i2 (by simp)
    have hh : X.A.handled = none := I.ok.hd hc
    have D1 := drawsK (prog := X.prog) (w := X.w) (A := X.A.in1.in1) k1 hh i1 a1 g4.1 its.toArray
    have D2 := drawsK (prog := X.prog) (w := X.w) (A := X.A.in1.in1) k2 hh i2 a2 g5.2 its2.toArray
    have SP : ZipSep2 z TI TO i1 i2 [i1, a1] [i2, a2] := by
      refine ⟨Z.d1, Z.d2, Z.d3, Z.d4, by simp, ?_, ?_, Z.d5, by simp, ?_, ?_, ?_, ?_⟩
      · simp [Z.d6, g1.1.symm]
      · simp [Z.d8, g3.1.symm]
      · simp [Z.d7, g1.2.symm]
      · simp [Z.d9, g3.2.symm]
      · simp [Z.d10, g4.2.symm]
      · simp [Z.d10.symm, g5.1.symm]
    have ll := rv.length
    have ll2 := rv2.length
    simp only [List.mem_cons, List.not_mem_nil, or_false, not_or] at ez
    refine pyNext_enumZ_item SP D1 D2 he hz hTI hTO ⟨h1, sh⟩ ⟨h2', sh2⟩ (by simp; omega) (by simp; omega) ez.1 ez.2.2.1 ez.2.1 (by simp [ez.2.2.2.1, g0.1.symm]) (by simp [ez.2.2.2.2, g0.2.symm]) fun x y h' tk hx hy ho hz' hTI' hTO' s1 s2 hT hU hsz kp => ?_
    refine ⟨_, rfl, wpAny_letOwnedTupleGo_enum ho fun h2 he2 hs2 => ?_⟩
    have kp2 : ∀ b o, b ≠ e → h'.get? b = some o → h2.get? b = some o := fun b o hb q => (hs2.2 b hb).trans q
    have elt : e < s.heap.objs.size := Heap.lt_size he
    have nT : s.heap.objs.size ≠ e := Nat.ne_of_gt elt
    have nU : s.heap.objs.size + 1 ≠ e := Nat.ne_of_gt (Nat.lt_succ_of_lt elt)
    obtain ⟨xv, hxv, rx⟩ := at_val rv hl hx
    obtain ⟨yv, hyv, ry⟩ := at_val rv2 hl2 hy
    have new1 : ObjOk X.prog X.w (upd (upd H s.heap.objs.size (.tup [xv, yv])) (s.heap.objs.size + 1) (.tup [.int (i : Nat), .ref s.heap.objs.size])) h2 s.heap.objs.size (.tup [xv, yv]) :=
      ⟨by show 2 ≤ sizeLine; decide, [x, y], .cons rx (.cons ry .nil), ⟨_, kp2 _ _ nT hT, rfl, _, rfl⟩⟩
    have new2 : ObjOk X.prog X.w (upd (upd H s.heap.objs.size (.tup [xv, yv])) (s.heap.objs.size + 1) (.tup [.int (i : Nat), .ref s.heap.objs.size])) h2 (s.heap.objs.size + 1) (.tup [.int (i : Nat), .ref s.heap.objs.size]) :=
      ⟨by show 2 ≤ sizeLine; decide, [.int (0 + (i : Int)) tk, .ref s.heap.objs.size], .cons ⟨_, by rw [Int.zero_add]⟩ (.cons rfl .nil), ⟨_, kp2 _ _ nU hU, rfl, _, rfl⟩⟩
    have hf' : ∀ b ∈ [e, z, TO, i1, i2], FpOk X pins H b := fun b hb => hf b (by
      simp only [List.mem_cons, List.not_mem_nil, or_false] at hb ⊢
      rcases hb with q | q | q | q | q
      · exact .inl q
      · exact .inr (.inl q)
      · exact .inr (.inr (.inr (.inl q)))
      · exact .inr (.inr (.inr (.inr (.inl q))))
      · exact .inr (.inr (.inr (.inr (.inr q)))))
    have I2 : Inv X pins σ (upd (upd H s.heap.objs.size (.tup [xv, yv])) (s.heap.objs.size + 1) (.tup [.int (i : Nat), .ref s.heap.objs.size])) { s with heap := h2, toks := tk + 1 } :=
      I.turnedNew2 (ch := [e, z, TO, i1, i2]) (fun b ob hb q => by
        simp only [List.mem_cons, List.not_mem_nil, or_false, not_or] at hb
        exact kp2 b ob hb.1 (kp b ob hb.1 hb.2.1 hb.2.2.1 hb.2.2.2.1 hb.2.2.2.2 q)) hf' (Nat.le_refl _) (Nat.le_succ _) (Nat.ne_of_lt (Nat.lt_succ_self _)) new1 new2
    obtain ⟨f0, f, hff, hzz⟩ := hz'
    obtain ⟨c1, c2, hOO⟩ := hTO'
    refine ⟨.ref (s.heap.objs.size + 1), _, I2, rfl, ⟨s.heap.objs.size, s.heap.objs.size + 1, xv, yv, rfl, I.hok.fresh (Nat.le_refl _), I.hok.fresh (Nat.le_succ _), Nat.ne_of_lt (Nat.lt_succ_self _), rfl, fun zs hy => by rw [sqK_inj I hq hy]; exact hxv, fun zs hy => by rw [sqK_inj I hq2 hy]; exact hyv⟩,
      ⟨⟨_, by have e1 : (0 + ((i + 1 : Nat) : Int)) = 0 + (i : Int) + 1 := by omega
              rw [e1]; exact he2⟩, ⟨f0, f, hff, kp2 _ _ (Ne.symm ez.1) hzz⟩, kp2 _ _ (Ne.symm ez.2.1) hTI', ⟨c1, c2, kp2 _ _ (Ne.symm ez.2.2.1) hOO⟩, s1.1.keep fun o q => kp2 _ _ (Ne.symm ez.2.2.2.1) q, s2.1.keep fun o q => kp2 _ _ (Ne.symm ez.2.2.2.2) q⟩, fun b hb => ?_⟩
    have lt : b < s.heap.objs.size := by
      have hb : b = e ∨ b = z ∨ b = TI ∨ b = TO ∨ b = i1 ∨ b = i2 := by simpa using hb
      obtain ⟨_, _, _, hzo⟩ := hz
      rcases hb with rfl | rfl | rfl | rfl | rfl | rfl
      · exact elt
      · exact Heap.lt_size hzo
      · exact Heap.lt_size hTI
      · exact Heap.lt_size hTO
      · exact h1.lt
      · exact h2'.lt
    rw [upd_ne (Nat.ne_of_lt (Nat.lt_succ_of_lt lt)), upd_ne (Nat.ne_of_lt lt)]
    exact (hf b hb).1
  done := by
    intro X eP ew eK hc i pins s σ H E I hf ⟨⟨old, he⟩, hz, hTI, ⟨b1, b2, hTO⟩, h1, h2'⟩ ⟨xs, ys, hq, hq2, hl⟩
    subst eP ew eK
    obtain ⟨its, rv, sh⟩ := sqK_read I hq
    obtain ⟨its2, rv2, sh2⟩ := sqK_read I hq2
    have fne : ∀ b ∈ [e, z, TI, TO, i1, i2], a1 ≠ b ∧ a2 ≠ b := fun b hb => ⟨src_ne I hq (hf b hb), src_ne I hq2 (hf b hb)⟩
    have g1 := fne z (by simp); have g2 := fne TI (by simp); have g3 := fne TO (by simp); have g4 := fne i1 (by simp); have g5 := fne i2 (by simp)
    have hh : X.A.handled = none := I.ok.hd hc
    have D1 := drawsK (prog := X.prog) (w := X.w) (A := X.A.in1.in1) k1 hh i1 a1 g4.1 its.toArray
    have D2 := drawsK (prog := X.prog) (w := X.w) (A := X.A.in1.in1) k2 hh i2 a2 g5.2 its2.toArray
    have SP : ZipSep2 z TI TO i1 i2 [i1, a1] [i2, a2] := by
      refine ⟨Z.d1, Z.d2, Z.d3, Z.d4, by simp, ?_, ?_, Z.d5, by simp, ?_, ?_, ?_, ?_⟩
      · simp [Z.d6, g1.1.symm]
      · simp [Z.d8, g3.1.symm]
      · simp [Z.d7, g1.2.symm]
      · simp [Z.d9, g3.2.symm]
      · simp [Z.d10, g4.2.symm]
      · simp [Z.d10.symm, g5.1.symm]
    have ll := rv.length
    have ll2 := rv2.length
    have hf' : ∀ b ∈ [z, TO, i1, i2], FpOk X pins H b := fun b hb => hf b (by
      simp only [List.mem_cons, List.not_mem_nil, or_false] at hb ⊢
      rcases hb with q | q | q | q
      · exact .inr (.inl q)
      · exact .inr (.inr (.inr (.inl q)))
      · exact .inr (.inr (.inr (.inr (.inl q))))
      · exact .inr (.inr (.inr (.inr (.inr q)))))
    refine pyNext_enumZ_end (i := i) SP D1 D2 he hz hTI hTO ⟨h1, sh⟩ ⟨h2', sh2⟩ (by simp; omega) (by simp; omega) (by simp; omega) fun h' tk kp => ⟨rfl, ?_⟩
    exact turnedMany (ch := [z, TO, i1, i2]) I (fun b o hb q => by
      simp only [List.mem_cons, List.not_mem_nil, or_false, not_or] at hb
      exact kp b o hb.1 hb.2.1 hb.2.2.1 hb.2.2.2 q) hf'
  self := fun A i s Q E ⟨⟨_, he⟩, _⟩ h => wpAny_pyIter_enum he h
end Sx

set_option Elab.async false
set_option linter.all false
set_option maxRecDepth 100000
set_option maxHeartbeats 4000000
/-! SxZ4: enumerate(zip(a, b)). -/
namespace Sx
open PySem PySem.Spec PyProof.Rows L2
theorem enumS {prog : Program} {w : World} {A : Around} {E : Value → Shared → Prop} {s : Shared} {z TI TO : Addr} {Q : Value → Shared → Prop} (hz : IsZip s.heap z TI TO .none)
    (h : ∀ h', IsEnum h' s.heap.objs.size z 0 .none → (∀ b ob, s.heap.get? b = some ob → h'.get? b = some ob) → Q (.ref s.heap.objs.size) { s with heap := h' }) :
    wpAny (model prog w) A (call (.type "enumerate") [.ref z]) Q E s := by
  refine callType_new F.called_enumerate (by decide) (F.typeCall_enumerate_1 _) (F.newCall_enumerate_1 _) (fun obj => F.args_object_init_2 obj _) F.entry_enumerate_new (meets_enumS (fun h => IsZip h z TI TO .none) (.ref z) fun prog w A E s Q hz q => wpAny_pyIter_zip hz q) ⟨hz, ?_⟩
  have en : IsEnum (s.heap.push { cls := .type "enumerate", data := .fields #[.none, .bool false, .ref z, rawInt 0, .none, .none] }) s.heap.objs.size z 0 .none := Heap.get?_push_size s.heap (o := { cls := .type "enumerate", data := .fields #[.none, .bool false, .ref z, rawInt 0, .none, .none] }) rfl
  exact ⟨⟨_, en, rfl⟩, h _ en fun b ob x => Heap.get?_push_of_some _ x⟩
section
variable {X : Cx} {e e2 : Expr} {ta : TA} {p p2 pos pos2 tpos : Pos} {elts : List Expr} {kk : Nat}
def iEnumZ (K : PySem.W.Frag) (ta : TA) : TI := fun σ H R => ta σ H fun vs H1 => ∃ a b k l, vs = [.ref a, .ref b] ∧ hasK K a k H1 ∧ hasK K b l H1 ∧ R (ItEZ K a b k l) H1
theorem pi_enumZip (hge : Gl X "enumerate") (hme : X.mg "enumerate" = none) (hg : Gl X "zip") (hm : X.mg "zip" = none) (ha : PA X [e, e2] ta)
    (hs : starEach [e, e2] X.env = (false, eval e X.env) :: starEach [e2] X.env := by rfl) (hpl : (backTo pos2 (starEach [e2] X.env)).any (·.1) = false := by rfl)
    (na : starEach [.Call (.Name "zip" p2) [e, e2] [] pos2] X.env = (false, eval (.Call (.Name "zip" p2) [e, e2] [] pos2) X.env) :: starEach [] X.env := by rfl) :
    PI X (.Tuple elts kk tpos) (.Call (.Name "enumerate" p) [.Call (.Name "zip" p2) [e, e2] [] pos2] [] pos) (iEnumZ X.K ta) := by
  refine ⟨fun pins s σ H R I h => ?_⟩
  refine PyProof.Rows.Call_ (ld_blt I hge hme PyProof.Rows.boot_enumerate (PyProof.Rows.callWith_type1 (args_cons (PyProof.Rows.Call_ (ld_blt I hg hm PyProof.Rows.boot_zip (PyProof.Rows.callWith_type1 (thn (ha.run pos2 pins s σ H _ I h) fun us s1 ⟨vs, H1, I1, r1, q1⟩ => ?_) hs hpl))) na) na))
  obtain ⟨a, b, k, l, ex, ⟨xs, hq⟩, ⟨ys, hq2⟩, q⟩ := q1
  subst ex
  obtain ⟨u1, u2, rfl, ru1, ru2⟩ : ∃ u v, us = [u, v] ∧ RelV (.ref a) u ∧ RelV (.ref b) v := by
    cases r1 with
    | cons r rr =>
      cases rr with
      | cons r2 rr => cases rr; exact ⟨_, _, rfl, r, r2⟩
  cases ru1
  cases ru2
  obtain ⟨its, rv, sh⟩ := sqK_read I1 hq
  obtain ⟨its2, rv2, sh2⟩ := sqK_read I1 hq2
  refine zip_begins2 (beginsK k a its.toArray) (beginsK l b its2.toArray) sh sh2 fun h' hz hTI hTO h1 h2 hsz hk => args_nil ?_
  refine enumS hz fun h'' en hk2 => wpAny_pyIter_enum en ?_
  have I2 : Inv X pins σ H1 { s1 with heap := h'' } := I1.kept (t' := s1.toks) fun b o q => hk2 b o (hk b o q)
  have en2 : IsEnum h'' (s1.heap.objs.size + 5) (s1.heap.objs.size + 4) 0 .none := by rw [← hsz]; exact en
  show PIE X pins σ (.Tuple elts kk tpos) R (.ref h'.objs.size) _
  rw [hsz]
  refine ⟨s1.heap.objs.size + 5, [s1.heap.objs.size + 5, s1.heap.objs.size + 4, s1.heap.objs.size + 2, s1.heap.objs.size + 3, s1.heap.objs.size, s1.heap.objs.size + 1], _, _, H1, rfl, I2, turn_enumZ k l a b _ _ _ _ _ _ (zz2 s1.heap.objs.size) (by simp), ⟨⟨.none, en2⟩, ⟨.none, false, .inl rfl, hk2 _ _ hz⟩, hk2 _ _ hTI, ⟨_, _, hk2 _ _ hTO⟩, .zero (hk2 _ _ h1), .zero (hk2 _ _ h2)⟩, fun b hb => ?_, q⟩
  have hle : s1.heap.objs.size ≤ b := by
    have hb2 : b = s1.heap.objs.size + 5 ∨ b = s1.heap.objs.size + 4 ∨ b = s1.heap.objs.size + 2 ∨ b = s1.heap.objs.size + 3 ∨ b = s1.heap.objs.size ∨ b = s1.heap.objs.size + 1 := by simpa using hb
    rcases hb2 with e | e | e | e | e | e <;> rw [e] <;> first | exact Nat.le_add_right _ _ | exact Nat.le_refl _
  exact I1.fpOk hle (I1.hok.fresh hle)
end
end Sx

set_option Elab.async false
set_option linter.all false
set_option maxRecDepth 100000
set_option maxHeartbeats 4000000
/-! SxZ5: the walk over enumerate(zip(a, b)) and its rule. -/
namespace Sx
open PySem L2
theorem wlk_enumZ {K : PySem.W.Frag} {r : Ro} {G : Hp} {σ : St} {s t : Src} {a b : Addr} (h : SrcOk K r G σ s (.ref a)) (h2 : SrcOk K r G σ t (.ref b)) : Wlk K (ItEZ K a b s.k t.k) (enumM 0 (zip2M s.xs t.xs)) r G σ := by
  intro r' G' σ' H' S' lt
  obtain ⟨a', vs, e, sk, rl⟩ := (h.later lt).read S'
  cases e
  obtain ⟨b', ws, e, sk2, rl2⟩ := (h2.later lt).read S'
  cases e
  have len := rl.len
  have len2 := rl2.len
  have lz : (zip2M s.xs t.xs).length = min s.xs.length t.xs.length := by simp [zip2M]
  rw [enumM_len, lz]
  refine ⟨fun i hi => ?_, ⟨vs, ws, sk, sk2, by rw [len, len2]⟩⟩
  have hi1 : i < s.xs.length := by omega
  have hi2 : i < t.xs.length := by omega
  obtain ⟨v, m, hv, hm, rp⟩ := sqK_len (a := a) rl hi1
  obtain ⟨v2, m2, hv2, hm2, rp2⟩ := sqK_len (a := b) rl2 hi2
  refine ⟨⟨⟨vs, sk, by omega⟩, ws, sk2, by omega⟩, fun x H2 y => ?_⟩
  obtain ⟨T, U, x1, y1, rfl, n, n2, ne, rfl, at1, at2⟩ := y
  have e3 := at1 vs sk
  rw [hv] at e3; cases e3
  have e3 := at2 ws sk2
  rw [hv2] at e3; cases e3
  have g := same_up (S'.gnone n) (o := .tup [v, v2])
  have S1 := S'.alloc (o := .tup [v, v2]) n
  have n3 : upd H' T (.tup [v, v2]) U = none := by rw [upd_ne (Ne.symm ne)]; exact n2
  have g2 := same_up (S1.gnone n3) (o := .tup [.int (i : Nat), .ref T])
  have e4 := enumM_at (zip2M s.xs t.xs) 0 i (.tup [m, m2]) (by simp [zip2M, List.getElem?_zipWith, hm, hm2])
  rw [Nat.zero_add] at e4
  have r1 : Rep K (upd G' T (.tup [v, v2])) (.tup [m, m2]) (.ref T) := ⟨T, _, rfl, .of upd_same, v, _, rfl, rp.mono g, v2, [], rfl, rp2.mono g, rfl⟩
  refine ⟨_, .tup [.int ((i : Nat) : Int), .tup [m, m2]], S1.alloc (o := .tup [.int (i : Nat), .ref T]) n3, ?_, e4, U, _, rfl, .of upd_same, .int (i : Nat), _, rfl, rfl, .ref T, [], rfl, r1.mono g2, rfl⟩
  exact (step_alloc S' A0.self n).trans (step_alloc S1 ((step_alloc (o := .tup [v, v2]) S' A0.self n).allow A0.self) n3)
def iEnumZM : List Src → Option (List M)
  | [s, t] => some (enumM 0 (zip2M s.xs t.xs))
  | _ => none
@[simp] theorem it_enumZ {s t : Src} {r : Ro} : itR iEnumZM [s, t] r = .ok (enumM 0 (zip2M s.xs t.xs), [s, t]) r := (rfl)
theorem si_enumZ {X : Cx} {W : W4} {e e2 : Expr} {f : Ev (List EV)} {p p2 pos pos2 tpos : Pos} {elts : List Expr} {kk : Nat} (hge : Gl X "enumerate") (hme : X.mg "enumerate" = none) (hg : Gl X "zip") (hm : X.mg "zip" = none) (ha : SA X W [e, e2] f)
    (hs : starEach [e, e2] X.env = (false, eval e X.env) :: starEach [e2] X.env := by rfl) (hpl : (backTo pos2 (starEach [e2] X.env)).any (·.1) = false := by rfl)
    (na : starEach [.Call (.Name "zip" p2) [e, e2] [] pos2] X.env = (false, eval (.Call (.Name "zip" p2) [e, e2] [] pos2) X.env) :: starEach [] X.env := by rfl) :
    SI X W (.Tuple elts kk tpos) (.Call (.Name "enumerate" p) [.Call (.Name "zip" p2) [e, e2] [] pos2] [] pos) (vIt iEnumZM f) := by
  refine piW (pi_enumZip hge hme hg hm ha hs hpl na) fun σ H Q h => ?_
  exact into_it h fun ss ms vs H1 e1 ⟨r1, G1, S1, sos, fin⟩ => by
    match ss, e1 with
    | [s, t], e1 =>
      cases e1
      cases sos with
      | cons so so2 =>
        cases so2 with
        | cons so2 so3 =>
          cases so3
          obtain ⟨a, vs', rfl, sk, rl⟩ := so.read S1
          obtain ⟨b, ws', rfl, sk2, rl2⟩ := so2.read S1
          exact ⟨a, b, s.k, t.k, rfl, ⟨vs', sk⟩, ⟨ws', sk2⟩, fin _ (wlk_enumZ so so2)⟩
end Sx

set_option Elab.async false
set_option linter.all false
set_option maxRecDepth 100000
set_option maxHeartbeats 4000000
/-! SxX: x.index(e); a < b < c. -/
namespace Sx
open PySem L2
/-! ### x.index(e): a list that stands, or a new one -/
def idxM (x : M) (xs : List M) : Option Nat := xs.findIdx? fun y => eqv y x
def idxO (r : Ro) : Option Nat → R EV
  | some j => .ok (.fr (.int (j : Nat))) r
  | none => .bad
def idxL (r : Ro) (xs : List M) : Option M → R EV
  | some x => if flat 60 x = true ∧ flats 59 xs = true then idxO r (idxM x xs) else .bad
  | none => .bad
def idxR (r : Ro) (o : Option M) : Option (Kd × List M) → R EV
  | some (.l, xs) => idxL r xs o
  | some (.ro, xs) => idxL r xs o
  | _ => .bad
def gIdx (a b : EV) : Ev EV := fun r => idxR r (datOf r b) (seqOf r a)
def lstK : Option (Kd × List M) → Bool
  | some (.l, _) => true
  | some (.ro, _) => true
  | _ => false
def idxA (g : Ev EV) (a : EV) : Ev EV := fun r => if lstK (seqOf r a) = true then bnd g (fun b => gIdx a b) r else .bad
def vIdx (f g : Ev EV) : Ev EV := bnd f (idxA g)
section
variable {X : Cx} {W : W4} {a b o : Expr} {fa fb fo : Ev EV} {apos cpos pos : Pos}
theorem toDs_get {x : M} : ∀ {ys : List M} {j : Nat}, (toDs ys)[j]? = (ys[j]?).map toD
  | [], j => by simp [toDs]
  | y :: ys, 0 => by simp [toDs]
  | y :: ys, j + 1 => by rw [toDs]; simpa using toDs_get (x := x) (ys := ys) (j := j)
theorem se_index (hu : X.A.units + 65 < cLine) (ho : SE X W o fo) (ha : SE X W a fa)
    (hbase : attributeBase o "index" X.env (eval o X.env) = eval o X.env := by rfl)
    (hfew : ((backTo cpos (starEach [a] X.env)).all (fun x => !x.1) && (backToKw cpos (keywordEach [] X.env)).all (fun x => x.1.isSome)
      && decide (([a] : List Expr).length + ([] : List Keyword).length + (if ([] : List Keyword).isEmpty then 0 else 1) < 30)) = true := by rfl)
    (hline : (apos.endLine == cpos.line) = true := by rfl) (hs : starEach [a] X.env = (false, eval a X.env) :: starEach [] X.env := by rfl) (hpl : (backTo cpos (starEach [] X.env)).any (·.1) = false := by rfl) :
    SE X W (.Call (.Attribute o "index" apos) [a] [] cpos) (vIdx fo fa) := by
  refine peW (pe_bm PySem.F.plainAttrs_list PySem.F.slot_list_index PySem.F.type_list_index (mt_indexD hu) ho (pa_cons ha pa_nil hs) hbase hfew hline hs hpl) fun σ H Q ⟨r, G, S, h⟩ => ?_
  refine into upE S A0.self h fun ea r1 va G1 H1 S1 a1 st1 e1 h1 => ?_
  have h1 : Post (rpE X.K σ) X.K X.mg W (A0 r σ H) r1 G1 σ H1 Q (if lstK (seqOf r1 ea) = true then bnd fa (fun b => gIdx ea b) r1 else .bad) := h1
  by_cases c : lstK (seqOf r1 ea) = true
  · rw [if_pos c] at h1
    cases q : seqOf r1 ea with
    | none => rw [q] at c; cases c
    | some pr =>
      obtain ⟨k, xs⟩ := pr
      obtain ⟨p, vs, rfl, s, rl⟩ := seq_ok S1 e1.wk q
      refine ⟨.inl ⟨rfl, vs, ?_⟩, ?_⟩
      · cases k with
        | t => rw [q] at c; cases c
        | l => exact .of s
        | ro => exact s
      refine into upE S1 a1 h1 fun eb r2 vb G2 H2 S2 a2 st2 e2 h2 => ?_
      have e1' := e1.step st2
      unfold gIdx at h2
      have key : ∀ (k' : Kd) (ys : List M), seqOf r2 ea = some (k', ys) → k' ≠ .t → Post (rpE X.K σ) X.K X.mg W (A0 r σ H) r2 G2 σ H2 Q (idxL r2 ys (datOf r2 eb)) → rIndexD X.K (.ref p) [vb] H2 Q := fun k' ys q2 nk h3 => by
        obtain ⟨p', vs', ep, s', rl'⟩ := seq_ok S2 e1'.wk q2
        cases ep
        cases qd : datOf r2 eb with
        | none => rw [qd] at h3; exact h3.elim
        | some x =>
          rw [qd] at h3
          have h3 : Post (rpE X.K σ) X.K X.mg W (A0 r σ H) r2 G2 σ H2 Q (if flat 60 x = true ∧ flats 59 ys = true then idxO r2 (idxM x ys) else .bad) := h3
          by_cases c2 : flat 60 x = true ∧ flats 59 ys = true
          · rw [if_pos c2] at h3
            cases qi : idxM x ys with
            | none => rw [qi] at h3; exact h3.elim
            | some j =>
              rw [qi] at h3
              obtain ⟨hj, h4, h5⟩ := List.findIdx?_eq_some_iff_getElem.mp (show ys.findIdx? (fun y => eqv y x) = some j from qi)
              have gj : ys[j]? = some ys[j] := List.getElem?_eq_getElem hj
              have dl : Dp X.K H2 (.ref p) (.list (toDs ys)) := by
                cases k' with
                | t => exact absurd rfl nk
                | l => exact .lst (.of s') (rep_dps (rl'.mono S2.sub))
                | ro => exact .lst s' (rep_dps (rl'.mono S2.sub))
              have fl : flat 60 (.lst ys) = true := by simpa only [flat] using c2.2
              refine ⟨p, vb, toD x, toDs ys, j, toD ys[j], rfl, rfl, dl, rep_dp (dat_ok S2 e2.wk qd), flat_shaped fl, flat_shaped c2.1, by rw [toDs_get (x := x), gj]; rfl, h4, fun m z' hm hz => ?_, fin_plain S2 a2 h3 rfl⟩
              rw [toDs_get (x := x)] at hz
              have hm2 : m < ys.length := by omega
              rw [List.getElem?_eq_getElem hm2] at hz
              cases hz
              have := h5 m hm
              simpa [eqv] using this
          · rw [if_neg c2] at h3; exact h3.elim
      cases q2 : seqOf r2 ea with
      | none => rw [q2] at h2; exact h2.elim
      | some pr2 =>
        obtain ⟨k', ys⟩ := pr2
        rw [q2] at h2
        cases k' with
        | t => exact h2.elim
        | l => exact key .l ys q2 (fun z => nomatch z) h2
        | ro => exact key .ro ys q2 (fun z => nomatch z) h2
  · rw [if_neg c] at h1; exact h1.elim
/-! ### a < b < c -/
def chainB (ey : EV) (g' : EV → EV → Ev EV) (fc : Ev EV) : EV → Ev EV
  | .fr (.bl true) => if isTmp ey = 0 then bnd fc (fun ez => g' ey ez) else bad
  | .fr (.bl false) => ret (.fr (.bl false))
  | _ => bad
def vChain (g g' : EV → EV → Ev EV) (fa fb fc : Ev EV) : Ev EV := bnd fa fun ex => bnd fb fun ey => bnd (g ex ey) (chainB ey g' fc)
variable {c : Expr} {fc : Ev EV} {op op' : CmpOp} {g g' : EV → EV → Ev EV}
theorem EvRep.stepA {K : PySem.W.Frag} {A A' : Addr → Prop} {r r1 : Ro} {G G1 : Hp} {σ : St} {H H1 : Hp} {ev : EV} {v : V} (h : EvRep K A r G σ H ev v) (ht : isTmp ev = 0) (s : Step A' r G σ H r1 G1 σ H1) : EvRep K A r1 G1 σ H1 ev v := by
  cases ev with
  | fr m => exact Rep.mono s.grow h
  | bor i => exact h
  | tmp b => cases ht
theorem chain_read {t t' : R2} (hi : Imp2 X W t g) (hi' : Imp2 X W t' g') {σ : St} {H : Hp} {Q : VK} (h : tE X.K X.mg W (vChain g g' fa fb fc) σ H Q) : tChain t t' (tE X.K X.mg W fa) (tE X.K X.mg W fb) (tE X.K X.mg W fc) σ H Q := by
  obtain ⟨r, G, S, h⟩ := h
  refine into upE S A0.self h fun ea r1 va G1 H1 S1 a1 st1 e1 h1 => ?_
  refine into upE S1 a1 h1 fun eb r2 vb G2 H2 S2 a2 st2 e2 h2 => ?_
  refine hi _ r2 G2 σ H2 ea eb va vb _ S2 a2 (e1.step st2) e2 ?_
  unfold bnd at h2
  cases q : g ea eb r2 with
  | bad => rw [q] at h2; exact h2.elim
  | ex x m r' =>
    rw [q] at h2
    exact h2
  | ok ev r3 =>
    rw [q] at h2
    intro b G' H' S' st eb'
    have h2 : Post (rpE X.K σ) X.K X.mg W (A0 r σ H) r2 G2 σ H2 Q (chainB eb g' fc ev r3) := h2
    cases ev with
    | tmp _ => exact h2.elim
    | bor _ => exact h2.elim
    | fr m =>
      cases m with
      | bl k =>
        cases k with
        | false =>
          cases (show b = .bl false from eb')
          exact ⟨false, rfl, fin_plain S' (st.allow' a2) (Post.rebase st h2) rfl⟩
        | true =>
          cases (show b = .bl true from eb')
          refine ⟨true, rfl, ?_⟩
          have h2 : Post (rpE X.K σ) X.K X.mg W (A0 r σ H) r2 G2 σ H2 Q ((if isTmp eb = 0 then bnd fc (fun ez => g' eb ez) else bad) r3) := h2
          by_cases c : isTmp eb = 0
          · rw [if_pos c] at h2
            have e2' := e2.stepA c st
            refine into upE S' (st.allow' a2) (Post.rebase st h2) fun ez r4 vz G4 H4 S4 a4 st4 e4 h4 => ?_
            exact hi' _ r4 G4 σ H4 eb ez vb vz _ S4 a4 (e2'.step st4) e4 h4
          · rw [if_neg c] at h2; exact h2.elim
      | _ => exact h2.elim
theorem se_chain (hc1 : Cmp X W op g) (hc2 : Cmp X W op' g') (ha : SE X W a fa) (hb : SE X W b fb) (hc : SE X W c fc) (hm : lastMarks [op, op'] [b, c] = false := by with_unfolding_all rfl) : SE X W (.Compare a [op, op'] [b, c] pos) (vChain g g' fa fb fc) := by
  obtain ⟨t, h1, h2⟩ := hc1
  obtain ⟨t', h3, h4⟩ := hc2
  exact peW (pe_chain h1 h3 ha hb hc hm) fun σ H Q h => chain_read h2 h4 h
theorem test_read {f : Ev EV} {σ : St} {H : Hp} {Q : Bool → Hp → Prop} (h : tB X.K X.mg W (tst f) σ H Q) : tTest (tE X.K X.mg W f) σ H Q := by
  obtain ⟨r, G, S, h⟩ := h
  refine into upE S A0.self h fun ev r1 v G1 H1 S1 a1 st1 e1 h1 => ?_
  unfold boolT at h1
  split at h1
  · exact ⟨_, e1, h1 _ G1 H1 S1 (.refl a1) rfl⟩
  · exact h1.elim
theorem st_chain (hc1 : Cmp X W op g) (hc2 : Cmp X W op' g') (ha : SE X W a fa) (hb : SE X W b fb) (hc : SE X W c fc) (hm : lastMarks [op, op'] [b, c] = false := by with_unfolding_all rfl) : ST X W (.Compare a [op, op'] [b, c] pos) (tst (vChain g g' fa fb fc)) := by
  obtain ⟨t, h1, h2⟩ := hc1
  obtain ⟨t', h3, h4⟩ := hc2
  exact ptW (pt_chain h1 h3 ha hb hc hm) fun σ H Q h => chain_read h2 h4 (test_read h)
end
/-! ### evaluated -/
@[simp] theorem a_idx {f g : Ev EV} {r : Ro} : vIdx f g r = (f r).th (idxA g) := by simp [vIdx]
@[simp] theorem a_idxA {g : Ev EV} {a : EV} {r : Ro} : idxA g a r = if lstK (seqOf r a) = true then bnd g (fun b => gIdx a b) r else .bad := (rfl)
@[simp] theorem lstK_l {xs : List M} : lstK (some (.l, xs)) = true := (rfl)
@[simp] theorem lstK_ro {xs : List M} : lstK (some (.ro, xs)) = true := (rfl)
@[simp] theorem a_gIdx {a b : EV} {r : Ro} : gIdx a b r = idxR r (datOf r b) (seqOf r a) := (rfl)
@[simp] theorem idxR_l {r : Ro} {o : Option M} {xs : List M} : idxR r o (some (.l, xs)) = idxL r xs o := (rfl)
@[simp] theorem idxR_ro {r : Ro} {o : Option M} {xs : List M} : idxR r o (some (.ro, xs)) = idxL r xs o := (rfl)
@[simp] theorem idxL_some {r : Ro} {x : M} {xs : List M} : idxL r xs (some x) = if flat 60 x = true ∧ flats 59 xs = true then idxO r (idxM x xs) else .bad := (rfl)
@[simp] theorem idxO_some {r : Ro} {j : Nat} : idxO r (some j) = .ok (.fr (.int (j : Nat))) r := (rfl)
@[simp] theorem a_chain {g g' : EV → EV → Ev EV} {fa fb fc : Ev EV} {r : Ro} : vChain g g' fa fb fc r = (fa r).th fun ex => bnd fb fun ey => bnd (g ex ey) (chainB ey g' fc) := by simp [vChain]
@[simp] theorem chainB_t {g' : EV → EV → Ev EV} {fc : Ev EV} {m : M} : chainB (.fr m) g' fc (.fr (.bl true)) = bnd fc fun ez => g' (.fr m) ez := (rfl)
@[simp] theorem chainB_f {g' : EV → EV → Ev EV} {fc : Ev EV} {e : EV} : chainB e g' fc (.fr (.bl false)) = ret (.fr (.bl false)) := (rfl)
end Sx

set_option Elab.async false
set_option linter.all false
set_option maxRecDepth 100000
set_option maxHeartbeats 4000000
/-! SxA: any(x), all(x), x a list or tuple of truths -/
namespace Sx
open PySem L2
def blsM : List M → Option (List Bool)
  | [] => some []
  | .bl b :: xs => (blsM xs).map fun bs => b :: bs
  | _ => none
theorem blsM_some : ∀ {xs : List M} {bs : List Bool}, blsM xs = some bs → xs = bs.map M.bl
  | [], bs, h => by cases h; rfl
  | .bl b :: xs, bs, h => by
    unfold blsM at h
    cases e : blsM xs with
    | none => rw [e] at h; cases h
    | some cs =>
      rw [e] at h
      cases h
      rw [blsM_some e]; rfl
  | .non :: _, _, h => nomatch h
  | .int _ :: _, _, h => nomatch h
  | .str _ :: _, _, h => nomatch h
  | .tup _ :: _, _, h => nomatch h
  | .lst _ :: _, _, h => nomatch h
  | .ro _ :: _, _, h => nomatch h
@[simp] theorem blsM_map : ∀ bs : List Bool, blsM (bs.map M.bl) = some bs
  | [] => rfl
  | b :: bs => by
    show (blsM (bs.map M.bl)).map _ = _
    rw [blsM_map bs]; rfl
def blQ (f : List Bool → Bool) (r : Ro) : Option (Kd × List M) → R EV
  | some (_, xs) => match blsM xs with
    | some bs => .ok (.fr (.bl (f bs))) r
    | none => .bad
  | none => .bad
def gBls (f : List Bool → Bool) (a : EV) : Ev EV := fun r => blQ f r (seqOf r a)
abbrev gAny := gBls fun bs => bs.any id
abbrev gAll := gBls fun bs => bs.all id
section
variable {X : Cx} {W : W4}
def rBls (K : PySem.W.Frag) (g : List PyData → Bool) : List V → Hp → VK → Prop := fun vs H Q => ∃ (a : Addr) (xs : List V) (ds : List PyData), vs = [V.ref a] ∧ (SqL K H a xs ∨ SqT K H a xs) ∧ DpAll K H xs ds ∧ PyData.plainAll ds = true ∧ (∀ x ∈ ds, x.fits63) ∧ Q (.bl (g ds)) H
theorem crAnyB (hc : X.calm = true) : CallR X (.builtin "any") (rBls X.K fun ds => ds.any PyData.truthy) := by
  intro pins s σ H vs us Q I r h
  obtain ⟨a, xs, ds, rfl, hs, hd, pl, fi, q⟩ := h
  rw [ref1 r]
  rcases hs with hs | hs
  · obtain ⟨its, rv, p', _⟩ := I.list hs
    obtain ⟨as, ra⟩ := Dp.readsAll I _ xs its hd rv
    exact PySem.W.any_list_data (I.ok.hd hc) p'.isList (by simpa using ra) pl fi fun h' tk hk => ⟨.bl _, H, I.kept hk, rfl, q⟩
  · obtain ⟨its, rv, p', _⟩ := I.tuple hs
    obtain ⟨as, ra⟩ := Dp.readsAll I _ xs its hd rv
    exact PySem.W.any_tuple_data (I.ok.hd hc) p' (by simpa using ra) pl fi fun h' tk hk => ⟨.bl _, H, I.kept hk, rfl, q⟩
theorem crAllB (hc : X.calm = true) : CallR X (.builtin "all") (rBls X.K fun ds => ds.all PyData.truthy) := by
  intro pins s σ H vs us Q I r h
  obtain ⟨a, xs, ds, rfl, hs, hd, pl, fi, q⟩ := h
  rw [ref1 r]
  rcases hs with hs | hs
  · obtain ⟨its, rv, p', _⟩ := I.list hs
    obtain ⟨as, ra⟩ := Dp.readsAll I _ xs its hd rv
    exact PySem.W.all_list_data (I.ok.hd hc) p'.isList (by simpa using ra) pl fi fun h' tk hk => ⟨.bl _, H, I.kept hk, rfl, q⟩
  · obtain ⟨its, rv, p', _⟩ := I.tuple hs
    obtain ⟨as, ra⟩ := Dp.readsAll I _ xs its hd rv
    exact PySem.W.all_tuple_data (I.ok.hd hc) p' (by simpa using ra) pl fi fun h' tk hk => ⟨.bl _, H, I.kept hk, rfl, q⟩
theorem imp_bls {f : List Bool → Bool} {g : List PyData → Bool} (hg : ∀ bs : List Bool, g (bs.map PyData.bool) = f bs) : ImpC X W (rBls X.K g) (on1 (gBls f)) := by
  intro A r G σ H evs vs Q S hA er h
  obtain ⟨ev, v, rfl, e1, h⟩ := evs1 er h
  have h : Post (rpE X.K σ) X.K X.mg W A r G σ H Q (blQ f r (seqOf r ev)) := h
  cases q : seqOf r ev with
  | none => rw [q] at h; exact h.elim
  | some pr =>
    obtain ⟨k, ms⟩ := pr
    rw [q] at h
    have h : Post (rpE X.K σ) X.K X.mg W A r G σ H Q (match blsM ms with
      | some bs => .ok (.fr (.bl (f bs))) r
      | none => .bad) := h
    cases e : blsM ms with
    | none => rw [e] at h; exact h.elim
    | some bs =>
      rw [e] at h
      obtain ⟨c, vs, rfl, s, rl⟩ := seq_ok S e1.wk q
      have em := blsM_some e
      have ed : toDs ms = bs.map PyData.bool := by
        rw [em, toDs_map, List.map_map]
        refine List.map_congr_left fun b _ => ?_
        show toD (.bl b) = _
        simp only [toD]
      refine ⟨c, vs, toDs ms, rfl, ?_, rep_dps (rl.mono S.sub), ?_, fun x hx => ?_, ?_⟩
      · cases k with
        | t => exact .inr s
        | l => exact .inl (.of s)
        | ro => exact .inl s
      · rw [ed]
        clear h e em ed
        induction bs with
        | nil => rfl
        | cons b bs ih =>
          rw [List.map_cons, PyData.plainAll, ih, Bool.and_true]; rfl
      · rw [ed] at hx
        obtain ⟨b, _, rfl⟩ := List.mem_map.mp hx
        simp [PyData.fits63]
      · rw [ed, hg]
        exact fin_plain S hA h rfl
theorem imp_any : ImpC X W (rBls X.K fun ds => ds.any PyData.truthy) (on1 gAny) := imp_bls fun bs => by
  induction bs with
  | nil => rfl
  | cons b bs ih => rw [List.map_cons, List.any_cons, List.any_cons, ih]; rfl
theorem imp_all : ImpC X W (rBls X.K fun ds => ds.all PyData.truthy) (on1 gAll) := imp_bls fun bs => by
  induction bs with
  | nil => rfl
  | cons b bs ih => rw [List.map_cons, List.all_cons, List.all_cons, ih]; rfl
end
@[simp] theorem a_bls {f : List Bool → Bool} {a : EV} {r : Ro} : on1 (gBls f) [a] r = blQ f r (seqOf r a) := (rfl)
@[simp] theorem blQ_some {f : List Bool → Bool} {r : Ro} {k : Kd} {bs : List Bool} : blQ f r (some (k, bs.map M.bl)) = .ok (.fr (.bl (f bs))) r := by
  show (match blsM (bs.map M.bl) with
    | some bs => R.ok (EV.fr (.bl (f bs))) r
    | none => .bad) = _
  rw [blsM_map]
end Sx

set_option Elab.async false
set_option linter.all false
set_option maxRecDepth 100000
set_option maxHeartbeats 4000000
/-! SxY: keyword arguments in any order -/
namespace Sx
open PySem L2
def prm0 {α : Type} (π : List Nat) (l : List α) : List α := π.filterMap fun i => l[i]?
def prm {α : Type} (π : List Nat) (l : List α) : List α := if l.length = π.length then prm0 π l else l
theorem vals_get : ∀ {vs : List V} {us : List Value} (i : Nat), Vals vs us → (vs[i]? = none ∧ us[i]? = none) ∨ ∃ v u, vs[i]? = some v ∧ us[i]? = some u ∧ RelV v u
  | _, _, _, .nil => .inl ⟨rfl, rfl⟩
  | _, _, 0, .cons r _ => .inr ⟨_, _, rfl, rfl, r⟩
  | _, _, i + 1, .cons _ rs => vals_get i rs
theorem prm0_vals {vs : List V} {us : List Value} (h : Vals vs us) : ∀ π : List Nat, Vals (prm0 π vs) (prm0 π us)
  | [] => .nil
  | i :: π => by
    unfold prm0
    rcases vals_get i h with ⟨a, b⟩ | ⟨v, u, a, b, r⟩
    · rw [List.filterMap_cons_none a, List.filterMap_cons_none b]
      exact prm0_vals h π
    · rw [List.filterMap_cons_some a, List.filterMap_cons_some b]
      exact .cons r (prm0_vals h π)
theorem prm_vals {vs : List V} {us : List Value} (h : Vals vs us) (π : List Nat) : Vals (prm π vs) (prm π us) := by
  unfold prm
  rw [h.length]
  by_cases c : us.length = π.length
  · rw [if_pos c, if_pos c]; exact prm0_vals h π
  · rw [if_neg c, if_neg c]; exact h
section
variable {K : PySem.W.Frag} {A : Addr → Prop} {r : Ro} {G : Hp} {σ : St} {H : Hp}
theorem evs_get : ∀ {es : List EV} {vs : List V} (i : Nat), EvsRep K A r G σ H es vs → (es[i]? = none ∧ vs[i]? = none) ∨ ∃ e v, es[i]? = some e ∧ vs[i]? = some v ∧ EvRep K A r G σ H e v
  | _, _, _, .nil => .inl ⟨rfl, rfl⟩
  | _, _, 0, .cons r _ => .inr ⟨_, _, rfl, rfl, r⟩
  | _, _, i + 1, .cons _ rs => evs_get i rs
theorem prm0_evs {es : List EV} {vs : List V} (h : EvsRep K A r G σ H es vs) : ∀ π : List Nat, EvsRep K A r G σ H (prm0 π es) (prm0 π vs)
  | [] => .nil
  | i :: π => by
    unfold prm0
    rcases evs_get i h with ⟨a, b⟩ | ⟨v, u, a, b, r⟩
    · rw [List.filterMap_cons_none a, List.filterMap_cons_none b]
      exact prm0_evs h π
    · rw [List.filterMap_cons_some a, List.filterMap_cons_some b]
      exact .cons r (prm0_evs h π)
theorem evs_len : ∀ {es : List EV} {vs : List V}, EvsRep K A r G σ H es vs → es.length = vs.length
  | _, _, .nil => rfl
  | _, _, .cons _ rs => by rw [List.length_cons, List.length_cons, evs_len rs]
end
theorem prm_evs {K : PySem.W.Frag} {A : Addr → Prop} {r : Ro} {G : Hp} {σ : St} {H : Hp} {es : List EV} {vs : List V} (h : EvsRep K A r G σ H es vs) (π : List Nat) : EvsRep K A r G σ H (prm π es) (prm π vs) := by
  unfold prm
  rw [evs_len h]
  by_cases c : vs.length = π.length
  · rw [if_pos c, if_pos c]; exact prm0_evs h π
  · rw [if_neg c, if_neg c]; exact h
structure CalKN (P : Program) (w : World) (K : PySem.W.Frag) (mg : Str → Option Value) (base : Heap) (k : Nat) (x : Str) (ks : List Str) (n : Nat) (π : List Nat) (m : Fn) : Prop where
  ex : ∃ (f : Addr) (fd : FuncData) (ps : List Str), FnOk P w K mg base (L2.CX P w) k f fd ps (spF K mg n m) ∧ mg x = some (.ref f) ∧ PySem.W.keepIn K (.ref f) = true ∧ ∀ (s : Shared) (ws : List Value), ws.length = n → BindsTo s fd ⟨[], ks.zip ws⟩ (ps.zip (prm π ws))
structure DfKN (K : PySem.W.Frag) (mg : Str → Option Value) (x : Str) (st : Stmt) (ps ks : List Str) (n : Nat) (π : List Nat) : Prop where
  ex : ∃ (f : Addr) (fd : FuncData), Fun K x x st f fd ∧ mg x = some (.ref f) ∧ ∀ (s : Shared) (ws : List Value), ws.length = n → BindsTo s fd ⟨[], ks.zip ws⟩ (ps.zip (prm π ws))
theorem calkN_mk {P : Program} {w : World} {K : PySem.W.Frag} {mg : Str → Option Value} {base : Heap} {x : Str} {st : Stmt} {ps : List Str} {k n : Nat} {π : List Nat} {m : Fn} {ks : List Str} (D : DfKN K mg x st ps ks n π) (o : ∀ f fd, Fun K x x st f fd → FnOk P w K mg base (L2.CX P w) k f fd ps (spF K mg n m)) : CalKN P w K mg base k x ks n π m := by
  obtain ⟨f, fd, F, hm, hb⟩ := D.ex
  exact ⟨f, fd, ps, o f fd F, hm, F.kp, hb⟩
def vPerm (π : List Nat) (g : Ev (List EV)) : Ev (List EV) := bnd g fun es => ret (prm π es)
section
variable {X : Cx} {W : W4} {x : Str} {m : Fn} {k j n : Nat} {p pos : Pos} {π : List Nat}
theorem se_callKN {ks : List Str} {kws : List Keyword} {g : Ev (List EV)} (mds : List Md) (c : CalKN X.prog X.w X.K X.mg X.base k x ks n π m) (tk : Takes X W) (hr : Room j X.A) (ha : PK X kws (tL X.K X.mg W g)) (hln : n = ks.length := by rfl) (hk : k ≤ j := by decide) (hn : mds.length = n := by rfl) (hg : Gl X x := by rfl) (hpn : π.length = n := by rfl)
    (hall : (backToKw pos (keywordEach kws X.env)).all (·.1.isSome) = true := by rfl) (hks : (backToKw pos (keywordEach kws X.env)).filterMap (·.1) = ks := by rfl) (hdb : (x == ("__debug__" : Str)) = false := by decide)
    (hpl : ((backTo pos (starEach [] X.env)).any (·.1) || (backToKw pos (keywordEach kws X.env)).any (·.1.isNone)) = false := by rfl) :
    SE X W (.Call (.Name x p) [] kws pos) (vCall mds m (vPerm π g)) := by
  obtain ⟨fa, fd, ps, F, hm, kp, b⟩ := c.ex
  refine peW (t := fun σ H Q => tL X.K X.mg W g σ H fun zs H1 => zs.length = n ∧ spF X.K X.mg n m (prm π zs) H1 Q (WE W σ)) ⟨fun pins s σ H Q I h => ?_⟩ fun σ H Q ⟨r, G, S, h⟩ => ?_
  · refine wpAny_Call_Name_kw (ld_glob I hg hm ?_ hdb)
    refine PySem.W.callWith_KW0 (h₀ := X.base) I.ok.mod.kin kp hall (thn (ha.run pos pins s σ H _ I h) fun ws s1 ⟨zs, H1, I1, rz, l1, q⟩ => ⟨I1.kIn, ?_⟩) hpl
    rw [hks]
    have lw : ws.length = n := by rw [← rz.length, l1]
    have rz2 : Vals (prm π zs) (prm π ws) := prm_vals rz π
    refine wpAny_call (codeAny_mono (F.run X.A X.stack s1 H1 ⟨[], ks.zip ws⟩ (prm π ws) (prm π zs) Q (WE W σ) (hr.mono hk) I1.env0 (b s1 ws lw) rz2 q) fun r s' hq => ?_)
    cases r with
    | error u => exact passAt tk σ pins H1 s1 u s' I1 hq
    | ok fl =>
      cases fl with
      | ret u => exact I1.after hq
      | next => exact hq.elim
      | brk => exact hq.elim
      | cont => exact hq.elim
  · have h : Post (rpE X.K σ) X.K X.mg W (A0 r σ H) r G σ H Q (bnd g (fun es => vCall mds m (ret (prm π es))) r) := by
      have e : bnd g (fun es => vCall mds m (ret (prm π es))) r = vCall mds m (vPerm π g) r := by
        show _ = bnd (bnd g fun es => ret (prm π es)) _ r
        unfold bnd
        cases g r with
        | bad => rfl
        | ex c m r' => rfl
        | ok a r' => rfl
      rw [e]
      exact h
    refine into upL S A0.self h fun evs r1 vs G1 H1 S1 a1 st1 e1 h1 => ?_
    have e2 : EvsRep X.K (A0 r σ H) r1 G1 σ H1 (prm π evs) (prm π vs) := prm_evs e1 π
    have q := call_read hn S1 a1 e2.wk h1
    obtain ⟨args, G2, l, S2, z⟩ := id q
    have l2 : (prm π vs).length = n := by rw [← l, S2.len, List.length_map]
    refine ⟨?_, q⟩
    unfold prm at l2
    by_cases c : vs.length = π.length
    · rw [c, hpn]
    · rw [if_neg c] at l2; exact l2
end
@[simp] theorem a_perm {π : List Nat} {g : Ev (List EV)} {r : Ro} : vPerm π g r = (g r).th fun es => ret (prm π es) := by simp only [vPerm, ev_bnd]
@[simp] theorem prm_if {α : Type} {π : List Nat} {l : List α} : prm π l = if l.length = π.length then prm0 π l else l := rfl
@[simp] theorem prm0_nil {α : Type} {l : List α} : prm0 [] l = [] := rfl
@[simp] theorem prm0_cons {α : Type} {i : Nat} {π : List Nat} {l : List α} : prm0 (i :: π) l = match l[i]? with
  | some x => x :: prm0 π l
  | none => prm0 π l := by
  unfold prm0
  cases h : l[i]? with
  | none => rw [List.filterMap_cons_none h]
  | some x => rw [List.filterMap_cons_some h]
end Sx

set_option Elab.async false
set_option linter.all false
set_option maxRecDepth 100000
set_option maxHeartbeats 4000000
/-! SxW: a short tuple * int, often. -/
namespace Sx
open PySem PySem.Spec L2 PyProof.Rows
def rRepW (K : PySem.W.Frag) : R2 := fun x y H Q => ∃ l k xs, x = .ref l ∧ y = .int k ∧ SqT K H l xs ∧ xs ≠ [] ∧ 2 ≤ k ∧ k ≤ 100000 ∧ xs.length ≤ 10 ∧ ∀ p, H p = none → Q (.ref p) (upd H p (.tup (List.replicate k.toNat xs).flatten))
def gMulW (a b : EV) : Ev EV := fun r => match seqOf r a, intOf b with
  | some (.t, xs), some k => if k = 1 then .ok (.fr (.tup xs)) r else if xs.isEmpty = false ∧ 2 ≤ k ∧ k ≤ 100000 ∧ xs.length ≤ 10 then .ok (.fr (.tup (List.replicate k.toNat xs).flatten)) r else .bad
  | _, _ => .bad
section
variable {X : Cx} {W : W4} {a b : Expr} {fa fb : Ev EV} {pos : Pos}
/-- what the size of the whole is held to -/
theorem repW_size {m k : Nat} (h1 : m ≤ 10) (h2 : k ≤ 100000) : k * m ≤ 1000000 := Nat.le_trans (Nat.mul_le_mul h2 h1) (by decide)
theorem op_repW : OpR X (binaryOp .Mult) (rRepW X.K) := by
  rintro pins s σ H _ _ v u Q I rx ry ⟨at_, many, vs, rfl, rfl, sq, full, two, top, few, go⟩
  obtain ⟨tok, rfl⟩ := ry
  cases rx
  obtain ⟨ws, rep, ⟨⟨_, dct, _, slots⟩, live, isT, size, isS⟩, _⟩ := I.tuple sq
  simp only at isT isS
  subst isT
  subst isS
  have same := rep.length
  obtain ⟨many', em⟩ : ∃ m : Nat, (m : Int) = many := ⟨many.toNat, by omega⟩
  have hm2 : many.toNat = many' := by omega
  have fits := repW_size few (show many' ≤ 100000 by omega)
  have prod : ((ws.toArray.size : Nat) : Int) * many = ((many' * vs.length : Nat) : Int) := by
    rw [List.size_toArray, ← same, ← em, Int.mul_comm, ← Int.natCast_mul]
  have some1 : ws.toArray.isEmpty = false := by
    cases ws with
    | nil => exact absurd (List.eq_nil_of_length_eq_zero same) full
    | cons _ _ => rfl
  have whole : (List.replicate many.toNat ws).flatten.length = many' * vs.length := by rw [PyProof.Rows.lm_len_rep_flat, ← same, hm2]
  have w0 : (decide (many < -(2 ^ 63)) || decide (many ≥ 2 ^ 63)) = false := by simp; omega
  have w1 : (ws.toArray.isEmpty || many == 1) = false := by rw [some1]; simp; omega
  have w2 : (decide (many ≤ 0) || ws.toArray.isEmpty) = false := by rw [some1]; simp; omega
  have w4 : Builtin.Tuple.tupleTooMany (((ws.toArray.size : Nat) : Int) * many) = false := by
    rw [prod]; unfold Builtin.Tuple.tupleTooMany; rw [sizeLine_eq]; exact decide_eq_false (by omega)
  have call := tuple_mulW at_ ws.toArray size dct slots many tok w0 w1 w2 (by rw [prod]; omega) w4 (by rw [size_rep, List.size_toArray, whole, sizeLine_eq]; omega)
  refine wpAny_binaryOp_repeat_ref (T := "tuple") (U := "int") (by decide) ⟨_, live, rfl⟩ (fun s2 => typeIs_int s2 many tok) noFill_tuple_mul F.fills_int_mul F.slot_int_rmul repeat_tuple F.slot_int_index.lookup ?_
  refine call_meets F.slot_int_rmul (typeIs_int s many tok) F.entry_int_rmul (F.args_int_rmul_2 _ _) (int_rmul_tuple many tok at_ ws.toArray size dct slots) ⟨live, rfl, ⟨_, live, rfl⟩, ?_⟩
  refine call_meets F.slot_tuple_mul ⟨_, live, rfl⟩ F.entry_tuple_mul (F.args_tuple_mul_2 _ _) call ⟨live, ?_⟩
  rw [size_rep]
  refine ⟨.ref s.heap.objs.size, _, I.laid (t' := s.toks) (o := .tup (List.replicate many.toNat vs).flatten) (fun _ _ z => Heap.get?_push_of_some _ z) (Nat.le_refl _) ⟨?_, _, rep.rep many.toNat, IsTup.new _ _⟩, rfl, go _ (I.hok.fresh (Nat.le_refl _))⟩
  rw [PyProof.Rows.lm_len_rep_flat, hm2, sizeLine_eq]
  omega
theorem imp_mulW : Imp2 X W (fun x y H Q => rRepW X.K x y H Q ∨ rRep1 X.K x y H Q) gMulW := by
  intro A r G σ H ex ey x y Q S hA hx hy h
  unfold gMulW at h
  cases q1 : seqOf r ex with
  | none => simp only [q1] at h; exact h.elim
  | some kx =>
    obtain ⟨k, xs⟩ := kx
    cases q2 : intOf ey with
    | none => simp only [q1, q2] at h; cases k <;> exact h.elim
    | some n =>
      cases k with
      | l => simp only [q1, q2] at h; exact h.elim
      | ro => simp only [q1, q2] at h; exact h.elim
      | t =>
        simp only [q1, q2] at h
        by_cases c : n = 1
        · subst c
          rw [if_pos rfl] at h
          obtain ⟨a, vs, e, s, rl⟩ := seq_ok S hx.wk q1
          refine .inr ⟨a, vs, e, int_ok hy q2, s, ?_⟩
          have rp : Rep X.K G (.tup xs) x := by
            cases ex with
            | fr m =>
              have hx : Rep X.K G m x := hx
              have q1 : seqM m = some (.t, xs) := q1
              cases m <;> cases q1
              exact hx
            | tmp ys => obtain ⟨_, z⟩ := seqB_some (show seqB ys = some (.t, xs) from q1); cases z
            | bor i =>
              obtain ⟨c, rfl, sv⟩ := hx
              have q1 : seqS (get r i) = some (.t, xs) := q1
              cases z : get r i with
              | un => rw [z] at q1; cases q1
              | o p ys => rw [z] at q1; obtain ⟨_, z⟩ := seqB_some (show seqB ys = some (.t, xs) from q1); cases z
              | v m =>
                rw [z] at q1
                have q1 : seqM m = some (.t, xs) := q1
                obtain ⟨v, sv2, rp⟩ := S.val i m z
                rw [sv] at sv2; cases sv2
                cases m <;> cases q1
                exact rp
          rw [e] at rp
          exact fin_plain S hA h rp
        · rw [if_neg c] at h
          obtain ⟨a, vs, e, s, rl⟩ := seq_ok S hx.wk q1
          by_cases c : xs.isEmpty = false ∧ 2 ≤ n ∧ n ≤ 100000 ∧ xs.length ≤ 10
          · rw [if_pos c] at h
            have hl := rl.len
            refine .inl ⟨a, n, vs, e, int_ok hy q2, s, fun z => ?_, c.2.1, c.2.2.1, by rw [← hl]; exact c.2.2.2, fun p hp => fin_tup S hA h (rl.rep _) hp⟩
            rw [z] at hl
            have : xs = [] := List.eq_nil_of_length_eq_zero hl
            rw [this] at c
            exact nomatch c.1
          · rw [if_neg c] at h
            exact h.elim
theorem se_mulW (ha : SE X W a fa) (hb : SE X W b fb) : SE X W (.BinOp a .Mult b pos) (v2 gMulW fa fb) := se_op2 (op_repW.or op_rep1) imp_mulW ha hb
end
theorem a_mulW1 {m : M} {k : Nat} {r : Ro} (h0 : 0 < k) (h : k ≤ 100000) : gMulW (.fr (.tup [m])) (.fr (.int (k : Int))) r = .ok (.fr (.tup (List.replicate k m))) r := by
  show (if (k : Int) = 1 then R.ok (EV.fr (.tup [m])) r else if [m].isEmpty = false ∧ 2 ≤ (k : Int) ∧ (k : Int) ≤ 100000 ∧ [m].length ≤ 10 then .ok (.fr (.tup (List.replicate (k : Int).toNat [m]).flatten)) r else .bad) = _
  by_cases c : k = 1
  · subst c; rfl
  · rw [if_neg (by omega), if_pos ⟨rfl, by omega, by omega, by simp⟩]
    have e : ((k : Int)).toNat = k := by omega
    rw [e]
    congr 3
    clear h0 h c e
    induction k with
    | zero => rfl
    | succ k ih => rw [List.replicate_succ, List.flatten_cons, List.replicate_succ, ih]; rfl
end Sx

set_option Elab.async false
set_option linter.all false
set_option maxRecDepth 100000
set_option maxHeartbeats 4000000
/-! SxC: f() -/
namespace Sx
open PySem L2
section
variable {X : Cx} {CX : CXT} {k : Nat} {f : Addr} {fd : FuncData} {ps : List Str} {sp : Sp} {E : St → XK} {x : Str} {p pos : Pos}
theorem pe_callSD0 (F : FnOk X.prog X.w X.K X.mg X.base CX k f fd ps sp) (hr : Room k X.A) (hg : Gl X x) (hm : X.mg x = some (.ref f)) (hk : PySem.W.keepIn X.K (.ref f) = true) (hb : Binds X.K fd ps []) (hx : ∀ σ, PassesAt CX X σ (E σ))
    (hdb : (x == ("__debug__" : Str)) = false := by decide) : PE X (.Call (.Name x p) [] [] pos) (tCallSD sp [] E tNil) := by
  refine ⟨fun pins s σ H Q I h => ?_⟩
  refine wpAny_Call_Name_kw (ld_glob I hg hm ?_ hdb)
  exact PySem.W.callWith_K0 I.kIn hk (run_fnSD (us := []) F hr hb .nil (hx σ) I .nil h)
end
section
variable {X : Cx} {W : W4} {x : Str} {p pos : Pos} {k j : Nat} {m : Fn}
theorem se_call0 (c : CalS X.prog X.w X.K X.mg X.base k x 0 m) (tk : Takes X W) (hr : Room j X.A) (hk : k ≤ j := by decide) (hg : Gl X x := by rfl)
    (hdb : (x == ("__debug__" : Str)) = false := by decide) : SE X W (.Call (.Name x p) [] [] pos) (vCall [] m vNil) := by
  obtain ⟨fa, fd, ps, F, hm, kp, b⟩ := c.ex
  refine peW (pe_callSD0 (E := WE W) F (hr.mono hk) hg hm kp b (fun σ => passAt tk σ) hdb) fun σ H Q ⟨r, G, S, h⟩ => ?_
  have h : Post (rpE X.K σ) X.K X.mg W (A0 r σ H) r G σ H Q (bnd (frzA [] []) (fun es => callK [] m es) r) := h
  exact call_read (n := 0) (mds := []) rfl S A0.self .nil h
end
end Sx

set_option Elab.async false
set_option linter.all false
set_option maxRecDepth 100000
set_option maxHeartbeats 4000000
/-! SxV: max(x), x a list or tuple of tuples of whole numbers -/
namespace Sx
open PySem L2
/-- the first of the greatest -/
def maxMs (x : M) (xs : List M) : M := xs.foldl (fun a y => if ltM a y = true then y else a) x
theorem maxMs_toD : ∀ (xs : List M) (x : M), toD (maxMs x xs) = PySem.W.maxD (toD x) (toDs xs)
  | [], x => rfl
  | y :: xs, x => by
    unfold maxMs PySem.W.maxD
    rw [toDs, List.foldl_cons, List.foldl_cons]
    have := maxMs_toD xs (if ltM x y = true then y else x)
    unfold maxMs PySem.W.maxD at this
    rw [this]
    unfold ltM
    by_cases c : PySem.W.dataLt (toD x) (toD y) = true
    · rw [if_pos c, if_pos c]
    · rw [if_neg c, if_neg c]
theorem maxMs_mem : ∀ (xs : List M) (x : M), maxMs x xs ∈ x :: xs
  | [], x => by simp [maxMs]
  | y :: xs, x => by
    have e : maxMs x (y :: xs) = maxMs (if ltM x y = true then y else x) xs := rfl
    rw [e]
    have := maxMs_mem xs (if ltM x y = true then y else x)
    rcases List.mem_cons.mp this with z | z
    · rw [z]
      by_cases c : ltM x y = true
      · rw [if_pos c]; simp
      · rw [if_neg c]; simp
    · simp [z]
def maxQ (r : Ro) : Option (Kd × List M) → R EV
  | some (_, x :: xs) => if ptis (x :: xs) = true ∧ flats 59 (x :: xs) = true ∧ alikes (toDs (x :: xs)) = true then .ok (.fr (maxMs x xs)) r else .bad
  | _ => .bad
def gMaxP (a : EV) : Ev EV := fun r => maxQ r (seqOf r a)
section
variable {X : Cx} {W : W4}
def rMaxP (K : PySem.W.Frag) : List V → Hp → VK → Prop := fun vs H Q => ∃ (a : Addr) (xs : List V) (d : PyData) (ds : List PyData), vs = [V.ref a] ∧ (SqL K H a xs ∨ SqT K H a xs) ∧ DpAll K H xs (d :: ds) ∧ PyData.canLayAll0 (d :: ds) = true ∧ PyData.depthAll (d :: ds) ≤ 59 ∧ PySem.W.AlikeAll (d :: ds) ∧
  ∀ (i : Nat) v e, xs[i]? = some v → (d :: ds)[i]? = some e → e = PySem.W.maxD d ds → Q v H
theorem cr_maxP (hc : X.calm = true) (hu : X.A.units + 65 < cLine) : CallR X (.builtin "max") (rMaxP X.K) := by
  intro pins s σ H vs us Q I r h
  obtain ⟨a, xs, d, ds, rfl, hs, hd, lay, dep, al, q⟩ := h
  rw [ref1 r]
  have fin : ∀ (its : List Value), Vals xs its → ∀ (as : List Addr), ReadsAll s.heap its (d :: ds) as → ∀ (i : Nat) (v : Value) (h' : Heap) (tk : Nat) (bs : List Addr), its.toArray[i]? = some v → Reads h' v (PySem.W.maxD d ds) bs → (∀ b o, s.heap.get? b = some o → h'.get? b = some o) →
      EP X pins σ Q v { s with heap := h', toks := tk } := fun its rv as ra i v h' tk bs hi hr hk => by
    have hi : its[i]? = some v := by simpa using hi
    obtain ⟨e, cs, he, hr2⟩ := ra_at ra hi
    have e1 : e = PySem.W.maxD d ds := PySem.SeqAt.Reads.unique e _ v cs bs (lay_at lay he) (PyProof.Rows.Reads.keeps hk hr2) hr
    have il : i < its.length := (List.getElem?_eq_some_iff.mp hi).1
    have xl : xs.length = its.length := rv.length
    have hx : xs[i]? = some xs[i] := List.getElem?_eq_getElem (by omega)
    obtain ⟨u, hu2, ru⟩ := rv.get hx
    rw [hi] at hu2
    cases hu2
    exact ⟨xs[i], H, I.kept hk, ru, q i _ e hx he e1⟩
  rcases hs with hs | hs
  · obtain ⟨its, rv, p', _⟩ := I.list hs
    obtain ⟨as, ra⟩ := Dp.readsAll I _ xs its hd rv
    exact PySem.W.max_list_data (I.ok.hd hc) p'.isList (by simpa using ra) al (by omega) fun i v h' tk bs hi hr hk => fin its rv as ra i v h' tk bs hi hr hk
  · obtain ⟨its, rv, p', _⟩ := I.tuple hs
    obtain ⟨as, ra⟩ := Dp.readsAll I _ xs its hd rv
    exact PySem.W.max_tuple_data (I.ok.hd hc) p' (by simpa using ra) al (by omega) fun i v h' tk bs hi hr hk => fin its rv as ra i v h' tk bs hi hr hk
theorem imp_maxP : ImpC X W (rMaxP X.K) (on1 gMaxP) := by
  intro A r G σ H evs vs Q S hA er h
  obtain ⟨ev, v, rfl, e1, h⟩ := evs1 er h
  unfold gMaxP at h
  cases q : seqOf r ev with
  | none => rw [q] at h; exact h.elim
  | some pr =>
    obtain ⟨k, ms⟩ := pr
    rw [q] at h
    cases ms with
    | nil => exact h.elim
    | cons x ms =>
      obtain ⟨c, vs, rfl, s, rl⟩ := seq_ok S e1.wk q
      have h : Post (rpE X.K σ) X.K X.mg W A r G σ H Q (if ptis (x :: ms) = true ∧ flats 59 (x :: ms) = true ∧ alikes (toDs (x :: ms)) = true then .ok (.fr (maxMs x ms)) r else .bad) := h
      by_cases c0 : ptis (x :: ms) = true ∧ flats 59 (x :: ms) = true ∧ alikes (toDs (x :: ms)) = true
      · rw [if_pos c0] at h
        obtain ⟨c1, c2, c3⟩ := c0
        obtain ⟨l1, l2⟩ := flats_lay 59 _ c2
        refine ⟨c, vs, toD x, toDs ms, rfl, ?_, rep_dps (rl.mono S.sub), l1, l2, ⟨fun a ha b hb => ?_, fun a ha => ?_⟩, fun i v e hv he ee => ?_⟩
        · cases k with
          | t => exact .inr s
          | l => exact .inl (.of s)
          | ro => exact .inl s
        · unfold alikes at c3
          exact List.all_eq_true.mp (List.all_eq_true.mp c3 a ha) b hb
        · have ha : a ∈ toDs (x :: ms) := ha
          rw [toDs_map] at ha
          obtain ⟨m, hm, rfl⟩ := List.mem_map.mp ha
          exact pti_non (ptis_mem c1 hm)
        · have he : (toDs (x :: ms))[i]? = some e := he
          rw [toDs_map, List.getElem?_map] at he
          cases qm : (x :: ms)[i]? with
          | none => rw [qm] at he; cases he
          | some m =>
            rw [qm] at he
            cases he
            obtain ⟨v', hv', rp⟩ := rl.at qm
            rw [hv] at hv'
            cases hv'
            have em : m = maxMs x ms := toD_inj (ptis_mem c1 (List.mem_of_getElem? qm)) (ptis_mem c1 (maxMs_mem ms x)) (by rw [ee, maxMs_toD])
            rw [← em] at h
            exact fin_plain S hA h rp
      · rw [if_neg c0] at h
        exact h.elim
end
@[simp] theorem a_maxP {a : EV} {r : Ro} : on1 gMaxP [a] r = maxQ r (seqOf r a) := (rfl)
theorem maxQ_ok {r : Ro} {k : Kd} {x : M} {xs : List M} (h : ptis (x :: xs) = true ∧ flats 59 (x :: xs) = true ∧ alikes (toDs (x :: xs)) = true) : maxQ r (some (k, x :: xs)) = .ok (.fr (maxMs x xs)) r := if_pos h
end Sx

set_option Elab.async false
set_option linter.all false
set_option maxRecDepth 100000
set_option maxHeartbeats 4000000
/-! SxS: sorted(x), x a list of whole numbers -/
namespace Sx
open PySem L2
def insI (x : Int) : List Int → List Int
  | [] => [x]
  | y :: ys => if x ≤ y then x :: y :: ys else y :: insI x ys
def sortI : List Int → List Int
  | [] => []
  | x :: xs => insI x (sortI xs)
theorem insI_perm (x : Int) : ∀ l : List Int, (insI x l).Perm (x :: l)
  | [] => .refl _
  | y :: ys => by
    unfold insI
    by_cases c : x ≤ y
    · rw [if_pos c]
    · rw [if_neg c]
      exact ((insI_perm x ys).cons y).trans (.swap x y ys)
theorem sortI_perm : ∀ l : List Int, (sortI l).Perm l
  | [] => .refl _
  | x :: xs => (insI_perm x (sortI xs)).trans ((sortI_perm xs).cons x)
theorem insI_srt (x : Int) : ∀ l : List Int, l.Pairwise (· ≤ ·) → (insI x l).Pairwise (· ≤ ·)
  | [], _ => List.pairwise_singleton _ _
  | y :: ys, h => by
    obtain ⟨h1, h2⟩ := List.pairwise_cons.mp h
    unfold insI
    by_cases c : x ≤ y
    · rw [if_pos c]
      refine List.pairwise_cons.mpr ⟨fun z hz => ?_, h⟩
      rcases List.mem_cons.mp hz with rfl | hz
      · exact c
      · exact Int.le_trans c (h1 z hz)
    · rw [if_neg c]
      refine List.pairwise_cons.mpr ⟨fun z hz => ?_, insI_srt x ys h2⟩
      rcases List.mem_cons.mp ((insI_perm x ys).mem_iff.mp hz) with rfl | hz
      · omega
      · exact h1 z hz
theorem sortI_srt : ∀ l : List Int, (sortI l).Pairwise (· ≤ ·)
  | [] => List.Pairwise.nil
  | x :: xs => insI_srt x _ (sortI_srt xs)
theorem srt_uniq : ∀ {a b : List Int}, a.Perm b → a.Pairwise (· ≤ ·) → b.Pairwise (· ≤ ·) → a = b
  | [], b, p, _, _ => by rw [List.nil_perm.mp p]
  | x :: xs, [], p, _, _ => by have := p.length_eq; simp at this
  | x :: xs, y :: ys, p, ha, hb => by
    obtain ⟨a1, a2⟩ := List.pairwise_cons.mp ha
    obtain ⟨b1, b2⟩ := List.pairwise_cons.mp hb
    have e : x = y := by
      have hx : x ∈ y :: ys := p.mem_iff.mp (List.mem_cons_self ..)
      have hy : y ∈ x :: xs := p.mem_iff.mpr (List.mem_cons_self ..)
      rcases List.mem_cons.mp hx with z | z
      · exact z
      · rcases List.mem_cons.mp hy with w | w
        · exact w.symm
        · exact Int.le_antisymm (a1 y w) (b1 x z)
    subst e
    rw [srt_uniq (p.cons_inv) a2 b2]
def sortR (r : Ro) : Option (Kd × List M) → R EV
  | some (.l, xs) => match intsM xs with
    | some ns => .ok (.tmp (.l ((sortI ns).map .int))) r
    | none => .bad
  | _ => .bad
def gSort (a : EV) : Ev EV := fun r => sortR r (seqOf r a)
theorem repl_ints {K : PySem.W.Frag} {G : Hp} : ∀ ns : List Int, RepL K G (ns.map M.int) (ns.map V.int)
  | [] => rfl
  | x :: ns => ⟨.int x, ns.map V.int, rfl, rfl, repl_ints ns⟩
section
variable {X : Cx} {W : W4}
theorem imp_sort : ImpC X W (rSortedI X.K) (on1 gSort) := by
  intro A r G σ H evs vs Q S hA er h
  obtain ⟨ev, v, rfl, e1, h⟩ := evs1 er h
  have h : Post (rpE X.K σ) X.K X.mg W A r G σ H Q (sortR r (seqOf r ev)) := h
  cases q : seqOf r ev with
  | none => rw [q] at h; exact h.elim
  | some pr =>
    obtain ⟨k, xs⟩ := pr
    rw [q] at h
    cases k with
    | t => exact h.elim
    | ro => exact h.elim
    | l =>
      have h : Post (rpE X.K σ) X.K X.mg W A r G σ H Q (match intsM xs with
        | some ns => .ok (.tmp (.l ((sortI ns).map .int))) r
        | none => .bad) := h
      cases q2 : intsM xs with
      | none => rw [q2] at h; exact h.elim
      | some ns =>
        rw [q2] at h
        obtain ⟨c, vs, rfl, s, rl⟩ := seq_ok S e1.wk q
        obtain rfl := ints_rep rl q2
        refine ⟨c, ns, rfl, .of s, fun ns' p hp hs n => ?_⟩
        have e := srt_uniq (hp.trans (sortI_perm ns).symm) hs (sortI_srt ns)
        subst e
        exact fin_lst S hA h (repl_ints _) n
end
@[simp] theorem a_sort {e : EV} {r : Ro} : on1 gSort [e] r = sortR r (seqOf r e) := (rfl)
theorem sortR_ints {r : Ro} {ns : List Int} : sortR r (some (.l, ns.map M.int)) = .ok (.tmp (.l ((sortI ns).map .int))) r := by
  show (match intsM (ns.map M.int) with
    | some ns => R.ok (EV.tmp (.l ((sortI ns).map .int))) r
    | none => .bad) = _
  rw [intsM_map]
end Sx

set_option Elab.async false
set_option linter.all false
set_option maxRecDepth 100000
set_option maxHeartbeats 4000000
/-! SxO: list(range(a, b)) -/
namespace Sx
open PySem L2
def rgM2 (a n : Nat) : List M := (List.range n).map fun i => M.int ((a + i : Nat) : Int)
/-- both at least 0 and small -/
def lstRg2 (e e2 : EV) : Ev EV := match intOf e, intOf e2 with
  | some a, some b => if (0 ≤ a ∧ a ≤ 16777216) ∧ (0 ≤ b ∧ b ≤ 16777216) then ret (.tmp (.l (rgM2 a.toNat (b - a).toNat))) else bad
  | _, _ => bad
theorem rg2_rep {K : PySem.W.Frag} {G : Hp} {a b : Int} (h : 0 ≤ a) : RepL K G (rgM2 a.toNat (b - a).toNat) (rgV a b) := by
  have gen : ∀ l : List Nat, RepL K G (l.map fun i => M.int ((a.toNat + i : Nat) : Int)) (l.map fun i => V.int (a + (i : Nat))) := fun l => by
    induction l with
    | nil => rfl
    | cons i l ih => exact ⟨_, _, rfl, by show V.int (a + (i : Int)) = V.int ((a.toNat + i : Nat) : Int); congr 1; omega, ih⟩
  exact gen _
section
variable {X : Cx} {W : W4} {a b : Expr} {fa fb : Ev EV} {p pos : Pos}
theorem se_listRg2 {p2 pos2 : Pos} (hc : X.calm = true) (hg : Gl X "list") (hm : X.mg "list" = none) (hg2 : Gl X "range") (hm2 : X.mg "range" = none) (ha : SE X W a fa) (hb : SE X W b fb) (na : starEach [a, b] X.env = (false, eval a X.env) :: starEach [b] X.env := by rfl) (nb : starEach [b] X.env = (false, eval b X.env) :: starEach [] X.env := by rfl)
    (hp : (backTo pos2 (starEach [b] X.env)).any (·.1) = false := by rfl)
    (na2 : starEach [.Call (.Name "range" p2) [a, b] [] pos2] X.env = (false, eval (.Call (.Name "range" p2) [a, b] [] pos2) X.env) :: starEach [] X.env := by rfl) :
    SE X W (.Call (.Name "list" p) [.Call (.Name "range" p2) [a, b] [] pos2] [] pos) (v2 lstRg2 fa fb) := by
  refine peW (pe_listRg hc hg hm (prg_2 hg2 hm2 ha hb na nb hp) na2) fun σ H Q ⟨r, G, S, h⟩ => ?_
  refine into upE S A0.self h fun ev r1 v G1 H1 S1 a1 st1 e1 h1 => ?_
  refine into upE S1 a1 h1 fun eb r2 w G2 H2 S2 a2 st2 e2 h2 => ?_
  unfold lstRg2 at h2
  cases q : intOf ev with
  | none => rw [q] at h2; exact h2.elim
  | some i =>
    cases q2 : intOf eb with
    | none => rw [q, q2] at h2; exact h2.elim
    | some j =>
      simp only [q, q2] at h2
      by_cases c : (0 ≤ i ∧ i ≤ 16777216) ∧ (0 ≤ j ∧ j ≤ 16777216)
      · rw [if_pos c] at h2
        exact ⟨i, j, int_ok e1 q, int_ok e2 q2, RgOk.of_le c.1.1 c.2.2 c.1.2 c.2.1, fun q hq => fin_lst S2 a2 h2 (rg2_rep c.1.1) hq⟩
      · rw [if_neg c] at h2
        exact h2.elim
end
@[simp] theorem a_lstRg2 {x y : Int} {r : Ro} : lstRg2 (.fr (.int x)) (.fr (.int y)) r = if (0 ≤ x ∧ x ≤ 16777216) ∧ (0 ≤ y ∧ y ≤ 16777216) then .ok (.tmp (.l (rgM2 x.toNat (y - x).toNat))) r else .bad := by
  show (if (0 ≤ x ∧ x ≤ 16777216) ∧ (0 ≤ y ∧ y ≤ 16777216) then (ret (EV.tmp (.l (rgM2 x.toNat (y - x).toNat))) : Ev EV) else bad) r = _
  by_cases c : (0 ≤ x ∧ x ≤ 16777216) ∧ (0 ≤ y ∧ y ≤ 16777216)
  · rw [if_pos c, if_pos c]; rfl
  · rw [if_neg c, if_neg c]; rfl
end Sx

set_option Elab.async false
set_option linter.all false
set_option maxRecDepth 100000
set_option maxHeartbeats 4000000
/-! SxF: a test `a if c else b` -/
namespace L2
open PySem PySem.Spec PyProof.Rows
theorem isTrue_ifExp {M : Model} {A : Around} {E : Value → Shared → Prop} {s : Shared} {env : Env} {c a b : Expr} {pos : Pos} {whole : Sem Value} {Q : Bool → Shared → Prop}
    (h : wpAny M A (isTrue c env (eval c env)) (fun d s' => if d then wpAny M A (isTrue a env (eval a env)) Q E s' else wpAny M A (isTrue b env (eval b env)) Q E s') E s) :
    wpAny M A (isTrue (.IfExp c a b pos) env whole) Q E s := by
  show wpAny M A (do if ← isTrue c env (eval c env) then isTrue a env (eval a env) else isTrue b env (eval b env)) Q E s
  refine wpAny_bind (wpAny_mono h (fun d s' h' => ?_) fun _ _ x => x)
  cases d <;> exact h'
def tIfT (tc ta tb : TT) : TT := fun σ H Q => tc σ H fun c H1 => if c = true then ta σ H1 Q else tb σ H1 Q
section
variable {X : Cx} {a b c : Expr} {pos : Pos} {tc ta tb : TT}
theorem pt_ifExp (hc : PT X c tc) (ha : PT X a ta) (hb : PT X b tb) : PT X (.IfExp c a b pos) (tIfT tc ta tb) := by
  refine ⟨fun pins s σ H Q I h => ?_⟩
  refine isTrue_ifExp (thn (hc.run pins s σ H _ I h) fun d s1 ⟨H1, I1, q1⟩ => ?_)
  cases d with
  | true => exact ha.run pins s1 σ H1 Q I1 q1
  | false => exact hb.run pins s1 σ H1 Q I1 q1
end
end L2
namespace Sx
open PySem L2
/-- a test, by one of two -/
def tIfM (f fa fb : Ev Bool) : Ev Bool := bnd f fun c => if c = true then fa else fb
section
variable {X : Cx} {W : W4} {a b c : Expr} {pos : Pos} {f fa fb : Ev Bool}
theorem st_if (hc : ST X W c f) (ha : ST X W a fa) (hb : ST X W b fb) : ST X W (.IfExp c a b pos) (tIfM f fa fb) := by
  refine ptW (pt_ifExp hc ha hb) fun σ H Q ⟨r, G, S, h⟩ => ?_
  refine into upB S A0.self h fun c r1 c' G1 H1 S1 a1 st1 e1 h1 => ?_
  subst e1
  cases c with
  | true => rw [if_pos rfl] at h1; exact iteT (last S1 a1 upB h1)
  | false => rw [if_neg Bool.false_ne_true] at h1; exact iteF (last S1 a1 upB h1)
end
@[simp] theorem ev_tIf {f fa fb : Ev Bool} {r : Ro} : tIfM f fa fb r = (f r).th fun c => if c = true then fa else fb := by simp [tIfM]
end Sx

set_option Elab.async false
set_option linter.all false
set_option maxRecDepth 100000
set_option maxHeartbeats 4000000
/-! SxH: a, b, c = a list -/
namespace Sx
open PySem L2
def tLst (ts : List Tg) : Tg := fun m => match m with
  | .lst ms => tAll ts ms
  | _ => bad
theorem tAll_len : ∀ (ts : List Tg) (ms : List M) (r : Ro), (∃ u r', tAll ts ms r = .ok u r') → ts.length = ms.length := by
  intro ts
  induction ts with
  | nil => intro ms r ⟨u, r', e⟩; cases ms with
    | nil => rfl
    | cons _ _ => cases e
  | cons t ts ih => intro ms r ⟨u, r', e⟩; cases ms with
    | nil => cases e
    | cons m ms =>
      have e : bnd (t m) (fun _ => tAll ts ms) r = .ok u r' := e
      cases q : t m r with
      | bad => rw [bnd_bad q] at e; cases e
      | ex c m r' => rw [bnd_ex q] at e; cases e
      | ok u r1 => rw [bnd_ok q] at e; simp [ih ms r1 ⟨_, _, e⟩]
section
variable {X : Cx} {pos : Pos}
theorem sg_lst {es : List Expr} {k n : Nat} {ix : List Nat} {ts : List Tg} (hc : X.calm = true) (h : SGs X es ix ts) (hl : ts.length = n := by rfl)
    (hn : (assignEach es X.env).length = n := by rfl) (hst : (assignEach es X.env).findIdx? (·.1) = none := by rfl) : SG X (.Tuple es k pos) ix (tLst ts) := by
  refine pgW (pg_lst hc h hn hst) fun v σ H Q ⟨r, G, m, S, rp, h⟩ => ?_
  cases m with
  | lst ms =>
    obtain ⟨a, vs, rfl, s, rl⟩ := rp
    have h : PostT X.K ix r G σ H Q (tAll ts ms r) := h
    have hlen : ts.length = ms.length := tAll_len ts ms r (by
      cases q : tAll ts ms r with
      | bad => rw [q] at h; exact h.elim
      | ex c m r' => rw [q] at h; exact h.elim
      | ok u r1 => exact ⟨_, _, rfl⟩)
    exact ⟨a, vs, rfl, .inl (.inl (S.sub _ _ s)), by rw [← rl.len, ← hlen, hl], r, G, ms, S, rl, h⟩
  | _ => exact h.elim
end
@[simp] theorem a_tLst {ts : List Tg} {ms : List M} {r : Ro} : tLst ts (.lst ms) r = tAll ts ms r := (rfl)
end Sx

set_option Elab.async false
set_option linter.all false
set_option maxRecDepth 100000
set_option maxHeartbeats 4000000
/-! SxG: a comprehension over a row of a list of own lists -/
namespace Sx
open PySem L2
section
variable {X : Cx} {W : W4} {elt tg iter : Expr} {ifs : List Expr} {scope : Scope} {own : List (Str × Nat)} {pos : Pos} {t : Tg} {ix : List Nat} {c : Ev Bool} {e : Ev EV}
theorem lc_core2 {vs : List Nat} {A : Addr → Prop} {r1 : Ro} {G1 : Hp} {σ : St} {H1 : Hp} {Q : VK} {J : It} {ms : List M} (hix : ∀ j ∈ ix, j ∈ vs) (S1 : Sim X.K r1 G1 σ H1) (a1 : ∀ b, A0 r1 σ H1 b → A b)
    (wl : ∀ r G H, Sim X.K r G (wipe σ vs) H → Step A (wipeR vs r1) G1 (wipe σ vs) H1 r G (wipe σ vs) H → (∀ i, i < ms.length → J.go i H ∧ ∀ x H', J.yld i H x H' → ∃ G' m, Sim X.K r G' (wipe σ vs) H' ∧ Step (A0 r (wipe σ vs) H) r G (wipe σ vs) H r G' (wipe σ vs) H' ∧ ms[i]? = some m ∧ Rep X.K G' m x) ∧ J.stop ms.length H)
    (h1 : Post (rpE X.K σ) X.K X.mg W A r1 G1 σ H1 Q (lcX vs t c e ms r1)) (D : Addr) (hD : H1 D = none) : ∃ V : Nat → Nat → Hp → Prop, (∃ m, V 0 m (upd H1 D (.lst []))) ∧ ∀ i m H, V i m H →
  (J.stop i H ∧ Q (.ref D) H) ∨ (J.go i H ∧ ∃ Nx : Hp → Prop, (∀ H', Nx H' → ∃ m', m' < m ∧ V (i + 1) m' H') ∧ ∀ x H', J.yld i H x H' → tgR X.K ix t x (wipe σ vs) H' fun σ2 H2 => wipe σ2 vs = wipe σ vs ∧ tB X.K X.mg W0 c σ2 H2 fun b H3 =>
    if b = true then tE X.K X.mg W0 e σ2 H3 fun y H4 => ∃ acc, H4 D = some (.lst acc) ∧ acc.length < sizeLine ∧ Nx (upd H4 D (.lst (acc ++ [y]))) else Nx H3) := by
  unfold lcX at h1
  by_cases c0 : vs.all (fun j => plainS (get r1 j)) = true ∧ ms.length ≤ big
  · rw [if_pos c0] at h1
    obtain ⟨pl, hbig⟩ := c0
    cases q1 : lcF vs t c e ms r1 with
    | bad => rw [q1] at h1; exact h1.elim
    | ex x m r' => rw [q1] at h1; exact h1.elim
    | ok total rE =>
      rw [q1] at h1
      have cs1 : vs.all (fun j => canSet (get r1 j)) = true := List.all_eq_true.mpr fun j hj => by
        have z := List.all_eq_true.mp pl j hj
        cases q : get r1 j with
        | un => rfl
        | v _ => rfl
        | o _ _ => rw [q] at z; cases z
      have nlock : ∀ j p xs, get r1 j = .o p xs → j ∉ vs := fun j p xs e m => by
        have z := List.all_eq_true.mp pl j m
        rw [e] at z; cases z
      obtain ⟨Sw, ow⟩ := S1.wiped (vs := vs)
      refine ⟨fun i n H' => n = ms.length - i ∧ i ≤ ms.length ∧ ∃ r' G' acc accV rest, Sim X.K r' G' (wipe σ vs) H' ∧ (∀ j ∈ vs, get r' j = .un) ∧ Step A (wipeR vs r1) G1 (wipe σ vs) H1 r' G' (wipe σ vs) H' ∧
        H' D = some (.lst accV) ∧ RepL X.K G' acc accV ∧ G' D = none ∧ ¬ Own r' (wipe σ vs) H' D ∧ acc.length ≤ i ∧ lcF vs t c e (ms.drop i) r' = .ok rest rE ∧ acc ++ rest = total,
        ⟨_, rfl, Nat.zero_le _, wipeR vs r1, G1, [], [], total, Sw.fresh hD, fun j hj => by rw [get_wipe, if_pos hj], step_fresh Sw (fun b z => a1 b (z.imp (ow b) id)) hD, upd_same, rfl, S1.gnone hD, fun z => S1.nown hD (ow D ((Sw.own_up hD).mp z)), Nat.le_refl _, ?_, rfl⟩, ?_⟩
      · rw [List.drop_zero, lcF_wipe cs1]; exact q1
      rintro i n H' ⟨rfl, hi, r', G', acc, accV, rest, S', un, st, hD', rl, gD, nD, la, ef, et⟩
      have a' : ∀ b, A0 r' (wipe σ vs) H' b → A b := st.allow' fun b z => a1 b (z.imp (ow b) id)
      have cs' : vs.all (fun j => canSet (get r' j)) = true := List.all_eq_true.mpr fun j hj => by rw [un j hj]; rfl
      have ew : wipeE vs r' = .ok () (wipeR vs r') := if_pos cs'
      obtain ⟨w1, w2⟩ := wl r' G' H' S' st
      by_cases cl : i < ms.length
      · obtain ⟨go, yl⟩ := w1 i cl
        refine .inr ⟨go, fun H2 => i + 1 ≤ ms.length ∧ ∃ r' G' acc accV rest, Sim X.K r' G' (wipe σ vs) H2 ∧ (∀ j ∈ vs, get r' j = .un) ∧ Step A (wipeR vs r1) G1 (wipe σ vs) H1 r' G' (wipe σ vs) H2 ∧
          H2 D = some (.lst accV) ∧ RepL X.K G' acc accV ∧ G' D = none ∧ ¬ Own r' (wipe σ vs) H2 D ∧ acc.length ≤ i + 1 ∧ lcF vs t c e (ms.drop (i + 1)) r' = .ok rest rE ∧ acc ++ rest = total, fun H2 z => ⟨ms.length - (i + 1), by omega, rfl, z⟩, fun x H2 y => ?_⟩
        obtain ⟨G2, m, S2, st2, em, rp⟩ := yl x H2 y
        have ed : ms.drop i = m :: ms.drop (i + 1) := by
          rw [List.drop_eq_getElem_cons cl]
          congr 1
          rw [List.getElem?_eq_getElem cl] at em
          exact Option.some.inj em
        rw [ed] at ef
        have ef : bnd (wipeE vs) (fun _ => bnd (noX (t m)) fun _ => bnd (noX c) fun b => if b = true then bnd (noX e) (fun ev => bnd (frz ev) fun x => bnd (lcF vs t c e (ms.drop (i + 1))) fun xs => ret (x :: xs)) else lcF vs t c e (ms.drop (i + 1))) r' = .ok rest rE := ef
        rw [bnd_ok ew] at ef
        -- the state at the turn's start
        have nA2 : ¬ A0 r' (wipe σ vs) H' D := fun z => by
          rcases z with z | z
          · exact nD z
          · rw [hD'] at z; cases z
        obtain ⟨S3, ow3⟩ := S2.forget (r' := wipeR vs r') (σ' := wipe σ vs) (by rw [wipeR_len]; exact S2.len) fun j => by
          rw [get_wipe]
          by_cases mj : j ∈ vs
          · rw [if_pos mj]; exact .inl rfl
          · rw [if_neg mj]; exact .inr ⟨rfl, rfl⟩
        have st3 : Step A r' G' (wipe σ vs) H' (wipeR vs r') G2 (wipe σ vs) H2 := by
          have stA := st2.mono a'
          refine ⟨stA.grow, stA.keep, stA.gnew, fun b z => stA.onew b (ow3 b z), fun j p xs ej nf => ?_, stA.free⟩
          have mj : j ∉ vs := fun mj => by rw [un j mj] at ej; cases ej
          rw [get_wipe, if_neg mj]
          exact stA.pin j p xs ej nf
        have hD2 : H2 D = some (.lst accV) := st2.keep D _ hD' nA2
        have gD2 : G2 D = none := by
          cases z : G2 D with
          | none => rfl
          | some o =>
            rcases st2.gnew D (by rw [z]; exact fun z => nomatch z) with z | z
            · exact absurd gD z
            · exact absurd z nA2
        have nD2 : ¬ Own (wipeR vs r') (wipe σ vs) H2 D := fun z => nA2 (st2.onew D (ow3 D z))
        refine ⟨wipeR vs r', G2, m, S3, rp, ?_⟩
        cases q2 : noX (t m) (wipeR vs r') with
        | bad => rw [bnd_bad q2] at ef; cases ef
        | ex x m r3 => rw [bnd_ex q2] at ef; cases ef
        | ok u r4 =>
          rw [bnd_ok q2] at ef
          rw [noX_ok q2]
          intro σ4 G4 H4 S4 st4 l4 o4
          have ws : wipe σ4 vs = wipe σ vs := by
            have z : wipe σ4 vs = wipe (wipe σ vs) vs := wipe_ext l4 fun j hj => o4 j fun z => hj (hix j z)
            rw [z]
            exact wipe_ext (wipe_length σ vs) fun j hj => wipe_out hj
          obtain ⟨hD4, gD4, nD4⟩ := Step.stay st4 hD2 gD2 nD2
          have rl4 := (rl.mono st2.grow).mono st4.grow
          have al3 := st3.allow' a'
          have st4' := (st3.trans (st4.mono al3))
          have al4 := st4'.allow' a'
          -- behind a turn: the slots are forgotten
          have next : ∀ {r5 : Ro} {G5 : Hp} {H5 : Hp} {acc5 : List M} {accV5 : List V} {rest5 : List M}, Sim X.K r5 G5 σ4 H5 → Step A r' G' (wipe σ vs) H' r5 G5 σ4 H5 → H5 D = some (.lst accV5) → RepL X.K G5 acc5 accV5 → G5 D = none → ¬ Own r5 σ4 H5 D → acc5.length ≤ i + 1 →
              lcF vs t c e (ms.drop (i + 1)) r5 = .ok rest5 rE → acc5 ++ rest5 = total → i + 1 ≤ ms.length ∧ ∃ r' G' acc accV rest, Sim X.K r' G' (wipe σ vs) H5 ∧ (∀ j ∈ vs, get r' j = .un) ∧ Step A (wipeR vs r1) G1 (wipe σ vs) H1 r' G' (wipe σ vs) H5 ∧
              H5 D = some (.lst accV) ∧ RepL X.K G' acc accV ∧ G' D = none ∧ ¬ Own r' (wipe σ vs) H5 D ∧ acc.length ≤ i + 1 ∧ lcF vs t c e (ms.drop (i + 1)) r' = .ok rest rE ∧ acc ++ rest = total := fun {r5 G5 H5 acc5 accV5 rest5} S5 st5 h5 rl5 g5 n5 l5 f5 e5 => by
            have cs5 : vs.all (fun j => canSet (get r5 j)) = true := by
              by_cases z : vs.all (fun j => canSet (get r5 j)) = true
              · exact z
              · have zb : wipeE vs r5 = .bad := if_neg z
                cases qd : ms.drop (i + 1) with
                | nil =>
                  rw [qd] at f5
                  have f5 : bnd (wipeE vs) (fun _ => ret []) r5 = .ok rest5 rE := f5
                  rw [bnd_bad zb] at f5; cases f5
                | cons m' ms' =>
                  rw [qd] at f5
                  have f5 : bnd (wipeE vs) _ r5 = .ok rest5 rE := f5
                  rw [bnd_bad zb] at f5; cases f5
            have w5 := S5.wiped (vs := vs)
            have stw := step_wiped (vs := vs) S5 (st5.allow' a') cs5
            rw [ws] at w5 stw
            exact ⟨cl, wipeR vs r5, G5, acc5, accV5, rest5, w5.1, fun j hj => by rw [get_wipe, if_pos hj], (st.trans st5).trans stw, h5, rl5, g5, fun z => n5 (w5.2 D z), l5, by rw [lcF_wipe cs5]; exact f5, e5⟩
          refine ⟨ws, r4, G4, S4, ?_⟩
          cases q3 : noX c r4 with
          | bad => rw [bnd_bad q3] at ef; cases ef
          | ex x m r3 => rw [bnd_ex q3] at ef; cases ef
          | ok b r5 =>
            rw [bnd_ok q3] at ef
            rw [noX_ok q3]
            intro b' G5 H5 S5 st5 eb
            subst eb
            obtain ⟨hD5, gD5, nD5⟩ := Step.stay st5 hD4 gD4 nD4
            have rl5 := rl4.mono st5.grow
            have st5' := st4'.trans (st5.mono al4)
            have al5 := st5'.allow' a'
            cases b with
            | false =>
              rw [if_neg Bool.false_ne_true] at ef
              exact iteF (next S5 st5' hD5 rl5 gD5 nD5 (by omega) ef et)
            | true =>
              rw [if_pos rfl] at ef
              refine iteT ⟨r5, G5, S5, ?_⟩
              cases q4 : noX e r5 with
              | bad => rw [bnd_bad q4] at ef; cases ef
              | ex x m r3 => rw [bnd_ex q4] at ef; cases ef
              | ok ev r6 =>
                rw [bnd_ok q4] at ef
                rw [noX_ok q4]
                intro y G6 H6 S6 st6 er
                obtain ⟨hD6, gD6, nD6⟩ := Step.stay st6 hD5 gD5 nD5
                have rl6 := rl5.mono st6.grow
                have st6' := st5'.trans (st6.mono al5)
                cases q5 : frz ev r6 with
                | bad => rw [bnd_bad q5] at ef; cases ef
                | ex x m r3 => exact (frz_noex q5).elim
                | ok xm r7 =>
                  rw [bnd_ok q5] at ef
                  obtain ⟨G7, S7, st7, rp7, so7⟩ := frz_ok S6 (st6.allow A0.self) er.wk q5
                  have gD7 : G7 D = none := by
                    cases z : G7 D with
                    | none => rfl
                    | some o =>
                      rcases st7.gnew D (by rw [z]; exact fun z => nomatch z) with z | z
                      · exact absurd gD6 z
                      · rcases z with z | z
                        · exact absurd z nD5
                        · rw [hD5] at z; cases z
                  have nD7 : ¬ Own r7 σ4 H6 D := fun z => nD6 (so7 D z)
                  cases q6 : lcF vs t c e (ms.drop (i + 1)) r7 with
                  | bad => rw [bnd_bad q6] at ef; cases ef
                  | ex x m r3 => rw [bnd_ex q6] at ef; cases ef
                  | ok xs r8 =>
                    rw [bnd_ok q6] at ef
                    cases ef
                    refine ⟨accV, hD6, by rw [← rl.len]; exact Nat.lt_of_le_of_lt la (Nat.lt_of_lt_of_le cl hbig), ?_⟩
                    have S8 : Sim X.K r7 G7 σ4 (upd H6 D (.lst (accV ++ [y]))) := S7.beside gD7 nD7
                    have st7' : Step A r' G' (wipe σ vs) H' r7 G7 σ4 H6 := st6'.trans (st7.mono al5)
                    have aD : A D := by
                      have z : A0 r1 σ H1 D := .inr hD
                      exact a1 D z
                    have st8 : Step A r' G' (wipe σ vs) H' r7 G7 σ4 (upd H6 D (.lst (accV ++ [y]))) := by
                      refine ⟨st7'.grow, fun b o hb nb => ?_, st7'.gnew, fun b z => st7'.onew b (S7.own_beside nD7 z), st7'.pin, fun b hb => ?_⟩
                      · have z : b ≠ D := fun z => by subst z; exact nb aD
                        rw [upd_ne z]; exact st7'.keep b o hb nb
                      · by_cases z : b = D
                        · subst z; rw [upd_same] at hb; cases hb
                        · rw [upd_ne z] at hb; exact st7'.free b hb
                    exact next S8 st8 upd_same ((rl6.mono st7.grow).app (.one rp7)) gD7 (fun z => nD7 (S7.own_beside nD7 z)) (by rw [List.length_append]; simp; exact la) q6 (by rw [List.append_assoc]; exact et)
      · have ei : i = ms.length := by omega
        subst ei
        rw [List.drop_length] at ef
        have ef : bnd (wipeE vs) (fun _ => ret []) r' = .ok rest rE := ef
        rw [bnd_ok ew] at ef
        cases ef
        rw [List.append_nil] at et
        subst et
        refine .inl ⟨w2, ?_⟩
        have hl : r1.length = (wipeR vs r').length := by
          rw [wipeR_len]
          have z1 := S1.len
          have z2 := S'.len
          rw [wipe_length] at z2
          omega
        have gr : ∀ j, get (restR vs r1 (wipeR vs r')) j = if j ∈ vs then get r1 j else get r' j := fun j => by
          rw [get_rest hl, get_wipe]
          by_cases m : j ∈ vs
          · rw [if_pos m, if_pos m]
          · rw [if_neg m, if_neg m, if_neg m]
        have pv : ∀ j, j ∈ vs → ∀ p xs, get r1 j ≠ .o p xs := fun j m p xs e => nlock j p xs e m
        have key : ∀ j p xs, get (restR vs r1 (wipeR vs r')) j = .o p xs → j ∉ vs ∧ get r' j = .o p xs := fun j p xs e => by
          rw [gr] at e
          by_cases m : j ∈ vs
          · rw [if_pos m] at e; exact absurd e (pv j m p xs)
          · rw [if_neg m] at e; exact ⟨m, e⟩
        have bk : ∀ b, Own (restR vs r1 (wipeR vs r')) σ H' b → Own r' (wipe σ vs) H' b := fun b ⟨j, p, xs, a, e1, e2, f⟩ => by
          obtain ⟨m, e3⟩ := key j p xs e1
          exact ⟨j, p, xs, a, e3, (wipe_out m).trans e2, f⟩
        have SF : Sim X.K (restR vs r1 (wipeR vs r')) G' σ H' := by
          refine ⟨S'.sub, by rw [restR_len, ← hl]; exact S1.len, fun j m e => ?_, fun j p xs e => ?_, fun j k p q xs ys a a' b e1 e2 s1 s2 => ?_⟩
          · rw [gr] at e
            by_cases mj : j ∈ vs
            · rw [if_pos mj] at e
              obtain ⟨v, sv, rp⟩ := S1.val j m e
              exact ⟨v, sv, rp.mono st.grow⟩
            · rw [if_neg mj] at e
              obtain ⟨v, sv, rp⟩ := S'.val j m e
              exact ⟨v, (wipe_out mj).symm.trans sv, rp⟩
          · obtain ⟨mj, e3⟩ := key j p xs e
            obtain ⟨a, sv, z⟩ := S'.own j p xs e3
            exact ⟨a, (wipe_out mj).symm.trans sv, z⟩
          · obtain ⟨mj, e3⟩ := key j p xs e1
            obtain ⟨mk, e4⟩ := key k q ys e2
            exact S'.inj j k p q xs ys a a' b e3 e4 ((wipe_out mj).trans s1) ((wipe_out mk).trans s2)
        refine h1 (.ref D) G' H' SF ⟨st.grow, st.keep, st.gnew, fun b z => st.onew b (bk b z), fun j p xs ej nf => ?_, st.free⟩ ⟨D, rfl, ⟨fun c f => by cases f; exact gD, accV, hD', rl⟩, fun c f => by cases f; exact ⟨fun z => nD (bk D z), a1 D (.inr hD)⟩⟩
        have mj := nlock j p xs ej
        obtain ⟨e1, xs1, e2, l1⟩ := st.pin j p xs (by rw [get_wipe, if_neg mj]; exact ej) nf
        exact ⟨rfl, xs1, by rw [gr, if_neg mj]; exact e2, l1⟩
  · rw [if_neg c0] at h1
    exact h1.elim
end
section
variable {K : PySem.W.Frag} {r r' : Ro} {G G' : Hp} {σ : St} {H H' : Hp}
/-- what stands in a hidden list of lists may not be taken -/
theorem hid_away {i : Nat} {p : Pin} {xss : List (List M)} {a : Addr} (S : Sim K r G σ H) (e : get r i = .o p (.ll xss)) (sv : σ[i]? = some (some (.ref a))) (bx : Body K G H a (.ll xss)) {c : Addr} (f : Foot H a (.ll xss) c) : ¬ A0 (r.set i .un) σ H c := fun z => by
  have hi : i < r.length := get_lt (by rw [e]; exact fun z => nomatch z)
  rcases z with ⟨j, q, d, a', e1, e2, f2⟩ | z
  · rw [get_set] at e1
    by_cases z : i = j
    · rw [if_pos ⟨z, hi⟩] at e1; cases e1
    · rw [if_neg (fun q => z q.1)] at e1
      exact z (S.inj i j p q _ d a a' c e e1 sv e2 f f2)
  · obtain ⟨bs, ha, nd, rr⟩ := bx
    rcases f with f | ⟨vs, e1, m⟩
    · rw [f, ha] at z; cases z
    · rw [ha] at e1; cases e1
      obtain ⟨b, hb, eb⟩ := List.mem_map.mp m
      cases eb
      obtain ⟨j, hj⟩ := List.getElem?_of_mem hb
      have hl : j < xss.length := by
        have z := (List.getElem?_eq_some_iff.mp hj).1
        rw [← rr.len]; exact z
      obtain ⟨b2, vs, h1, h2, _⟩ := rr.nth (List.getElem?_eq_getElem hl)
      rw [hj] at h1; cases h1
      rw [h2] at z; cases z
/-- a hidden list of lists is found as it was -/
theorem unhide {i : Nat} {p : Pin} {xss : List (List M)} (S : Sim K r G σ H) (e : get r i = .o p (.ll xss)) (S' : Sim K r' G' σ H') (st : Step (A0 (r.set i .un) σ H) (r.set i .un) G σ H r' G' σ H') (hu : get r' i = .un) :
    (∀ b, A0 (r.set i .un) σ H b → A0 r σ H b) ∧ Sim K (r'.set i (.o p (.ll xss))) G' σ H' ∧ Step (A0 r σ H) r G σ H (r'.set i (.o p (.ll xss))) G' σ H' ∧
    ∀ c, (¬ Own r' σ H' c ∧ A0 (r.set i .un) σ H c) → ¬ Own (r'.set i (.o p (.ll xss))) σ H' c ∧ A0 r σ H c := by
  have hi : i < r.length := get_lt (by rw [e]; exact fun z => nomatch z)
  have hi' : i < r'.length := by rw [S'.len, ← S.len]; exact hi
  obtain ⟨a, sv, bx⟩ := S.own i p _ e
  have g1 : ∀ {j}, get (r.set i .un) j = if i = j then .un else get r j := fun {j} => by
    rw [get_set]
    by_cases z : i = j
    · rw [if_pos ⟨z, hi⟩, if_pos z]
    · rw [if_neg (fun q => z q.1), if_neg z]
  have g2 : ∀ {j s}, get (r'.set i s) j = if i = j then s else get r' j := fun {j s} => by
    rw [get_set]
    by_cases z : i = j
    · rw [if_pos ⟨z, hi'⟩, if_pos z]
    · rw [if_neg (fun q => z q.1), if_neg z]
  have away : ∀ c, Foot H a (.ll xss) c → ¬ A0 (r.set i .un) σ H c := fun c f => hid_away S e sv bx.2 f
  have kp : ∀ c, Foot H a (.ll xss) c → ∀ o, H c = some o → H' c = some o := fun c f o h => st.keep c o h (away c f)
  have kb : ∀ {c}, Foot H' a (.ll xss) c ↔ Foot H a (.ll xss) c := fun {c} => bx.2.foot (kp a Foot.self)
  have bx' : Bx K G' H' a (.ll xss) := by
    refine ⟨fun c f => ?_, ?_⟩
    · have f := kb.mp f
      cases z : G' c with
      | none => rfl
      | some o =>
        rcases st.gnew c (by rw [z]; exact fun z => nomatch z) with z | z
        · exact absurd (bx.1 c f) z
        · exact absurd z (away c f)
    · obtain ⟨bs, ha, nd, rr⟩ := bx.2
      exact ⟨bs, kp a Foot.self _ ha, nd, rr.keep st.grow fun c m o z => kp c (.inr ⟨_, ha, List.mem_map_of_mem m⟩) o z⟩
  have up : ∀ b, A0 (r.set i .un) σ H b → A0 r σ H b := fun b z => by
    rcases z with ⟨j, q, d, a', e1, e2, f2⟩ | z
    · rw [g1] at e1
      by_cases z : i = j
      · rw [if_pos z] at e1; cases e1
      · rw [if_neg z] at e1
        exact .inl ⟨j, q, d, a', e1, e2, f2⟩
    · exact .inr z
  have ownU : ∀ b, Own (r'.set i (.o p (.ll xss))) σ H' b → Foot H a (.ll xss) b ∨ Own r' σ H' b := fun b ⟨j, q, d, a', e1, e2, f2⟩ => by
    rw [g2] at e1
    by_cases z : i = j
    · subst z
      rw [if_pos rfl] at e1; cases e1
      rw [sv] at e2; cases e2
      exact .inl (kb.mp f2)
    · rw [if_neg z] at e1
      exact .inr ⟨j, q, d, a', e1, e2, f2⟩
  refine ⟨up, ⟨S'.sub, by rw [List.length_set]; exact S'.len, fun j m e1 => ?_, fun j q b e1 => ?_, fun j k q q2 b d a1 a2 c e1 e2 s1 s2 f1 f2 => ?_⟩, ⟨st.grow, fun b o h n => st.keep b o h fun z => n (up b z), fun b z => (st.gnew b z).imp id (up b), fun b z => ?_, fun j q xs e1 nf => ?_, st.free⟩, fun c ⟨n1, n2⟩ => ⟨fun z => ?_, up c n2⟩⟩
  · rw [g2] at e1
    by_cases z : i = j
    · rw [if_pos z] at e1; cases e1
    · rw [if_neg z] at e1; exact S'.val j m e1
  · rw [g2] at e1
    by_cases z : i = j
    · subst z
      rw [if_pos rfl] at e1; cases e1
      exact ⟨a, sv, bx'⟩
    · rw [if_neg z] at e1; exact S'.own j q b e1
  · rw [g2] at e1 e2
    by_cases z1 : i = j
    · by_cases z2 : i = k
      · rw [← z1, ← z2]
      · subst z1
        rw [if_pos rfl] at e1; cases e1
        rw [if_neg z2] at e2
        rw [sv] at s1; cases s1
        exact absurd (st.onew c ⟨k, q2, d, a2, e2, s2, f2⟩) (away c (kb.mp f1))
    · by_cases z2 : i = k
      · subst z2
        rw [if_pos rfl] at e2; cases e2
        rw [if_neg z1] at e1
        rw [sv] at s2; cases s2
        exact absurd (st.onew c ⟨j, q, b, a1, e1, s1, f1⟩) (away c (kb.mp f2))
      · rw [if_neg z1] at e1
        rw [if_neg z2] at e2
        exact S'.inj j k q q2 b d a1 a2 c e1 e2 s1 s2 f1 f2
  · rcases ownU b z with z | z
    · exact .inl ⟨i, p, _, a, e, sv, z⟩
    · exact up b (st.onew b z)
  · by_cases z : i = j
    · subst z
      rw [e] at e1; cases e1
      exact ⟨rfl, _, by rw [g2, if_pos rfl], fun _ => rfl⟩
    · obtain ⟨h1, xs1, h2, h3⟩ := st.pin j q xs (by rw [g1, if_neg z]; exact e1) nf
      exact ⟨h1, xs1, by rw [g2, if_neg z]; exact h2, h3⟩
  · rcases ownU c z with z | z
    · exact away c z n2
    · exact n1 z
end
def isUn : Slot → Bool
  | .un => true
  | _ => false
def lcRow (i : Nat) (vs : List Nat) (t : Tg) (c : Ev Bool) (e : Ev EV) (a : EV) : Ev EV := fun r => match rowE (get r i) a with
  | some (p, xss, _, xs) => match lcX vs t c e xs (r.set i .un) with
    | .ok (.tmp (.l ys)) r' => if isUn (get r' i) = true then .ok (.tmp (.l ys)) (r'.set i (.o p (.ll xss))) else .bad
    | _ => .bad
  | none => .bad
def vLcRow (i : Nat) (fi : Ev EV) (vs : List Nat) (t : Tg) (c : Ev Bool) (e : Ev EV) : Ev EV := chkO i (bnd fi fun a => lcRow i vs t c e a)
section
variable {X : Cx} {W : W4} {elt tg a : Expr} {ifs : List Expr} {scope : Scope} {own : List (Str × Nat)} {pos p' px : Pos} {t : Tg} {ix : List Nat} {c : Ev Bool} {e fi : Ev EV} {i : Nat} {x : Str}
theorem se_lcRow (hc : X.calm = true) (hN : X.N.Nodup) (hb : SE X W a fi) (hs1 : PlainIx a) (ok : BlkOk X.N X.env.scope scope own) (hix : ∀ j ∈ ix, j ∈ own.map (·.2))
    (hg : ∀ (s : Shared) (H : Hp) (C : Addr) (cl : List (Str × Addr)) (fp : List Addr), SG (X.blk s H scope (compEnvC scope cl C X.env) fp) tg ix t) (ht : ∀ (s : Shared) (H : Hp) (C : Addr) (cl : List (Str × Addr)) (fp : List Addr), STs (X.blk s H scope (compEnvC scope cl C X.env) fp) W0 ifs c)
    (he : ∀ (s : Shared) (H : Hp) (C : Addr) (cl : List (Str × Addr)) (fp : List Addr), SE (X.blk s H scope (compEnvC scope cl C X.env) fp) W0 elt e)
    (hNx : X.N[i]? = some x := by rfl) (hv : Vis X.env.scope x := by first | exact Or.inl rfl | exact Or.inr (Or.inl rfl) | exact Or.inr (Or.inr rfl)) (hd : (x == ("__debug__" : Str)) = false := by decide) (hcd : (x == ("__classdict__" : Str)) = false := by decide)
    (hs : ∀ v, foldedSetIterable (.Subscript (.Name x px) a p') X.env v = pure v := by intro _; rfl) :
    SE X W (.ListComp elt [⟨tg, .Subscript (.Name x px) a p', ifs, 0⟩] scope pos) (vLcRow i fi (own.map (·.2)) t c e) := by
  refine peW (pe_lc (g := tgR X.K ix t) (tt := tB X.K X.mg W0 c) (te := tE X.K X.mg W0 e) hc hN (pi_list (pe_ix ix_list (pe_var hNx hv hd hcd) hb hs1)) ok hg ht he hs) fun σ H Q ⟨r, G, S, h⟩ => ?_
  obtain ⟨ad, sv, h⟩ := chkO_ok S h
  refine ⟨_, sv, ?_⟩
  refine into upE S A0.self h fun ev r1 v G1 H1 S1 a1 st1 e1 h1 => ?_
  unfold lcRow at h1
  split at h1
  · rename_i p xss j xs e2
    obtain ⟨eg, bs, b, vs, k, ha, rfl, hk, hbj, nd, rr, hbv, rl, _⟩ := row_ok S1 sv e2 e1
    refine ⟨ad, _, k, _, rfl, rfl, .of ha, hk, ?_⟩
    have hi : i < r1.length := get_lt (by rw [eg]; exact fun z => nomatch z)
    have bd : Body X.K G1 H1 ad (.ll xss) := ⟨bs, ha, nd, rr⟩
    have fb : Foot H1 ad (.ll xss) b := .inr ⟨_, ha, List.mem_map_of_mem (List.mem_of_getElem? hbj)⟩
    have nb := hid_away S1 eg sv bd fb
    obtain ⟨Sh, oh⟩ := S1.forget (r' := r1.set i .un) (σ' := σ) (by rw [List.length_set]; exact S1.len) fun j => by
      rw [get_set]
      by_cases z : i = j
      · rw [if_pos ⟨z, hi⟩]; exact .inl rfl
      · rw [if_neg (fun q => z q.1)]; exact .inr ⟨rfl, rfl⟩
    have P : Post (rpE X.K σ) X.K X.mg W (A0 (r1.set i .un) σ H1) (r1.set i .un) G1 σ H1 Q (lcX (own.map (·.2)) t c e xs (r1.set i .un)) := by
      split at h1
      · rename_i ys r' e5
        rw [e5]
        by_cases u : isUn (get r' i) = true
        · rw [if_pos u] at h1
          have u : get r' i = .un := by
            cases z : get r' i with
            | un => rfl
            | v m => rw [z] at u; cases u
            | o p b => rw [z] at u; cases u
          intro v G2 H2 S2 st2 er
          obtain ⟨up, S3, st3, nn⟩ := unhide S1 eg S2 st2 u
          obtain ⟨D, ed, bx, ff⟩ := er
          exact h1 v G2 H2 S3 (st3.mono a1) ⟨D, ed, bx, fun c f => ⟨(nn c (ff c f)).1, a1 c (nn c (ff c f)).2⟩⟩
        · rw [if_neg u] at h1; exact h1.elim
      · exact h1.elim
    refine ⟨b, rfl, ⟨vs, .of hbv⟩, fun D hD => lc_core2 hix Sh (fun _ z => z) (fun r2 G2 H2 S2 st2 => ?_) P D hD⟩
    have hb2 : H2 b = some (.lst vs) := st2.keep b _ hbv nb
    have rl2 := rl.mono st2.grow
    refine ⟨fun q hq => ?_, ⟨vs, .of hb2, by rw [← rl2.len]; exact Nat.le_refl _⟩⟩
    obtain ⟨y, m, hy, hm, rp⟩ := sqK_len (a := b) rl2 hq
    refine ⟨⟨vs, y, .of hb2, hy⟩, fun x H3 z => ?_⟩
    obtain ⟨z1, z2⟩ := z
    subst z1
    have z3 := z2 vs (.of hb2)
    rw [hy] at z3; cases z3
    exact ⟨G2, m, S2, .refl A0.self, hm, rp⟩
  · exact h1.elim
end
@[simp] theorem a_lcRow {r : Ro} {i : Nat} {vs : List Nat} {t : Tg} {c : Ev Bool} {e : Ev EV} {fi : Ev EV} : vLcRow i fi vs t c e r = chkO i (bnd fi fun a => lcRow i vs t c e a) r := rfl
/-- what is walked is a row -/
theorem wp_lcRow {E : QX} {r : Ro} {i j : Nat} {vs : List Nat} {t : Tg} {c : Ev Bool} {e : Ev EV} {a : EV} {p : Pin} {xss : List (List M)} {xs : List M} {Q : EV → Ro → Prop} (h : rowE (get r i) a = some (p, xss, j, xs))
    (k : wp (fun ev r' => ∃ ys, ev = .tmp (.l ys) ∧ isUn (get r' i) = true ∧ Q ev (r'.set i (.o p (.ll xss)))) noE (lcX vs t c e xs (r.set i .un))) : wp Q E (lcRow i vs t c e a r) := by
  obtain ⟨ev, r', h1, ys, rfl, h2, h3⟩ := wp_out k
  unfold lcRow
  rw [h]
  show wp Q E (match lcX vs t c e xs (r.set i .un) with
    | .ok (.tmp (.l ys)) r' => if isUn (get r' i) = true then .ok (.tmp (.l ys)) (r'.set i (.o p (.ll xss))) else .bad
    | _ => .bad)
  rw [h1]
  show wp Q E (if isUn (get r' i) = true then .ok (.tmp (.l ys)) (r'.set i (.o p (.ll xss))) else .bad)
  rw [if_pos h2, wp_ok]
  exact h3
end Sx

set_option Elab.async false
set_option linter.all false
set_option maxRecDepth 100000
set_option maxHeartbeats 4000000
/-! SxB: comprehensions of two for. -/
namespace Sx
open PySem L2
def nolk (ss : List Src) : Bool := ss.all fun s => s.lk.isNone
theorem unl_nolk : ∀ {ss : List Src} {r : Ro}, nolk ss = true → unl ss r = r
  | [], _, _ => rfl
  | s :: ss, r, h => by
    unfold nolk at h
    rw [List.all_cons, Bool.and_eq_true] at h
    show unl1 s (unl ss r) = r
    rw [unl_nolk (ss := ss) h.2]
    unfold unl1
    cases e : s.lk with
    | none => rfl
    | some p => rw [e] at h; exact absurd h.1 (by simp)
def lc2F (vs vs1 : List Nat) (t : Tg) (src1 : Ev (List M × List Src)) (t1 : Tg) (c1 : Ev Bool) (e : Ev EV) : List M → Ev (List M)
  | [] => bnd (wipeE vs) fun _ => ret []
  | m :: ms => bnd (wipeE vs) fun _ => bnd (noX (t m)) fun _ => bnd (noX src1) fun p => if nolk p.2 = true then bnd (lcF vs1 t1 c1 e p.1) fun xs => bnd (lc2F vs vs1 t src1 t1 c1 e ms) fun ys => ret (xs ++ ys) else bad
def lc2X (vs vs1 : List Nat) (t : Tg) (src1 : Ev (List M × List Src)) (t1 : Tg) (c1 : Ev Bool) (e : Ev EV) (ms : List M) : Ev EV := fun r0 =>
  if vs.all (fun j => plainS (get r0 j)) = true then match lc2F vs vs1 t src1 t1 c1 e ms r0 with
    | .ok xs r => if xs.length ≤ big then .ok (.tmp xs) (restR vs r0 r) else .bad
    | _ => .bad
  else .bad
def vLcc (vs vs1 : List Nat) (src : Ev (List M × List Src)) (t : Tg) (src1 : Ev (List M × List Src)) (t1 : Tg) (c1 : Ev Bool) (e : Ev EV) : Ev EV := bnd src fun p => brk p.2 (lc2X vs vs1 t src1 t1 c1 e p.1)
theorem wipeR_id {vs : List Nat} {r : Ro} (h : ∀ j ∈ vs, get r j = .un) : wipeR vs r = r := by
  apply List.ext_getElem (by rw [wipeR_len])
  intro j h1 h2
  have g : ∀ {r : Ro} (h : j < r.length), r[j] = get r j := fun {r} h => by
    unfold get
    rw [List.getD_eq_getElem?_getD, List.getElem?_eq_getElem h]
    rfl
  rw [g h1, g h2, get_wipe]
  by_cases m : j ∈ vs
  · rw [if_pos m, h j m]
  · rw [if_neg m]
/-- a list is being made at D -/
structure Cur (K : PySem.W.Frag) (A : Addr → Prop) (R0 : Ro) (G0 : Hp) (σ0 : St) (H0 : Hp) (D : Addr) (acc : List M) (r : Ro) (G : Hp) (σ : St) (H : Hp) : Prop where
  sim : Sim K r G σ H
  step : Step A R0 G0 σ0 H0 r G σ H
  al : ∀ b, A0 r σ H b → A b
  lst : ∃ accV, H D = some (.lst accV) ∧ RepL K G acc accV
  gD : G D = none
  nD : ¬ Own r σ H D
section
variable {K : PySem.W.Frag} {A : Addr → Prop} {R0 r r' : Ro} {G0 G G' : Hp} {σ0 σ σ' : St} {H0 H H' : Hp} {D : Addr} {acc : List M}
theorem Cur.next (c : Cur K A R0 G0 σ0 H0 D acc r G σ H) (S : Sim K r' G' σ' H') (st : Step (A0 r σ H) r G σ H r' G' σ' H') : Cur K A R0 G0 σ0 H0 D acc r' G' σ' H' := by
  obtain ⟨accV, h, rl⟩ := c.lst
  obtain ⟨h1, h2, h3⟩ := Step.stay st h c.gD c.nD
  exact ⟨S, c.step.trans (st.mono c.al), (st.mono c.al).allow' c.al, ⟨accV, h1, rl.mono st.grow⟩, h2, h3⟩
theorem Cur.wiped {vs : List Nat} (c : Cur K A R0 G0 σ0 H0 D acc r G σ H) (cs : vs.all (fun j => canSet (get r j)) = true) : Cur K A R0 G0 σ0 H0 D acc (wipeR vs r) G (wipe σ vs) H :=
  c.next c.sim.wiped.1 (step_wiped c.sim A0.self cs)
theorem Cur.frz {A' : Addr → Prop} {ev : EV} {y : V} {xm : M} (c : Cur K A R0 G0 σ0 H0 D acc r G σ H) (hA : ∀ b, A0 r σ H b → A' b) (hm : ∀ b, A' b → A b) (nG : ¬ A' D) (wk : Wk K A' r G σ H ev y) (q : frz ev r = .ok xm r') : ∃ G', Cur K A R0 G0 σ0 H0 D acc r' G' σ H ∧ Rep K G' xm y ∧ Step A' r G σ H r' G' σ H := by
  obtain ⟨G7, S7, st7, rp7, so7⟩ := frz_ok c.sim hA wk q
  obtain ⟨accV, h, rl⟩ := c.lst
  refine ⟨G7, ⟨S7, c.step.trans (st7.mono hm), (st7.mono hm).allow' c.al, ⟨accV, h, rl.mono st7.grow⟩, ?_, fun z => c.nD (so7 D z)⟩, rp7, st7⟩
  cases z : G7 D with
  | none => rfl
  | some o =>
    rcases st7.gnew D (by rw [z]; exact fun z => nomatch z) with z | z
    · exact absurd c.gD z
    · exact absurd z nG
theorem Cur.push {y : V} {xm : M} {accV : List V} (c : Cur K A R0 G0 σ0 H0 D acc r G σ H) (rp : Rep K G xm y) (aD : A D) (hD : H D = some (.lst accV)) (rl : RepL K G acc accV) : Cur K A R0 G0 σ0 H0 D (acc ++ [xm]) r G σ (upd H D (.lst (accV ++ [y]))) := by
  have S8 := c.sim.beside (o := .lst (accV ++ [y])) c.gD c.nD
  have st8 : Step A R0 G0 σ0 H0 r G σ (upd H D (.lst (accV ++ [y]))) := by
    refine ⟨c.step.grow, fun b o hb nb => ?_, c.step.gnew, fun b z => c.step.onew b (c.sim.own_beside c.nD z), c.step.pin, fun b hb => ?_⟩
    · have z : b ≠ D := fun z => by subst z; exact nb aD
      rw [upd_ne z]; exact c.step.keep b o hb nb
    · by_cases z : b = D
      · subst z; rw [upd_same] at hb; cases hb
      · rw [upd_ne z] at hb; exact c.step.free b hb
  refine ⟨S8, st8, fun b z => ?_, ⟨_, upd_same, rl.app (.one rp)⟩, c.gD, fun z => c.nD (c.sim.own_beside c.nD z)⟩
  rcases z with z | z
  · exact c.al b (.inl (c.sim.own_beside c.nD z))
  · by_cases e : b = D
    · subst e; exact aD
    · rw [upd_ne e] at z; exact c.al b (.inr z)
end
theorem lcF_can {vs : List Nat} {t : Tg} {c : Ev Bool} {e : Ev EV} {ms : List M} {r rE : Ro} {xs : List M} (h : lcF vs t c e ms r = .ok xs rE) : vs.all (fun j => canSet (get r j)) = true := by
  by_cases z : vs.all (fun j => canSet (get r j)) = true
  · exact z
  · have zb : wipeE vs r = .bad := if_neg z
    cases ms with
    | nil =>
      have h : bnd (wipeE vs) (fun _ => ret []) r = .ok xs rE := h
      rw [bnd_bad zb] at h; cases h
    | cons m ms =>
      have h : bnd (wipeE vs) _ r = .ok xs rE := h
      rw [bnd_bad zb] at h; cases h
theorem lc2F_can {vs vs1 : List Nat} {t t1 : Tg} {src1 : Ev (List M × List Src)} {c1 : Ev Bool} {e : Ev EV} {ms : List M} {r rE : Ro} {xs : List M} (h : lc2F vs vs1 t src1 t1 c1 e ms r = .ok xs rE) : vs.all (fun j => canSet (get r j)) = true := by
  by_cases z : vs.all (fun j => canSet (get r j)) = true
  · exact z
  · have zb : wipeE vs r = .bad := if_neg z
    cases ms with
    | nil =>
      have h : bnd (wipeE vs) (fun _ => ret []) r = .ok xs rE := h
      rw [bnd_bad zb] at h; cases h
    | cons m ms =>
      have h : bnd (wipeE vs) _ r = .ok xs rE := h
      rw [bnd_bad zb] at h; cases h
theorem lc2F_wipe {vs vs1 : List Nat} {t t1 : Tg} {src1 : Ev (List M × List Src)} {c1 : Ev Bool} {e : Ev EV} {ms : List M} {r : Ro} (hc : vs.all (fun j => canSet (get r j)) = true) : lc2F vs vs1 t src1 t1 c1 e ms (wipeR vs r) = lc2F vs vs1 t src1 t1 c1 e ms r := by
  have e1 : wipeE vs r = .ok () (wipeR vs r) := if_pos hc
  have hc2 : vs.all (fun j => canSet (get (wipeR vs r) j)) = true := List.all_eq_true.mpr fun j hj => by rw [get_wipe, if_pos hj]; rfl
  have ww : wipeR vs (wipeR vs r) = wipeR vs r := wipeR_id fun j hj => by rw [get_wipe, if_pos hj]
  have e2 : wipeE vs (wipeR vs r) = .ok () (wipeR vs r) := by
    have z : wipeE vs (wipeR vs r) = .ok () (wipeR vs (wipeR vs r)) := if_pos hc2
    rw [z, ww]
  cases ms with
  | nil =>
    show bnd (wipeE vs) _ _ = bnd (wipeE vs) _ _
    rw [bnd_ok e1, bnd_ok e2]
  | cons m ms =>
    show bnd (wipeE vs) _ _ = bnd (wipeE vs) _ _
    rw [bnd_ok e1, bnd_ok e2]
theorem later_wiped {vs : List Nat} {r : Ro} {G : Hp} {σ : St} (hc : vs.all (fun j => canSet (get r j)) = true) : Later r G σ (wipeR vs r) G (wipe σ vs) := ⟨Same.refl _, fun i xs ei => by
  have m : i ∉ vs := fun m => by
    have z := List.all_eq_true.mp hc i m
    rw [ei] at z; cases z
  exact ⟨wipe_out m, by rw [get_wipe, if_neg m]; exact ei⟩⟩
section
variable {X : Cx} {W : W4} {elt tg iter tg1 iter1 : Expr} {ifs1 : List Expr} {scope : Scope} {own : List (Str × Nat)} {pos : Pos} {src src1 : Ev (List M × List Src)} {t t1 : Tg} {ix ix1 : List Nat} {c1 : Ev Bool} {e : Ev EV}
theorem lcc_read {vs vs1 : List Nat} {σ : St} {H : Hp} {Q : VK} (hix : ∀ j ∈ ix, j ∈ vs) (hix1 : ∀ j ∈ ix1, j ∈ vs1) (h11 : ∀ j ∈ vs1, j ∈ vs) (h : tE X.K X.mg W (vLcc vs vs1 src t src1 t1 c1 e) σ H Q) :
    tLc2 (fun σ H Q => ∃ r G, Sim X.K r G σ H ∧ PostI X.K X.mg W r G σ H Q (src r)) (tgR X.K ix t) (tB X.K X.mg W0 (ret true)) (fun σ H Q => ∃ r G, Sim X.K r G σ H ∧ PostI X.K X.mg W0 r G σ H Q (src1 r)) (tgR X.K ix1 t1) (tB X.K X.mg W0 c1) (tE X.K X.mg W0 e) vs vs1 σ H Q := by
  obtain ⟨r, G, S, h⟩ := h
  refine ⟨r, G, S, ?_⟩
  unfold vLcc at h
  cases q : src r with
  | bad => rw [bnd_bad q] at h; exact h
  | ex c m r' => rw [bnd_ex q] at h; exact h
  | ok p r1 =>
    obtain ⟨ms, ss⟩ := p
    rw [bnd_ok q] at h
    intro J G1 H1 S1 lk a1 wl D hD
    have h1 := brkE lk h
    unfold lc2X at h1
    by_cases c0 : vs.all (fun j => plainS (get r1 j)) = true
    · rw [if_pos c0] at h1
      cases q1 : lc2F vs vs1 t src1 t1 c1 e ms r1 with
      | bad => rw [q1] at h1; exact h1.elim
      | ex x m r' => rw [q1] at h1; exact h1.elim
      | ok total rE =>
        rw [q1] at h1
        have h1 : Post (rpE X.K σ) X.K X.mg W (A0 r σ H) r1 G1 σ H1 Q (if total.length ≤ big then .ok (.tmp total) (restR vs r1 rE) else .bad) := h1
        by_cases hbig : total.length ≤ big
        · rw [if_pos hbig] at h1
          have nlock : ∀ j p xs, get r1 j = .o p xs → j ∉ vs := fun j p xs e m => by
            have z := List.all_eq_true.mp c0 j m
            rw [e] at z; cases z
          have cs1 : vs.all (fun j => canSet (get r1 j)) = true := lc2F_can q1
          obtain ⟨Sw, ow⟩ := S1.wiped (vs := vs)
          have aD : A0 r σ H D := a1 D (.inr hD)
          obtain ⟨Cu, hCu⟩ : ∃ Cu : List M → Ro → Hp → St → Hp → Prop, Cu = fun acc r' G' σ' H' => Cur X.K (A0 r σ H) (wipeR vs r1) G1 (wipe σ vs) H1 D acc r' G' σ' H' := ⟨_, rfl⟩
          have cu0 : Cu [] (wipeR vs r1) G1 (wipe σ vs) (upd H1 D (.lst [])) := by
            rw [hCu]
            refine ⟨Sw.fresh hD, step_fresh Sw (fun b z => a1 b (z.imp (ow b) id)) hD, fun b z => ?_, ⟨[], upd_same, rfl⟩, S1.gnone hD, fun z => S1.nown hD (ow D ((Sw.own_up hD).mp z))⟩
            rcases z with z | z
            · exact a1 b (.inl (ow b ((Sw.own_up hD).mp z)))
            · by_cases eb : b = D
              · subst eb; exact aD
              · rw [upd_ne eb] at z; exact a1 b (.inr z)
          refine ⟨fun i n H' => n = ms.length - i ∧ i ≤ ms.length ∧ ∃ r' G' acc rest, Cu acc r' G' (wipe σ vs) H' ∧ (∀ j ∈ vs, get r' j = .un) ∧ Later r1 G1 σ r' G' (wipe σ vs) ∧ lc2F vs vs1 t src1 t1 c1 e (ms.drop i) r' = .ok rest rE ∧ acc ++ rest = total,
            ⟨_, rfl, Nat.zero_le _, wipeR vs r1, G1, [], total, cu0, fun j hj => by rw [get_wipe, if_pos hj], later_wiped cs1, by rw [List.drop_zero, lc2F_wipe cs1]; exact q1, rfl⟩, ?_⟩
          rintro i n H' ⟨rfl, hi, r', G', acc, rest, cu, un, lt, ef, et⟩
          have cs' : vs.all (fun j => canSet (get r' j)) = true := List.all_eq_true.mpr fun j hj => by rw [un j hj]; rfl
          have ew : wipeE vs r' = .ok () r' := by
            have z : wipeE vs r' = .ok () (wipeR vs r') := if_pos cs'
            rw [z, wipeR_id un]
          have cu' := cu
          rw [hCu] at cu'
          obtain ⟨w1, w2⟩ := wl r' G' _ H' cu'.sim lt
          by_cases cl : i < ms.length
          · obtain ⟨go, yl⟩ := w1 i cl
            refine .inr ⟨go, fun H2 => i + 1 ≤ ms.length ∧ ∃ r' G' acc rest, Cu acc r' G' (wipe σ vs) H2 ∧ (∀ j ∈ vs, get r' j = .un) ∧ Later r1 G1 σ r' G' (wipe σ vs) ∧ lc2F vs vs1 t src1 t1 c1 e (ms.drop (i + 1)) r' = .ok rest rE ∧ acc ++ rest = total, fun H2 z => ⟨ms.length - (i + 1), by omega, rfl, z⟩, fun x H2 y => ?_⟩
            obtain ⟨G2, m, S2, st2, em, rp⟩ := yl x H2 y
            have cu2 := cu'.next S2 st2
            have ed : ms.drop i = m :: ms.drop (i + 1) := by
              rw [List.drop_eq_getElem_cons cl]
              congr 1
              rw [List.getElem?_eq_getElem cl] at em
              exact Option.some.inj em
            rw [ed] at ef
            have ef : bnd (wipeE vs) (fun _ => bnd (noX (t m)) fun _ => bnd (noX src1) fun p => if nolk p.2 = true then bnd (lcF vs1 t1 c1 e p.1) fun xs => bnd (lc2F vs vs1 t src1 t1 c1 e (ms.drop (i + 1))) fun ys => ret (xs ++ ys) else bad) r' = .ok rest rE := ef
            rw [bnd_ok ew] at ef
            refine ⟨r', G2, m, S2, rp, ?_⟩
            cases q2 : noX (t m) r' with
            | bad => rw [bnd_bad q2] at ef; cases ef
            | ex x m r3 => rw [bnd_ex q2] at ef; cases ef
            | ok u r4 =>
              rw [bnd_ok q2] at ef
              rw [noX_ok q2]
              intro σ4 G4 H4 S4 st4 l4 o4
              have ws : wipe σ4 vs = wipe σ vs := by
                have z : wipe σ4 vs = wipe (wipe σ vs) vs := wipe_ext l4 fun j hj => o4 j fun z => hj (hix j z)
                rw [z]
                exact wipe_ext (wipe_length σ vs) fun j hj => wipe_out hj
              have cu4 := cu2.next S4 st4
              have lt4 : Later r1 G1 σ r4 G4 σ4 := (lt.trans st2.later).trans st4.later
              refine ⟨ws, r4, G4, S4, ?_⟩
              intro b' G5 H5 S5 st5 eb
              subst eb
              have cu5 := cu4.next S5 st5
              have lt5 := lt4.trans st5.later
              refine iteT ⟨r4, G5, S5, ?_⟩
              cases q3 : noX src1 r4 with
              | bad => rw [bnd_bad q3] at ef; cases ef
              | ex x m r3 => rw [bnd_ex q3] at ef; cases ef
              | ok p r5 =>
                obtain ⟨ms1, ss1⟩ := p
                rw [bnd_ok q3] at ef
                rw [noX_ok q3]
                by_cases nl : nolk ss1 = true
                · have ef : bnd (lcF vs1 t1 c1 e ms1) (fun xs => bnd (lc2F vs vs1 t src1 t1 c1 e (ms.drop (i + 1))) fun ys => ret (xs ++ ys)) r5 = .ok rest rE := by
                    have z : (if nolk ss1 = true then bnd (lcF vs1 t1 c1 e ms1) (fun xs => bnd (lc2F vs vs1 t src1 t1 c1 e (ms.drop (i + 1))) fun ys => ret (xs ++ ys)) else bad) r5 = .ok rest rE := ef
                    rw [if_pos nl] at z
                    exact z
                  intro J1 G6 H6 S6 lk1 a6 wl1
                  obtain ⟨S6', st6, _⟩ := lk1 r5 G6 σ4 H6 S6 (.refl a6)
                  rw [unl_nolk nl] at S6' st6
                  have cu6 := cu5.next S6' st6
                  have lt6 := lt5.trans st6.later
                  cases q4 : lcF vs1 t1 c1 e ms1 r5 with
                  | bad => rw [bnd_bad q4] at ef; cases ef
                  | ex x m r3 => rw [bnd_ex q4] at ef; cases ef
                  | ok xs rI =>
                    rw [bnd_ok q4] at ef
                    cases q5 : lc2F vs vs1 t src1 t1 c1 e (ms.drop (i + 1)) rI with
                    | bad => rw [bnd_bad q5] at ef; cases ef
                    | ex x m r3 => rw [bnd_ex q5] at ef; cases ef
                    | ok ys rF =>
                      rw [bnd_ok q5] at ef
                      cases ef
                      have csA := lcF_can q4
                      have cuA := cu6.wiped csA
                      have ltA : Later r5 G6 σ4 (wipeR vs1 r5) G6 (wipe σ4 vs1) := later_wiped csA
                      refine ⟨fun j n H' => n = ms1.length - j ∧ j ≤ ms1.length ∧ ∃ r' G' acc rest, Cu acc r' G' (wipe σ4 vs1) H' ∧ (∀ i ∈ vs1, get r' i = .un) ∧ Later r5 G6 σ4 r' G' (wipe σ4 vs1) ∧ lcF vs1 t1 c1 e (ms1.drop j) r' = .ok rest rI ∧ acc ++ rest ++ ys = total,
                        ⟨_, rfl, Nat.zero_le _, wipeR vs1 r5, G6, acc, xs, by rw [hCu]; exact cuA, fun j hj => by rw [get_wipe, if_pos hj], ltA, by rw [List.drop_zero, lcF_wipe csA]; exact q4, by rw [List.append_assoc]; exact et⟩, ?_⟩
                      rintro j n HB ⟨rfl, hj, rB, GB, accB, restB, cuB, unB, ltB, efB, etB⟩
                      have csB : vs1.all (fun j => canSet (get rB j)) = true := List.all_eq_true.mpr fun j hj => by rw [unB j hj]; rfl
                      have ewB : wipeE vs1 rB = .ok () rB := by
                        have z : wipeE vs1 rB = .ok () (wipeR vs1 rB) := if_pos csB
                        rw [z, wipeR_id unB]
                      rw [hCu] at cuB
                      obtain ⟨v1, v2⟩ := wl1 rB GB _ HB cuB.sim ltB
                      by_cases clB : j < ms1.length
                      · obtain ⟨goB, ylB⟩ := v1 j clB
                        refine .inr ⟨goB, fun H2 => j + 1 ≤ ms1.length ∧ ∃ r' G' acc rest, Cu acc r' G' (wipe σ4 vs1) H2 ∧ (∀ i ∈ vs1, get r' i = .un) ∧ Later r5 G6 σ4 r' G' (wipe σ4 vs1) ∧ lcF vs1 t1 c1 e (ms1.drop (j + 1)) r' = .ok rest rI ∧ acc ++ rest ++ ys = total, fun H2 z => ⟨ms1.length - (j + 1), by omega, rfl, z⟩, fun x H2 y => ?_⟩
                        obtain ⟨G7, m1, S7, st7, em1, rp1⟩ := ylB x H2 y
                        have cu7 := cuB.next S7 st7
                        have lt7 := ltB.trans st7.later
                        have ed1 : ms1.drop j = m1 :: ms1.drop (j + 1) := by
                          rw [List.drop_eq_getElem_cons clB]
                          congr 1
                          rw [List.getElem?_eq_getElem clB] at em1
                          exact Option.some.inj em1
                        rw [ed1] at efB
                        have efB : bnd (wipeE vs1) (fun _ => bnd (noX (t1 m1)) fun _ => bnd (noX c1) fun b => if b = true then bnd (noX e) (fun ev => bnd (Sx.frz ev) fun x => bnd (lcF vs1 t1 c1 e (ms1.drop (j + 1))) fun xs => ret (x :: xs)) else lcF vs1 t1 c1 e (ms1.drop (j + 1))) rB = .ok restB rI := efB
                        rw [bnd_ok ewB] at efB
                        refine ⟨rB, G7, m1, S7, rp1, ?_⟩
                        cases p2 : noX (t1 m1) rB with
                        | bad => rw [bnd_bad p2] at efB; cases efB
                        | ex x m r3 => rw [bnd_ex p2] at efB; cases efB
                        | ok u r8 =>
                          rw [bnd_ok p2] at efB
                          rw [noX_ok p2]
                          intro σ8 G8 H8 S8 st8 l8 o8
                          have ws8 : wipe σ8 vs1 = wipe σ4 vs1 := by
                            have z : wipe σ8 vs1 = wipe (wipe σ4 vs1) vs1 := wipe_ext l8 fun j hj => o8 j fun z => hj (hix1 j z)
                            rw [z]
                            exact wipe_ext (wipe_length σ4 vs1) fun j hj => wipe_out hj
                          have cu8 := cu7.next S8 st8
                          have lt8 := lt7.trans st8.later
                          -- behind a turn
                          have next : ∀ {r5' : Ro} {G5 : Hp} {H5 : Hp} {acc5 rest5 : List M}, Cur X.K (A0 r σ H) (wipeR vs r1) G1 (wipe σ vs) H1 D acc5 r5' G5 σ8 H5 → Later r5 G6 σ4 r5' G5 σ8 → lcF vs1 t1 c1 e (ms1.drop (j + 1)) r5' = .ok rest5 rI → acc5 ++ rest5 ++ ys = total →
                              j + 1 ≤ ms1.length ∧ ∃ r' G' acc rest, Cu acc r' G' (wipe σ4 vs1) H5 ∧ (∀ i ∈ vs1, get r' i = .un) ∧ Later r5 G6 σ4 r' G' (wipe σ4 vs1) ∧ lcF vs1 t1 c1 e (ms1.drop (j + 1)) r' = .ok rest rI ∧ acc ++ rest ++ ys = total := fun {r5' G5 H5 acc5 rest5} cu5 lt5 f5 e5 => by
                            have cs5 := lcF_can f5
                            have cw := cu5.wiped cs5
                            have lw : Later r5' G5 σ8 (wipeR vs1 r5') G5 (wipe σ8 vs1) := later_wiped cs5
                            rw [ws8] at cw lw
                            exact ⟨clB, wipeR vs1 r5', G5, acc5, rest5, by rw [hCu]; exact cw, fun j hj => by rw [get_wipe, if_pos hj], lt5.trans lw, by rw [lcF_wipe cs5]; exact f5, e5⟩
                          refine ⟨ws8, r8, G8, S8, ?_⟩
                          cases p3 : noX c1 r8 with
                          | bad => rw [bnd_bad p3] at efB; cases efB
                          | ex x m r3 => rw [bnd_ex p3] at efB; cases efB
                          | ok b r9 =>
                            rw [bnd_ok p3] at efB
                            rw [noX_ok p3]
                            intro b' G9 H9 S9 st9 eb
                            subst eb
                            have cu9 := cu8.next S9 st9
                            have lt9 := lt8.trans st9.later
                            cases b with
                            | false =>
                              rw [if_neg Bool.false_ne_true] at efB
                              exact iteF (next cu9 lt9 efB etB)
                            | true =>
                              rw [if_pos rfl] at efB
                              refine iteT ⟨r9, G9, S9, ?_⟩
                              cases p4 : noX e r9 with
                              | bad => rw [bnd_bad p4] at efB; cases efB
                              | ex x m r3 => rw [bnd_ex p4] at efB; cases efB
                              | ok ev r10 =>
                                rw [bnd_ok p4] at efB
                                rw [noX_ok p4]
                                intro y G10 H10 S10 st10 er
                                have cu10 := cu9.next S10 st10
                                have lt10 := lt9.trans st10.later
                                cases p5 : Sx.frz ev r10 with
                                | bad => rw [bnd_bad p5] at efB; cases efB
                                | ex x m r3 => exact (frz_noex p5).elim
                                | ok xm r11 =>
                                  rw [bnd_ok p5] at efB
                                  have nG : ¬ A0 r9 σ8 H9 D := fun z => by
                                    rcases z with z | z
                                    · exact cu9.nD z
                                    · obtain ⟨accV, h, _⟩ := cu9.lst
                                      rw [h] at z; cases z
                                  obtain ⟨G11, cu11, rp11, st11⟩ := cu10.frz (st10.allow A0.self) cu9.al nG er.wk p5
                                  cases p6 : lcF vs1 t1 c1 e (ms1.drop (j + 1)) r11 with
                                  | bad => rw [bnd_bad p6] at efB; cases efB
                                  | ex x m r3 => rw [bnd_ex p6] at efB; cases efB
                                  | ok zs r12 =>
                                    rw [bnd_ok p6] at efB
                                    cases efB
                                    obtain ⟨accV, hD11, rl11⟩ := cu11.lst
                                    have al : accB.length < total.length := by rw [← etB]; simp
                                    refine ⟨accV, hD11, by rw [← rl11.len]; exact Nat.lt_of_lt_of_le al hbig, ?_⟩
                                    refine next (cu11.push rp11 aD hD11 rl11) (lt10.trans st11.later) p6 ?_
                                    rw [← etB]
                                    simp
                      · have ej : j = ms1.length := by omega
                        subst ej
                        rw [List.drop_length] at efB
                        have efB : bnd (wipeE vs1) (fun _ => ret []) rB = .ok restB rI := efB
                        rw [bnd_ok ewB] at efB
                        cases efB
                        have cs5 := lc2F_can q5
                        have cw := cuB.wiped cs5
                        have lw : Later rI GB (wipe σ4 vs1) (wipeR vs rI) GB (wipe (wipe σ4 vs1) vs) := later_wiped cs5
                        have wss : wipe (wipe σ4 vs1) vs = wipe σ vs := by
                          rw [← ws]
                          exact wipe_ext (wipe_length σ4 vs1) fun j hj => wipe_out fun z => hj (h11 j z)
                        rw [wss] at cw lw
                        refine .inl ⟨v2, cl, wipeR vs rI, GB, accB, ys, by rw [hCu]; exact cw, fun j hj => by rw [get_wipe, if_pos hj], (lt6.trans ltB).trans lw, by rw [lc2F_wipe cs5]; exact q5, by rw [← etB]; simp⟩
                · have z : (if nolk ss1 = true then bnd (lcF vs1 t1 c1 e ms1) (fun xs => bnd (lc2F vs vs1 t src1 t1 c1 e (ms.drop (i + 1))) fun ys => ret (xs ++ ys)) else bad) r5 = .ok rest rE := ef
                  rw [if_neg nl] at z
                  cases z
          · have ei : i = ms.length := by omega
            subst ei
            rw [List.drop_length] at ef
            have ef : bnd (wipeE vs) (fun _ => ret []) r' = .ok rest rE := ef
            rw [bnd_ok ew] at ef
            cases ef
            rw [List.append_nil] at et
            subst et
            refine .inl ⟨w2, ?_⟩
            have st := cu'.step
            have S' := cu'.sim
            obtain ⟨accV, hD', rl⟩ := cu'.lst
            have gD := cu'.gD
            have nD := cu'.nD
            have hl : r1.length = rE.length := by
              have z1 := S1.len
              have z2 := S'.len
              rw [wipe_length] at z2
              omega
            have gr : ∀ j, get (restR vs r1 rE) j = if j ∈ vs then get r1 j else get rE j := fun j => get_rest hl
            have pv : ∀ j, j ∈ vs → ∀ p xs, get r1 j ≠ .o p xs := fun j m p xs e => nlock j p xs e m
            have key : ∀ j p xs, get (restR vs r1 rE) j = .o p xs → j ∉ vs ∧ get rE j = .o p xs := fun j p xs e => by
              rw [gr] at e
              by_cases m : j ∈ vs
              · rw [if_pos m] at e; exact absurd e (pv j m p xs)
              · rw [if_neg m] at e; exact ⟨m, e⟩
            have bk : ∀ b, Own (restR vs r1 rE) σ H' b → Own rE (wipe σ vs) H' b := fun b ⟨j, p, xs, a, e1, e2, f⟩ => by
              obtain ⟨m, e3⟩ := key j p xs e1
              exact ⟨j, p, xs, a, e3, (wipe_out m).trans e2, f⟩
            have SF : Sim X.K (restR vs r1 rE) G' σ H' := by
              refine ⟨S'.sub, by rw [restR_len, ← hl]; exact S1.len, fun j m e => ?_, fun j p xs e => ?_, fun j k p q xs ys a a' b e1 e2 s1 s2 => ?_⟩
              · rw [gr] at e
                by_cases mj : j ∈ vs
                · rw [if_pos mj] at e
                  obtain ⟨v, sv, rp⟩ := S1.val j m e
                  exact ⟨v, sv, rp.mono st.grow⟩
                · rw [if_neg mj] at e
                  obtain ⟨v, sv, rp⟩ := S'.val j m e
                  exact ⟨v, (wipe_out mj).symm.trans sv, rp⟩
              · obtain ⟨mj, e3⟩ := key j p xs e
                obtain ⟨a, sv, z⟩ := S'.own j p xs e3
                exact ⟨a, (wipe_out mj).symm.trans sv, z⟩
              · obtain ⟨mj, e3⟩ := key j p xs e1
                obtain ⟨mk, e4⟩ := key k q ys e2
                exact S'.inj j k p q xs ys a a' b e3 e4 ((wipe_out mj).trans s1) ((wipe_out mk).trans s2)
            refine h1 (.ref D) G' H' SF ⟨st.grow, st.keep, st.gnew, fun b z => st.onew b (bk b z), fun j p xs ej nf => ?_, st.free⟩ ⟨D, rfl, ⟨fun c f => by cases f; exact gD, accV, hD', rl⟩, fun c f => by cases f; exact ⟨fun z => nD (bk D z), a1 D (.inr hD)⟩⟩
            have mj := nlock j p xs ej
            obtain ⟨e1, xs1, e2, l1⟩ := st.pin j p xs (by rw [get_wipe, if_neg mj]; exact ej) nf
            exact ⟨rfl, xs1, by rw [gr, if_neg mj]; exact e2, l1⟩
        · rw [if_neg hbig] at h1
          exact h1.elim
    · rw [if_neg c0] at h1
      exact h1.elim
theorem se_lcc {vs1 : List Nat} (hc : X.calm = true) (hN : X.N.Nodup) (hi : SI X W tg iter src) (ok : BlkOk X.N X.env.scope scope own) (hix : ∀ j ∈ ix, j ∈ own.map (·.2)) (hix1 : ∀ j ∈ ix1, j ∈ vs1) (h11 : ∀ j ∈ vs1, j ∈ own.map (·.2))
    (hg : ∀ (s : Shared) (H : Hp) (C : Addr) (cl : List (Str × Addr)) (fp : List Addr), SG (X.blk s H scope (compEnvC scope cl C X.env) fp) tg ix t) (hi1 : ∀ (s : Shared) (H : Hp) (C : Addr) (cl : List (Str × Addr)) (fp : List Addr), SI (X.blk s H scope (compEnvC scope cl C X.env) fp) W0 tg1 iter1 src1)
    (hg1 : ∀ (s : Shared) (H : Hp) (C : Addr) (cl : List (Str × Addr)) (fp : List Addr), SG (X.blk s H scope (compEnvC scope cl C X.env) fp) tg1 ix1 t1) (ht1 : ∀ (s : Shared) (H : Hp) (C : Addr) (cl : List (Str × Addr)) (fp : List Addr), STs (X.blk s H scope (compEnvC scope cl C X.env) fp) W0 ifs1 c1)
    (he : ∀ (s : Shared) (H : Hp) (C : Addr) (cl : List (Str × Addr)) (fp : List Addr), SE (X.blk s H scope (compEnvC scope cl C X.env) fp) W0 elt e) (hs : ∀ x, foldedSetIterable iter X.env x = pure x := by intro _; rfl) (hs1 : ∀ env x, foldedSetIterable iter1 env x = pure x := by intro _ _; rfl) :
    SE X W (.ListComp elt [⟨tg, iter, [], 0⟩, ⟨tg1, iter1, ifs1, 0⟩] scope pos) (vLcc (own.map (·.2)) vs1 src t src1 t1 c1 e) :=
  peW (pe_lc2 (wi1 := fun σ H Q => ∃ r G, Sim X.K r G σ H ∧ PostI X.K X.mg W0 r G σ H Q (src1 r)) (g := tgR X.K ix t) (tt := tB X.K X.mg W0 (ret true)) (g1 := tgR X.K ix1 t1) (tt1 := tB X.K X.mg W0 c1) (te := tE X.K X.mg W0 e) hc hN hi ok h11 hg (fun _ _ _ _ _ => sts_nil) hi1 hg1 ht1 he hs hs1) fun σ H Q h => lcc_read hix hix1 h11 h
theorem ss_setLcc {vs1 : List Nat} {i : Nat} {y : Str} {py spos : Pos} (hc : X.calm = true) (hN : X.N.Nodup) (hy : X.N[i]? = some y) (hyl : X.env.scope.names.lookup y = some .local)
    (hsw : swapsWith (.ListComp elt [⟨tg, iter, [], 0⟩, ⟨tg1, iter1, ifs1, 0⟩] scope pos) (some (.Name y py)) spos.line X.env = pure true) (hi : SI X W tg iter src) (ok : BlkOk X.N X.env.scope scope own) (hix : ∀ j ∈ ix, j ∈ own.map (·.2)) (hix1 : ∀ j ∈ ix1, j ∈ vs1) (h11 : ∀ j ∈ vs1, j ∈ own.map (·.2))
    (hg : ∀ (s : Shared) (H : Hp) (C : Addr) (cl : List (Str × Addr)) (fp : List Addr), SG (X.blk s H scope (compEnvC scope cl C X.env) fp) tg ix t) (hi1 : ∀ (s : Shared) (H : Hp) (C : Addr) (cl : List (Str × Addr)) (fp : List Addr), SI (X.blk s H scope (compEnvC scope cl C X.env) fp) W0 tg1 iter1 src1)
    (hg1 : ∀ (s : Shared) (H : Hp) (C : Addr) (cl : List (Str × Addr)) (fp : List Addr), SG (X.blk s H scope (compEnvC scope cl C X.env) fp) tg1 ix1 t1) (ht1 : ∀ (s : Shared) (H : Hp) (C : Addr) (cl : List (Str × Addr)) (fp : List Addr), STs (X.blk s H scope (compEnvC scope cl C X.env) fp) W0 ifs1 c1)
    (he : ∀ (s : Shared) (H : Hp) (C : Addr) (cl : List (Str × Addr)) (fp : List Addr), SE (X.blk s H scope (compEnvC scope cl C X.env) fp) W0 elt e) (hs : ∀ x, foldedSetIterable iter X.env x = pure x := by intro _; rfl) (hs1 : ∀ env x, foldedSetIterable iter1 env x = pure x := by intro _ _; rfl) :
    SS X W (.Assign [.Name y py] (.ListComp elt [⟨tg, iter, [], 0⟩, ⟨tg1, iter1, ifs1, 0⟩] scope pos) spos) (sAsg i (vLcc (own.map (·.2)) vs1 src t src1 t1 c1 e)) := by
  refine psW (ps_setLc2 (wi1 := fun σ H Q => ∃ r G, Sim X.K r G σ H ∧ PostI X.K X.mg W0 r G σ H Q (src1 r)) (g := tgR X.K ix t) (tt := tB X.K X.mg W0 (ret true)) (g1 := tgR X.K ix1 t1) (tt1 := tB X.K X.mg W0 c1) (te := tE X.K X.mg W0 e) hc hN hy hyl hsw hi ok h11 hg (fun _ _ _ _ _ => sts_nil) hi1 hg1 ht1 he hs hs1) fun D σ H ⟨r, G, S, h⟩ => lcc_read hix hix1 h11 ?_
  refine intoS upE S A0.self h fun ev r1 v G1 H1 S1 a1 st1 e1 h1 => ?_
  obtain ⟨r2, G2, S2, a2, st2, p2⟩ := post_asg S1 a1 e1 h1
  exact p2 _ G2 H1 S2 (.refl a2)
end

/-! ### evaluation -/
section
variable {r : Ro} {i j : Nat} {E : QX}
theorem a_lcc {src : Ev (List M × List Src)} {vs vs1 : List Nat} {t : Tg} {src1 : Ev (List M × List Src)} {t1 : Tg} {c1 : Ev Bool} {e : Ev EV} : vLcc vs vs1 src t src1 t1 c1 e r = (src r).th fun p => brk p.2 (lc2X vs vs1 t src1 t1 c1 e p.1) := by simp only [vLcc, ev_bnd]
theorem wp_lc2F {vs vs1 : List Nat} {t : Tg} {src1 : Ev (List M × List Src)} {t1 : Tg} {c1 : Ev Bool} {e : Ev EV} {Q : List M → Ro → Prop} (I : List M → List M → Ro → Prop)
    (hs : ∀ acc m ms r, I acc (m :: ms) r → wp (fun _ r => wp (fun _ r => wp (fun p r => nolk p.2 = true ∧ wp (fun xs r => I (acc ++ xs) ms r) noE (lcF vs1 t1 c1 e p.1 r)) noE (src1 r)) noE (t m r)) noE (wipeE vs r))
    (hd : ∀ acc r, I acc [] r → wp (fun _ r => Q acc r) noE (wipeE vs r)) : ∀ {ms acc : List M} {r : Ro}, I acc ms r → wp (fun xs r => Q (acc ++ xs) r) noE (lc2F vs vs1 t src1 t1 c1 e ms r)
  | [], acc, r, h => by
    show wp _ _ (bnd (wipeE vs) (fun _ => ret []) r)
    rw [ev_bnd, wp_th]
    refine wp_mono (hd acc r h) (fun _ r1 h1 => ?_) (fun _ _ _ z => z)
    rw [ev_ret, wp_ok, List.append_nil]
    exact h1
  | m :: ms, acc, r, h => by
    show wp _ _ (bnd (wipeE vs) (fun _ => bnd (noX (t m)) fun _ => bnd (noX src1) fun p => if nolk p.2 = true then bnd (lcF vs1 t1 c1 e p.1) fun xs => bnd (lc2F vs vs1 t src1 t1 c1 e ms) fun ys => ret (xs ++ ys) else bad) r)
    rw [ev_bnd, wp_th]
    refine wp_mono (hs acc m ms r h) (fun _ r1 h1 => ?_) (fun _ _ _ z => z)
    rw [ev_bnd, wp_th, wp_noX]
    refine wp_mono h1 (fun _ r2 h2 => ?_) (fun _ _ _ z => z)
    rw [ev_bnd, wp_th, wp_noX]
    refine wp_mono h2 (fun p r3 h3 => ?_) (fun _ _ _ z => z)
    rw [if_pos h3.1, ev_bnd, wp_th]
    refine wp_mono h3.2 (fun xs r4 h4 => ?_) (fun _ _ _ z => z)
    rw [ev_bnd, wp_th]
    refine wp_mono (wp_lc2F I hs hd h4) (fun ys r5 h5 => ?_) (fun _ _ _ z => z)
    rw [ev_ret, wp_ok, ← List.append_assoc]
    exact h5
/-- two own names, what is gathered tells nothing but what is walked -/
theorem wp_lcc {src1 : Ev (List M × List Src)} {c1 : Ev Bool} {e : Ev EV} {ms : List M} {Q : EV → Ro → Prop} (f : M → List M) (g : M → M → Option M) (hij : i ≠ j) (hi : i < r.length) (hj : j < r.length) (pi : plainS (get r i) = true) (pj : plainS (get r j) = true)
    (hs1 : ∀ m ∈ ms, wp (fun p r' => r' = (r.set i (.v m)).set j .un ∧ nolk p.2 = true ∧ p.1 = f m) noE (src1 ((r.set i (.v m)).set j .un)))
    (he : ∀ m ∈ ms, ∀ y ∈ f m, wp (fun b r' => r' = (r.set i (.v m)).set j (.v y) ∧ if b = true then wp (fun ev r2 => wp (fun x r3 => g m y = some x ∧ r3 = (r.set i (.v m)).set j (.v y)) noE (frz ev r2)) noE (e ((r.set i (.v m)).set j (.v y))) else g m y = none) noE (c1 ((r.set i (.v m)).set j (.v y))))
    (hl : (ms.flatMap fun m => (f m).filterMap (g m)).length ≤ big)
    (k : Q (.tmp (ms.flatMap fun m => (f m).filterMap (g m))) r) : wp Q E (lc2X [i, j] [j] (tName i) src1 (tName j) c1 e ms r) := by
  have g1 : ∀ s u, get ((r.set i s).set j u) i = s := fun s u => by rw [gs0 (Ne.symm hij), gs1 hi]
  have g2 : ∀ s u, get ((r.set i s).set j u) j = u := fun s u => by rw [gs1 (by simpa using hj)]
  have s0 : (r.set i (get r i)).set j (get r j) = r := ro_ext (by simp) fun k => by
    by_cases h2 : j = k
    · subst h2; rw [g2]
    · rw [gs0 h2]
      by_cases h1 : i = k
      · subst h1; rw [gs1 hi]
      · rw [gs0 h1]
  have sw : ∀ s u, (((r.set i s).set j u).set j .un).set i .un = (r.set i .un).set j .un := fun s u => ro_ext (by simp) fun k => by
    by_cases h1 : i = k
    · subst h1
      rw [gs1 (by simpa using hi), gs0 (Ne.symm hij), gs1 hi]
    · rw [gs0 h1]
      by_cases h2 : j = k
      · subst h2
        rw [gs1 (by simpa using hj), gs1 (by simpa using hj)]
      · rw [gs0 h2, gs0 h2, gs0 h1, gs0 h2, gs0 h1]
  have sb : (((r.set i .un).set j .un).set j (get r j)).set i (get r i) = r := ro_ext (by simp) fun k => by
    by_cases h1 : i = k
    · subst h1
      rw [gs1 (by simpa using hi)]
    · rw [gs0 h1]
      by_cases h2 : j = k
      · subst h2
        rw [gs1 (by simpa using hj)]
      · rw [gs0 h2, gs0 h2, gs0 h1]
  have z1 : ∀ m, tName i m ((r.set i .un).set j .un) = .ok () ((r.set i (.v m)).set j .un) := fun m => by
    rw [tName_ok (by simpa using hi) (by rw [g1]; rfl)]
    congr 1
    exact ro_ext (by simp) fun k => by
      by_cases h1 : i = k
      · subst h1
        rw [gs1 (by simpa using hi), g1]
      · rw [gs0 h1]
        by_cases h2 : j = k
        · subst h2
          rw [g2, g2]
        · rw [gs0 h2, gs0 h2, gs0 h1, gs0 h1]
  have h := wp_lc2F (vs := [i, j]) (vs1 := [j]) (t := tName i) (src1 := src1) (t1 := tName j) (c1 := c1) (e := e) (Q := fun xs r1 => xs = (ms.flatMap fun m => (f m).filterMap (g m)) ∧ r1 = (r.set i .un).set j .un) (ms := ms) (acc := []) (r := r)
    (fun acc ms' r' => ∃ s u done, r' = (r.set i s).set j u ∧ canSet s = true ∧ canSet u = true ∧ ms = done ++ ms' ∧ acc = done.flatMap fun m => (f m).filterMap (g m)) ?_ ?_ ⟨get r i, get r j, [], s0.symm, plain_can pi, plain_can pj, rfl, rfl⟩
  · unfold lc2X
    rw [if_pos (by simp [pi, pj])]
    obtain ⟨xs, r1, e1, h1, rfl⟩ := wp_out h
    rw [List.nil_append] at h1
    subst h1
    rw [e1]
    show wp Q E (if (ms.flatMap fun m => (f m).filterMap (g m)).length ≤ big then .ok (.tmp (ms.flatMap fun m => (f m).filterMap (g m))) (restR [i, j] r ((r.set i .un).set j .un)) else .bad)
    rw [if_pos hl, wp_ok]
    have e2 : restR [i, j] r ((r.set i .un).set j .un) = r := sb
    rw [e2]
    exact k
  · rintro acc m ms' r' ⟨s, u, done, rfl, hs, hu, hd, rfl⟩
    have hm : m ∈ ms := by rw [hd]; simp
    rw [wp_wipe]
    refine ⟨by simp [g1, g2, hs, hu], ?_⟩
    have e1 : wipeR [i, j] ((r.set i s).set j u) = (r.set i .un).set j .un := sw s u
    rw [e1, z1, wp_ok]
    refine wp_mono (hs1 m hm) (fun p r2 h2 => ?_) (fun _ _ _ z => z)
    obtain ⟨rfl, h2, h3⟩ := h2
    refine ⟨h2, ?_⟩
    rw [h3]
    refine wp_mono (wp_lcF (Q := fun xs r1 => xs = (f m).filterMap (g m) ∧ r1 = (r.set i (.v m)).set j .un) (fun acc ms' r' => ∃ u done, r' = (r.set i (.v m)).set j u ∧ canSet u = true ∧ f m = done ++ ms' ∧ acc = done.filterMap (g m)) ?_ ?_ (acc := []) ⟨.un, [], rfl, rfl, rfl, rfl⟩) (fun xs r1 h4 => ?_) (fun _ _ _ z => z)
    · rintro acc y ys r' ⟨u, dn, rfl, hu, hd2, rfl⟩
      have hy : y ∈ f m := by rw [hd2]; simp
      rw [wp_wipe]
      refine ⟨by simp [g2, hu], ?_⟩
      have e2 : wipeR [j] ((r.set i (.v m)).set j u) = (r.set i (.v m)).set j .un := by show (((r.set i (.v m)).set j u).set j .un) = _; rw [List.set_set]
      rw [e2]
      have e3 : tName j y ((r.set i (.v m)).set j .un) = .ok () ((r.set i (.v m)).set j (.v y)) := by
        rw [tName_ok (by simpa using hj) (by rw [g2]; rfl), List.set_set]
      rw [e3, wp_ok]
      refine wp_mono (he m hm y hy) (fun b r1 h1 => ?_) (fun _ _ _ z => z)
      obtain ⟨rfl, h1⟩ := h1
      cases b with
      | false =>
        rw [if_neg Bool.false_ne_true] at h1 ⊢
        refine ⟨.v y, dn ++ [y], rfl, rfl, by rw [hd2]; simp, ?_⟩
        rw [List.filterMap_append]
        simp [h1]
      | true =>
        rw [if_pos rfl] at h1 ⊢
        refine wp_mono h1 (fun ev r2 h2 => ?_) (fun _ _ _ z => z)
        refine wp_mono h2 (fun x r3 h3 => ?_) (fun _ _ _ z => z)
        obtain ⟨h3, rfl⟩ := h3
        refine ⟨.v y, dn ++ [y], rfl, rfl, by rw [hd2]; simp, ?_⟩
        rw [List.filterMap_append]
        simp [h3]
    · rintro acc r' ⟨u, dn, rfl, hu, hd2, rfl⟩
      rw [wp_wipe]
      refine ⟨by simp [g2, hu], ?_, ?_⟩
      · rw [hd2, List.append_nil]
      · show (((r.set i (.v m)).set j u).set j .un) = _
        rw [List.set_set]
    · obtain ⟨h5, rfl⟩ := h4
      rw [List.nil_append] at h5
      subst h5
      refine ⟨.v m, .un, done ++ [m], rfl, rfl, rfl, by rw [hd]; simp, ?_⟩
      rw [List.flatMap_append]
      simp
  · rintro acc r' ⟨s, u, done, rfl, hs, hu, hd, rfl⟩
    rw [wp_wipe]
    refine ⟨by simp [g1, g2, hs, hu], ?_, sw s u⟩
    rw [hd, List.append_nil]
end
end Sx

set_option Elab.async false
set_option linter.all false
set_option maxRecDepth 100000
set_option maxHeartbeats 8000000
namespace G
open PySem L2 Sx
def topS (i : Nat) : Stmt := PySem.Challenge.pw_wordsworth_k71_looking_ahead.main.body.getD i (.Pass ⟨0, 0, 0, 0⟩)
abbrev s_p_step_at : Stmt := topS 1
abbrev s_p_idle_service : Stmt := topS 3
abbrev s_p_steps_along : Stmt := topS 4
abbrev s_p_number_for : Stmt := topS 5
abbrev s_p_look_step : Stmt := topS 6
abbrev s_p_look_case : Stmt := topS 7
abbrev s_box : Stmt := topS 9
abbrev s_take : Stmt := topS 10
abbrev s_pick : Stmt := topS 11
abbrev s_same : Stmt := topS 12
abbrev s_closed : Stmt := topS 13
abbrev s_service : Stmt := topS 14
abbrev s_book : Stmt := topS 15
abbrev s_case : Stmt := topS 16
abbrev s_along : Stmt := topS 17
abbrev s_look : Stmt := topS 18
abbrev s_law : Stmt := topS 19
def rs : List String := []
/-- what the written part of the text says -/
structure Tx (P : Program) (K : PySem.W.Frag) (mg : Str → Option Value) : Prop where
  n_abs : mg "abs" = none
  n_bool : mg "bool" = none
  n_int : mg "int" = none
  n_isinstance : mg "isinstance" = none
  n_len : mg "len" = none
  n_list : mg "list" = none
  n_min : mg "min" = none
  n_range : mg "range" = none
  n_str : mg "str" = none
  n_tuple : mg "tuple" = none
  n_zip : mg "zip" = none
  d_p_step_at : Df K mg "step_at" s_p_step_at ["book", "room", "sign"]
  d_p_idle_service : Df K mg "idle_service" s_p_idle_service ["service"]
  d_p_steps_along : Df K mg "steps_along" s_p_steps_along ["book", "room", "signs"]
  d_p_number_for : Df K mg "number_for" s_p_number_for ["numbers", "state"]
  d_p_look_step : Df K mg "look_step" s_p_look_step ["book", "idle", "many", "numbers", "state", "sign"]
  d_p_look_case : Df K mg "look_case" s_p_look_case ["whole", "many"]
  ee_p_look_case : DfK2 K mg "look_case" s_p_look_case ["whole", "many"] ["many", "whole"]
  d_box : Df K mg "_law_box" s_box ["script", "k"]
  d_take : Df K mg "_law_take" s_take ["box", "many"]
  d_pick : Df K mg "_law_pick" s_pick ["box", "some"]
  d_same : Df K mg "_law_same" s_same ["told", "due"]
  d_closed : Df K mg "_law_closed" s_closed ["rows"]
  d_service : Df K mg "_law_service" s_service ["box", "many", "tasks", "price", "cost"]
  d_book : Df K mg "_law_book" s_book ["box", "rooms", "signs", "tasks", "wrong"]
  d_case : Df K mg "_law_case" s_case ["box", "rooms", "signs", "price", "cost"]
  d_along : Df K mg "_law_along" s_along ["book", "room", "signs"]
  d_look : Df K mg "_law_look" s_look ["whole", "many"]
  d_law : Df K mg "law" s_law ["script"]
section
variable {P : Program} {w : World} {K : PySem.W.Frag} {mg : Str → Option Value} {base : Heap}
/-! ### step_at -/
theorem sc_p_step_at : FnScope ["book", "room", "sign"] ["book", "room", "sign"] (defScope s_p_step_at) := ⟨rfl, rfl, rfl, by decide +kernel, rfl, by decide +kernel, by decide +kernel⟩
noncomputable def b_p_step_at : Ev Fl :=
  (sRet (vIf (tst (v2 gLt (vVar 2) (vC (on1 gLen) (vCons (v2 gIx (vVar 0) (vVar 1)) vNil)))) (v2 gIx (v2 gIx (vVar 0) (vVar 1)) (vVar 2)) (vLit .non)))
noncomputable def m_p_step_at : Fn := fnR 3 3 b_p_step_at
theorem o_p_step_at (T : Tx P K mg) {f : Addr} {fd : FuncData} (F : Fun K "step_at" "step_at" s_p_step_at f fd) : FnOk P w K mg base (L2.CX P w) 1 f fd ["book", "room", "sign"] (spF K mg 3 m_p_step_at) :=
  fn_sx F sc_p_step_at rfl fun cdv A outer s H E hr tk =>
    (ss_one (ss_ret (se_if (st_c c_lt (se_name 2) (se_callB (call_len_seq.or (call_len_dict (hu65 hr))) imp_len rfl T.n_len (by decide +kernel) (sa_cons (se_ix (hu65 hr) (se_name 0) (se_name 1) (fun _ _ => rfl)) sa_nil)) rfl) (se_ix (hu65 hr) (se_ix (hu65 hr) (se_name 0) (se_name 1) (fun _ _ => rfl)) (se_name 2) (fun _ _ => rfl)) se_non)))
theorem c_p_step_at (T : Tx P K mg) : CalS P w K mg base 1 "step_at" 3 m_p_step_at := cal_mk T.d_p_step_at fun f fd F => o_p_step_at T F
/-! ### idle_service -/
theorem sc_p_idle_service : FnScope ["service", "prices", "costs"] ["service"] (defScope s_p_idle_service) := ⟨rfl, rfl, rfl, by decide +kernel, rfl, by decide +kernel, by decide +kernel⟩
noncomputable def b_p_idle_service : Ev Fl :=
  (sSeq (sAsgT (tTup [(tName 1), (tName 2)]) (vVar 0))
  (sRet (vTup (vCons (vVar 1) (vCons (v2 gAdd (vVar 2) (vTup (vCons (v2 gMulU (vTup (vCons (vLit (.int 0)) vNil)) (vC (on1 gLen) (vCons (vVar 1) vNil))) vNil))) vNil)))))
noncomputable def m_p_idle_service : Fn := fnR 1 3 b_p_idle_service
theorem o_p_idle_service (T : Tx P K mg) {f : Addr} {fd : FuncData} (F : Fun K "idle_service" "idle_service" s_p_idle_service f fd) : FnOk P w K mg base (L2.CX P w) 1 f fd ["service"] (spF K mg 1 m_p_idle_service) :=
  fn_sx F sc_p_idle_service rfl fun cdv A outer s H E hr tk =>
    (ss_cons (ss_asg (se_name 0) (sg_tup rfl (sgs_cons (sg_name (i := 1) sc_p_idle_service.nd rfl (Or.inl rfl)) (sgs_cons (sg_name (i := 2) sc_p_idle_service.nd rfl (Or.inl rfl)) sgs_nil))))
    (ss_one (ss_ret (se_tup (sa_cons (se_name 1) (sa_cons (se_add (se_name 2) (se_tup (sa_cons (se_mulU (se_tup (sa_cons se_int sa_nil)) (se_callB (call_len_seq.or (call_len_dict (hu65 hr))) imp_len rfl T.n_len (by decide +kernel) (sa_cons (se_name 1) sa_nil))) sa_nil))) sa_nil))))))
theorem c_p_idle_service (T : Tx P K mg) : CalS P w K mg base 1 "idle_service" 1 m_p_idle_service := cal_mk T.d_p_idle_service fun f fd F => o_p_idle_service T F
/-! ### number_for -/
theorem sc_p_number_for : FnScope ["numbers", "state"] ["numbers", "state"] (defScope s_p_number_for) := ⟨rfl, rfl, rfl, by decide +kernel, rfl, by decide +kernel, by decide +kernel⟩
noncomputable def b_p_number_for : Ev Fl :=
  (sSeq (sIf (tst (v2 gNotIn (vVar 1) (vVar 0))) (sSetI 0 (vVar 1) (vC (on1 gLen) (vCons (vVar 0) vNil))) sNx)
  (sRet (v2 gIx (vVar 0) (vVar 1))))
noncomputable def m_p_number_for : Fn := fnR 2 2 b_p_number_for
theorem o_p_number_for (T : Tx P K mg) {f : Addr} {fd : FuncData} (F : Fun K "number_for" "number_for" s_p_number_for f fd) : FnOk P w K mg base (L2.CX P w) 1 f fd ["numbers", "state"] (spF K mg 2 m_p_number_for) :=
  fn_sx F sc_p_number_for rfl fun cdv A outer s H E hr tk =>
    (ss_cons (ss_if (st_c (c_notIn (hu65 hr)) (se_name 1) (se_name 0) rfl) (ss_one (ss_setI (i := 0) (hu65 hr) (se_callB (call_len_seq.or (call_len_dict (hu65 hr))) imp_len rfl T.n_len (by decide +kernel) (sa_cons (se_name 0) sa_nil)) (se_name 1))) ss_nil)
    (ss_one (ss_ret (se_ix (hu65 hr) (se_name 0) (se_name 1) (fun _ _ => rfl)))))
theorem c_p_number_for (T : Tx P K mg) : CalS P w K mg base 1 "number_for" 2 m_p_number_for := cal_mk T.d_p_number_for fun f fd F => o_p_number_for T F
/-! ### _law_box -/
theorem sc_box : FnScope ["script", "k", "cell", "great"] ["script", "k"] (defScope s_box) := ⟨rfl, rfl, rfl, by decide +kernel, rfl, by decide +kernel, by decide +kernel⟩
noncomputable def b_box : Ev Fl :=
  (sSeq (sAsg 2 (v2 gAdd (v2 gMul (vLit (.int 7919)) (vVar 1)) (vLit (.int 1931))))
  (sSeq (sIf (tst (v2 gLt (vVar 1) (vC (on1 gLen) (vCons (vVar 0) vNil)))) (sAsg 2 (vC (on1 gAbs) (vCons (vC (on1 gInt1) (vCons (v2 gIx (vVar 0) (vVar 1)) vNil)) vNil))) (sIf (tst (v2 gGt (vC (on1 gLen) (vCons (vVar 0) vNil)) (vLit (.int 0)))) (sAsg 2 (v2 gAdd (vVar 2) (v2 gMul (v2 gMod (vC (on1 gInt1) (vCons (vC (on1 gAbs) (vCons (vC (on1 gInt1) (vCons (v2 gIx (vVar 0) (v2 gMod (vC (on1 gInt1) (vCons (vVar 1) vNil)) (vC (on1 gLen) (vCons (vVar 0) vNil)))) vNil)) vNil)) vNil)) (vLit (.int 2147483563))) (vLit (.int 48271))))) sNx))
  (sSeq (sAsg 3 (vIf (tst (v2 gGe (vVar 2) (v2 gPow (vLit (.int 10)) (vLit (.int 18))))) (vVar 2) (vLit (.int 0))))
  (sRet (vLst (vCons (vVar 3) (vCons (v2 gAdd (v2 gMod (vC (on1 gInt1) (vCons (v2 gAdd (v2 gMul (v2 gMod (vC (on1 gInt1) (vCons (vVar 2) vNil)) (vLit (.int 2147483563))) (vLit (.int 40014))) (v2 gMul (vLit (.int 1931)) (vVar 1))) vNil)) (vLit (.int 2147483563))) (vLit (.int 1))) vNil)))))))
noncomputable def m_box : Fn := fnR 2 4 b_box
theorem o_box (T : Tx P K mg) {f : Addr} {fd : FuncData} (F : Fun K "_law_box" "_law_box" s_box f fd) : FnOk P w K mg base (L2.CX P w) 1 f fd ["script", "k"] (spF K mg 2 m_box) :=
  fn_sx F sc_box rfl fun cdv A outer s H E hr tk =>
    (ss_cons (ss_set (i := 2) sc_box.nd rfl (Or.inl rfl) (se_add (se_mul se_int (se_name 1)) se_int))
    (ss_cons (ss_if (st_c c_lt (se_name 1) (se_callB (call_len_seq.or (call_len_dict (hu65 hr))) imp_len rfl T.n_len (by decide +kernel) (sa_cons (se_name 0) sa_nil)) rfl) (ss_one (ss_set (i := 2) sc_box.nd rfl (Or.inl rfl) (se_callB call_abs imp_abs rfl T.n_abs (by decide +kernel) (sa_cons (se_callT call_int1 imp_int1 rfl T.n_int (by decide +kernel) (sa_cons (se_ix (hu65 hr) (se_name 0) (se_name 1) (fun _ _ => rfl)) sa_nil)) sa_nil)))) (ss_one (ss_if (st_c c_gt (se_callB (call_len_seq.or (call_len_dict (hu65 hr))) imp_len rfl T.n_len (by decide +kernel) (sa_cons (se_name 0) sa_nil)) se_int rfl) (ss_one (ss_set (i := 2) sc_box.nd rfl (Or.inl rfl) (se_add (se_name 2) (se_mul (se_mod (se_callT call_int1 imp_int1 rfl T.n_int (by decide +kernel) (sa_cons (se_callB call_abs imp_abs rfl T.n_abs (by decide +kernel) (sa_cons (se_callT call_int1 imp_int1 rfl T.n_int (by decide +kernel) (sa_cons (se_ix (hu65 hr) (se_name 0) (se_mod (se_callT call_int1 imp_int1 rfl T.n_int (by decide +kernel) (sa_cons (se_name 1) sa_nil)) (se_callB (call_len_seq.or (call_len_dict (hu65 hr))) imp_len rfl T.n_len (by decide +kernel) (sa_cons (se_name 0) sa_nil))) (fun _ _ => rfl)) sa_nil)) sa_nil)) sa_nil)) se_int) se_int)))) ss_nil)))
    (ss_cons (ss_set (i := 3) sc_box.nd rfl (Or.inl rfl) (se_if (st_c c_ge (se_name 2) (se_pow se_int se_int) rfl) (se_name 2) se_int))
    (ss_one (ss_ret (se_lst (sa_cons (se_name 3) (sa_cons (se_add (se_mod (se_callT call_int1 imp_int1 rfl T.n_int (by decide +kernel) (sa_cons (se_add (se_mul (se_mod (se_callT call_int1 imp_int1 rfl T.n_int (by decide +kernel) (sa_cons (se_name 2) sa_nil)) se_int) se_int) (se_mul se_int (se_name 1))) sa_nil)) se_int) se_int) sa_nil))))))))
theorem c_box (T : Tx P K mg) : CalS P w K mg base 1 "_law_box" 2 m_box := cal_mk T.d_box fun f fd F => o_box T F
/-! ### _law_take -/
theorem sc_take : FnScope ["box", "many", "digit", "raw"] ["box", "many"] (defScope s_take) := ⟨rfl, rfl, rfl, by decide +kernel, rfl, by decide +kernel, by decide +kernel⟩
noncomputable def b_take : Ev Fl :=
  (sSeq (sIf (tst (v2 gGt (v2 gIx (vVar 0) (vLit (.int 0))) (vLit (.int 0)))) (sSeq (sAsg 2 (v2 gMod (vC (on1 gInt1) (vCons (v2 gIx (vVar 0) (vLit (.int 0))) vNil)) (vVar 1)))
  (sSeq (sSetI 0 (vLit (.int 0)) (v2 gFdiv (v2 gIx (vVar 0) (vLit (.int 0))) (vVar 1)))
  (sRet (vVar 2)))) sNx)
  (sSeq (sAsg 3 (v2 gMod (vC (on1 gInt1) (vCons (v2 gAdd (v2 gMul (v2 gIx (vVar 0) (vLit (.int 1))) (vLit (.int 39373))) (vLit (.int 982))) vNil)) (vLit (.int 2147483647))))
  (sSeq (sSetI 0 (vLit (.int 1)) (v2 gAdd (v2 gMod (vC (on1 gInt1) (vCons (v2 gAdd (v2 gMul (vVar 3) (vLit (.int 40692))) (vLit (.int 88))) vNil)) (vLit (.int 2147483399))) (vLit (.int 1))))
  (sRet (v2 gMod (vC (on1 gInt1) (vCons (v2 gFdiv (v2 gAdd (v2 gMul (vVar 3) (vLit (.int 2147483629))) (v2 gIx (vVar 0) (vLit (.int 1)))) (vLit (.int 8209))) vNil)) (vVar 1))))))
noncomputable def m_take : Fn := fnR 2 4 b_take
theorem o_take (T : Tx P K mg) {f : Addr} {fd : FuncData} (F : Fun K "_law_take" "_law_take" s_take f fd) : FnOk P w K mg base (L2.CX P w) 1 f fd ["box", "many"] (spF K mg 2 m_take) :=
  fn_sx F sc_take rfl fun cdv A outer s H E hr tk =>
    (ss_cons (ss_if (st_c c_gt (se_ix (hu65 hr) (se_name 0) se_int (fun _ _ => rfl)) se_int rfl) (ss_cons (ss_set (i := 2) sc_take.nd rfl (Or.inl rfl) (se_mod (se_callT call_int1 imp_int1 rfl T.n_int (by decide +kernel) (sa_cons (se_ix (hu65 hr) (se_name 0) se_int (fun _ _ => rfl)) sa_nil)) (se_name 1)))
    (ss_cons (ss_setI (i := 0) (hu65 hr) (se_fdiv (se_ix (hu65 hr) (se_name 0) se_int (fun _ _ => rfl)) (se_name 1)) se_int)
    (ss_one (ss_ret (se_name 2))))) ss_nil)
    (ss_cons (ss_set (i := 3) sc_take.nd rfl (Or.inl rfl) (se_mod (se_callT call_int1 imp_int1 rfl T.n_int (by decide +kernel) (sa_cons (se_add (se_mul (se_ix (hu65 hr) (se_name 0) se_int (fun _ _ => rfl)) se_int) se_int) sa_nil)) se_int))
    (ss_cons (ss_setI (i := 0) (hu65 hr) (se_add (se_mod (se_callT call_int1 imp_int1 rfl T.n_int (by decide +kernel) (sa_cons (se_add (se_mul (se_name 3) se_int) se_int) sa_nil)) se_int) se_int) se_int)
    (ss_one (ss_ret (se_mod (se_callT call_int1 imp_int1 rfl T.n_int (by decide +kernel) (sa_cons (se_fdiv (se_add (se_mul (se_name 3) se_int) (se_ix (hu65 hr) (se_name 0) se_int (fun _ _ => rfl))) se_int) sa_nil)) (se_name 1)))))))
theorem c_take (T : Tx P K mg) : CalS P w K mg base 1 "_law_take" 2 m_take := cal_mk T.d_take fun f fd F => o_take T F
/-! ### _law_closed -/
theorem sc_closed : FnScope ["rows", "found", "stop", "one", "two", "row"] ["rows"] (defScope s_closed) := ⟨rfl, rfl, rfl, by decide +kernel, rfl, by decide +kernel, by decide +kernel⟩
noncomputable def b_closed_1 : Ev Fl := (sSet2 1 (vVar 3) (qVar 4) (vC (gMin) (vCons (vIx2 1 (vVar 3) (qVar 4)) (vCons (v2 gAdd (vIx2 1 (vVar 3) (qVar 2)) (vIx2 1 (vVar 2) (qVar 4))) vNil))))
noncomputable def b_closed_2 : Ev Fl := (sFor (vRng1 (vCons (vC (on1 gLen) (vCons (vVar 1) vNil)) vNil)) (tName 4) (b_closed_1))
noncomputable def b_closed_3 : Ev Fl := (sFor (vRng1 (vCons (vC (on1 gLen) (vCons (vVar 1) vNil)) vNil)) (tName 3) (b_closed_2))
noncomputable def b_closed : Ev Fl :=
  (sSeq (sAsg 1 (vLcL [5] (vIt iSeq (one (vVar 0))) (tName 5) (ret true) (vC (on1 gList) (vCons (vVar 5) vNil))))
  (sSeq (sFor (vRng1 (vCons (vC (on1 gLen) (vCons (vVar 1) vNil)) vNil)) (tName 2) (b_closed_3))
  (sRet (vC (on1 gTupl) (vCons (vLc [5] (vIt iSeq (one (vVar 1))) (tName 5) (ret true) (vC (on1 gTupl) (vCons (vVar 5) vNil))) vNil)))))
noncomputable def m_closed : Fn := fnR 1 6 b_closed
theorem o_closed (T : Tx P K mg) {f : Addr} {fd : FuncData} (F : Fun K "_law_closed" "_law_closed" s_closed f fd) : FnOk P w K mg base (L2.CX P w) 1 f fd ["rows"] (spF K mg 1 m_closed) :=
  fn_sx F sc_closed rfl fun cdv A outer s H E hr tk =>
    (ss_cons (ss_setLcL (i := 1) (own := [("row", 5)]) rfl sc_closed.nd rfl rfl (sw_true rfl rfl rfl rfl) (si_seq (se_name 0)) (blkOk_by rfl) (by decide) (fun _ _ _ _ _ => (sg_name (i := 5) sc_closed.nd rfl (Or.inl rfl))) (fun _ _ _ _ _ => sts_nil) (fun _ _ _ _ _ => (se_callT (call_list_of.or ((call_listD rfl).or (call_listT rfl))) imp_list rfl T.n_list (by decide +kernel) (sa_cons (se_name 5) sa_nil))))
    (ss_cons (ss_for (passes_of rfl) rfl (si_range1 rfl T.n_range (sa_cons (se_callB (call_len_seq.or (call_len_dict (hu65 hr))) imp_len rfl T.n_len (by decide +kernel) (sa_cons (se_name 1) sa_nil)) sa_nil)) (sg_name (i := 2) sc_closed.nd rfl (Or.inl rfl))
    (ss_one (ss_for (passes_of rfl) rfl (si_range1 rfl T.n_range (sa_cons (se_callB (call_len_seq.or (call_len_dict (hu65 hr))) imp_len rfl T.n_len (by decide +kernel) (sa_cons (se_name 1) sa_nil)) sa_nil)) (sg_name (i := 3) sc_closed.nd rfl (Or.inl rfl))
    (ss_one (ss_for (passes_of rfl) rfl (si_range1 rfl T.n_range (sa_cons (se_callB (call_len_seq.or (call_len_dict (hu65 hr))) imp_len rfl T.n_len (by decide +kernel) (sa_cons (se_name 1) sa_nil)) sa_nil)) (sg_name (i := 4) sc_closed.nd rfl (Or.inl rfl))
    (ss_one (ss_set2 (i := 1) (se_callB ((cr_minA rfl).or (call_min2 rfl)) imp_min rfl T.n_min (by decide +kernel) (sa_cons (se_ix2 (i := 1) (se_name 3) (sq_name 4) (fun _ _ => rfl) (fun _ _ => rfl)) (sa_cons (se_add (se_ix2 (i := 1) (se_name 3) (sq_name 2) (fun _ _ => rfl) (fun _ _ => rfl)) (se_ix2 (i := 1) (se_name 2) (sq_name 4) (fun _ _ => rfl) (fun _ _ => rfl))) sa_nil))) (se_name 3) (sq_name 4) (fun _ _ => rfl))))))))
    (ss_one (ss_ret (se_callT call_tuple_of imp_tuple rfl T.n_tuple (by decide +kernel) (sa_cons (se_lc (own := [("row", 5)]) rfl sc_closed.nd (si_seq (se_name 1)) (blkOk_by rfl) (by decide) (fun _ _ _ _ _ => (sg_name (i := 5) sc_closed.nd rfl (Or.inl rfl))) (fun _ _ _ _ _ => sts_nil) (fun _ _ _ _ _ => (se_callT call_tuple_of imp_tuple rfl T.n_tuple (by decide +kernel) (sa_cons (se_name 5) sa_nil)))) sa_nil))))))
theorem c_closed (T : Tx P K mg) : CalS P w K mg base 1 "_law_closed" 1 m_closed := cal_mk T.d_closed fun f fd F => o_closed T F
/-! ### _law_along -/
theorem sc_along : FnScope ["book", "room", "signs", "steps", "here", "sign", "step"] ["book", "room", "signs"] (defScope s_along) := ⟨rfl, rfl, rfl, by decide +kernel, rfl, by decide +kernel, by decide +kernel⟩
noncomputable def b_along_1 : Ev Fl := (sSeq (sAsg 6 (v2 gIx (v2 gIx (vVar 0) (vVar 4)) (vVar 5)))
  (sSeq (sIf (tst (v2 gIsN (vVar 6) (vLit .non))) (sRet (vLit .non)) sNx)
  (sSeq (sEx (vApp 3 (vVar 6)))
  (sAsg 4 (v2 gIx (vVar 6) (vLit (.int 2)))))))
noncomputable def b_along : Ev Fl :=
  (sSeq (sPar 3 4 (vLst vNil) (vVar 1))
  (sSeq (sFor (vIt iSeq (one (vVar 2))) (tName 5) (b_along_1))
  (sRet (vVar 3))))
noncomputable def m_along : Fn := fnR 3 7 b_along
theorem o_along (T : Tx P K mg) {f : Addr} {fd : FuncData} (F : Fun K "_law_along" "_law_along" s_along f fd) : FnOk P w K mg base (L2.CX P w) 1 f fd ["book", "room", "signs"] (spF K mg 3 m_along) :=
  fn_sx F sc_along rfl fun cdv A outer s H E hr tk =>
    (ss_cons (ss_par (i := 3) (j := 4) rfl sc_along.nd rfl rfl (by decide) rfl rfl (se_lst sa_nil) (se_name 1) rfl)
    (ss_cons (ss_for (passes_of rfl) rfl (si_seq (se_name 2)) (sg_name (i := 5) sc_along.nd rfl (Or.inl rfl))
    (ss_cons (ss_set (i := 6) sc_along.nd rfl (Or.inl rfl) (se_ix (hu65 hr) (se_ix (hu65 hr) (se_name 0) (se_name 4) (fun _ _ => rfl)) (se_name 5) (fun _ _ => rfl)))
    (ss_cons (ss_if (st_c c_isN (se_name 6) se_non rfl) (ss_one (ss_ret se_non)) ss_nil)
    (ss_cons (ss_expr (se_append (i := 3) (se_name 6)))
    (ss_one (ss_set (i := 4) sc_along.nd rfl (Or.inl rfl) (se_ix (hu65 hr) (se_name 6) se_int (fun _ _ => rfl))))))))
    (ss_one (ss_ret (se_name 3)))))
theorem c_along (T : Tx P K mg) : CalS P w K mg base 1 "_law_along" 3 m_along := cal_mk T.d_along fun f fd F => o_along T F
/-! ### steps_along -/
theorem sc_p_steps_along : FnScope ["book", "room", "signs", "steps", "sign", "step"] ["book", "room", "signs"] (defScope s_p_steps_along) := ⟨rfl, rfl, rfl, by decide +kernel, rfl, by decide +kernel, by decide +kernel⟩
noncomputable def b_p_steps_along_1 : Ev Fl := (sSeq (sAsg 5 (vCall [.lk, .f, .f] m_p_step_at (vCons (vVar 0) (vCons (vVar 1) (vCons (vVar 4) vNil)))))
  (sSeq (sIf (tst (v2 gIsN (vVar 5) (vLit .non))) (sRet (vLit .non)) sNx)
  (sSeq (sEx (vApp 3 (vVar 5)))
  (sAsg 1 (v2 gIx (vVar 5) (vLit (.int 2)))))))
noncomputable def b_p_steps_along : Ev Fl :=
  (sSeq (sAsg 3 (vLst vNil))
  (sSeq (sFor (vIt iSeq (one (vVar 2))) (tName 4) (b_p_steps_along_1))
  (sRet (vVar 3))))
noncomputable def m_p_steps_along : Fn := fnR 3 6 b_p_steps_along
theorem o_p_steps_along (T : Tx P K mg) {f : Addr} {fd : FuncData} (F : Fun K "steps_along" "steps_along" s_p_steps_along f fd) : FnOk P w K mg base (L2.CX P w) 2 f fd ["book", "room", "signs"] (spF K mg 3 m_p_steps_along) :=
  fn_sx F sc_p_steps_along rfl fun cdv A outer s H E hr tk =>
    (ss_cons (ss_set (i := 3) sc_p_steps_along.nd rfl (Or.inl rfl) (se_lst sa_nil))
    (ss_cons (ss_for (passes_of rfl) rfl (si_seq (se_name 2)) (sg_name (i := 4) sc_p_steps_along.nd rfl (Or.inl rfl))
    (ss_cons (ss_set (i := 5) sc_p_steps_along.nd rfl (Or.inl rfl) (se_call [.lk, .f, .f] (c_p_step_at T) tk hr (sa_cons (se_name 0) (sa_cons (se_name 1) (sa_cons (se_name 4) sa_nil)))))
    (ss_cons (ss_if (st_c c_isN (se_name 5) se_non rfl) (ss_one (ss_ret se_non)) ss_nil)
    (ss_cons (ss_expr (se_append (i := 3) (se_name 5)))
    (ss_one (ss_set (i := 1) sc_p_steps_along.nd rfl (Or.inl rfl) (se_ix (hu65 hr) (se_name 5) se_int (fun _ _ => rfl))))))))
    (ss_one (ss_ret (se_name 3)))))
theorem c_p_steps_along (T : Tx P K mg) : CalS P w K mg base 2 "steps_along" 3 m_p_steps_along := cal_mk T.d_p_steps_along fun f fd F => o_p_steps_along T F
/-! ### _law_pick -/
theorem sc_pick : FnScope ["box", "some"] ["box", "some"] (defScope s_pick) := ⟨rfl, rfl, rfl, by decide +kernel, rfl, by decide +kernel, by decide +kernel⟩
noncomputable def b_pick : Ev Fl :=
  (sRet (v2 gIx (vVar 1) (vCall [.io, .lk] m_take (vCons (vVar 0) (vCons (vC (on1 gLen) (vCons (vVar 1) vNil)) vNil)))))
noncomputable def m_pick : Fn := fnR 2 2 b_pick
theorem o_pick (T : Tx P K mg) {f : Addr} {fd : FuncData} (F : Fun K "_law_pick" "_law_pick" s_pick f fd) : FnOk P w K mg base (L2.CX P w) 2 f fd ["box", "some"] (spF K mg 2 m_pick) :=
  fn_sx F sc_pick rfl fun cdv A outer s H E hr tk =>
    (ss_one (ss_ret (se_ix (hu65 hr) (se_name 1) (se_call [.io, .lk] (c_take T) tk hr (sa_cons (se_name 0) (sa_cons (se_callB (call_len_seq.or (call_len_dict (hu65 hr))) imp_len rfl T.n_len (by decide +kernel) (sa_cons (se_name 1) sa_nil)) sa_nil))) (fun _ _ => rfl))))
theorem c_pick (T : Tx P K mg) : CalS P w K mg base 2 "_law_pick" 2 m_pick := cal_mk T.d_pick fun f fd F => o_pick T F
/-! ### _law_service -/
theorem sc_service : FnScope ["box", "many", "tasks", "price", "cost", "rows", "one", "costs", "task", "spot", "row", "two"] ["box", "many", "tasks", "price", "cost"] (defScope s_service) := ⟨rfl, rfl, rfl, by decide +kernel, rfl, by decide +kernel, by decide +kernel⟩
noncomputable def b_service_1 : Ev Fl := (sEx (vApp 5 (vLc [11] (vRng1 (vCons (vVar 1) vNil)) (tName 11) (ret true) (vIf (tst (v2 gEq (vVar 6) (vVar 11))) (vLit (.int 0)) (vCall [.io, .lk] m_take (vCons (vVar 0) (vCons (v2 gAdd (vVar 3) (vLit (.int 1))) vNil)))))))
noncomputable def b_service_2 : Ev Fl := (sSeq (sAsg 9 (vCall [.io, .lk] m_take (vCons (vVar 0) (vCons (vVar 1) vNil))))
  (sSeq (sAsg 10 (vLc [6] (vRng1 (vCons (vVar 1) vNil)) (tName 6) (ret true) (vIf (tAndM (tst (v2 gNe (vVar 6) (vVar 9))) (tst (v2 gEq (vCall [.io, .lk] m_take (vCons (vVar 0) (vCons (vLit (.int 3)) vNil))) (vLit (.int 0))))) (vLit .non) (vCall [.io, .lk] m_take (vCons (vVar 0) (vCons (v2 gAdd (vVar 4) (vLit (.int 1))) vNil))))))
  (sEx (vApp 7 (vC (on1 gTupl) (vCons (vVar 10) vNil))))))
noncomputable def b_service : Ev Fl :=
  (sSeq (sAsg 5 (vLst vNil))
  (sSeq (sFor (vRng1 (vCons (vVar 1) vNil)) (tName 6) (b_service_1))
  (sSeq (sAsg 7 (vLst vNil))
  (sSeq (sFor (vRng1 (vCons (vVar 2) vNil)) (tName 8) (b_service_2))
  (sRet (vTup (vCons (vCall [.lk] m_closed (vCons (vVar 5) vNil)) (vCons (vC (on1 gTupl) (vCons (vVar 7) vNil)) vNil))))))))
noncomputable def m_service : Fn := fnR 5 12 b_service
theorem o_service (T : Tx P K mg) {f : Addr} {fd : FuncData} (F : Fun K "_law_service" "_law_service" s_service f fd) : FnOk P w K mg base (L2.CX P w) 2 f fd ["box", "many", "tasks", "price", "cost"] (spF K mg 5 m_service) :=
  fn_sx F sc_service rfl fun cdv A outer s H E hr tk =>
    (ss_cons (ss_set (i := 5) sc_service.nd rfl (Or.inl rfl) (se_lst sa_nil))
    (ss_cons (ss_for (passes_of rfl) rfl (si_range1 rfl T.n_range (sa_cons (se_name 1) sa_nil)) (sg_name (i := 6) sc_service.nd rfl (Or.inr rfl))
    (ss_one (ss_expr (se_append (i := 5) (se_lc (own := [("two", 11)]) rfl sc_service.nd (si_range1 rfl T.n_range (sa_cons (se_name 1) sa_nil)) (blkOk_by rfl) (by decide) (fun _ _ _ _ _ => (sg_name (i := 11) sc_service.nd rfl (Or.inl rfl))) (fun _ _ _ _ _ => sts_nil) (fun _ _ _ _ _ => (se_if (st_c (c_eq (hu64 hr)) (se_name 6) (se_name 11) rfl) se_int (se_call [.io, .lk] (c_take T) takes0 hr (sa_cons (se_name 0) (sa_cons (se_add (se_name 3) se_int) sa_nil))))))))))
    (ss_cons (ss_set (i := 7) sc_service.nd rfl (Or.inl rfl) (se_lst sa_nil))
    (ss_cons (ss_for (passes_of rfl) rfl (si_range1 rfl T.n_range (sa_cons (se_name 2) sa_nil)) (sg_name (i := 8) sc_service.nd rfl (Or.inl rfl))
    (ss_cons (ss_set (i := 9) sc_service.nd rfl (Or.inr rfl) (se_call [.io, .lk] (c_take T) tk hr (sa_cons (se_name 0) (sa_cons (se_name 1) sa_nil))))
    (ss_cons (ss_setLc (i := 10) (own := [("one", 6)]) rfl sc_service.nd rfl rfl (sw_true rfl rfl rfl rfl) (si_range1 rfl T.n_range (sa_cons (se_name 1) sa_nil)) (blkOk_by rfl) (by decide) (fun _ _ _ _ _ => (sg_name (i := 6) sc_service.nd rfl (Or.inl rfl))) (fun _ _ _ _ _ => sts_nil) (fun _ _ _ _ _ => (se_if (st_w (sw_and (st_c (c_ne (hu64 hr)) (se_name 6) (se_name 9) rfl) (sw_and1 (st_c (c_eq (hu64 hr)) (se_call [.io, .lk] (c_take T) takes0 hr (sa_cons (se_name 0) (sa_cons se_int sa_nil))) se_int rfl)))) se_non (se_call [.io, .lk] (c_take T) takes0 hr (sa_cons (se_name 0) (sa_cons (se_add (se_name 4) se_int) sa_nil))))))
    (ss_one (ss_expr (se_append (i := 7) (se_callT call_tuple_of imp_tuple rfl T.n_tuple (by decide +kernel) (sa_cons (se_name 10) sa_nil))))))))
    (ss_one (ss_ret (se_tup (sa_cons (se_call [.lk] (c_closed T) tk hr (sa_cons (se_name 5) sa_nil)) (sa_cons (se_callT call_tuple_of imp_tuple rfl T.n_tuple (by decide +kernel) (sa_cons (se_name 7) sa_nil)) sa_nil)))))))))
theorem c_service (T : Tx P K mg) : CalS P w K mg base 2 "_law_service" 5 m_service := cal_mk T.d_service fun f fd F => o_service T F
/-! ### _law_look -/
theorem sc_look : FnScope ["whole", "many", "mine", "theirs", "book", "states", "rows", "spots", "turn", "room", "told", "row", "sign", "steps", "is_idle", "after", "services", "standing", "service"] ["whole", "many"] (defScope s_look) := ⟨rfl, rfl, rfl, by decide +kernel, rfl, by decide +kernel, by decide +kernel⟩
noncomputable def b_look_1 : Ev Fl := (sSeq (sAsg 13 (vCall [.lk, .f, .lk] m_along (vCons (vVar 4) (vCons (vVar 9) (vCons (v2 gAdd (vVar 10) (vTup (vCons (vVar 12) vNil))) vNil)))))
  (sSeq (sIf (tst (v2 gIsN (vVar 13) (vLit .non))) (sSeq (sEx (vApp 11 (vLit .non)))
  sCt) sNx)
  (sSeq (sAsg 14 (v2 gLt (vC (on1 gLen) (vCons (vVar 10) vNil)) (vVar 1)))
  (sSeq (sAsg 15 (vIf (tru (vVar 14)) (vTup (vCons (vVar 9) (vCons (v2 gAdd (vVar 10) (vTup (vCons (vVar 12) vNil))) vNil))) (vTup (vCons (v2 gIx (v2 gIx (vVar 13) (vLit (.int 0))) (vLit (.int 2))) (vCons (vSl (v2 gAdd (vVar 10) (vTup (vCons (vVar 12) vNil))) (pSome (vLit (.int 1))) pNone) vNil)))))
  (sSeq (sIf (tst (v2 gNotIn (vVar 15) (vVar 7))) (sSeq (sSetI 7 (vVar 15) (vC (on1 gLen) (vCons (vVar 5) vNil)))
  (sEx (vApp 5 (vVar 15)))) sNx)
  (sEx (vApp 11 (vTup (vCons (vIf (tru (vVar 14)) (vC (on1 gLen) (vCons (v2 gIx (vVar 2) (vLit (.int 1))) vNil)) (v2 gIx (v2 gIx (vVar 13) (vLit (.int 0))) (vLit (.int 0)))) (vCons (v2 gIx (v2 gIx (vVar 13) (vC (on1 gLen) (vCons (vVar 10) vNil))) (vLit (.int 1))) (vCons (v2 gIx (vVar 7) (vVar 15)) vNil)))))))))))
noncomputable def b_look_2 : Ev Fl := (sSeq (sIf (tst (v2 gGe (vVar 8) (vC (on1 gLen) (vCons (vVar 5) vNil)))) sBk sNx)
  (sSeq (sAsgT (tTup [(tName 9), (tName 10)]) (v2 gIx (vVar 5) (vVar 8)))
  (sSeq (sAsg 11 (vLst vNil))
  (sSeq (sFor (vRng1 (vCons (vC (on1 gLen) (vCons (v2 gIx (vVar 4) (vLit (.int 0))) vNil)) vNil)) (tName 12) (b_look_1))
  (sEx (vApp 6 (vC (on1 gTupl) (vCons (vVar 11) vNil))))))))
noncomputable def b_look : Ev Fl :=
  (sSeq (sAsgT (tTup [(tName 2), (tName 3), (tName 4)]) (vVar 0))
  (sSeq (sParN [5, 6, 7] (vCons (vLst (vCons (vTup (vCons (vLit (.int 0)) (vCons (vTup vNil) vNil))) vNil)) (vCons (vLst vNil) (vCons (vDictT (vTup (vCons (vLit (.int 0)) (vCons (vTup vNil) vNil))) (vLit (.int 0))) vNil))))
  (sSeq (sFor (vRng1 (vCons (vLit (.int 500)) vNil)) (tName 8) (b_look_2))
  (sSeq (sAsg 16 (vLc [18] (vIt iSeq (one (vLst (vCons (vVar 2) (vCons (vVar 3) vNil))))) (tName 18) (ret true) (vTup (vCons (v2 gIx (vVar 18) (vLit (.int 0))) (vCons (v2 gAdd (v2 gIx (vVar 18) (vLit (.int 1))) (vTup (vCons (vC (on1 gTupl) (vCons (vLc [17] (vIt iSeq (one (v2 gIx (vVar 18) (vLit (.int 0))))) (tName 17) (ret true) (vLit (.int 0))) vNil)) vNil))) vNil)))))
  (sRet (vTup (vCons (v2 gIx (vVar 16) (vLit (.int 0))) (vCons (v2 gIx (vVar 16) (vLit (.int 1))) (vCons (vC (on1 gTupl) (vCons (vVar 6) vNil)) vNil)))))))))
noncomputable def m_look : Fn := fnR 2 19 b_look
theorem o_look (T : Tx P K mg) {f : Addr} {fd : FuncData} (F : Fun K "_law_look" "_law_look" s_look f fd) : FnOk P w K mg base (L2.CX P w) 2 f fd ["whole", "many"] (spF K mg 2 m_look) :=
  fn_sx F sc_look rfl fun cdv A outer s H E hr tk =>
    (ss_cons (ss_asg (se_name 0) (sg_tup rfl (sgs_cons (sg_name (i := 2) sc_look.nd rfl (Or.inl rfl)) (sgs_cons (sg_name (i := 3) sc_look.nd rfl (Or.inl rfl)) (sgs_cons (sg_name (i := 4) sc_look.nd rfl (Or.inl rfl)) sgs_nil)))))
    (ss_cons (ss_par3D (i := 5) (j := 6) (l := 7) rfl sc_look.nd rfl rfl rfl (by decide) (by decide) (by decide) rfl rfl rfl (sd_cons (se_lst (sa_cons (se_tup (sa_cons se_int (sa_cons (se_tup sa_nil) sa_nil))) sa_nil)) (sd_cons (se_lst sa_nil) (sd_cons (se_dictT (hu65 hr) (se_tup (sa_cons se_int (sa_cons (se_tup sa_nil) sa_nil))) se_int) sd_nil))) rfl)
    (ss_cons (ss_for (passes_of rfl) rfl (si_range1 rfl T.n_range (sa_cons se_int sa_nil)) (sg_name (i := 8) sc_look.nd rfl (Or.inl rfl))
    (ss_cons (ss_if (st_c c_ge (se_name 8) (se_callB (call_len_seq.or (call_len_dict (hu65 hr))) imp_len rfl T.n_len (by decide +kernel) (sa_cons (se_name 5) sa_nil)) rfl) (ss_one ss_break) ss_nil)
    (ss_cons (ss_asg (se_ix (hu65 hr) (se_name 5) (se_name 8) (fun _ _ => rfl)) (sg_tup rfl (sgs_cons (sg_name (i := 9) sc_look.nd rfl (Or.inl rfl)) (sgs_cons (sg_name (i := 10) sc_look.nd rfl (Or.inl rfl)) sgs_nil))))
    (ss_cons (ss_set (i := 11) sc_look.nd rfl (Or.inl rfl) (se_lst sa_nil))
    (ss_cons (ss_for (passes_of rfl) rfl (si_range1 rfl T.n_range (sa_cons (se_callB (call_len_seq.or (call_len_dict (hu65 hr))) imp_len rfl T.n_len (by decide +kernel) (sa_cons (se_ix (hu65 hr) (se_name 4) se_int (fun _ _ => rfl)) sa_nil)) sa_nil)) (sg_name (i := 12) sc_look.nd rfl (Or.inl rfl))
    (ss_cons (ss_set (i := 13) sc_look.nd rfl (Or.inl rfl) (se_call [.lk, .f, .lk] (c_along T) tk hr (sa_cons (se_name 4) (sa_cons (se_name 9) (sa_cons (se_add (se_name 10) (se_tup (sa_cons (se_name 12) sa_nil))) sa_nil)))))
    (ss_cons (ss_if (st_c c_isN (se_name 13) se_non rfl) (ss_cons (ss_expr (se_append (i := 11) se_non))
    (ss_one ss_continue)) ss_nil)
    (ss_cons (ss_set (i := 14) sc_look.nd rfl (Or.inl rfl) (se_c c_lt (se_callB (call_len_seq.or (call_len_dict (hu65 hr))) imp_len rfl T.n_len (by decide +kernel) (sa_cons (se_name 10) sa_nil)) (se_name 1) rfl))
    (ss_cons (ss_set (i := 15) sc_look.nd rfl (Or.inl rfl) (se_if (st_tru (se_name 14)) (se_tup (sa_cons (se_name 9) (sa_cons (se_add (se_name 10) (se_tup (sa_cons (se_name 12) sa_nil))) sa_nil))) (se_tup (sa_cons (se_ix (hu65 hr) (se_ix (hu65 hr) (se_name 13) se_int (fun _ _ => rfl)) se_int (fun _ _ => rfl)) (sa_cons (se_slice (se_add (se_name 10) (se_tup (sa_cons (se_name 12) sa_nil))) (sp_some se_int) sp_none) sa_nil)))))
    (ss_cons (ss_if (st_c (c_notIn (hu65 hr)) (se_name 15) (se_name 7) rfl) (ss_cons (ss_setI (i := 7) (hu65 hr) (se_callB (call_len_seq.or (call_len_dict (hu65 hr))) imp_len rfl T.n_len (by decide +kernel) (sa_cons (se_name 5) sa_nil)) (se_name 15))
    (ss_one (ss_expr (se_append (i := 5) (se_name 15))))) ss_nil)
    (ss_one (ss_expr (se_append (i := 11) (se_tup (sa_cons (se_if (st_tru (se_name 14)) (se_callB (call_len_seq.or (call_len_dict (hu65 hr))) imp_len rfl T.n_len (by decide +kernel) (sa_cons (se_ix (hu65 hr) (se_name 2) se_int (fun _ _ => rfl)) sa_nil)) (se_ix (hu65 hr) (se_ix (hu65 hr) (se_name 13) se_int (fun _ _ => rfl)) se_int (fun _ _ => rfl))) (sa_cons (se_ix (hu65 hr) (se_ix (hu65 hr) (se_name 13) (se_callB (call_len_seq.or (call_len_dict (hu65 hr))) imp_len rfl T.n_len (by decide +kernel) (sa_cons (se_name 10) sa_nil)) (fun _ _ => rfl)) se_int (fun _ _ => rfl)) (sa_cons (se_ix (hu65 hr) (se_name 7) (se_name 15) (fun _ _ => rfl)) sa_nil)))))))))))))
    (ss_one (ss_expr (se_append (i := 6) (se_callT call_tuple_of imp_tuple rfl T.n_tuple (by decide +kernel) (sa_cons (se_name 11) sa_nil))))))))))
    (ss_cons (ss_setLc (i := 16) (own := [("service", 18)]) rfl sc_look.nd rfl rfl (sw_true rfl rfl rfl rfl) (si_seq (se_lst (sa_cons (se_name 2) (sa_cons (se_name 3) sa_nil)))) (blkOk_by rfl) (by decide) (fun _ _ _ _ _ => (sg_name (i := 18) sc_look.nd rfl (Or.inl rfl))) (fun _ _ _ _ _ => sts_nil) (fun _ _ _ _ _ => (se_tup (sa_cons (se_ix (hu65 hr) (se_name 18) se_int (fun _ _ => rfl)) (sa_cons (se_add (se_ix (hu65 hr) (se_name 18) se_int (fun _ _ => rfl)) (se_tup (sa_cons (se_callT call_tuple_of imp_tuple rfl T.n_tuple (by decide +kernel) (sa_cons (se_lc (own := [("standing", 17)]) rfl sc_look.nd (si_seq (se_ix (hu65 hr) (se_name 18) se_int (fun _ _ => rfl))) (blkOk_by rfl) (by decide) (fun _ _ _ _ _ => (sg_name (i := 17) sc_look.nd rfl (Or.inl rfl))) (fun _ _ _ _ _ => sts_nil) (fun _ _ _ _ _ => se_int)) sa_nil)) sa_nil))) sa_nil)))))
    (ss_one (ss_ret (se_tup (sa_cons (se_ix (hu65 hr) (se_name 16) se_int (fun _ _ => rfl)) (sa_cons (se_ix (hu65 hr) (se_name 16) se_int (fun _ _ => rfl)) (sa_cons (se_callT call_tuple_of imp_tuple rfl T.n_tuple (by decide +kernel) (sa_cons (se_name 6) sa_nil)) sa_nil))))))))))
theorem c_look (T : Tx P K mg) : CalS P w K mg base 2 "_law_look" 2 m_look := cal_mk T.d_look fun f fd F => o_look T F
/-! ### look_step -/
theorem sc_p_look_step : FnScope ["book", "idle", "many", "numbers", "state", "sign", "room", "signs", "steps", "task", "after"] ["book", "idle", "many", "numbers", "state", "sign"] (defScope s_p_look_step) := ⟨rfl, rfl, rfl, by decide +kernel, rfl, by decide +kernel, by decide +kernel⟩
noncomputable def b_p_look_step : Ev Fl :=
  (sSeq (sAsgT (tTup [(tName 6), (tName 7)]) (vVar 4))
  (sSeq (sAsg 8 (vCall [.lk, .f, .lk] m_p_steps_along (vCons (vVar 0) (vCons (vVar 6) (vCons (v2 gAdd (vVar 7) (vTup (vCons (vVar 5) vNil))) vNil)))))
  (sSeq (sIf (tst (v2 gIsN (vVar 8) (vLit .non))) (sRet (vLit .non)) sNx)
  (sSeq (sIf (tst (v2 gLt (vC (on1 gLen) (vCons (vVar 7) vNil)) (vVar 2))) (sPar 9 10 (vVar 1) (vTup (vCons (vVar 6) (vCons (v2 gAdd (vVar 7) (vTup (vCons (vVar 5) vNil))) vNil)))) (sPar 9 10 (v2 gIx (v2 gIx (vVar 8) (vLit (.int 0))) (vLit (.int 0))) (vTup (vCons (v2 gIx (v2 gIx (vVar 8) (vLit (.int 0))) (vLit (.int 2))) (vCons (vSl (v2 gAdd (vVar 7) (vTup (vCons (vVar 5) vNil))) (pSome (vLit (.int 1))) pNone) vNil)))))
  (sRet (vTup (vCons (vVar 9) (vCons (v2 gIx (v2 gIx (vVar 8) (v1 gNeg (vLit (.int 1)))) (vLit (.int 1))) (vCons (vCall [.io, .f] m_p_number_for (vCons (vVar 3) (vCons (vVar 10) vNil))) vNil)))))))))
noncomputable def m_p_look_step : Fn := fnR 6 11 b_p_look_step
theorem o_p_look_step (T : Tx P K mg) {f : Addr} {fd : FuncData} (F : Fun K "look_step" "look_step" s_p_look_step f fd) : FnOk P w K mg base (L2.CX P w) 3 f fd ["book", "idle", "many", "numbers", "state", "sign"] (spF K mg 6 m_p_look_step) :=
  fn_sx F sc_p_look_step rfl fun cdv A outer s H E hr tk =>
    (ss_cons (ss_asg (se_name 4) (sg_tup rfl (sgs_cons (sg_name (i := 6) sc_p_look_step.nd rfl (Or.inl rfl)) (sgs_cons (sg_name (i := 7) sc_p_look_step.nd rfl (Or.inl rfl)) sgs_nil))))
    (ss_cons (ss_set (i := 8) sc_p_look_step.nd rfl (Or.inl rfl) (se_call [.lk, .f, .lk] (c_p_steps_along T) tk hr (sa_cons (se_name 0) (sa_cons (se_name 6) (sa_cons (se_add (se_name 7) (se_tup (sa_cons (se_name 5) sa_nil))) sa_nil)))))
    (ss_cons (ss_if (st_c c_isN (se_name 8) se_non rfl) (ss_one (ss_ret se_non)) ss_nil)
    (ss_cons (ss_if (st_c c_lt (se_callB (call_len_seq.or (call_len_dict (hu65 hr))) imp_len rfl T.n_len (by decide +kernel) (sa_cons (se_name 7) sa_nil)) (se_name 2) rfl) (ss_one (ss_par (i := 9) (j := 10) rfl sc_p_look_step.nd rfl rfl (by decide) rfl rfl (se_name 1) (se_tup (sa_cons (se_name 6) (sa_cons (se_add (se_name 7) (se_tup (sa_cons (se_name 5) sa_nil))) sa_nil))) rfl)) (ss_one (ss_par (i := 9) (j := 10) rfl sc_p_look_step.nd rfl rfl (by decide) rfl rfl (se_ix (hu65 hr) (se_ix (hu65 hr) (se_name 8) se_int (fun _ _ => rfl)) se_int (fun _ _ => rfl)) (se_tup (sa_cons (se_ix (hu65 hr) (se_ix (hu65 hr) (se_name 8) se_int (fun _ _ => rfl)) se_int (fun _ _ => rfl)) (sa_cons (se_slice (se_add (se_name 7) (se_tup (sa_cons (se_name 5) sa_nil))) (sp_some se_int) sp_none) sa_nil))) rfl)))
    (ss_one (ss_ret (se_tup (sa_cons (se_name 9) (sa_cons (se_ix (hu65 hr) (se_ix (hu65 hr) (se_name 8) (se_neg se_int) (fun _ _ => rfl)) se_int (fun _ _ => rfl)) (sa_cons (se_call [.io, .f] (c_p_number_for T) tk hr (sa_cons (se_name 3) (sa_cons (se_name 10) sa_nil))) sa_nil))))))))))
theorem c_p_look_step (T : Tx P K mg) : CalS P w K mg base 3 "look_step" 6 m_p_look_step := cal_mk T.d_p_look_step fun f fd F => o_p_look_step T F
/-! ### _law_book -/
theorem sc_book : FnScope ["box", "rooms", "signs", "tasks", "wrong", "found", "room", "row", "sign", "step"] ["box", "rooms", "signs", "tasks", "wrong"] (defScope s_book) := ⟨rfl, rfl, rfl, by decide +kernel, rfl, by decide +kernel, by decide +kernel⟩
noncomputable def b_book_1 : Ev Fl := (sSeq (sAsg 9 (vTup (vCons (vCall [.io, .lk] m_take (vCons (vVar 0) (vCons (vVar 3) vNil))) (vCons (vCall [.io, .lk] m_pick (vCons (vVar 0) (vCons (vLst (vCons (vLit (.int 0)) (vCons (vLit (.int 0)) (vCons (vCall [.io, .lk] m_take (vCons (vVar 0) (vCons (v2 gAdd (vVar 4) (vLit (.int 1))) vNil))) vNil)))) vNil))) (vCons (vCall [.io, .lk] m_take (vCons (vVar 0) (vCons (vVar 1) vNil))) vNil)))))
  (sEx (vApp 7 (vIf (tOrM (tst (v2 gGt (vCall [.io, .lk] m_take (vCons (vVar 0) (vCons (vLit (.int 6)) vNil))) (vLit (.int 0)))) (tst (v2 gEq (v2 gAdd (vVar 6) (vVar 8)) (vLit (.int 0))))) (vVar 9) (vLit .non)))))
noncomputable def b_book_2 : Ev Fl := (sSeq (sAsg 7 (vLst vNil))
  (sSeq (sFor (vRng1 (vCons (vVar 2) vNil)) (tName 8) (b_book_1))
  (sEx (vApp 5 (vC (on1 gTupl) (vCons (vVar 7) vNil))))))
noncomputable def b_book : Ev Fl :=
  (sSeq (sAsg 5 (vLst vNil))
  (sSeq (sFor (vRng1 (vCons (vVar 1) vNil)) (tName 6) (b_book_2))
  (sRet (vC (on1 gTupl) (vCons (vVar 5) vNil)))))
noncomputable def m_book : Fn := fnR 5 10 b_book
theorem o_book (T : Tx P K mg) {f : Addr} {fd : FuncData} (F : Fun K "_law_book" "_law_book" s_book f fd) : FnOk P w K mg base (L2.CX P w) 3 f fd ["box", "rooms", "signs", "tasks", "wrong"] (spF K mg 5 m_book) :=
  fn_sx F sc_book rfl fun cdv A outer s H E hr tk =>
    (ss_cons (ss_set (i := 5) sc_book.nd rfl (Or.inl rfl) (se_lst sa_nil))
    (ss_cons (ss_for (passes_of rfl) rfl (si_range1 rfl T.n_range (sa_cons (se_name 1) sa_nil)) (sg_name (i := 6) sc_book.nd rfl (Or.inl rfl))
    (ss_cons (ss_set (i := 7) sc_book.nd rfl (Or.inl rfl) (se_lst sa_nil))
    (ss_cons (ss_for (passes_of rfl) rfl (si_range1 rfl T.n_range (sa_cons (se_name 2) sa_nil)) (sg_name (i := 8) sc_book.nd rfl (Or.inl rfl))
    (ss_cons (ss_set (i := 9) sc_book.nd rfl (Or.inl rfl) (se_tup (sa_cons (se_call [.io, .lk] (c_take T) tk hr (sa_cons (se_name 0) (sa_cons (se_name 3) sa_nil))) (sa_cons (se_call [.io, .lk] (c_pick T) tk hr (sa_cons (se_name 0) (sa_cons (se_lst (sa_cons se_int (sa_cons se_int (sa_cons (se_call [.io, .lk] (c_take T) tk hr (sa_cons (se_name 0) (sa_cons (se_add (se_name 4) se_int) sa_nil))) sa_nil)))) sa_nil))) (sa_cons (se_call [.io, .lk] (c_take T) tk hr (sa_cons (se_name 0) (sa_cons (se_name 1) sa_nil))) sa_nil)))))
    (ss_one (ss_expr (se_append (i := 7) (se_if (st_w (sw_or (st_c c_gt (se_call [.io, .lk] (c_take T) tk hr (sa_cons (se_name 0) (sa_cons se_int sa_nil))) se_int rfl) (sw_or1 (st_c (c_eq (hu64 hr)) (se_add (se_name 6) (se_name 8)) se_int rfl)))) (se_name 9) se_non))))))
    (ss_one (ss_expr (se_append (i := 5) (se_callT call_tuple_of imp_tuple rfl T.n_tuple (by decide +kernel) (sa_cons (se_name 7) sa_nil))))))))
    (ss_one (ss_ret (se_callT call_tuple_of imp_tuple rfl T.n_tuple (by decide +kernel) (sa_cons (se_name 5) sa_nil))))))
theorem c_book (T : Tx P K mg) : CalS P w K mg base 3 "_law_book" 5 m_book := cal_mk T.d_book fun f fd F => o_book T F
/-! ### look_case -/
theorem sc_p_look_case : FnScope ["whole", "many", "mine", "theirs", "book", "numbers", "rooms", "states", "state", "room", "sign"] ["whole", "many"] (defScope s_p_look_case) := ⟨rfl, rfl, rfl, by decide +kernel, rfl, by decide +kernel, by decide +kernel⟩
noncomputable def b_p_look_case_1 : Ev Fl := (sSeq (sAsg 8 (v2 gIx (vVar 7) (vC (on1 gLen) (vCons (vVar 6) vNil))))
  (sSeq (sAsg 9 (vLc [10] (vRng1 (vCons (vC (on1 gLen) (vCons (v2 gIx (vVar 4) (vLit (.int 0))) vNil)) vNil)) (tName 10) (ret true) (vCall [.lk, .f, .lk, .io, .f, .f] m_p_look_step (vCons (vVar 4) (vCons (vC (on1 gLen) (vCons (v2 gIx (vVar 2) (vLit (.int 1))) vNil)) (vCons (vVar 1) (vCons (vVar 5) (vCons (vVar 8) (vCons (vVar 10) vNil)))))))))
  (sSeq (sEx (vApp 6 (vC (on1 gTupl) (vCons (vVar 9) vNil))))
  (sAsg 7 (v2 gAdd (vVar 7) (vSl (vC (on1 gList) (vCons (vVar 5) vNil)) (pSome (vC (on1 gLen) (vCons (vVar 7) vNil))) pNone))))))
noncomputable def b_p_look_case : Ev Fl :=
  (sSeq (sAsgT (tTup [(tName 2), (tName 3), (tName 4)]) (vVar 0))
  (sSeq (sParN [5, 6] (vCons (vDictT (vTup (vCons (vLit (.int 0)) (vCons (vTup vNil) vNil))) (vLit (.int 0))) (vCons (vLst vNil) vNil)))
  (sSeq (sAsg 7 (vLst (vCons (vTup (vCons (vLit (.int 0)) (vCons (vTup vNil) vNil))) vNil)))
  (sSeq (sWh (tst (v2 gLt (vC (on1 gLen) (vCons (vVar 6) vNil)) (vC (on1 gLen) (vCons (vVar 7) vNil)))) (b_p_look_case_1))
  (sRet (vTup (vCons (vCall [.f] m_p_idle_service (vCons (vVar 2) vNil)) (vCons (vCall [.f] m_p_idle_service (vCons (vVar 3) vNil)) (vCons (vC (on1 gTupl) (vCons (vVar 6) vNil)) vNil)))))))))
noncomputable def m_p_look_case : Fn := fnR 2 11 b_p_look_case
theorem o_p_look_case (T : Tx P K mg) {f : Addr} {fd : FuncData} (F : Fun K "look_case" "look_case" s_p_look_case f fd) : FnOk P w K mg base (L2.CX P w) 4 f fd ["whole", "many"] (spF K mg 2 m_p_look_case) :=
  fn_sx F sc_p_look_case rfl fun cdv A outer s H E hr tk =>
    (ss_cons (ss_asg (se_name 0) (sg_tup rfl (sgs_cons (sg_name (i := 2) sc_p_look_case.nd rfl (Or.inr rfl)) (sgs_cons (sg_name (i := 3) sc_p_look_case.nd rfl (Or.inl rfl)) (sgs_cons (sg_name (i := 4) sc_p_look_case.nd rfl (Or.inr rfl)) sgs_nil)))))
    (ss_cons (ss_parN (is := [5, 6]) rfl (pgs_cons (pg_name (i := 5) sc_p_look_case.nd rfl (Or.inr rfl)) (pgs_cons (pg_name (i := 6) sc_p_look_case.nd rfl (Or.inl rfl)) pgs_nil)) (sd_cons (se_dictT (hu65 hr) (se_tup (sa_cons se_int (sa_cons (se_tup sa_nil) sa_nil))) se_int) (sd_cons (se_lst sa_nil) sd_nil)))
    (ss_cons (ss_set (i := 7) sc_p_look_case.nd rfl (Or.inl rfl) (se_lst (sa_cons (se_tup (sa_cons se_int (sa_cons (se_tup sa_nil) sa_nil))) sa_nil)))
    (ss_cons (ss_while (passes_of rfl) (st_c c_lt (se_callB (call_len_seq.or (call_len_dict (hu65 hr))) imp_len rfl T.n_len (by decide +kernel) (sa_cons (se_name 6) sa_nil)) (se_callB (call_len_seq.or (call_len_dict (hu65 hr))) imp_len rfl T.n_len (by decide +kernel) (sa_cons (se_name 7) sa_nil)) rfl)
    (ss_cons (ss_set (i := 8) sc_p_look_case.nd rfl (Or.inr rfl) (se_ix (hu65 hr) (se_name 7) (se_callB (call_len_seq.or (call_len_dict (hu65 hr))) imp_len rfl T.n_len (by decide +kernel) (sa_cons (se_name 6) sa_nil)) (fun _ _ => rfl)))
    (ss_cons (ss_setLc (i := 9) (own := [("sign", 10)]) rfl sc_p_look_case.nd rfl rfl (sw_true rfl rfl rfl rfl) (si_range1 rfl T.n_range (sa_cons (se_callB (call_len_seq.or (call_len_dict (hu65 hr))) imp_len rfl T.n_len (by decide +kernel) (sa_cons (se_ix (hu65 hr) (se_name 4) se_int (fun _ _ => rfl)) sa_nil)) sa_nil)) (blkOk_by rfl) (by decide) (fun _ _ _ _ _ => (sg_name (i := 10) sc_p_look_case.nd rfl (Or.inl rfl))) (fun _ _ _ _ _ => sts_nil) (fun _ _ _ _ _ => (se_call [.lk, .f, .lk, .io, .f, .f] (c_p_look_step T) takes0 hr (sa_cons (se_name 4) (sa_cons (se_callB (call_len_seq.or (call_len_dict (hu65 hr))) imp_len rfl T.n_len (by decide +kernel) (sa_cons (se_ix (hu65 hr) (se_name 2) se_int (fun _ _ => rfl)) sa_nil)) (sa_cons (se_name 1) (sa_cons (se_name 5) (sa_cons (se_name 8) (sa_cons (se_name 10) sa_nil)))))))))
    (ss_cons (ss_expr (se_append (i := 6) (se_callT call_tuple_of imp_tuple rfl T.n_tuple (by decide +kernel) (sa_cons (se_name 9) sa_nil))))
    (ss_one (ss_set (i := 7) sc_p_look_case.nd rfl (Or.inl rfl) (se_add (se_name 7) (se_slice (se_callT (call_list_of.or ((call_listD rfl).or (call_listT rfl))) imp_list rfl T.n_list (by decide +kernel) (sa_cons (se_name 5) sa_nil)) (sp_some (se_callB (call_len_seq.or (call_len_dict (hu65 hr))) imp_len rfl T.n_len (by decide +kernel) (sa_cons (se_name 7) sa_nil))) sp_none))))))))
    (ss_one (ss_ret (se_tup (sa_cons (se_call [.f] (c_p_idle_service T) tk hr (sa_cons (se_name 2) sa_nil)) (sa_cons (se_call [.f] (c_p_idle_service T) tk hr (sa_cons (se_name 3) sa_nil)) (sa_cons (se_callT call_tuple_of imp_tuple rfl T.n_tuple (by decide +kernel) (sa_cons (se_name 6) sa_nil)) sa_nil))))))))))
theorem c_p_look_case (T : Tx P K mg) : CalS P w K mg base 4 "look_case" 2 m_p_look_case := cal_mk T.d_p_look_case fun f fd F => o_p_look_case T F
theorem kk_p_look_case (T : Tx P K mg ) : CalK2 P w K mg base 4 "look_case" ["many", "whole"] m_p_look_case := calk2_mk T.ee_p_look_case fun f fd F => o_p_look_case T F
/-! ### _law_case -/
theorem sc_case : FnScope ["box", "rooms", "signs", "price", "cost", "tasks", "mine", "theirs"] ["box", "rooms", "signs", "price", "cost"] (defScope s_case) := ⟨rfl, rfl, rfl, by decide +kernel, rfl, by decide +kernel, by decide +kernel⟩
noncomputable def b_case : Ev Fl :=
  (sSeq (sAsg 5 (v2 gAdd (vLit (.int 1)) (vCall [.io, .lk] m_take (vCons (vVar 0) (vCons (vLit (.int 3)) vNil)))))
  (sSeq (sAsg 6 (vCall [.io, .lk, .lk, .lk, .lk] m_service (vCons (vVar 0) (vCons (v2 gAdd (vLit (.int 1)) (vCall [.io, .lk] m_take (vCons (vVar 0) (vCons (vLit (.int 3)) vNil)))) (vCons (vVar 5) (vCons (vVar 3) (vCons (vVar 4) vNil)))))))
  (sSeq (sAsg 7 (vCall [.io, .lk, .lk, .lk, .lk] m_service (vCons (vVar 0) (vCons (v2 gAdd (vLit (.int 1)) (vCall [.io, .lk] m_take (vCons (vVar 0) (vCons (vLit (.int 3)) vNil)))) (vCons (vVar 5) (vCons (vVar 3) (vCons (vVar 4) vNil)))))))
  (sRet (vTup (vCons (vVar 6) (vCons (vIf (tst (v2 gEq (vCall [.io, .lk] m_take (vCons (vVar 0) (vCons (vLit (.int 2)) vNil))) (vLit (.int 0)))) (vVar 7) (vVar 6)) (vCons (vCall [.io, .lk, .lk, .lk, .lk] m_book (vCons (vVar 0) (vCons (vVar 1) (vCons (vVar 2) (vCons (vVar 5) (vCons (vLit (.int 9)) vNil)))))) vNil))))))))
noncomputable def m_case : Fn := fnR 5 8 b_case
theorem o_case (T : Tx P K mg) {f : Addr} {fd : FuncData} (F : Fun K "_law_case" "_law_case" s_case f fd) : FnOk P w K mg base (L2.CX P w) 4 f fd ["box", "rooms", "signs", "price", "cost"] (spF K mg 5 m_case) :=
  fn_sx F sc_case rfl fun cdv A outer s H E hr tk =>
    (ss_cons (ss_set (i := 5) sc_case.nd rfl (Or.inl rfl) (se_add se_int (se_call [.io, .lk] (c_take T) tk hr (sa_cons (se_name 0) (sa_cons se_int sa_nil)))))
    (ss_cons (ss_set (i := 6) sc_case.nd rfl (Or.inl rfl) (se_call [.io, .lk, .lk, .lk, .lk] (c_service T) tk hr (sa_cons (se_name 0) (sa_cons (se_add se_int (se_call [.io, .lk] (c_take T) tk hr (sa_cons (se_name 0) (sa_cons se_int sa_nil)))) (sa_cons (se_name 5) (sa_cons (se_name 3) (sa_cons (se_name 4) sa_nil)))))))
    (ss_cons (ss_set (i := 7) sc_case.nd rfl (Or.inl rfl) (se_call [.io, .lk, .lk, .lk, .lk] (c_service T) tk hr (sa_cons (se_name 0) (sa_cons (se_add se_int (se_call [.io, .lk] (c_take T) tk hr (sa_cons (se_name 0) (sa_cons se_int sa_nil)))) (sa_cons (se_name 5) (sa_cons (se_name 3) (sa_cons (se_name 4) sa_nil)))))))
    (ss_one (ss_ret (se_tup (sa_cons (se_name 6) (sa_cons (se_if (st_c (c_eq (hu64 hr)) (se_call [.io, .lk] (c_take T) tk hr (sa_cons (se_name 0) (sa_cons se_int sa_nil))) se_int rfl) (se_name 7) (se_name 6)) (sa_cons (se_call [.io, .lk, .lk, .lk, .lk] (c_book T) tk hr (sa_cons (se_name 0) (sa_cons (se_name 1) (sa_cons (se_name 2) (sa_cons (se_name 5) (sa_cons se_int sa_nil)))))) sa_nil)))))))))
theorem c_case (T : Tx P K mg) : CalS P w K mg base 4 "_law_case" 5 m_case := cal_mk T.d_case fun f fd F => o_case T F
/-! ### _law_same -/
theorem sc_same : FnScope ["told", "due", "one", "other"] ["told", "due"] (defScope s_same) := ⟨rfl, rfl, rfl, by decide +kernel, rfl, by decide +kernel, by decide +kernel⟩
noncomputable def b_same_1 (m : Fn) : Ev Fl := (sIf (tNotM (tru (vCall [.lk, .lk] m (vCons (vVar 2) (vCons (vVar 3) vNil))))) (sRet (vLit (.bl false))) sNx)
noncomputable def b_same (m : Fn) : Ev Fl :=
  (sSeq (sIf (tru (v1 (gIsi "tuple") (vVar 1))) (sSeq (sIf (tOrM (tNotM (tru (v1 (gIsi "tuple") (vVar 0)))) (tst (v2 gNe (vC (on1 gLen) (vCons (vVar 0) vNil)) (vC (on1 gLen) (vCons (vVar 1) vNil))))) (sRet (vLit (.bl false))) sNx)
  (sSeq (sFor (vIt iZip2M (vCons (vVar 0) (vCons (vVar 1) vNil))) (tTup [(tName 2), (tName 3)]) (b_same_1 m))
  (sRet (vLit (.bl true))))) sNx)
  (sSeq (sIf (tst (v2 gIsN (vVar 1) (vLit .non))) (sRet (v2 gIsN (vVar 0) (vLit .non))) sNx)
  (sSeq (sIf (tOrM (tst (v2 gIsB (vVar 1) (vLit (.bl true)))) (tst (v2 gIsB (vVar 1) (vLit (.bl false))))) (sRet (vAnd (v1 (gIsi "bool") (vVar 0)) (v2 gEq (vVar 0) (vVar 1)))) sNx)
  (sSeq (sIf (tru (v1 (gIsi "int") (vVar 1))) (sRet (vAnd (v1 (gIsi "int") (vVar 0)) (vAnd (vNot (v1 (gIsi "bool") (vVar 0))) (v2 gEq (vVar 0) (vVar 1))))) sNx)
  (sRet (vAnd (v1 (gIsi "str") (vVar 0)) (vAnd (v1 (gIsi "str") (vVar 1)) (v2 gEq (vVar 0) (vVar 1)))))))))
noncomputable def m_same : Nat → Fn
  | 0 => fun _ => .bad
  | k + 1 => fnR 2 4 (b_same (m_same k))
theorem o_same (T : Tx P K mg) {f : Addr} {fd : FuncData} (F : Fun K "_law_same" "_law_same" s_same f fd) {k : Nat} {m : Fn} (ih : CalS P w K mg base k "_law_same" 2 m) : FnOk P w K mg base (L2.CX P w) (k + 1) f fd ["told", "due"] (spF K mg 2 (fnR 2 4 (b_same m))) :=
  fn_sx F sc_same rfl fun cdv A outer s H E hr tk =>
    (ss_cons (ss_if (st_tru (se_isi (T := "tuple") (by decide) rfl T.n_isinstance rfl T.n_tuple (by decide +kernel) (se_name 1))) (ss_cons (ss_if (st_w (sw_or (st_not (st_tru (se_isi (T := "tuple") (by decide) rfl T.n_isinstance rfl T.n_tuple (by decide +kernel) (se_name 0)))) (sw_or1 (st_c (c_ne (hu64 hr)) (se_callB (call_len_seq.or (call_len_dict (hu65 hr))) imp_len rfl T.n_len (by decide +kernel) (sa_cons (se_name 0) sa_nil)) (se_callB (call_len_seq.or (call_len_dict (hu65 hr))) imp_len rfl T.n_len (by decide +kernel) (sa_cons (se_name 1) sa_nil)) rfl)))) (ss_one (ss_ret se_bl)) ss_nil)
    (ss_cons (ss_for (passes_of rfl) rfl (si_zip2 rfl T.n_zip (sa_cons (se_name 0) (sa_cons (se_name 1) sa_nil))) (sg_tup rfl (sgs_cons (sg_name (i := 2) sc_same.nd rfl (Or.inl rfl)) (sgs_cons (sg_name (i := 3) sc_same.nd rfl (Or.inl rfl)) sgs_nil)))
    (ss_one (ss_if (st_not (st_tru (se_call [.lk, .lk] ih tk hr (sa_cons (se_name 2) (sa_cons (se_name 3) sa_nil)) (Nat.le_refl _)))) (ss_one (ss_ret se_bl)) ss_nil)))
    (ss_one (ss_ret se_bl)))) ss_nil)
    (ss_cons (ss_if (st_c c_isN (se_name 1) se_non rfl) (ss_one (ss_ret (se_c c_isN (se_name 0) se_non rfl))) ss_nil)
    (ss_cons (ss_if (st_w (sw_or (st_c c_isB (se_name 1) se_bl rfl) (sw_or1 (st_c c_isB (se_name 1) se_bl rfl)))) (ss_one (ss_ret (se_and (se_isi (T := "bool") (by decide) rfl T.n_isinstance rfl T.n_bool (by decide +kernel) (se_name 0)) (se_one (se_c (c_eq (hu64 hr)) (se_name 0) (se_name 1) rfl))))) ss_nil)
    (ss_cons (ss_if (st_tru (se_isi (T := "int") (by decide) rfl T.n_isinstance rfl T.n_int (by decide +kernel) (se_name 1))) (ss_one (ss_ret (se_and (se_isi (T := "int") (by decide) rfl T.n_isinstance rfl T.n_int (by decide +kernel) (se_name 0)) (se_and (se_not (se_isi (T := "bool") (by decide) rfl T.n_isinstance rfl T.n_bool (by decide +kernel) (se_name 0))) (se_one (se_c (c_eq (hu64 hr)) (se_name 0) (se_name 1) rfl)))))) ss_nil)
    (ss_one (ss_ret (se_and (se_isi (T := "str") (by decide) rfl T.n_isinstance rfl T.n_str (by decide +kernel) (se_name 0)) (se_and (se_isi (T := "str") (by decide) rfl T.n_isinstance rfl T.n_str (by decide +kernel) (se_name 1)) (se_one (se_c (c_eq (hu64 hr)) (se_name 0) (se_name 1) rfl))))))))))
theorem cc_same (T : Tx P K mg) : ∀ k, CalS P w K mg base k "_law_same" 2 (m_same k)
  | 0 => cal_bad T.d_same
  | k + 1 => cal_mk T.d_same fun f fd F => o_same T F (cc_same T k)
theorem c_same (T : Tx P K mg) : CalS P w K mg base 6 "_law_same" 2 (m_same 6) := cc_same T 6
/-! ### law -/
theorem sc_law : FnScope ["script", "k", "box", "many", "signs", "rooms", "whole", "due"] ["script"] (defScope s_law) := ⟨rfl, rfl, rfl, by decide +kernel, rfl, by decide +kernel, by decide +kernel⟩
noncomputable def b_law_1 : Ev Fl := (sSeq (sAsg 2 (vCall [.lk, .f] m_box (vCons (vVar 0) (vCons (vVar 1) vNil))))
  (sSeq (sAsg 3 (v2 gIx (vLst (vCons (vLit (.int 0)) (vCons (vLit (.int 1)) (vCons (vLit (.int 2)) (vCons (vLit (.int 3)) vNil))))) (vCall [.io, .lk] m_take (vCons (vVar 2) (vCons (vLit (.int 4)) vNil)))))
  (sSeq (sAsg 4 (v2 gAdd (vLit (.int 1)) (vCall [.io, .lk] m_take (vCons (vVar 2) (vCons (v2 gIx (vLst (vCons (vLit (.int 6)) (vCons (vLit (.int 6)) (vCons (vLit (.int 3)) (vCons (vLit (.int 3)) vNil))))) (vVar 3)) vNil)))))
  (sSeq (sAsg 5 (v2 gAdd (vLit (.int 1)) (vCall [.io, .lk] m_take (vCons (vVar 2) (vCons (v2 gIx (vLst (vCons (vLit (.int 8)) (vCons (vLit (.int 8)) (vCons (vLit (.int 8)) (vCons (vLit (.int 4)) vNil))))) (vVar 3)) vNil)))))
  (sSeq (sIf (tAndM (tst (v2 gEq (vVar 3) (vLit (.int 2)))) (tst (v2 gEq (vCall [.io, .lk] m_take (vCons (vVar 2) (vCons (vLit (.int 3)) vNil))) (vLit (.int 0))))) (sPar 4 5 (vLit (.int 6)) (v2 gAdd (vLit (.int 1)) (vCall [.io, .lk] m_take (vCons (vVar 2) (vCons (vLit (.int 6)) vNil))))) sNx)
  (sSeq (sAsg 6 (vCall [.io, .lk, .lk, .lk, .lk] m_case (vCons (vVar 2) (vCons (vVar 5) (vCons (vVar 4) (vCons (vLit (.int 9)) (vCons (vLit (.int 9)) vNil)))))))
  (sSeq (sAsg 7 (vCall [.f, .lk] m_look (vCons (vVar 6) (vCons (vVar 3) vNil))))
  (sSeq (sIf (tNotM (tru (vCall [.lk, .lk] (m_same 6) (vCons (vCall [.f, .lk] m_p_look_case (vSwap (vCons (vVar 3) (vCons (vVar 6) vNil)))) (vCons (vVar 7) vNil))))) (sRet (vLit (.bl false))) sNx)
  (sIf (tAndM (tst (v2 gGt (vVar 3) (vLit (.int 0)))) (tNotM (tru (vCall [.lk, .lk] (m_same 6) (vCons (vCall [.f, .lk] m_p_look_case (vCons (vVar 6) (vCons (vLit (.int 0)) vNil))) (vCons (vCall [.f, .lk] m_look (vCons (vVar 6) (vCons (vLit (.int 0)) vNil))) vNil)))))) (sRet (vLit (.bl false))) sNx)))))))))
noncomputable def b_law : Ev Fl :=
  (sSeq (sFor (vRng1 (vCons (vLit (.int 3)) vNil)) (tName 1) (b_law_1))
  (sRet (vLit (.bl true))))
noncomputable def m_law : Fn := fnR 1 8 b_law
theorem o_law (T : Tx P K mg) {f : Addr} {fd : FuncData} (F : Fun K "law" "law" s_law f fd) : FnOk P w K mg base (L2.CX P w) 7 f fd ["script"] (spF K mg 1 m_law) :=
  fn_sx F sc_law rfl fun cdv A outer s H E hr tk =>
    (ss_cons (ss_for (passes_of rfl) rfl (si_range1 rfl T.n_range (sa_cons se_int sa_nil)) (sg_name (i := 1) sc_law.nd rfl (Or.inl rfl))
    (ss_cons (ss_set (i := 2) sc_law.nd rfl (Or.inl rfl) (se_call [.lk, .f] (c_box T) tk hr (sa_cons (se_name 0) (sa_cons (se_name 1) sa_nil))))
    (ss_cons (ss_set (i := 3) sc_law.nd rfl (Or.inl rfl) (se_ix (hu65 hr) (se_lst (sa_cons se_int (sa_cons se_int (sa_cons se_int (sa_cons se_int sa_nil))))) (se_call [.io, .lk] (c_take T) tk hr (sa_cons (se_name 2) (sa_cons se_int sa_nil))) (fun _ _ => rfl)))
    (ss_cons (ss_set (i := 4) sc_law.nd rfl (Or.inl rfl) (se_add se_int (se_call [.io, .lk] (c_take T) tk hr (sa_cons (se_name 2) (sa_cons (se_ix (hu65 hr) (se_lst (sa_cons se_int (sa_cons se_int (sa_cons se_int (sa_cons se_int sa_nil))))) (se_name 3) (fun _ _ => rfl)) sa_nil)))))
    (ss_cons (ss_set (i := 5) sc_law.nd rfl (Or.inl rfl) (se_add se_int (se_call [.io, .lk] (c_take T) tk hr (sa_cons (se_name 2) (sa_cons (se_ix (hu65 hr) (se_lst (sa_cons se_int (sa_cons se_int (sa_cons se_int (sa_cons se_int sa_nil))))) (se_name 3) (fun _ _ => rfl)) sa_nil)))))
    (ss_cons (ss_if (st_w (sw_and (st_c (c_eq (hu64 hr)) (se_name 3) se_int rfl) (sw_and1 (st_c (c_eq (hu64 hr)) (se_call [.io, .lk] (c_take T) tk hr (sa_cons (se_name 2) (sa_cons se_int sa_nil))) se_int rfl)))) (ss_one (ss_par (i := 4) (j := 5) rfl sc_law.nd rfl rfl (by decide) rfl rfl se_int (se_add se_int (se_call [.io, .lk] (c_take T) tk hr (sa_cons (se_name 2) (sa_cons se_int sa_nil)))) rfl)) ss_nil)
    (ss_cons (ss_set (i := 6) sc_law.nd rfl (Or.inl rfl) (se_call [.io, .lk, .lk, .lk, .lk] (c_case T) tk hr (sa_cons (se_name 2) (sa_cons (se_name 5) (sa_cons (se_name 4) (sa_cons se_int (sa_cons se_int sa_nil)))))))
    (ss_cons (ss_set (i := 7) sc_law.nd rfl (Or.inl rfl) (se_call [.f, .lk] (c_look T) tk hr (sa_cons (se_name 6) (sa_cons (se_name 3) sa_nil))))
    (ss_cons (ss_if (st_not (st_tru (se_call [.lk, .lk] (c_same T) tk hr (sa_cons (se_callK2 [.f, .lk] (kk_p_look_case T) tk hr (sk_cons (se_name 3) (sk_cons (se_name 6) sk_nil))) (sa_cons (se_name 7) sa_nil))))) (ss_one (ss_ret se_bl)) ss_nil)
    (ss_one (ss_if (st_w (sw_and (st_c c_gt (se_name 3) se_int rfl) (sw_and1 (st_not (st_tru (se_call [.lk, .lk] (c_same T) tk hr (sa_cons (se_call [.f, .lk] (c_p_look_case T) tk hr (sa_cons (se_name 6) (sa_cons se_int sa_nil))) (sa_cons (se_call [.f, .lk] (c_look T) tk hr (sa_cons (se_name 6) (sa_cons se_int sa_nil))) sa_nil)))))))) (ss_one (ss_ret se_bl)) ss_nil)))))))))))
    (ss_one (ss_ret se_bl)))
theorem c_law (T : Tx P K mg) : CalS P w K mg base 7 "law" 1 m_law := cal_mk T.d_law fun f fd F => o_law T F
end
theorem tx_mk {K : PySem.W.Frag} {h : Heap} {mg : Str → Option Value} (X : K.In h) (G : h.Ns mainGlobals mg)
    {f_p_step_at f_p_idle_service f_p_steps_along f_p_number_for f_p_look_step f_p_look_case f_box f_take f_pick f_same f_closed f_service f_book f_case f_along f_look f_law : Addr} {od_p_step_at an_p_step_at od_p_idle_service an_p_idle_service od_p_steps_along an_p_steps_along od_p_number_for an_p_number_for od_p_look_step an_p_look_step od_p_look_case an_p_look_case od_box an_box od_take an_take od_pick an_pick od_same an_same od_closed an_closed od_service an_service od_book an_book od_case an_case od_along an_along od_look an_look od_law an_law : Option Addr} {sl_p_step_at sl_p_idle_service sl_p_steps_along sl_p_number_for sl_p_look_step sl_p_look_case sl_box sl_take sl_pick sl_same sl_closed sl_service sl_book sl_case sl_along sl_look sl_law : Array (Option Value)} {oc_p_step_at kV_p_step_at dc_p_step_at pm_p_step_at cd_p_step_at ct_p_step_at oc_p_idle_service kV_p_idle_service dc_p_idle_service pm_p_idle_service cd_p_idle_service ct_p_idle_service oc_p_steps_along kV_p_steps_along dc_p_steps_along pm_p_steps_along cd_p_steps_along ct_p_steps_along oc_p_number_for kV_p_number_for dc_p_number_for pm_p_number_for cd_p_number_for ct_p_number_for oc_p_look_step kV_p_look_step dc_p_look_step pm_p_look_step cd_p_look_step ct_p_look_step oc_p_look_case kV_p_look_case dc_p_look_case pm_p_look_case cd_p_look_case ct_p_look_case oc_box kV_box dc_box pm_box cd_box ct_box oc_take kV_take dc_take pm_take cd_take ct_take oc_pick kV_pick dc_pick pm_pick cd_pick ct_pick oc_same kV_same dc_same pm_same cd_same ct_same oc_closed kV_closed dc_closed pm_closed cd_closed ct_closed oc_service kV_service dc_service pm_service cd_service ct_service oc_book kV_book dc_book pm_book cd_book ct_book oc_case kV_case dc_case pm_case cd_case ct_case oc_along kV_along dc_along pm_along cd_along ct_along oc_look kV_look dc_look pm_look cd_look ct_look oc_law kV_law dc_law pm_law cd_law ct_law : Value}
    (zn_abs : PySem.W.nsIn K mainGlobals "abs" = some none)
    (zn_bool : PySem.W.nsIn K mainGlobals "bool" = some none)
    (zn_int : PySem.W.nsIn K mainGlobals "int" = some none)
    (zn_isinstance : PySem.W.nsIn K mainGlobals "isinstance" = some none)
    (zn_len : PySem.W.nsIn K mainGlobals "len" = some none)
    (zn_list : PySem.W.nsIn K mainGlobals "list" = some none)
    (zn_min : PySem.W.nsIn K mainGlobals "min" = some none)
    (zn_range : PySem.W.nsIn K mainGlobals "range" = some none)
    (zn_str : PySem.W.nsIn K mainGlobals "str" = some none)
    (zn_tuple : PySem.W.nsIn K mainGlobals "tuple" = some none)
    (zn_zip : PySem.W.nsIn K mainGlobals "zip" = some none)
    (za_p_step_at : PySem.W.nsIn K mainGlobals "step_at" = some (some (.ref f_p_step_at)))
    (zl_p_step_at : K.lookup f_p_step_at = some ⟨oc_p_step_at, od_p_step_at, .func (PySem.W.fnOf "step_at" "step_at" (defArgs s_p_step_at) (defBody s_p_step_at) (defScope s_p_step_at) .none kV_p_step_at dc_p_step_at pm_p_step_at an_p_step_at cd_p_step_at ct_p_step_at), sl_p_step_at⟩)
    (zc_p_step_at : PySem.W.codeIn K cd_p_step_at "step_at" = true)
    (zk_p_step_at : PySem.W.keepIn K (.ref f_p_step_at) = true)
    (za_p_idle_service : PySem.W.nsIn K mainGlobals "idle_service" = some (some (.ref f_p_idle_service)))
    (zl_p_idle_service : K.lookup f_p_idle_service = some ⟨oc_p_idle_service, od_p_idle_service, .func (PySem.W.fnOf "idle_service" "idle_service" (defArgs s_p_idle_service) (defBody s_p_idle_service) (defScope s_p_idle_service) .none kV_p_idle_service dc_p_idle_service pm_p_idle_service an_p_idle_service cd_p_idle_service ct_p_idle_service), sl_p_idle_service⟩)
    (zc_p_idle_service : PySem.W.codeIn K cd_p_idle_service "idle_service" = true)
    (zk_p_idle_service : PySem.W.keepIn K (.ref f_p_idle_service) = true)
    (za_p_steps_along : PySem.W.nsIn K mainGlobals "steps_along" = some (some (.ref f_p_steps_along)))
    (zl_p_steps_along : K.lookup f_p_steps_along = some ⟨oc_p_steps_along, od_p_steps_along, .func (PySem.W.fnOf "steps_along" "steps_along" (defArgs s_p_steps_along) (defBody s_p_steps_along) (defScope s_p_steps_along) .none kV_p_steps_along dc_p_steps_along pm_p_steps_along an_p_steps_along cd_p_steps_along ct_p_steps_along), sl_p_steps_along⟩)
    (zc_p_steps_along : PySem.W.codeIn K cd_p_steps_along "steps_along" = true)
    (zk_p_steps_along : PySem.W.keepIn K (.ref f_p_steps_along) = true)
    (za_p_number_for : PySem.W.nsIn K mainGlobals "number_for" = some (some (.ref f_p_number_for)))
    (zl_p_number_for : K.lookup f_p_number_for = some ⟨oc_p_number_for, od_p_number_for, .func (PySem.W.fnOf "number_for" "number_for" (defArgs s_p_number_for) (defBody s_p_number_for) (defScope s_p_number_for) .none kV_p_number_for dc_p_number_for pm_p_number_for an_p_number_for cd_p_number_for ct_p_number_for), sl_p_number_for⟩)
    (zc_p_number_for : PySem.W.codeIn K cd_p_number_for "number_for" = true)
    (zk_p_number_for : PySem.W.keepIn K (.ref f_p_number_for) = true)
    (za_p_look_step : PySem.W.nsIn K mainGlobals "look_step" = some (some (.ref f_p_look_step)))
    (zl_p_look_step : K.lookup f_p_look_step = some ⟨oc_p_look_step, od_p_look_step, .func (PySem.W.fnOf "look_step" "look_step" (defArgs s_p_look_step) (defBody s_p_look_step) (defScope s_p_look_step) .none kV_p_look_step dc_p_look_step pm_p_look_step an_p_look_step cd_p_look_step ct_p_look_step), sl_p_look_step⟩)
    (zc_p_look_step : PySem.W.codeIn K cd_p_look_step "look_step" = true)
    (zk_p_look_step : PySem.W.keepIn K (.ref f_p_look_step) = true)
    (za_p_look_case : PySem.W.nsIn K mainGlobals "look_case" = some (some (.ref f_p_look_case)))
    (zl_p_look_case : K.lookup f_p_look_case = some ⟨oc_p_look_case, od_p_look_case, .func (PySem.W.fnOf "look_case" "look_case" (defArgs s_p_look_case) (defBody s_p_look_case) (defScope s_p_look_case) .none kV_p_look_case dc_p_look_case pm_p_look_case an_p_look_case cd_p_look_case ct_p_look_case), sl_p_look_case⟩)
    (zc_p_look_case : PySem.W.codeIn K cd_p_look_case "look_case" = true)
    (zk_p_look_case : PySem.W.keepIn K (.ref f_p_look_case) = true)
    (za_box : PySem.W.nsIn K mainGlobals "_law_box" = some (some (.ref f_box)))
    (zl_box : K.lookup f_box = some ⟨oc_box, od_box, .func (PySem.W.fnOf "_law_box" "_law_box" (defArgs s_box) (defBody s_box) (defScope s_box) .none kV_box dc_box pm_box an_box cd_box ct_box), sl_box⟩)
    (zc_box : PySem.W.codeIn K cd_box "_law_box" = true)
    (zk_box : PySem.W.keepIn K (.ref f_box) = true)
    (za_take : PySem.W.nsIn K mainGlobals "_law_take" = some (some (.ref f_take)))
    (zl_take : K.lookup f_take = some ⟨oc_take, od_take, .func (PySem.W.fnOf "_law_take" "_law_take" (defArgs s_take) (defBody s_take) (defScope s_take) .none kV_take dc_take pm_take an_take cd_take ct_take), sl_take⟩)
    (zc_take : PySem.W.codeIn K cd_take "_law_take" = true)
    (zk_take : PySem.W.keepIn K (.ref f_take) = true)
    (za_pick : PySem.W.nsIn K mainGlobals "_law_pick" = some (some (.ref f_pick)))
    (zl_pick : K.lookup f_pick = some ⟨oc_pick, od_pick, .func (PySem.W.fnOf "_law_pick" "_law_pick" (defArgs s_pick) (defBody s_pick) (defScope s_pick) .none kV_pick dc_pick pm_pick an_pick cd_pick ct_pick), sl_pick⟩)
    (zc_pick : PySem.W.codeIn K cd_pick "_law_pick" = true)
    (zk_pick : PySem.W.keepIn K (.ref f_pick) = true)
    (za_same : PySem.W.nsIn K mainGlobals "_law_same" = some (some (.ref f_same)))
    (zl_same : K.lookup f_same = some ⟨oc_same, od_same, .func (PySem.W.fnOf "_law_same" "_law_same" (defArgs s_same) (defBody s_same) (defScope s_same) .none kV_same dc_same pm_same an_same cd_same ct_same), sl_same⟩)
    (zc_same : PySem.W.codeIn K cd_same "_law_same" = true)
    (zk_same : PySem.W.keepIn K (.ref f_same) = true)
    (za_closed : PySem.W.nsIn K mainGlobals "_law_closed" = some (some (.ref f_closed)))
    (zl_closed : K.lookup f_closed = some ⟨oc_closed, od_closed, .func (PySem.W.fnOf "_law_closed" "_law_closed" (defArgs s_closed) (defBody s_closed) (defScope s_closed) .none kV_closed dc_closed pm_closed an_closed cd_closed ct_closed), sl_closed⟩)
    (zc_closed : PySem.W.codeIn K cd_closed "_law_closed" = true)
    (zk_closed : PySem.W.keepIn K (.ref f_closed) = true)
    (za_service : PySem.W.nsIn K mainGlobals "_law_service" = some (some (.ref f_service)))
    (zl_service : K.lookup f_service = some ⟨oc_service, od_service, .func (PySem.W.fnOf "_law_service" "_law_service" (defArgs s_service) (defBody s_service) (defScope s_service) .none kV_service dc_service pm_service an_service cd_service ct_service), sl_service⟩)
    (zc_service : PySem.W.codeIn K cd_service "_law_service" = true)
    (zk_service : PySem.W.keepIn K (.ref f_service) = true)
    (za_book : PySem.W.nsIn K mainGlobals "_law_book" = some (some (.ref f_book)))
    (zl_book : K.lookup f_book = some ⟨oc_book, od_book, .func (PySem.W.fnOf "_law_book" "_law_book" (defArgs s_book) (defBody s_book) (defScope s_book) .none kV_book dc_book pm_book an_book cd_book ct_book), sl_book⟩)
    (zc_book : PySem.W.codeIn K cd_book "_law_book" = true)
    (zk_book : PySem.W.keepIn K (.ref f_book) = true)
    (za_case : PySem.W.nsIn K mainGlobals "_law_case" = some (some (.ref f_case)))
    (zl_case : K.lookup f_case = some ⟨oc_case, od_case, .func (PySem.W.fnOf "_law_case" "_law_case" (defArgs s_case) (defBody s_case) (defScope s_case) .none kV_case dc_case pm_case an_case cd_case ct_case), sl_case⟩)
    (zc_case : PySem.W.codeIn K cd_case "_law_case" = true)
    (zk_case : PySem.W.keepIn K (.ref f_case) = true)
    (za_along : PySem.W.nsIn K mainGlobals "_law_along" = some (some (.ref f_along)))
    (zl_along : K.lookup f_along = some ⟨oc_along, od_along, .func (PySem.W.fnOf "_law_along" "_law_along" (defArgs s_along) (defBody s_along) (defScope s_along) .none kV_along dc_along pm_along an_along cd_along ct_along), sl_along⟩)
    (zc_along : PySem.W.codeIn K cd_along "_law_along" = true)
    (zk_along : PySem.W.keepIn K (.ref f_along) = true)
    (za_look : PySem.W.nsIn K mainGlobals "_law_look" = some (some (.ref f_look)))
    (zl_look : K.lookup f_look = some ⟨oc_look, od_look, .func (PySem.W.fnOf "_law_look" "_law_look" (defArgs s_look) (defBody s_look) (defScope s_look) .none kV_look dc_look pm_look an_look cd_look ct_look), sl_look⟩)
    (zc_look : PySem.W.codeIn K cd_look "_law_look" = true)
    (zk_look : PySem.W.keepIn K (.ref f_look) = true)
    (za_law : PySem.W.nsIn K mainGlobals "law" = some (some (.ref f_law)))
    (zl_law : K.lookup f_law = some ⟨oc_law, od_law, .func (PySem.W.fnOf "law" "law" (defArgs s_law) (defBody s_law) (defScope s_law) .none kV_law dc_law pm_law an_law cd_law ct_law), sl_law⟩)
    (zc_law : PySem.W.codeIn K cd_law "law" = true)
    (zk_law : PySem.W.keepIn K (.ref f_law) = true) :
    Tx PySem.Challenge.pw_wordsworth_k71_looking_ahead K mg  :=
  { n_abs := PySem.W.mg_none_of X G zn_abs,
    n_bool := PySem.W.mg_none_of X G zn_bool,
    n_int := PySem.W.mg_none_of X G zn_int,
    n_isinstance := PySem.W.mg_none_of X G zn_isinstance,
    n_len := PySem.W.mg_none_of X G zn_len,
    n_list := PySem.W.mg_none_of X G zn_list,
    n_min := PySem.W.mg_none_of X G zn_min,
    n_range := PySem.W.mg_none_of X G zn_range,
    n_str := PySem.W.mg_none_of X G zn_str,
    n_tuple := PySem.W.mg_none_of X G zn_tuple,
    n_zip := PySem.W.mg_none_of X G zn_zip,
    d_p_step_at := ⟨f_p_step_at, _, fun_mk (st := s_p_step_at) zl_p_step_at zc_p_step_at zk_p_step_at, PySem.W.mg_of X G za_p_step_at, (fun_mk (st := s_p_step_at) zl_p_step_at zc_p_step_at zk_p_step_at).binds (ps := ["book", "room", "sign"]) fun _ _ _ _ _ _ us hl => match us, hl with | [_, _, _], _ => rfl⟩,
    d_p_idle_service := ⟨f_p_idle_service, _, fun_mk (st := s_p_idle_service) zl_p_idle_service zc_p_idle_service zk_p_idle_service, PySem.W.mg_of X G za_p_idle_service, (fun_mk (st := s_p_idle_service) zl_p_idle_service zc_p_idle_service zk_p_idle_service).binds (ps := ["service"]) fun _ _ _ _ _ _ us hl => match us, hl with | [_], _ => rfl⟩,
    d_p_steps_along := ⟨f_p_steps_along, _, fun_mk (st := s_p_steps_along) zl_p_steps_along zc_p_steps_along zk_p_steps_along, PySem.W.mg_of X G za_p_steps_along, (fun_mk (st := s_p_steps_along) zl_p_steps_along zc_p_steps_along zk_p_steps_along).binds (ps := ["book", "room", "signs"]) fun _ _ _ _ _ _ us hl => match us, hl with | [_, _, _], _ => rfl⟩,
    d_p_number_for := ⟨f_p_number_for, _, fun_mk (st := s_p_number_for) zl_p_number_for zc_p_number_for zk_p_number_for, PySem.W.mg_of X G za_p_number_for, (fun_mk (st := s_p_number_for) zl_p_number_for zc_p_number_for zk_p_number_for).binds (ps := ["numbers", "state"]) fun _ _ _ _ _ _ us hl => match us, hl with | [_, _], _ => rfl⟩,
    d_p_look_step := ⟨f_p_look_step, _, fun_mk (st := s_p_look_step) zl_p_look_step zc_p_look_step zk_p_look_step, PySem.W.mg_of X G za_p_look_step, (fun_mk (st := s_p_look_step) zl_p_look_step zc_p_look_step zk_p_look_step).binds (ps := ["book", "idle", "many", "numbers", "state", "sign"]) fun _ _ _ _ _ _ us hl => match us, hl with | [_, _, _, _, _, _], _ => rfl⟩,
    d_p_look_case := ⟨f_p_look_case, _, fun_mk (st := s_p_look_case) zl_p_look_case zc_p_look_case zk_p_look_case, PySem.W.mg_of X G za_p_look_case, (fun_mk (st := s_p_look_case) zl_p_look_case zc_p_look_case zk_p_look_case).binds (ps := ["whole", "many"]) fun _ _ _ _ _ _ us hl => match us, hl with | [_, _], _ => rfl⟩,
    ee_p_look_case := ⟨f_p_look_case, _, fun_mk (st := s_p_look_case) zl_p_look_case zc_p_look_case zk_p_look_case, PySem.W.mg_of X G za_p_look_case, fun s ws hl => match ws, hl with | [_, _], _ => .of_eq rfl⟩,
    d_box := ⟨f_box, _, fun_mk (st := s_box) zl_box zc_box zk_box, PySem.W.mg_of X G za_box, (fun_mk (st := s_box) zl_box zc_box zk_box).binds (ps := ["script", "k"]) fun _ _ _ _ _ _ us hl => match us, hl with | [_, _], _ => rfl⟩,
    d_take := ⟨f_take, _, fun_mk (st := s_take) zl_take zc_take zk_take, PySem.W.mg_of X G za_take, (fun_mk (st := s_take) zl_take zc_take zk_take).binds (ps := ["box", "many"]) fun _ _ _ _ _ _ us hl => match us, hl with | [_, _], _ => rfl⟩,
    d_pick := ⟨f_pick, _, fun_mk (st := s_pick) zl_pick zc_pick zk_pick, PySem.W.mg_of X G za_pick, (fun_mk (st := s_pick) zl_pick zc_pick zk_pick).binds (ps := ["box", "some"]) fun _ _ _ _ _ _ us hl => match us, hl with | [_, _], _ => rfl⟩,
    d_same := ⟨f_same, _, fun_mk (st := s_same) zl_same zc_same zk_same, PySem.W.mg_of X G za_same, (fun_mk (st := s_same) zl_same zc_same zk_same).binds (ps := ["told", "due"]) fun _ _ _ _ _ _ us hl => match us, hl with | [_, _], _ => rfl⟩,
    d_closed := ⟨f_closed, _, fun_mk (st := s_closed) zl_closed zc_closed zk_closed, PySem.W.mg_of X G za_closed, (fun_mk (st := s_closed) zl_closed zc_closed zk_closed).binds (ps := ["rows"]) fun _ _ _ _ _ _ us hl => match us, hl with | [_], _ => rfl⟩,
    d_service := ⟨f_service, _, fun_mk (st := s_service) zl_service zc_service zk_service, PySem.W.mg_of X G za_service, (fun_mk (st := s_service) zl_service zc_service zk_service).binds (ps := ["box", "many", "tasks", "price", "cost"]) fun _ _ _ _ _ _ us hl => match us, hl with | [_, _, _, _, _], _ => rfl⟩,
    d_book := ⟨f_book, _, fun_mk (st := s_book) zl_book zc_book zk_book, PySem.W.mg_of X G za_book, (fun_mk (st := s_book) zl_book zc_book zk_book).binds (ps := ["box", "rooms", "signs", "tasks", "wrong"]) fun _ _ _ _ _ _ us hl => match us, hl with | [_, _, _, _, _], _ => rfl⟩,
    d_case := ⟨f_case, _, fun_mk (st := s_case) zl_case zc_case zk_case, PySem.W.mg_of X G za_case, (fun_mk (st := s_case) zl_case zc_case zk_case).binds (ps := ["box", "rooms", "signs", "price", "cost"]) fun _ _ _ _ _ _ us hl => match us, hl with | [_, _, _, _, _], _ => rfl⟩,
    d_along := ⟨f_along, _, fun_mk (st := s_along) zl_along zc_along zk_along, PySem.W.mg_of X G za_along, (fun_mk (st := s_along) zl_along zc_along zk_along).binds (ps := ["book", "room", "signs"]) fun _ _ _ _ _ _ us hl => match us, hl with | [_, _, _], _ => rfl⟩,
    d_look := ⟨f_look, _, fun_mk (st := s_look) zl_look zc_look zk_look, PySem.W.mg_of X G za_look, (fun_mk (st := s_look) zl_look zc_look zk_look).binds (ps := ["whole", "many"]) fun _ _ _ _ _ _ us hl => match us, hl with | [_, _], _ => rfl⟩,
    d_law := ⟨f_law, _, fun_mk (st := s_law) zl_law zc_law zk_law, PySem.W.mg_of X G za_law, (fun_mk (st := s_law) zl_law zc_law zk_law).binds (ps := ["script"]) fun _ _ _ _ _ _ us hl => match us, hl with | [_], _ => rfl⟩ }
theorem end_ok {w : World} {K : PySem.W.Frag} {h : Heap} {mg : Str → Option Value} {fa : Addr} (X : K.In h) (G : h.Ns mainGlobals mg) (hfa : mg "law" = some (.ref fa)) (T : Tx PySem.Challenge.pw_wordsworth_k71_looking_ahead K mg ) (hl : ∀ ns : List Int, ns.length ≤ 63 → ∃ o, m_law [.v (.ro (ns.map M.int))] = .ok (.fr (.bl true)) o) :
    ∃ fd : FuncData, (∀ (s : Shared) (v : Value), BindsTo s fd ⟨[v], []⟩ [(("script" : Str), v)]) ∧ ∀ base : Heap, K.In base → base.Ns mainGlobals mg → FnOk PySem.Challenge.pw_wordsworth_k71_looking_ahead w K mg base (L2.CX PySem.Challenge.pw_wordsworth_k71_looking_ahead w) 7 fa fd ["script"] (spLaw K) := by
  obtain ⟨f, fd, F, hm, hb⟩ := T.d_law.ex
  have e := hfa.symm.trans hm
  cases e
  refine ⟨fd, fun s v => ?_, fun base _ _ => law_end (o_law T F) hl⟩
  obtain ⟨oc, od, kV, doc, pm, an, cdv, ct, osl, rfl, _, _⟩ := F.ex
  exact .of_eq rfl
end G

set_option Elab.async false
set_option linter.all false
set_option maxRecDepth 100000
set_option maxHeartbeats 4000000
/-! tables of whole numbers, services, as values (the laws k16 to k25) -/
namespace G
open PySem L2 Sx
def encH : Option Int → M
  | none => .non
  | some h => .int h
abbrev encI (l : List Int) : M := .tup (l.map M.int)
abbrev encL (l : List Int) : M := .lst (l.map M.int)
def encP (P : List (List Int)) : M := .tup (P.map encI)
abbrev encN (n : Nat) : M := .int (n : Int)
abbrev encNs (l : List Nat) : M := .tup (l.map encN)
abbrev encCR (r : List (Option Int)) : M := .tup (r.map encH)
def encC (C : List (List (Option Int))) : M := .tup (C.map encCR)
def encV (P : List (List Int)) (C : List (List (Option Int))) : M := .tup [encP P, encC C]
def at1 (l : List Int) (i : Nat) : Int := l.getD i 0
def at2 (P : List (List Int)) (i j : Nat) : Int := at1 (P.getD i []) j
structure Tab (n : Nat) (P : List (List Int)) : Prop where
  len : P.length = n
  row : ∀ r ∈ P, r.length = n
theorem at1_eq {l : List Int} {i : Nat} (h : i < l.length) : at1 l i = l[i] := by
  unfold at1
  rw [List.getD_eq_getElem?_getD, List.getElem?_eq_getElem h]
  rfl
theorem at1_at {l : List Int} {i : Nat} (h : i < l.length) : (l.map M.int)[i]? = some (.int (at1 l i)) := by
  rw [at1_eq h, List.getElem?_map, List.getElem?_eq_getElem h]
  rfl
theorem atI1 {l : List Int} {i : Nat} (h : i < l.length) : atI (l.map M.int) (i : Int) = some (.int (at1 l i)) := atI_nat (at1_at h)
theorem Tab.at {n : Nat} {P : List (List Int)} (h : Tab n P) {i : Nat} (hi : i < n) : ∃ hP : i < P.length, P.getD i [] = P[i] ∧ P[i].length = n := by
  have hP : i < P.length := by rw [h.len]; exact hi
  refine ⟨hP, ?_, h.row _ (List.getElem_mem hP)⟩
  rw [List.getD_eq_getElem?_getD, List.getElem?_eq_getElem hP]
  rfl
theorem Tab.rlen {n : Nat} {P : List (List Int)} (h : Tab n P) {i : Nat} (hi : i < n) : (P.getD i []).length = n := by
  obtain ⟨_, e, l⟩ := h.at hi
  rw [e, l]
theorem Tab.get {n : Nat} {P : List (List Int)} (h : Tab n P) {i : Nat} (hi : i < n) : P[i]? = some (P.getD i []) := by
  obtain ⟨h1, e, _⟩ := h.at hi
  rw [e, List.getElem?_eq_getElem h1]
theorem Tab.at2 {n : Nat} {P : List (List Int)} (h : Tab n P) {i j : Nat} (hi : i < n) (hj : j < n) : ∃ (h1 : i < P.length) (h2 : j < P[i].length), G.at2 P i j = P[i][j] := by
  obtain ⟨h1, e, h3⟩ := h.at hi
  have h2 : j < P[i].length := by omega
  refine ⟨h1, h2, ?_⟩
  unfold G.at2
  rw [e, at1_eq h2]
/-- the row and the entry of a table, as values -/
theorem Tab.atI {n : Nat} {P : List (List Int)} (h : Tab n P) {i : Nat} (hi : i < n) : atI (P.map encI) (i : Int) = some (encI (P.getD i [])) := atI_nat (by rw [List.getElem?_map, h.get hi]; rfl)
theorem Tab.atL {n : Nat} {P : List (List Int)} (h : Tab n P) {i : Nat} (hi : i < n) : L2.atI (P.map encL) (i : Int) = some (encL (P.getD i [])) := atI_nat (by rw [List.getElem?_map, h.get hi]; rfl)
theorem Tab.atJ {n : Nat} {P : List (List Int)} (h : Tab n P) {i j : Nat} (hi : i < n) (hj : j < n) : L2.atI ((P.getD i []).map M.int) (j : Int) = some (.int (G.at2 P i j)) := atI1 (by rw [h.rlen hi]; exact hj)
theorem ixN_nat {n i : Nat} (h : i < n) : ixN n (i : Int) = some i := by
  unfold ixN
  rw [if_pos (by omega), if_pos (by omega)]
  rfl
/-- a table with one entry changed -/
def put2 (P : List (List Int)) (i j : Nat) (v : Int) : List (List Int) := P.set i ((P.getD i []).set j v)
theorem put2_tab {n : Nat} {P : List (List Int)} (h : Tab n P) {i j : Nat} {v : Int} (hi : i < n) : Tab n (put2 P i j v) := by
  refine ⟨by unfold put2; rw [List.length_set]; exact h.len, fun r hr => ?_⟩
  rcases List.mem_or_eq_of_mem_set hr with z | z
  · exact h.row r z
  · rw [z, List.length_set, h.rlen hi]
theorem put2_at {n : Nat} {P : List (List Int)} (h : Tab n P) {i j a b : Nat} {v : Int} (hi : i < n) (hj : j < n) : at2 (put2 P i j v) a b = if a = i ∧ b = j then v else at2 P a b := by
  obtain ⟨h1, e, l⟩ := h.at hi
  unfold put2 at2
  by_cases ca : a = i
  · subst ca
    have e1 : (P.set a ((P.getD a []).set j v)).getD a [] = (P.getD a []).set j v := by
      rw [List.getD_eq_getElem?_getD, List.getElem?_set_self h1]; rfl
    rw [e1]
    unfold at1
    by_cases cb : b = j
    · subst cb
      rw [List.getD_eq_getElem?_getD, List.getElem?_set_self (by rw [e, l]; exact hj), if_pos ⟨rfl, rfl⟩]
      rfl
    · rw [List.getD_eq_getElem?_getD, List.getElem?_set_ne (fun z => cb z.symm), if_neg (fun z => cb z.2)]; simp only [List.getD_eq_getElem?_getD]
  · have e1 : (P.set i ((P.getD i []).set j v)).getD a [] = P.getD a [] := by
      simp only [List.getD_eq_getElem?_getD, List.getElem?_set_ne (fun z => ca z.symm)]
    rw [e1, if_neg (fun z => ca z.1)]
/-- rows of a table as own lists -/
abbrev rowsL (P : List (List Int)) : List (List M) := P.map (List.map M.int)
theorem rowsL_put {P : List (List Int)} {i j : Nat} {v : Int} : (rowsL P).set i (((P.getD i []).map M.int).set j (.int v)) = rowsL (put2 P i j v) := by
  unfold put2 rowsL
  rw [List.map_set, List.map_set]
end G

set_option Elab.async false
set_option linter.all false
set_option maxRecDepth 100000
set_option maxHeartbeats 4000000
/-! UAk: keys of rows in dicts -/
namespace G
open PySem L2 Sx
def nkI (l : List Int) : NestedKey := .tup (l.map .num)
theorem keyMs_int : ∀ l : List Int, keyMs (l.map M.int) = some (l.map .num)
  | [] => rfl
  | x :: l => by
    show (match keyM (.int x), keyMs (l.map M.int) with
      | some k, some ks => some (k :: ks)
      | _, _ => none) = _
    rw [keyMs_int l]
    rfl
theorem keyM_encI (l : List Int) : keyM (encI l) = some (nkI l) := by
  show (keyMs (l.map M.int)).map NestedKey.tup = _
  rw [keyMs_int]
  rfl
theorem depth_num : ∀ l : List Int, NestedKey.depthAll (l.map .num) = 0
  | [] => rfl
  | x :: l => by
    show max (NestedKey.depth (.num x)) (NestedKey.depthAll (l.map .num)) = 0
    rw [depth_num l]
    rfl
theorem keyT_encI (l : List Int) : keyT (encI l) = some (nkI l) := by
  show (match keyM (encI l) with
    | some k => if k.depth ≤ 8 then some k else none
    | none => none) = _
  rw [keyM_encI]
  have : (nkI l).depth ≤ 8 := by
    show NestedKey.depthAll (l.map .num) + 1 ≤ 8
    rw [depth_num]
    decide
  simp [this]
theorem num_inj : ∀ {l l' : List Int}, l.map NestedKey.num = l'.map NestedKey.num → l = l'
  | [], [], _ => rfl
  | [], _ :: _, h => by cases h
  | _ :: _, [], h => by cases h
  | x :: l, y :: l', h => by
    simp only [List.map_cons, List.cons.injEq, NestedKey.num.injEq] at h
    rw [h.1, num_inj h.2]
theorem nkI_inj {l l' : List Int} (h : nkI l = nkI l') : l = l' := by
  unfold nkI at h
  simp only [NestedKey.tup.injEq] at h
  exact num_inj h
theorem findT_mem {kvs : List (M × M)} {k : NestedKey} {m : M} (h : findT kvs k = some m) : ∃ x, (x, m) ∈ kvs ∧ keyM x = some k := by
  unfold findT at h
  cases q : kvs.find? (fun kv => decide (keyM kv.1 = some k)) with
  | none => rw [q] at h; cases h
  | some kv =>
    rw [q] at h
    cases h
    exact ⟨kv.1, List.mem_of_find?_eq_some q, by have := List.find?_some q; simpa using this⟩
theorem putT_mem {kvs : List (M × M)} {x m : M} {k : NestedKey} {kv : M × M} (h : kv ∈ putT kvs x k m) : kv ∈ kvs ∨ kv = (x, m) ∨ (keyM kv.1 = some k ∧ kv.2 = m) := by
  unfold putT at h
  split at h
  · obtain ⟨a, ha, e⟩ := List.mem_map.mp h
    by_cases c : keyM a.1 = some k
    · rw [if_pos c] at e
      subst e
      exact .inr (.inr ⟨c, rfl⟩)
    · rw [if_neg c] at e
      subst e
      exact .inl ha
  · rcases List.mem_append.mp h with z | z
    · exact .inl z
    · exact .inr (.inl (List.mem_singleton.mp z))
theorem putT_len {kvs : List (M × M)} {x m : M} {k : NestedKey} : (putT kvs x k m).length ≤ kvs.length + 1 := by
  unfold putT
  split <;> simp
/-- as many unlike things as there are numbers for them -/
theorem few_of {α : Type} : ∀ (l : List α) (N : Nat) (f : α → Nat), l.Nodup → (∀ x ∈ l, f x < N) → (∀ x ∈ l, ∀ y ∈ l, f x = f y → x = y) → l.length ≤ N
  | [], _, _, _, _, _ => by simp
  | x :: l, N, f, hn, hb, hi => by
    have hx := hb x (List.mem_cons_self ..)
    obtain ⟨hn1, hn2⟩ := List.nodup_cons.mp hn
    have hne : ∀ y ∈ l, f y ≠ f x := fun y hy e => hn1 (by rw [← hi y (List.mem_cons_of_mem _ hy) x (List.mem_cons_self ..) e]; exact hy)
    have := few_of l (N - 1) (fun y => if f x < f y then f y - 1 else f y) hn2 (fun y hy => by
      have h1 := hb y (List.mem_cons_of_mem _ hy)
      have h2 := hne y hy
      split <;> omega) (fun y hy z hz e => by
      have h1 := hne y hy
      have h2 := hne z hz
      refine hi y (List.mem_cons_of_mem _ hy) z (List.mem_cons_of_mem _ hz) ?_
      split at e <;> split at e <;> omega)
    simp only [List.length_cons]
    omega
end G

set_option Elab.async false
set_option linter.all false
set_option maxRecDepth 100000
set_option maxHeartbeats 4000000
/-! the constants of this law (printed by mkuk.py) -/
namespace G
open PySem L2 Sx
mutual
theorem Pl.bs : ∀ {k : Nat} {m : M}, Pl blM k m → Pl strBlM k m
  | k, .non, h => by cases k <;> simp [Pl] at h ⊢
  | k, .int _, h => by cases k <;> simp [Pl] at h ⊢
  | k, .str _, h => by cases k <;> simp [Pl, blM] at h
  | k, .bl _, h => by cases k <;> simp [Pl, strBlM] at h ⊢
  | 0, .tup xs, h => by simp [Pl] at h
  | k + 1, .tup xs, h => by
    simp only [Pl] at h ⊢
    exact Pls.bs h
  | k, .lst _, h => by cases k <;> simp [Pl] at h
  | k, .ro _, h => by cases k <;> simp [Pl] at h
theorem Pls.bs : ∀ {k : Nat} {xs : List M}, Pls blM k xs → Pls strBlM k xs
  | k, [], _ => by simp [Pls]
  | k, x :: xs, h => by
    simp only [Pls] at h ⊢
    exact ⟨Pl.bs h.1, Pls.bs h.2⟩
end
theorem sameS (k : Nat) : SameOk strBlM k (m_same k) := sameC (fun _ => rfl) k
theorem same (k : Nat) : SameOk blM k (m_same k) := fun Q E m h => sameS k Q E m (Pl.bs h)
theorem take : TakeOk m_take := takeOk_of (c1 := 982) (c2 := 88) (md := 2147483399) (dv := 8209) (by decide) (by decide)
theorem pick : PickOk m_pick := pickOk_of take
theorem box : BoxOk m_box := boxOk_of (A := 7919) (B := 1931) (C := 48271) (D := 40014) (F := 1931) (by decide) (by decide) (by decide) (by decide)
end G

set_option Elab.async false
set_option linter.all false
set_option maxRecDepth 100000
set_option maxHeartbeats 4000000
/-! least prices by way of all stops (the laws k16 to k25) -/
namespace G
open PySem L2 Sx
theorem Tab.ex {n : Nat} {P : List (List Int)} (h : Tab n P) {i : Nat} (hi : i < n) : ∃ w, P[i]? = some w ∧ w.length = n ∧ w ∈ P ∧ (∀ j < n, L2.atI (w.map M.int) (j : Int) = some (.int (G.at2 P i j))) ∧ ∀ (j : Nat) (v : Int), rowsL (put2 P i j v) = (rowsL P).set i ((w.map M.int).set j (.int v)) := by
  obtain ⟨h1, e, h2⟩ := h.at hi
  refine ⟨P[i], List.getElem?_eq_getElem h1, h2, List.getElem_mem h1, fun j hj => ?_, fun j v => ?_⟩
  · have := h.atJ hi hj
    rw [e] at this
    exact this
  · rw [← rowsL_put, e]
theorem ints_map {α : Type} (f : α → Int) : ∀ l : List α, intsM (l.map fun t => M.int (f t)) = some (l.map f)
  | [] => rfl
  | a :: l => by
    show intsM (M.int (f a) :: l.map fun t => M.int (f t)) = _
    unfold intsM
    rw [ints_map f l]
    rfl
theorem a_gMin1 {l : List Int} {r : Ro} : gMin [.tmp (l.map M.int)] r = if nonE l = true then .ok (.fr (.int (minI l))) r else .bad := by
  show (match intsM (l.map M.int) with
    | some ns => if nonE ns = true then R.ok (EV.fr (.int (minI ns))) r else .bad
    | none => .bad) = _
  rw [ints_map (fun x => x) l, List.map_id']
theorem a_gMinT {l : List Int} {r : Ro} : gMin [.fr (.tup (l.map M.int))] r = if nonE l = true then .ok (.fr (.int (minI l))) r else .bad := by
  show (match intsM (l.map M.int) with
    | some ns => if nonE ns = true then R.ok (EV.fr (.int (minI ns))) r else .bad
    | none => .bad) = _
  rw [ints_map (fun x => x) l, List.map_id']
@[simp] theorem a_gMin2 {a b : Int} {r : Ro} : gMin [.fr (.int a), .fr (.int b)] r = .ok (.fr (.int (min a b))) r := rfl
theorem nonE_of {l : List Int} (h : 0 < l.length) : nonE l = true := by
  cases l with
  | nil => cases h
  | cons _ _ => rfl
structure Prc (n : Nat) (mo : Int) (P : List (List Int)) : Prop where
  tab : Tab n P
  lo : ∀ i < n, ∀ j < n, 0 ≤ at2 P i j
  hi : ∀ i < n, ∀ j < n, at2 P i j ≤ mo
  dg : ∀ i < n, at2 P i i = 0
def TriTo (n m : Nat) (P : List (List Int)) : Prop := ∀ k < m, ∀ i < n, ∀ j < n, at2 P i j ≤ at2 P i k + at2 P k j
def Le2 (n : Nat) (P R : List (List Int)) : Prop := ∀ i < n, ∀ j < n, at2 P i j ≤ at2 R i j
structure Shut (n : Nat) (mo : Int) (P : List (List Int)) : Prop extends Prc n mo P where
  tri : TriTo n n P
/-- the stage k, done for the rows before i and the row i before j -/
def Stage (n k i j : Nat) (D R : List (List Int)) : Prop := Tab n R ∧ ∀ a < n, ∀ b < n, at2 R a b = if a < i ∨ a = i ∧ b < j then min (at2 D a b) (at2 D a k + at2 D k b) else at2 D a b
section
variable {n k i j : Nat} {mo : Int} {D R : List (List Int)}
theorem stage0 (h : Tab n D) : Stage n k 0 0 D D := ⟨h, fun a ha b hb => by rw [if_neg (by omega)]⟩
theorem stage_step (hD : Prc n mo D) (h : Stage n k i j D R) (hk : k < n) (hi : i < n) (hj : j < n) : Stage n k i (j + 1) D (put2 R i j (min (at2 R i j) (at2 R i k + at2 R k j))) := by
  have dk := hD.dg k hk
  have a1 : at2 R i j = at2 D i j := by rw [h.2 i hi j hj, if_neg (by omega)]
  have a2 : at2 R i k = at2 D i k := by
    rw [h.2 i hi k hk]
    split
    · rw [dk]; omega
    · rfl
  have a3 : at2 R k j = at2 D k j := by
    rw [h.2 k hk j hj]
    split
    · rw [dk]; omega
    · rfl
  refine ⟨put2_tab h.1 hi, fun a ha b hb => ?_⟩
  rw [put2_at h.1 hi hj, a1, a2, a3]
  by_cases e : a = i ∧ b = j
  · rw [if_pos e, if_pos (by omega), e.1, e.2]
  · rw [if_neg e, h.2 a ha b hb]
    by_cases e2 : a < i ∨ a = i ∧ b < j
    · rw [if_pos e2, if_pos (by omega)]
    · rw [if_neg e2, if_neg (by omega)]
theorem stage_row (h : Stage n k i n D R) : Stage n k (i + 1) 0 D R := ⟨h.1, fun a ha b hb => by
  rw [h.2 a ha b hb]
  by_cases e : a < i ∨ a = i ∧ b < n
  · rw [if_pos e, if_pos (by omega)]
  · rw [if_neg e, if_neg (by omega)]⟩
theorem stage_prc (hD : Prc n mo D) (h : Stage n k i j D R) (hk : k < n) : Prc n mo R := by
  refine ⟨h.1, fun a ha b hb => ?_, fun a ha b hb => ?_, fun a ha => ?_⟩
  · rw [h.2 a ha b hb]
    have h1 := hD.lo a ha b hb
    have h2 := hD.lo a ha k hk
    have h3 := hD.lo k hk b hb
    split <;> omega
  · rw [h.2 a ha b hb]
    have h1 := hD.hi a ha b hb
    split <;> omega
  · rw [h.2 a ha a ha]
    have h1 := hD.dg a ha
    have h2 := hD.lo a ha k hk
    have h3 := hD.lo k hk a ha
    split <;> omega
theorem stage_le {P : List (List Int)} (hP : Le2 n D P) (h : Stage n k i j D R) : Le2 n R P := fun a ha b hb => by
  rw [h.2 a ha b hb]
  have h1 := hP a ha b hb
  split <;> omega
theorem stage_tri (hD : Prc n mo D) (ht : TriTo n k D) (h : Stage n k n 0 D R) (hk : k < n) : TriTo n (k + 1) R := by
  intro m hm a ha b hb
  have hmn : m < n := by omega
  rw [h.2 a ha b hb, h.2 a ha m hmn, h.2 m hmn b hb, if_pos (by omega), if_pos (by omega), if_pos (by omega)]
  have dk := hD.dg k hk
  have n1 := hD.lo a ha k hk
  have n2 := hD.lo k hk b hb
  have n3 := hD.lo m hmn k hk
  have n4 := hD.lo k hk m hmn
  by_cases e : m = k
  · subst e
    rw [dk]
    omega
  · have t := ht m (by omega) a ha b hb
    have t2 := ht m (by omega) a ha k hk
    have t3 := ht m (by omega) k hk b hb
    omega
end
def tupOf : M → M
  | .lst xs => .tup xs
  | m => m
/-- the rows' marks are lists of numbers -/
abbrev ClI (n : Nat) (mo : Int) (P : List (List Int)) (m : Nat) (R : List (List Int)) : Prop := Prc n mo R ∧ TriTo n m R ∧ Le2 n R P
end G

set_option Elab.async false
set_option linter.all false
set_option maxRecDepth 100000
set_option maxHeartbeats 4000000
/-! drawn prices, costs, services (the laws k16 to k25) -/
namespace G
open PySem L2 Sx
section
variable {E : QX}
/-- a row of drawn prices, as far as it is drawn -/
structure RowTo (i : Nat) (mo : Int) (j : Nat) (w : List Int) : Prop where
  len : w.length = j
  lo : ∀ x ∈ w, 0 ≤ x ∧ x ≤ mo
  dg : i < j → at1 w i = 0
theorem rowTo0 {i : Nat} {mo : Int} : RowTo i mo 0 [] := ⟨rfl, (fun _ h => nomatch h), (fun h => absurd h (by omega))⟩
theorem at1_app {w : List Int} {x : Int} {i : Nat} : at1 (w ++ [x]) i = if i < w.length then at1 w i else if i = w.length then x else 0 := by
  unfold at1
  simp only [List.getD_eq_getElem?_getD]
  by_cases h : i < w.length
  · rw [if_pos h, List.getElem?_append_left h]
  · rw [if_neg h, List.getElem?_append_right (by omega)]
    by_cases e : i = w.length
    · rw [if_pos e, e]; simp
    · rw [if_neg e, List.getElem?_eq_none (by simp; omega)]; rfl
theorem rowTo_step {i j : Nat} {mo x : Int} {w : List Int} (h : RowTo i mo j w) (hx : 0 ≤ x ∧ x ≤ mo) (hd : i = j → x = 0) : RowTo i mo (j + 1) (w ++ [x]) := by
  refine ⟨by simp [h.len], fun y hy => ?_, fun hij => ?_⟩
  · rcases List.mem_append.mp hy with z | z
    · exact h.lo y z
    · rw [List.mem_singleton.mp z]; exact hx
  · rw [at1_app, h.len]
    by_cases e : i < j
    · rw [if_pos e]; exact h.dg e
    · rw [if_neg e, if_pos (by omega)]; exact hd (by omega)
structure RowsTo (n : Nat) (mo : Int) (i : Nat) (P : List (List Int)) : Prop where
  len : P.length = i
  row : ∀ (a : Nat) (w : List Int), P[a]? = some w → RowTo a mo n w
theorem rowsTo0 {n : Nat} {mo : Int} : RowsTo n mo 0 [] := ⟨rfl, fun a w h => by simp at h⟩
theorem rowsTo_step {n i : Nat} {mo : Int} {P : List (List Int)} {w : List Int} (h : RowsTo n mo i P) (hw : RowTo i mo n w) : RowsTo n mo (i + 1) (P ++ [w]) := by
  refine ⟨by simp [h.len], fun a v hv => ?_⟩
  by_cases e : a < i
  · rw [List.getElem?_append_left (by rw [h.len]; exact e)] at hv
    exact h.row a v hv
  · rw [List.getElem?_append_right (by rw [h.len]; omega), h.len] at hv
    have ea : a = i := by
      have := (List.getElem?_eq_some_iff.mp hv).1
      simp at this
      omega
    subst ea
    simp at hv
    rw [← hv]
    exact hw
theorem rowsTo_prc {n : Nat} {mo : Int} {P : List (List Int)} (h : RowsTo n mo n P) : Prc n mo P := by
  have T : Tab n P := ⟨h.len, fun w hw => by
    obtain ⟨a, ha, e⟩ := List.getElem_of_mem hw
    exact (h.row a w (by rw [List.getElem?_eq_getElem ha, e])).len⟩
  have g : ∀ i < n, ∀ j < n, 0 ≤ at2 P i j ∧ at2 P i j ≤ mo := fun i hi j hj => by
    have hr := h.row i _ (T.get hi)
    have hl : j < (P.getD i []).length := by rw [T.rlen hi]; exact hj
    show 0 ≤ at1 (P.getD i []) j ∧ at1 (P.getD i []) j ≤ mo
    rw [at1_eq hl]
    exact hr.lo _ (List.getElem_mem hl)
  exact ⟨T, fun i hi j hj => (g i hi j hj).1, fun i hi j hj => (g i hi j hj).2, fun i hi => (h.row i _ (T.get hi)).dg hi⟩
/-- a row of costs, as far as it is drawn -/
structure CRow (hi : Int) (sure j : Nat) (w : List (Option Int)) : Prop where
  len : w.length = j
  lo : ∀ x, some x ∈ w → 0 ≤ x ∧ x ≤ hi
  dn : sure < j → ∃ x, some x ∈ w
theorem crow0 {hi : Int} {sure : Nat} : CRow hi sure 0 [] := ⟨rfl, (fun _ h => nomatch h), (fun h => absurd h (by omega))⟩
theorem crow_some {hi x : Int} {sure j : Nat} {w : List (Option Int)} (h : CRow hi sure j w) (hx : 0 ≤ x ∧ x ≤ hi) : CRow hi sure (j + 1) (w ++ [some x]) := by
  refine ⟨by simp [h.len], fun y hy => ?_, fun _ => ⟨x, by simp⟩⟩
  rcases List.mem_append.mp hy with z | z
  · exact h.lo y z
  · cases List.mem_singleton.mp z; exact hx
theorem crow_none {hi : Int} {sure j : Nat} {w : List (Option Int)} (h : CRow hi sure j w) (hx : j ≠ sure) : CRow hi sure (j + 1) (w ++ [none]) := by
  refine ⟨by simp [h.len], fun y hy => ?_, fun hs => ?_⟩
  · rcases List.mem_append.mp hy with z | z
    · exact h.lo y z
    · cases List.mem_singleton.mp z
  · obtain ⟨x, hx⟩ := h.dn (by omega)
    exact ⟨x, by simp [hx]⟩
/-- a service: n standings, t tasks, prices to mo -/
structure Sv (n t mo : Nat) (P : List (List Int)) (C : List (List (Option Int))) : Prop where
  n0 : 0 < n
  n1 : n ≤ 10
  t0 : 0 < t
  t1 : t ≤ 10
  m1 : mo ≤ 60
  pr : Shut n mo P
  cl : C.length = t
  cr : ∀ r ∈ C, r.length = n
  co : ∀ r ∈ C, ∀ x, some x ∈ r → 0 ≤ x ∧ x ≤ 60
  dn : ∀ r ∈ C, ∃ x, some x ∈ r
end
end G

set_option Elab.async false
set_option linter.all false
set_option maxRecDepth 100000
set_option maxHeartbeats 4000000
/-! BBp: books and cases, as values -/
namespace G
open PySem L2 Sx
@[simp] theorem ev_ct {r : Ro} : sCt r = .ok .ct r := (rfl)
abbrev Bk := List (List (Option (Nat × Nat × Nat)))
def encSt : Option (Nat × Nat × Nat) → M
  | none => .non
  | some (t, w, a) => .tup [encN t, encN w, encN a]
def encRm (r : List (Option (Nat × Nat × Nat))) : M := .tup (r.map encSt)
def encBk (B : Bk) : M := .tup (B.map encRm)
/-- a book: R rooms, steps with tasks below t -/
structure BkOk (R t : Nat) (B : Bk) : Prop where
  len : B.length = R
  row : ∀ r ∈ B, r.length ≤ 100
  stp : ∀ r ∈ B, ∀ q, some q ∈ r → q.1 < t ∧ q.2.2 < R
  un : ∀ r ∈ B, r.length = (B.getD 0 []).length
def encWh (P : List (List Int)) (C : List (List (Option Int))) (P2 : List (List Int)) (C2 : List (List (Option Int))) (B : Bk) : M := .tup [encV P C, encV P2 C2, encBk B]
section
variable {P : List (List Int)} {C : List (List (Option Int))} {P2 : List (List Int)} {C2 : List (List (Option Int))} {B : Bk}
/-- all of it is plain -/
theorem wh_pl : Pl blM 6 (encWh P C P2 C2 B) := by
  have sv : ∀ (P : List (List Int)) (C : List (List (Option Int))), Pl blM 5 (encV P C) := fun P C => by
    have h1 : Pls blM 3 (P.map encI) := by
      refine pls_all _ fun m hm => ?_
      obtain ⟨r, _, rfl⟩ := List.mem_map.mp hm
      exact pls_all _ fun m hm => by
        obtain ⟨x, _, rfl⟩ := List.mem_map.mp hm
        trivial
    have h2 : Pls blM 3 (C.map encCR) := by
      refine pls_all _ fun m hm => ?_
      obtain ⟨r, _, rfl⟩ := List.mem_map.mp hm
      exact pls_all _ fun m hm => by
        obtain ⟨x, _, rfl⟩ := List.mem_map.mp hm
        cases x <;> trivial
    exact ⟨h1, h2, trivial⟩
  have hb : Pls blM 4 (B.map encRm) := by
    refine pls_all _ fun m hm => ?_
    obtain ⟨r, _, rfl⟩ := List.mem_map.mp hm
    refine pls_all _ fun m hm => ?_
    obtain ⟨o, _, rfl⟩ := List.mem_map.mp hm
    cases o with
    | none => trivial
    | some q => exact ⟨trivial, trivial, trivial, trivial⟩
  exact ⟨sv P C, sv P2 C2, hb, trivial⟩
end
end G

set_option Elab.async false
set_option linter.all false
set_option maxRecDepth 100000
set_option maxHeartbeats 4000000
/-! SKa: states of a look, numbered (k71, k74) -/
namespace G
open PySem L2 Sx
/-- a state: a room, the signs that are told -/
structure Sta where
  room : Nat
  sg : List Nat
  deriving DecidableEq
abbrev encSa (p : Sta) : M := .tup [encN p.room, encNs p.sg]
def nkSa (p : Sta) : NestedKey := .tup [.num (p.room : Int), nkI (p.sg.map Int.ofNat)]
theorem encNs_I (l : List Nat) : encNs l = encI (l.map Int.ofNat) := by
  show M.tup (l.map encN) = .tup ((l.map Int.ofNat).map M.int)
  rw [List.map_map]; rfl
theorem keyM_sa (p : Sta) : keyM (encSa p) = some (nkSa p) := by
  unfold encSa
  rw [encNs_I]
  show (match keyM (encN p.room), keyMs [encI (p.sg.map Int.ofNat)] with
    | some k, some ks => some (k :: ks)
    | _, _ => none).map NestedKey.tup = _
  have e : keyMs [encI (p.sg.map Int.ofNat)] = some [nkI (p.sg.map Int.ofNat)] := by
    show (match keyM (encI (p.sg.map Int.ofNat)), keyMs [] with
      | some k, some ks => some (k :: ks)
      | _, _ => none) = _
    rw [keyM_encI]
    rfl
  rw [e]
  rfl
theorem keyT_sa (p : Sta) : keyT (encSa p) = some (nkSa p) := by
  show (match keyM (encSa p) with
    | some k => if k.depth ≤ 8 then some k else none
    | none => none) = _
  rw [keyM_sa]
  have : (nkSa p).depth ≤ 8 := by
    show max (NestedKey.depth (.num (p.room : Int))) (max (NestedKey.depthAll ((p.sg.map Int.ofNat).map .num) + 1) 0) + 1 ≤ 8
    rw [depth_num]
    show max 0 (max (0 + 1) 0) + 1 ≤ 8
    decide
  simp [this]
theorem ofNat_inj : ∀ {l l' : List Nat}, l.map Int.ofNat = l'.map Int.ofNat → l = l'
  | [], [], _ => rfl
  | [], _ :: _, h => by cases h
  | _ :: _, [], h => by cases h
  | x :: l, y :: l', h => by
    simp only [List.map_cons, List.cons.injEq] at h
    have h1 : x = y := Int.ofNat.inj h.1
    rw [h1, ofNat_inj h.2]
theorem nkSa_inj {p q : Sta} (h : nkSa p = nkSa q) : p = q := by
  unfold nkSa at h
  simp only [NestedKey.tup.injEq, List.cons.injEq, NestedKey.num.injEq, and_true] at h
  obtain ⟨h1, h2⟩ := h
  have h2 := ofNat_inj (nkI_inj h2)
  obtain ⟨r, g⟩ := p
  obtain ⟨r', g'⟩ := q
  have h1 : (r : Int) = r' := h1
  have h2 : g = g' := h2
  have e1 : r = r' := by omega
  subst e1 h2
  rfl
/-- the numbers of places: each its place in the row -/
def numS : Nat → List Sta → List (M × M)
  | _, [] => []
  | k, p :: L => (encSa p, encN k) :: numS (k + 1) L
theorem numS_len : ∀ (L : List Sta) (k : Nat), (numS k L).length = L.length
  | [], _ => rfl
  | _ :: L, k => by simp [numS, numS_len L]
theorem numS_keys : ∀ (L : List Sta) (k : Nat), (numS k L).map (fun kv => kv.1) = L.map encSa
  | [], _ => rfl
  | _ :: L, k => by simp [numS, numS_keys L]
theorem numS_app : ∀ (L : List Sta) (k : Nat) (p : Sta), numS k (L ++ [p]) = numS k L ++ [(encSa p, encN (k + L.length))]
  | [], k, p => rfl
  | q :: L, k, p => by
    show (encSa q, encN k) :: numS (k + 1) (L ++ [p]) = (encSa q, encN k) :: numS (k + 1) L ++ [_]
    rw [numS_app L (k + 1) p]
    have : k + 1 + L.length = k + (q :: L).length := by simp; omega
    rw [this]
    rfl
def idxS (L : List Sta) (p : Sta) : Option Nat := L.findIdx? fun q => decide (q = p)
theorem find_numS (p : Sta) : ∀ (L : List Sta) (k : Nat), findT (numS k L) (nkSa p) = (idxS L p).map fun i => encN (k + i)
  | [], _ => rfl
  | q :: L, k => by
    have ih := find_numS p L (k + 1)
    unfold findT idxS at ih ⊢
    rw [numS, List.find?_cons, List.findIdx?_cons]
    by_cases c : q = p
    · subst c
      rw [keyM_sa]
      simp
    · have c2 : ¬ nkSa q = nkSa p := fun z => c (nkSa_inj z)
      rw [keyM_sa]
      simp only [Option.some.injEq, c2, c, decide_false]
      rw [ih]
      cases L.findIdx? fun q => decide (q = p) with
      | none => rfl
      | some i =>
        show some (encN (k + 1 + i)) = some (encN (k + (i + 1)))
        rw [show k + 1 + i = k + (i + 1) by omega]
theorem idxS_none {L : List Sta} {p : Sta} (h : idxS L p = none) : p ∉ L := by
  intro hp
  have := List.findIdx?_eq_none_iff.mp h p hp
  simp at this
theorem idxS_some {L : List Sta} {p : Sta} {i : Nat} (h : idxS L p = some i) : p ∈ L ∧ i < L.length := by
  obtain ⟨hi, h1, _⟩ := List.findIdx?_eq_some_iff_getElem.mp h
  have : L[i] = p := by simpa using h1
  exact ⟨this ▸ List.getElem_mem hi, hi⟩
/-- the number of a place, the places with it -/
def addS (L : List Sta) (p : Sta) : Nat × List Sta := match idxS L p with
  | some i => (i, L)
  | none => (L.length, L ++ [p])
theorem put_numS {L : List Sta} {p : Sta} (h : idxS L p = none) : putT (numS 0 L) (encSa p) (nkSa p) (encN L.length) = numS 0 (L ++ [p]) := by
  unfold putT
  rw [find_numS, h, numS_app, Nat.zero_add]
  rfl
theorem find_addS {L : List Sta} {p : Sta} : findT (numS 0 (addS L p).2) (nkSa p) = some (encN (addS L p).1) := by
  unfold addS
  cases h : idxS L p with
  | some i =>
    dsimp only
    rw [find_numS, h, Option.map_some, Nat.zero_add]
  | none =>
    dsimp only
    rw [find_numS]
    have : idxS (L ++ [p]) p = some L.length := by
      unfold idxS at h ⊢
      rw [List.findIdx?_append, h]
      simp
    rw [this, Option.map_some, Nat.zero_add]
theorem addS_nodup {L : List Sta} {p : Sta} (h : L.Nodup) : (addS L p).2.Nodup := by
  unfold addS
  cases hi : idxS L p with
  | some i => exact h
  | none =>
    dsimp only
    rw [List.nodup_append]
    refine ⟨h, by simp, fun a ha b hb => ?_⟩
    rw [List.mem_singleton.mp hb]
    exact fun e => idxS_none hi (e ▸ ha)
end G

set_option Elab.async false
set_option linter.all false
set_option maxRecDepth 100000
set_option maxHeartbeats 4000000
/-! SKb: the look, plain (k71, k74) -/
namespace G
open PySem L2 Sx
abbrev Stp3 := Nat × Nat × Nat
/-- what the rooms tell for signs, one behind the other -/
def wkO (B : Bk) : Nat → List Nat → Option (List Stp3)
  | _, [] => some []
  | a, s :: ss => match (B.getD a []).getD s none with
    | none => none
    | some q => (wkO B q.2.2 ss).map fun l => q :: l
def lkS (B : Bk) (idle many : Nat) (st : Sta) (s : Nat) : Option (Nat × Nat × Sta) := (wkO B st.room (st.sg ++ [s])).map fun qs =>
  if st.sg.length < many then (idle, (qs.getD st.sg.length (0, 0, 0)).2.1, ⟨st.room, st.sg ++ [s]⟩) else ((qs.getD 0 (0, 0, 0)).1, (qs.getD st.sg.length (0, 0, 0)).2.1, ⟨(qs.getD 0 (0, 0, 0)).2.2, (st.sg ++ [s]).drop 1⟩)
def rowN (B : Bk) (idle many : Nat) (st : Sta) (L : List Sta) : Nat → List (Option Stp3) × List Sta
  | 0 => ([], L)
  | j + 1 => match lkS B idle many st j with
    | none => ((rowN B idle many st L j).1 ++ [none], (rowN B idle many st L j).2)
    | some x => ((rowN B idle many st L j).1 ++ [some (x.1, x.2.1, (addS (rowN B idle many st L j).2 x.2.2).1)], (addS (rowN B idle many st L j).2 x.2.2).2)
def stp71 (B : Bk) (idle many sg : Nat) (D : Bk × List Sta) : Bk × List Sta := match D.2[D.1.length]? with
  | none => D
  | some st => (D.1 ++ [(rowN B idle many st D.2 sg).1], (rowN B idle many st D.2 sg).2)
def run71 (B : Bk) (idle many sg : Nat) : Nat → Bk × List Sta
  | 0 => ([], [⟨0, []⟩])
  | k + 1 => stp71 B idle many sg (run71 B idle many sg k)
section
variable {B : Bk} {idle many sg R k : Nat} {L : List Sta} {st : Sta}
theorem wkO_len : ∀ {ss : List Nat} {a : Nat} {qs : List Stp3}, wkO B a ss = some qs → qs.length = ss.length
  | [], a, qs, h => by cases h; rfl
  | s :: ss, a, qs, h => by
    unfold wkO at h
    cases e : (B.getD a []).getD s none with
    | none => rw [e] at h; cases h
    | some q =>
      rw [e] at h
      cases e2 : wkO B q.2.2 ss with
      | none =>
        have h : (wkO B q.2.2 ss).map (fun l => q :: l) = some qs := h
        rw [e2] at h; cases h
      | some l =>
        have h : (wkO B q.2.2 ss).map (fun l => q :: l) = some qs := h
        rw [e2] at h
        cases h
        rw [List.length_cons, List.length_cons, wkO_len e2]
/-- what a state is -/
structure StOk71 (R sg many : Nat) (st : Sta) : Prop where
  r : st.room < R
  l : st.sg.length ≤ many
  s : ∀ x ∈ st.sg, x < sg
theorem lkS_ok (hB : ∀ r ∈ B, ∀ q, some q ∈ r → q.2.2 < R) (h : StOk71 R sg many st) {s : Nat} (hs : s < sg) {x : Nat × Nat × Sta} (e : lkS B idle many st s = some x) : StOk71 R sg many x.2.2 := by
  unfold lkS at e
  cases eq : wkO B st.room (st.sg ++ [s]) with
  | none => rw [eq] at e; cases e
  | some qs =>
    rw [eq] at e
    have e : (if st.sg.length < many then (idle, (qs.getD st.sg.length (0, 0, 0)).2.1, (⟨st.room, st.sg ++ [s]⟩ : Sta)) else ((qs.getD 0 (0, 0, 0)).1, (qs.getD st.sg.length (0, 0, 0)).2.1, ⟨(qs.getD 0 (0, 0, 0)).2.2, (st.sg ++ [s]).drop 1⟩)) = x := Option.some.inj e
    have mem : ∀ y ∈ st.sg ++ [s], y < sg := fun y hy => by
      rcases List.mem_append.mp hy with z | z
      · exact h.s y z
      · rw [List.mem_singleton.mp z]; exact hs
    by_cases c : st.sg.length < many
    · rw [if_pos c] at e
      rw [← e]
      refine ⟨h.r, ?_, mem⟩
      show (st.sg ++ [s]).length ≤ many
      rw [List.length_append]
      show st.sg.length + 1 ≤ many
      omega
    · rw [if_neg c] at e
      rw [← e]
      refine ⟨?_, ?_, fun y hy => mem y (List.mem_of_mem_drop hy)⟩
      · show (qs.getD 0 (0, 0, 0)).2.2 < R
        have ql := wkO_len eq
        rw [List.length_append] at ql
        obtain ⟨s0, ss, es⟩ : ∃ s0 ss, st.sg ++ [s] = s0 :: ss := by
          cases e0 : st.sg ++ [s] with
          | nil => simp at e0
          | cons a b => exact ⟨a, b, rfl⟩
        rw [es] at eq
        unfold wkO at eq
        cases e1 : (B.getD st.room []).getD s0 none with
        | none => rw [e1] at eq; cases eq
        | some q =>
          rw [e1] at eq
          have eq : (wkO B q.2.2 ss).map (fun l => q :: l) = some qs := eq
          cases e2 : wkO B q.2.2 ss with
          | none => rw [e2] at eq; cases eq
          | some l =>
            rw [e2] at eq
            cases eq
            show q.2.2 < R
            have qm : some q ∈ B.getD st.room [] := by
              rw [List.getD_eq_getElem?_getD] at e1
              cases e3 : (B.getD st.room [])[s0]? with
              | none => rw [e3] at e1; cases e1
              | some o => rw [e3] at e1; cases e1; exact List.mem_of_getElem? e3
            rw [List.getD_eq_getElem?_getD] at qm
            cases e4 : B[st.room]? with
            | none => rw [e4] at qm; cases qm
            | some r => rw [e4] at qm; exact hB r (List.mem_of_getElem? e4) q qm
      · show ((st.sg ++ [s]).drop 1).length ≤ many
        rw [List.length_drop, List.length_append]
        show st.sg.length + 1 - 1 ≤ many
        have := h.l
        omega
/-- the states that are numbered -/
def StsOk (R sg many : Nat) (L : List Sta) : Prop := L.Nodup ∧ ∀ st ∈ L, StOk71 R sg many st
theorem addS_ok (h : StsOk R sg many L) (hs : StOk71 R sg many st) : StsOk R sg many (addS L st).2 := by
  refine ⟨addS_nodup h.1, fun y hy => ?_⟩
  unfold addS at hy
  cases e : idxS L st with
  | some i => rw [e] at hy; exact h.2 y hy
  | none =>
    rw [e] at hy
    rcases List.mem_append.mp hy with z | z
    · exact h.2 y z
    · rw [List.mem_singleton.mp z]; exact hs
theorem addS_pre (L : List Sta) (st : Sta) : ∃ M', (addS L st).2 = L ++ M' := by
  unfold addS
  cases idxS L st with
  | some i => exact ⟨[], by simp⟩
  | none => exact ⟨[st], rfl⟩
theorem rowN_ok (hB : ∀ r ∈ B, ∀ q, some q ∈ r → q.2.2 < R) (h : StsOk R sg many L) (hst : StOk71 R sg many st) : ∀ j, j ≤ sg → StsOk R sg many (rowN B idle many st L j).2
  | 0, _ => h
  | j + 1, hj => by
    have ih := rowN_ok hB h hst j (by omega)
    unfold rowN
    cases e : lkS B idle many st j with
    | none => exact ih
    | some x => exact addS_ok ih (lkS_ok hB hst (by omega) e)
theorem rowN_pre : ∀ j, ∃ M', (rowN B idle many st L j).2 = L ++ M'
  | 0 => ⟨[], by simp [rowN]⟩
  | j + 1 => by
    obtain ⟨M1, e1⟩ := rowN_pre j
    unfold rowN
    cases e : lkS B idle many st j with
    | none => exact ⟨M1, e1⟩
    | some x =>
      obtain ⟨M2, e2⟩ := addS_pre (rowN B idle many st L j).2 x.2.2
      refine ⟨M1 ++ M2, ?_⟩
      show (addS (rowN B idle many st L j).2 x.2.2).2 = _
      rw [e2, e1, List.append_assoc]
theorem run_ok (hB : ∀ r ∈ B, ∀ q, some q ∈ r → q.2.2 < R) (R0 : 0 < R) : ∀ k, StsOk R sg many (run71 B idle many sg k).2
  | 0 => ⟨by show [(⟨0, []⟩ : Sta)].Nodup; simp, fun st h => by
      have : st = ⟨0, []⟩ := List.mem_singleton.mp h
      subst this
      exact ⟨R0, Nat.zero_le _, fun _ h => nomatch h⟩⟩
  | k + 1 => by
    have ih := run_ok hB R0 k
    show StsOk R sg many (stp71 B idle many sg (run71 B idle many sg k)).2
    unfold stp71
    cases e : (run71 B idle many sg k).2[(run71 B idle many sg k).1.length]? with
    | none => exact ih
    | some st => exact rowN_ok hB ih (ih.2 st (List.mem_of_getElem? e)) sg (Nat.le_refl _)
theorem run_stay {k : Nat} (h : (run71 B idle many sg k).2.length ≤ (run71 B idle many sg k).1.length) : ∀ j, run71 B idle many sg (k + j) = run71 B idle many sg k
  | 0 => rfl
  | j + 1 => by
    show stp71 B idle many sg (run71 B idle many sg (k + j)) = _
    rw [run_stay h j]
    unfold stp71
    rw [List.getElem?_eq_none h]
/-- numbers of rows of signs -/
def codeS (sg : Nat) : List Nat → Nat
  | [] => 0
  | s :: ss => codeS sg ss * (sg + 1) + (s + 1)
theorem codeS_lt {sg : Nat} : ∀ {l : List Nat} {m : Nat}, l.length ≤ m → (∀ x ∈ l, x < sg) → codeS sg l < (sg + 1) ^ m
  | [], m, _, _ => Nat.pow_pos (Nat.succ_pos _)
  | s :: ss, 0, h, _ => by simp at h
  | s :: ss, m + 1, h, hx => by
    have ih := codeS_lt (l := ss) (m := m) (by simpa using h) fun x hx' => hx x (List.mem_cons_of_mem _ hx')
    have h0 := hx s (List.mem_cons_self ..)
    show codeS sg ss * (sg + 1) + (s + 1) < (sg + 1) ^ (m + 1)
    rw [Nat.pow_succ]
    have : (codeS sg ss + 1) * (sg + 1) ≤ (sg + 1) ^ m * (sg + 1) := Nat.mul_le_mul_right _ ih
    rw [Nat.succ_mul] at this
    omega
theorem codeS_inj {sg : Nat} : ∀ {l l' : List Nat}, (∀ x ∈ l, x < sg) → (∀ x ∈ l', x < sg) → codeS sg l = codeS sg l' → l = l'
  | [], [], _, _, _ => rfl
  | [], s :: ss, _, _, h => by
    have h : 0 = codeS sg ss * (sg + 1) + (s + 1) := h
    omega
  | s :: ss, [], _, _, h => by
    have h : codeS sg ss * (sg + 1) + (s + 1) = 0 := h
    omega
  | s :: ss, t :: tt, h1, h2, h => by
    have a := h1 s (List.mem_cons_self ..)
    have b := h2 t (List.mem_cons_self ..)
    have h : codeS sg ss * (sg + 1) + (s + 1) = codeS sg tt * (sg + 1) + (t + 1) := h
    have e1 : s = t := by
      have x := congrArg (· % (sg + 1)) h
      simp only [Nat.mul_comm _ (sg + 1), Nat.mul_add_mod] at x
      by_cases c : s + 1 = sg + 1
      · omega
      · rw [Nat.mod_eq_of_lt (by omega : s + 1 < sg + 1), Nat.mod_eq_of_lt (by omega : t + 1 < sg + 1)] at x
        omega
    subst e1
    have e2 : codeS sg ss * (sg + 1) = codeS sg tt * (sg + 1) := by omega
    have e3 := Nat.eq_of_mul_eq_mul_right (by omega : 0 < sg + 1) e2
    rw [codeS_inj (fun x hx => h1 x (List.mem_cons_of_mem _ hx)) (fun x hx => h2 x (List.mem_cons_of_mem _ hx)) e3]
theorem sts_few (h : StsOk R sg many L) : L.length ≤ R * (sg + 1) ^ many := by
  refine few_of L _ (fun st => st.room * (sg + 1) ^ many + codeS sg st.sg) h.1 (fun st hst => ?_) fun st hst st' hst' e => ?_
  · obtain ⟨h1, h2, h3⟩ := h.2 st hst
    have c := codeS_lt h2 h3
    have : (st.room + 1) * (sg + 1) ^ many ≤ R * (sg + 1) ^ many := Nat.mul_le_mul_right _ h1
    rw [Nat.succ_mul] at this
    show st.room * (sg + 1) ^ many + codeS sg st.sg < _
    omega
  · obtain ⟨h1, h2, h3⟩ := h.2 st hst
    obtain ⟨k1, k2, k3⟩ := h.2 st' hst'
    have c := codeS_lt h2 h3
    have c' := codeS_lt k2 k3
    generalize (sg + 1) ^ many = W at c c' e
    have e : st.room * W + codeS sg st.sg = st'.room * W + codeS sg st'.sg := e
    have e1 : st.room = st'.room := by
      have x := congrArg (· / W) e
      have W0 : 0 < W := by omega
      simp only [Nat.mul_comm _ W, Nat.mul_add_div W0, Nat.div_eq_of_lt c, Nat.div_eq_of_lt c'] at x
      omega
    have e2 : codeS sg st.sg = codeS sg st'.sg := by rw [e1] at e; omega
    have e3 := codeS_inj h3 k3 e2
    obtain ⟨a, b⟩ := st
    obtain ⟨a', b'⟩ := st'
    have e1 : a = a' := e1
    have e3 : b = b' := e3
    rw [e1, e3]
end
end G

set_option Elab.async false
set_option linter.all false
set_option maxRecDepth 100000
set_option maxHeartbeats 4000000
/-! SKc: look_case of the program (k71, k74) -/
namespace G
open PySem L2 Sx
@[simp] theorem settle_dt71 {x : List (M × M)} {r : Ro} : settle (.tmp (.dt x)) r = .ok (.tmp (.dt x)) r := rfl
@[simp] theorem slotE_dt71 {x : List (M × M)} : slotE (.tmp (.dt x)) = .o .free (.dt x) := rfl
@[simp] theorem g_isN_bor {i : Nat} {r : Ro} : gIsN (.bor i) (.fr .non) r = .ok (.fr (.bl false)) r := rfl
theorem atI_last71 (l : List M) (z : M) : L2.atI (l ++ [z]) (-1) = some z := by
  unfold L2.atI
  have e : ixN (l ++ [z]).length (-1) = some l.length := by
    unfold ixN
    simp
    omega
  rw [e]
  simp
theorem snoc_get {α : Type} {l : List α} {n : Nat} (h : l.length = n + 1) : ∃ l0 z, l = l0 ++ [z] ∧ l0.length = n ∧ l[n]? = some z := by
  have e : l = l.take n ++ [l[n]] := by
    rw [List.take_append_getElem (by omega), ← h, List.take_length]
  exact ⟨l.take n, l[n], e, by rw [List.length_take]; omega, List.getElem?_eq_getElem (by omega)⟩
section
variable {E : QX} {n n2 : Nat} {P : List (List Int)} {C : List (List (Option Int))} {P2 : List (List Int)} {C2 : List (List (Option Int))} {B : Bk} {idle many sg R k : Nat} {L : List Sta} {st : Sta}
theorem p_step71_w {a s : Nat} (ha : a < B.length) {Q : EV → Ro → Prop} (k : Q (.fr (encSt ((B.getD a []).getD s none))) [.v (encBk B), .v (.int (a : Int)), .v (.int (s : Int))]) : wp Q E (m_p_step_at [.v (encBk B), .v (.int (a : Int)), .v (.int (s : Int))]) := by
  have eb : encBk B = .tup (B.map encRm) := rfl
  obtain ⟨VB, hVB⟩ : ∃ V, V = encBk B := ⟨_, rfl⟩
  rw [← hVB] at k ⊢
  rw [← hVB] at eb
  have a1 : atI (B.map encRm) (a : Int) = some (encRm (B.getD a [])) := atI_nat (by rw [List.getElem?_map, List.getD_eq_getElem?_getD, List.getElem?_eq_getElem ha]; rfl)
  generalize B.getD a [] = row at a1 k
  have er : encRm row = .tup (row.map encSt) := rfl
  refine wp_fnR rfl ?_
  unfold b_p_step_at
  simp [eb, a1, er]
  rw [← eb]
  refine wp_iff (fun c => ?_) (fun c => ?_)
  · have c' : s < row.length := by omega
    have a2 : atI (row.map encSt) (s : Int) = some (encSt (row.getD s none)) := atI_nat (by rw [List.getElem?_map, List.getD_eq_getElem?_getD, List.getElem?_eq_getElem c']; rfl)
    generalize encSt (row.getD s none) = y at a2 k
    simp [eb, a1, er, a2]
    rw [← eb]
    exact k
  · have c' : ¬ s < row.length := by omega
    have : row.getD s none = none := by rw [List.getD_eq_getElem?_getD, List.getElem?_eq_none (by omega)]; rfl
    rw [this] at k
    simp
    exact k
/-- what is told of signs that come one behind the other -/
def alE : Option (List Stp3) → EV
  | none => .fr .non
  | some qs => .tmp (.l (qs.map fun q => encSt (some q)))
theorem p_along_w (hB : ∀ r ∈ B, ∀ q, some q ∈ r → q.2.2 < B.length) {a : Nat} (ha : a < B.length) {ss : List Nat} (hl : ss.length ≤ 1000) {Q : EV → Ro → Prop} (k : Q (alE (wkO B a ss)) [.v (encBk B), .v (.int (a : Int)), .v (encNs ss)]) : wp Q E (m_p_steps_along [.v (encBk B), .v (.int (a : Int)), .v (encNs ss)]) := by
  have sa : ∀ (E : QX) (a s : Nat) (Q : EV → Ro → Prop), a < B.length → Q (.fr (encSt ((B.getD a []).getD s none))) [.v (encBk B), .v (.int (a : Int)), .v (.int (s : Int))] → wp Q E (m_p_step_at [.v (encBk B), .v (.int (a : Int)), .v (.int (s : Int))]) := fun E a s Q h h1 => p_step71_w h h1
  obtain ⟨VB, hVB⟩ : ∃ V, V = encBk B := ⟨_, rfl⟩
  rw [← hVB] at k sa ⊢
  refine wp_fnR rfl ?_
  unfold b_p_steps_along
  simp
  refine wp_for (fun ms r => ∃ (rest : List Nat) (acc : List Stp3) (a' : Nat) (s4 s5 : Slot), ms = rest.map encN ∧ acc.length + rest.length = ss.length ∧ wkO B a ss = (wkO B a' rest).map (fun l => acc ++ l) ∧ a' < B.length ∧ r = [.v VB, .v (.int (a' : Int)), .v (encNs ss), .o .free (.l (acc.map fun q => encSt (some q))), s4, s5] ∧ canSet s4 = true ∧ canSet s5 = true) ⟨ss, [], a, .un, .un, rfl, by simp, by simp, ha, rfl, rfl, rfl⟩ ?_ ?_
  · rintro J hJ m ms r ⟨rest, acc, a', s4, s5, e, hal, hw, ha', rfl, h4, h5⟩
    obtain _ | ⟨s, rest⟩ := rest
    · cases e
    obtain ⟨rfl, rfl⟩ := List.cons.inj e
    have hal : acc.length + (rest.length + 1) = ss.length := hal
    unfold b_p_steps_along_1
    simp [h4, h5]
    refine sa _ _ _ _ ha' ?_
    have wc : wkO B a' (s :: rest) = (match (B.getD a' []).getD s none with | none => none | some q => (wkO B q.2.2 rest).map fun l => q :: l) := rfl
    rw [wc] at hw
    cases eo : (B.getD a' []).getD s none with
    | none =>
      rw [eo] at hw
      have hw : wkO B a ss = none := hw
      rw [hw] at k
      simp [encSt, h5]
      exact k
    | some q =>
      rw [eo] at hw
      have hw : wkO B a ss = ((wkO B q.2.2 rest).map fun l => q :: l).map fun l => acc ++ l := hw
      have qB : q.2.2 < B.length := by
        have qm : some q ∈ B.getD a' [] := by
          rw [List.getD_eq_getElem?_getD] at eo
          cases e3 : (B.getD a' [])[s]? with
          | none => rw [e3] at eo; cases eo
          | some o => rw [e3] at eo; cases eo; exact List.mem_of_getElem? e3
        rw [List.getD_eq_getElem?_getD, List.getElem?_eq_getElem ha'] at qm
        exact hB _ (List.getElem_mem ha') q qm
      obtain ⟨q1, q2, q3⟩ := q
      simp [encSt, h5]
      refine ⟨by unfold big; omega, ?_⟩
      refine hJ _ _ ⟨rest, acc ++ [(q1, q2, q3)], q3, .v (encN s), .v (encSt (some (q1, q2, q3))), rfl, by simp; omega, ?_, qB, ?_, rfl, rfl⟩
      · rw [hw, Option.map_map]
        congr 1
        funext l
        simp
      · simp [encSt]
  · rintro r ⟨rest, acc, a', s4, s5, e, hal, hw, ha', rfl, h4, h5⟩
    obtain rfl : rest = [] := by
      cases rest with
      | nil => rfl
      | cons a b => cases e
    have hw : wkO B a ss = some (acc ++ []) := hw
    rw [List.append_nil] at hw
    rw [hw] at k
    simp
    exact k
theorem p_number71_w (hl : L.length < big) {Q : EV → Ro → Prop} (k : Q (.fr (encN (addS L st).1)) [.o .pin (.dt (numS 0 (addS L st).2)), .v (encSa st)]) : wp Q E (m_p_number_for [.o .pin (.dt (numS 0 L)), .v (encSa st)]) := by
  have kt := keyT_sa st
  have hf := find_numS st L 0
  obtain ⟨V, hV⟩ : ∃ V, V = encSa st := ⟨_, rfl⟩
  rw [← hV] at k kt ⊢
  refine wp_fnR rfl ?_
  unfold b_p_number_for
  simp [kt]
  cases h : idxS L st with
  | some i =>
    have e : addS L st = (i, L) := by unfold addS; rw [h]
    rw [h, Option.map_some, Nat.zero_add] at hf
    rw [e] at k
    simp [hf, kt]
    exact k
  | none =>
    have e : addS L st = (L.length, L ++ [st]) := by unfold addS; rw [h]
    have fa := find_addS (L := L) (p := st)
    rw [e] at fa k
    rw [h] at hf
    have hf : findT (numS 0 L) (nkSa st) = none := hf
    have pn := put_numS h
    rw [← hV] at pn
    simp [hf, kt, numS_len]
    have pn2 : putT (numS 0 L) V (nkSa st) (M.int (L.length : Int)) = numS 0 (L ++ [st]) := pn
    have fa2 : findT (numS 0 (L ++ [st])) (nkSa st) = some (encN L.length) := fa
    rw [pn2, fa2]
    simp
    exact ⟨hl, k⟩
/-- what a room of the look tells: the number, the states with it -/
def lkN (B : Bk) (idle many : Nat) (st : Sta) (L : List Sta) (s : Nat) : Option Stp3 × List Sta := match lkS B idle many st s with
  | none => (none, L)
  | some x => (some (x.1, x.2.1, (addS L x.2.2).1), (addS L x.2.2).2)
theorem p_look_step_w (hB : ∀ r ∈ B, ∀ q, some q ∈ r → q.2.2 < B.length) (hr : st.room < B.length) (hs : st.sg.length ≤ many) (hm : many ≤ 10) (hl : L.length < 10000) {s : Nat} {Q : EV → Ro → Prop}
    (k : Q (.fr (encSt (lkN B idle many st L s).1)) [.v (encBk B), .v (.int (idle : Int)), .v (.int (many : Int)), .o .pin (.dt (numS 0 (lkN B idle many st L s).2)), .v (encSa st), .v (.int (s : Int))]) :
    wp Q E (m_p_look_step [.v (encBk B), .v (.int (idle : Int)), .v (.int (many : Int)), .o .pin (.dt (numS 0 L)), .v (encSa st), .v (.int (s : Int))]) := by
  have al : ∀ (E : QX) (ss : List Nat) (Q : EV → Ro → Prop), ss.length ≤ 1000 → Q (alE (wkO B st.room ss)) [.v (encBk B), .v (.int (st.room : Int)), .v (encNs ss)] → wp Q E (m_p_steps_along [.v (encBk B), .v (.int (st.room : Int)), .v (encNs ss)]) := fun E ss Q h h1 => p_along_w hB hr h h1
  have nm : ∀ (E : QX) (x : Sta) (Q : EV → Ro → Prop), Q (.fr (encN (addS L x).1)) [.o .pin (.dt (numS 0 (addS L x).2)), .v (encSa x)] → wp Q E (m_p_number_for [.o .pin (.dt (numS 0 L)), .v (encSa x)]) := fun E x Q h1 => p_number71_w (by unfold big; omega) h1
  obtain ⟨VB, hVB⟩ : ∃ V, V = encBk B := ⟨_, rfl⟩
  rw [← hVB] at k al ⊢
  obtain ⟨VS, hVS⟩ : ∃ V, V = encSa st := ⟨_, rfl⟩
  have es : VS = .tup [.int (st.room : Int), .tup (st.sg.map encN)] := hVS
  rw [← hVS] at k ⊢
  have el : ∀ l : List Nat, M.tup (st.sg.map encN ++ [M.int (s : Int)]) = encNs (st.sg ++ [s]) := fun _ => by
    show _ = M.tup ((st.sg ++ [s]).map encN)
    rw [List.map_append]; rfl
  refine wp_fnR rfl ?_
  unfold b_p_look_step
  simp [es]
  rw [← es]
  refine ⟨by unfold big; omega, ?_⟩
  have el1 := el []
  have eN : ∀ l : List Nat, M.tup (l.map encN) = encNs l := fun _ => rfl
  rw [el1]
  refine al _ _ _ (by simp; omega) ?_
  have ql := @wkO_len B (st.sg ++ [s]) st.room
  have hk : lkN B idle many st L s = match (wkO B st.room (st.sg ++ [s])).map fun qs => (if st.sg.length < many then (idle, (qs.getD st.sg.length (0, 0, 0)).2.1, (⟨st.room, st.sg ++ [s]⟩ : Sta)) else ((qs.getD 0 (0, 0, 0)).1, (qs.getD st.sg.length (0, 0, 0)).2.1, ⟨(qs.getD 0 (0, 0, 0)).2.2, (st.sg ++ [s]).drop 1⟩)) with
    | none => (none, L)
    | some x => (some (x.1, x.2.1, (addS L x.2.2).1), (addS L x.2.2).2) := rfl
  cases ew : wkO B st.room (st.sg ++ [s]) with
  | none =>
    rw [ew] at hk
    have hk : lkN B idle many st L s = (none, L) := hk
    rw [hk] at k
    simp [alE]
    exact k
  | some qs =>
    have ql := ql ew
    rw [List.length_append, List.length_singleton] at ql
    rw [ew] at hk
    have hk : lkN B idle many st L s = (fun x : Nat × Nat × Sta => (some (x.1, x.2.1, (addS L x.2.2).1), (addS L x.2.2).2)) (if st.sg.length < many then (idle, (qs.getD st.sg.length (0, 0, 0)).2.1, (⟨st.room, st.sg ++ [s]⟩ : Sta)) else ((qs.getD 0 (0, 0, 0)).1, (qs.getD st.sg.length (0, 0, 0)).2.1, ⟨(qs.getD 0 (0, 0, 0)).2.2, (st.sg ++ [s]).drop 1⟩)) := hk
    have xs : (qs.map fun q => encSt (some q)).length = st.sg.length + 1 := by rw [List.length_map, ql]
    have q0 : atI (qs.map fun q => encSt (some q)) 0 = some (encSt (some (qs.getD 0 (0, 0, 0)))) := atI_nat (j := 0) (by rw [List.getElem?_map, List.getD_eq_getElem?_getD, List.getElem?_eq_getElem (by omega)]; rfl)
    have qn : atI (qs.map fun q => encSt (some q)) (-1) = some (encSt (some (qs.getD st.sg.length (0, 0, 0)))) := by
      obtain ⟨l0, z, e1, e2, e3⟩ := snoc_get ql
      have : qs.getD st.sg.length (0, 0, 0) = z := by rw [List.getD_eq_getElem?_getD, e3]; rfl
      rw [this, e1, List.map_append]
      exact atI_last71 _ _
    generalize qs.getD 0 (0, 0, 0) = qa at hk q0
    generalize qs.getD st.sg.length (0, 0, 0) = qb at hk qn
    obtain ⟨a1, a2, a3⟩ := qa
    obtain ⟨b1, b2, b3⟩ := qb
    obtain ⟨Q8, hQ8⟩ : ∃ Q8, Q8 = qs.map fun q => encSt (some q) := ⟨_, rfl⟩
    rw [← hQ8] at q0 qn xs
    have q0 : atI Q8 0 = some (.tup [encN a1, encN a2, encN a3]) := q0
    have qn : atI Q8 (-1) = some (.tup [encN b1, encN b2, encN b3]) := qn
    have ae : alE (some qs) = .tmp (.l Q8) := by rw [hQ8]; rfl
    rw [ae]
    simp
    by_cases c : st.sg.length < many
    · rw [if_pos c] at hk
      have hk : lkN B idle many st L s = (some (idle, b2, (addS L ⟨st.room, st.sg ++ [s]⟩).1), (addS L ⟨st.room, st.sg ++ [s]⟩).2) := hk
      rw [hk] at k
      rw [if_pos (by omega)]
      simp
      refine ⟨by unfold big; omega, ?_⟩
      rw [el1]
      simp [qn]
      refine nm _ ⟨st.room, st.sg ++ [s]⟩ _ ?_
      simp
      exact k
    · rw [if_neg c] at hk
      have hk : lkN B idle many st L s = (some (a1, b2, (addS L ⟨a3, (st.sg ++ [s]).drop 1⟩).1), (addS L ⟨a3, (st.sg ++ [s]).drop 1⟩).2) := hk
      rw [hk] at k
      obtain ⟨nx, hnx⟩ : ∃ nx, nx = (st.sg ++ [s]).drop 1 := ⟨_, rfl⟩
      rw [← hnx] at k
      rw [if_neg (by omega)]
      simp [q0]
      refine ⟨by unfold big; omega, ?_⟩
      have ec : M.tup [encN a3, .tup (cutM (st.sg.map encN ++ [M.int (s : Int)]) (some 1) none)] = encSa ⟨a3, nx⟩ := by
        rw [hnx]
        have e1 : cutM (st.sg.map encN ++ [M.int (s : Int)]) (some ((1 : Nat) : Int)) none = (st.sg.map encN ++ [M.int (s : Int)]).drop 1 := cut_from
        have e2 : cutM (st.sg.map encN ++ [M.int (s : Int)]) (some 1) none = (st.sg.map encN ++ [M.int (s : Int)]).drop 1 := e1
        rw [e2]
        show M.tup [encN a3, .tup ((st.sg.map encN ++ [encN s]).drop 1)] = .tup [encN a3, .tup (((st.sg ++ [s]).drop 1).map encN)]
        rw [List.map_drop, List.map_append]; rfl
      rw [ec]
      simp [qn]
      refine nm _ ⟨a3, nx⟩ _ ?_
      simp
      exact k
theorem p_idle_w (hP : P.length = n) (n0 : 0 < n) (n1 : n ≤ 1000) (hC : C.length ≤ 1000) {Q : EV → Ro → Prop} (k : Q (.fr (encV P (C ++ [List.replicate n (some 0)]))) [.v (encV P C)]) : wp Q E (m_p_idle_service [.v (encV P C)]) := by
  have ev : encV P C = .tup [encP P, .tup (C.map encCR)] := rfl
  have ep : encP P = .tup (P.map encI) := rfl
  have ev2 : encV P (C ++ [List.replicate n (some 0)]) = .tup [encP P, .tup (C.map encCR ++ [.tup (List.replicate n (.int 0))])] := by
    show M.tup [encP P, .tup ((C ++ [List.replicate n (some 0)]).map encCR)] = _
    rw [List.map_append]
    show M.tup [encP P, .tup (C.map encCR ++ [.tup ((List.replicate n (some (0 : Int))).map encH)])] = _
    rw [List.map_replicate]; rfl
  rw [ev2] at k
  obtain ⟨V, hV⟩ : ∃ V, V = encV P C := ⟨_, rfl⟩
  rw [← hV] at k ⊢
  rw [← hV] at ev
  obtain ⟨VP, hVP⟩ : ∃ V, V = encP P := ⟨_, rfl⟩
  rw [← hVP] at k ev ep
  refine wp_fnR rfl ?_
  unfold b_p_idle_service
  simp [ev, ep, hP]
  rw [← ep, ← ev]
  by_cases c : n = 1
  · subst c
    simp
    refine ⟨by unfold big; omega, ?_⟩
    exact k
  · rw [if_neg (by omega), if_pos ⟨by omega, by omega⟩]
    simp
    refine ⟨by unfold big; omega, ?_⟩
    exact k
theorem rng_ms71 (n : Nat) : rngM 0 n = (List.range' 0 n).map fun j : Nat => M.int (j : Int) := by
  simp [rngM, List.range_eq_range']
theorem rowN_succ {j : Nat} : (rowN B idle many st L (j + 1)).1 = (rowN B idle many st L j).1 ++ [(lkN B idle many st (rowN B idle many st L j).2 j).1] ∧ (rowN B idle many st L (j + 1)).2 = (lkN B idle many st (rowN B idle many st L j).2 j).2 := by
  have e : rowN B idle many st L (j + 1) = match lkS B idle many st j with
    | none => ((rowN B idle many st L j).1 ++ [none], (rowN B idle many st L j).2)
    | some x => ((rowN B idle many st L j).1 ++ [some (x.1, x.2.1, (addS (rowN B idle many st L j).2 x.2.2).1)], (addS (rowN B idle many st L j).2 x.2.2).2) := rfl
  rw [e]
  unfold lkN
  cases lkS B idle many st j with
  | none => exact ⟨rfl, rfl⟩
  | some x => exact ⟨rfl, rfl⟩
theorem run_succ {i : Nat} (h : (run71 B idle many sg i).2[(run71 B idle many sg i).1.length]? = some st) : run71 B idle many sg (i + 1) = ((run71 B idle many sg i).1 ++ [(rowN B idle many st (run71 B idle many sg i).2 sg).1], (rowN B idle many st (run71 B idle many sg i).2 sg).2) := by
  show stp71 B idle many sg (run71 B idle many sg i) = _
  unfold stp71
  rw [h]
theorem p_look_case_w (hB : ∀ r ∈ B, ∀ q, some q ∈ r → q.2.2 < B.length) (hsg : (B.getD 0 []).length = sg) (B0 : 0 < B.length) (hm : many ≤ 10) (hP : P.length = n) (n0 : 0 < n) (n1 : n ≤ 1000) (hP2 : P2.length = n2) (n02 : 0 < n2) (n12 : n2 ≤ 1000) (hC : C.length ≤ 1000) (hC2 : C2.length = C.length) (hsg1 : sg ≤ 1000) (few : B.length * (sg + 1) ^ many ≤ 499) {Q : EV → Ro → Prop}
    (k : Q (.fr (encWh P (C ++ [List.replicate n (some 0)]) P2 (C2 ++ [List.replicate n2 (some 0)]) (run71 B C.length many sg 500).1)) [.v (encWh P C P2 C2 B), .v (.int (many : Int))]) : wp Q E (m_p_look_case [.v (encWh P C P2 C2 B), .v (.int (many : Int))]) := by
  have i1 : ∀ (E : QX) (Q : EV → Ro → Prop), Q (.fr (encV P (C ++ [List.replicate n (some 0)]))) [.v (encV P C)] → wp Q E (m_p_idle_service [.v (encV P C)]) := fun E Q h => p_idle_w hP n0 n1 hC h
  have i2 : ∀ (E : QX) (Q : EV → Ro → Prop), Q (.fr (encV P2 (C2 ++ [List.replicate n2 (some 0)]))) [.v (encV P2 C2)] → wp Q E (m_p_idle_service [.v (encV P2 C2)]) := fun E Q h => p_idle_w hP2 n02 n12 (by omega) h
  have ls : ∀ (E : QX) (L : List Sta) (st : Sta) (s : Nat) (Q : EV → Ro → Prop), st.room < B.length → st.sg.length ≤ many → L.length < 10000 → Q (.fr (encSt (lkN B C.length many st L s).1)) [.v (encBk B), .v (.int (C.length : Int)), .v (.int (many : Int)), .o .pin (.dt (numS 0 (lkN B C.length many st L s).2)), .v (encSa st), .v (.int (s : Int))] → wp Q E (m_p_look_step [.v (encBk B), .v (.int (C.length : Int)), .v (.int (many : Int)), .o .pin (.dt (numS 0 L)), .v (encSa st), .v (.int (s : Int))]) := fun E L st s Q h1 h2 h3 h4 => p_look_step_w hB h1 h2 hm h3 h4
  have ok := fun j => run_ok (idle := C.length) (many := many) (sg := sg) hB B0 j
  have fw := fun j => Nat.le_trans (sts_few (ok j)) few
  have ev : encWh P C P2 C2 B = .tup [encV P C, encV P2 C2, encBk B] := rfl
  have ec : encV P C = .tup [encP P, .tup (C.map encCR)] := rfl
  have eb : encBk B = .tup (B.map encRm) := rfl
  have b0 : atI (B.map encRm) 0 = some (encRm (B.getD 0 [])) := atI_nat (j := 0) (by rw [List.getElem?_map, List.getD_eq_getElem?_getD, List.getElem?_eq_getElem B0]; rfl)
  have er : encRm (B.getD 0 []) = .tup ((B.getD 0 []).map encSt) := rfl
  rw [er] at b0
  obtain ⟨r0, hr0⟩ : ∃ r0, r0 = (B.getD 0 []).map encSt := ⟨_, rfl⟩
  have r0l : r0.length = sg := by rw [hr0, List.length_map, hsg]
  rw [← hr0] at b0
  clear er
  have ev3 : encWh P (C ++ [List.replicate n (some 0)]) P2 (C2 ++ [List.replicate n2 (some 0)]) (run71 B C.length many sg 500).1 = .tup [encV P (C ++ [List.replicate n (some 0)]), encV P2 (C2 ++ [List.replicate n2 (some 0)]), .tup ((run71 B C.length many sg 500).1.map encRm)] := rfl
  rw [ev3] at k
  generalize encWh P C P2 C2 B = W at *
  generalize encV P (C ++ [List.replicate n (some 0)]) = V1' at *
  generalize encV P2 (C2 ++ [List.replicate n2 (some 0)]) = V2' at *
  generalize encV P C = V1 at *
  generalize encV P2 C2 = V2 at *
  generalize encBk B = VB at *
  refine wp_fnR rfl ?_
  unfold b_p_look_case
  have kt0 : keyT (M.tup [.int 0, .tup []]) = some (nkSa ⟨0, []⟩) := keyT_sa ⟨0, []⟩
  have nk0 : ∀ L : List Sta, numS 0 L = numS 0 L := fun _ => rfl
  simp [ev, kt0]
  rw [← ev]
  refine wp_while (fun m r => ∃ (i : Nat) (rows : Bk) (L : List Sta) (s8 s9 s10 : Slot), m = 500 - i ∧ i ≤ L.length ∧ rows.length = i ∧ (rows, L) = run71 B C.length many sg i ∧ r = [.v W, .v (.int (many : Int)), .v V1, .v V2, .v VB, .o .free (.dt (numS 0 L)), .o .free (.l (rows.map encRm)), .o .free (.l (L.map encSa)), s8, s9, s10] ∧ canSet s8 = true ∧ canSet s9 = true ∧ plainS s10 = true) (n := 500) ⟨0, [], [⟨0, []⟩], .un, .un, .un, rfl, by simp, rfl, rfl, rfl, rfl, rfl, rfl⟩ ?_
  rintro m r ⟨i, rows, L, s8, s9, s10, rfl, hi, hrl, hrun, rfl, h8, h9, h10⟩ J hJ
  have ok1 := ok i
  have fw1 := fw i
  rw [← hrun] at ok1 fw1
  have ok1 : StsOk B.length sg many L := ok1
  have fw1 : L.length ≤ 499 := fw1
  by_cases c : i < L.length
  · obtain ⟨st, hst⟩ : ∃ st, L[i]? = some st := ⟨_, List.getElem?_eq_getElem c⟩
    have sok := ok1.2 st (List.mem_of_getElem? hst)
    have ha : atI (L.map encSa) (i : Int) = some (encSa st) := atI_nat (by rw [List.getElem?_map, hst]; rfl)
    have hsu := run_succ (B := B) (idle := C.length) (many := many) (sg := sg) (i := i) (st := st) (by rw [← hrun]; show L[rows.length]? = some st; rw [hrl]; exact hst)
    rw [← hrun] at hsu
    have hsu : run71 B C.length many sg (i + 1) = (rows ++ [(rowN B C.length many st L sg).1], (rowN B C.length many st L sg).2) := hsu
    have d1 : decide (rows.length < L.length) = true := by simp; omega
    obtain ⟨VS, hVS⟩ : ∃ V, V = encSa st := ⟨_, rfl⟩
    have ls := fun E L s Q => ls E L st s Q sok.r sok.l
    rw [← hVS] at ha ls
    simp [d1]
    unfold b_p_look_case_1
    rw [← hrl] at ha
    simp [h8, h9, ha, eb, b0, r0l]
    rw [← eb]
    refine ⟨small_nat (by omega), ?_⟩
    have pre := fun j => rowN_pre (B := B) (idle := C.length) (many := many) (st := st) (L := L) j
    have rok := fun j (hj : j ≤ sg) => sts_few (rowN_ok (idle := C.length) hB ok1 sok j hj)
    rw [rng_ms71]
    refine wp_lc (fun acc ms r => ∃ (j l : Nat) (y : Slot), acc = (rowN B C.length many st L j).1.map encSt ∧ ms = (List.range' j l).map (fun j : Nat => M.int (j : Int)) ∧ j + l = sg ∧ r = [.v W, .v (.int (many : Int)), .v V1, .v V2, .v VB, .o .free (.dt (numS 0 (rowN B C.length many st L j).2)), .o .free (.l (rows.map encRm)), .o .free (.l (L.map encSa)), .v VS, s9, y] ∧ canSet y = true) (by simp [h10]) (by simp; unfold big; omega) ⟨0, sg, s10, rfl, rfl, by omega, rfl, plain_can h10⟩ ?_ ?_
    · rintro J2 hJ2 acc m ms r ⟨j, l, y, rfl, e2, hjl, rfl, hy⟩
      obtain _ | l := l
      · cases e2
      rw [List.range'_succ, List.map_cons] at e2
      obtain ⟨rfl, rfl⟩ := List.cons.inj e2
      obtain ⟨rs1, rs2⟩ := rowN_succ (B := B) (idle := C.length) (many := many) (st := st) (L := L) (j := j)
      have rj := rok j (by omega)
      simp [hy, ec]
      rw [← ec]
      refine ls _ _ _ _ (by omega) ?_
      rw [← rs2]
      simp
      exact hJ2 _ _ _ ⟨j + 1, l, .v (.int (j : Int)), by rw [rs1, List.map_append]; rfl, rfl, by omega, rfl, rfl⟩
    · rintro acc r ⟨j, l, y, rfl, e2, hjl, rfl, hy⟩
      obtain rfl : l = 0 := by
        have := congrArg List.length e2
        simp at this
        omega
      obtain rfl : j = sg := by omega
      obtain ⟨M', hM⟩ := pre j
      have rj := rok j (Nat.le_refl _)
      obtain ⟨row, hrow⟩ : ∃ row, row = (rowN B C.length many st L j).1 := ⟨_, rfl⟩
      obtain ⟨L2, hL2⟩ : ∃ L2, L2 = (rowN B C.length many st L j).2 := ⟨_, rfl⟩
      rw [← hrow, ← hL2] at hsu
      rw [← hL2] at hM rj
      have l2 : L2.length ≤ 499 := Nat.le_trans rj few
      have kl : (numS 0 L2).map (fun kv => kv.1) = L2.map encSa := numS_keys L2 0
      rw [← hrow, ← hL2]
      simp [hy, h9]
      have dr : cutM ((numS 0 L2).map (fun kv => kv.1)) (some (L.length : Int)) none = M'.map encSa := by
        rw [cut_from, kl, hM, List.map_append]
        have : L.length = (L.map encSa).length := (List.length_map ..).symm
        rw [this, List.drop_left]
      have ml : L2.length = L.length + M'.length := by rw [hM, List.length_append]
      rw [dr]
      refine ⟨by unfold big; omega, by rw [List.length_map]; unfold big; omega, ?_⟩
      refine hJ (500 - (i + 1)) _ (by omega) ⟨i + 1, rows ++ [row], L2, .v VS, .o .free (.l (row.map encSt)), s10, rfl, by omega, by rw [List.length_append, hrl]; rfl, hsu.symm, ?_, rfl, rfl, h10⟩
      rw [hM, List.map_append, List.map_append]
      rfl
  · have d1 : decide (rows.length < L.length) = false := by simp; omega
    have hst := run_stay (B := B) (idle := C.length) (many := many) (sg := sg) (k := i) (by rw [← hrun]; show L.length ≤ rows.length; omega) (500 - i)
    rw [show i + (500 - i) = 500 by omega, ← hrun] at hst
    rw [hst] at k
    simp [d1]
    refine i1 _ _ ?_
    simp
    refine i2 _ _ ?_
    simp
    exact k
end
end G

set_option Elab.async false
set_option linter.all false
set_option maxRecDepth 100000
set_option maxHeartbeats 4000000
/-! SKd: the law's look (k71, k74) -/
namespace G
open PySem L2 Sx
def gIdle : M → M
  | .tup [.tup ps, .tup cs] => .tup [.tup ps, .tup (cs ++ [.tup (List.replicate ps.length (.int 0))])]
  | m => m
section
variable {E : QX} {n n2 : Nat} {P : List (List Int)} {C : List (List (Option Int))} {P2 : List (List Int)} {C2 : List (List (Option Int))} {B : Bk} {idle many sg R k : Nat} {L : List Sta} {st : Sta}
theorem along_w (hB : ∀ r ∈ B, ∀ q, some q ∈ r → q.2.2 < B.length) (hrow : ∀ r ∈ B, r.length = sg) {a : Nat} (ha : a < B.length) {ss : List Nat} (hss : ∀ s ∈ ss, s < sg) (hl : ss.length ≤ 1000) {Q : EV → Ro → Prop} (k : Q (alE (wkO B a ss)) [.v (encBk B), .v (.int (a : Int)), .v (encNs ss)]) : wp Q E (m_along [.v (encBk B), .v (.int (a : Int)), .v (encNs ss)]) := by
  have eb : encBk B = .tup (B.map encRm) := rfl
  obtain ⟨VB, hVB⟩ : ∃ V, V = encBk B := ⟨_, rfl⟩
  rw [← hVB] at k eb ⊢
  refine wp_fnR rfl ?_
  unfold b_along
  simp
  refine wp_for (fun ms r => ∃ (rest : List Nat) (acc : List Stp3) (a' : Nat) (s5 s6 : Slot), ms = rest.map encN ∧ (∀ s ∈ rest, s < sg) ∧ acc.length + rest.length = ss.length ∧ wkO B a ss = (wkO B a' rest).map (fun l => acc ++ l) ∧ a' < B.length ∧ r = [.v VB, .v (.int (a : Int)), .v (encNs ss), .o .free (.l (acc.map fun q => encSt (some q))), .v (.int (a' : Int)), s5, s6] ∧ canSet s5 = true ∧ canSet s6 = true) ⟨ss, [], a, .un, .un, rfl, hss, by simp, by simp, ha, rfl, rfl, rfl⟩ ?_ ?_
  · rintro J hJ m ms r ⟨rest, acc, a', s5, s6, e, hrs, hal, hw, ha', rfl, h5, h6⟩
    obtain _ | ⟨s, rest⟩ := rest
    · cases e
    obtain ⟨rfl, rfl⟩ := List.cons.inj e
    have hal : acc.length + (rest.length + 1) = ss.length := hal
    have a1 : atI (B.map encRm) (a' : Int) = some (encRm (B.getD a' [])) := atI_nat (by rw [List.getElem?_map, List.getD_eq_getElem?_getD, List.getElem?_eq_getElem ha']; rfl)
    have rl : (B.getD a' []).length = sg := by
      rw [List.getD_eq_getElem?_getD, List.getElem?_eq_getElem ha']
      exact hrow _ (List.getElem_mem ha')
    have rm : ∀ q, some q ∈ B.getD a' [] → q.2.2 < B.length := fun q hq => by
      rw [List.getD_eq_getElem?_getD, List.getElem?_eq_getElem ha'] at hq
      exact hB _ (List.getElem_mem ha') q hq
    have hs := hrs s (List.mem_cons_self ..)
    have wc : wkO B a' (s :: rest) = (match (B.getD a' []).getD s none with | none => none | some q => (wkO B q.2.2 rest).map fun l => q :: l) := rfl
    rw [wc] at hw
    generalize B.getD a' [] = row at a1 rl rm hw
    have er : encRm row = .tup (row.map encSt) := rfl
    have a2 : atI (row.map encSt) (s : Int) = some (encSt (row.getD s none)) := atI_nat (by rw [List.getElem?_map, List.getD_eq_getElem?_getD, List.getElem?_eq_getElem (by omega)]; rfl)
    have rm2 : ∀ q, row.getD s none = some q → q.2.2 < B.length := fun q hq => rm q (by
      rw [List.getD_eq_getElem?_getD, List.getElem?_eq_getElem (by omega)] at hq
      have hq : row[s] = some q := hq
      rw [← hq]; exact List.getElem_mem _)
    generalize row.getD s none = o at a2 hw rm2
    unfold b_along_1
    simp [h5, h6, eb, a1, er, a2]
    rw [← eb]
    cases o with
    | none =>
      have hw : wkO B a ss = none := hw
      rw [hw] at k
      simp [encSt, h6]
      exact k
    | some q =>
      have hw : wkO B a ss = ((wkO B q.2.2 rest).map fun l => q :: l).map fun l => acc ++ l := hw
      have qB := rm2 q rfl
      obtain ⟨q1, q2, q3⟩ := q
      simp [encSt]
      refine ⟨by unfold big; omega, ?_⟩
      refine hJ _ _ ⟨rest, acc ++ [(q1, q2, q3)], q3, .v (encN s), .v (encSt (some (q1, q2, q3))), rfl, fun z hz => hrs z (List.mem_cons_of_mem _ hz), by simp; omega, ?_, qB, ?_, rfl, rfl⟩
      · rw [hw, Option.map_map]
        congr 1
        funext l
        simp
      · simp [encSt]
  · rintro r ⟨rest, acc, a', s5, s6, e, hrs, hal, hw, ha', rfl, h5, h6⟩
    obtain rfl : rest = [] := by
      cases rest with
      | nil => rfl
      | cons a b => cases e
    have hw : wkO B a ss = some (acc ++ []) := hw
    rw [List.append_nil] at hw
    rw [hw] at k
    simp
    exact k
theorem look_w (hB : ∀ r ∈ B, ∀ q, some q ∈ r → q.2.2 < B.length) (hrow : ∀ r ∈ B, r.length = sg) (hsg : (B.getD 0 []).length = sg) (B0 : 0 < B.length) (hm : many ≤ 10) (hP : P.length = n) (n0 : 0 < n) (n1 : n ≤ 1000) (hP2 : P2.length = n2) (n02 : 0 < n2) (n12 : n2 ≤ 1000) (hC : C.length ≤ 1000) (hC2 : C2.length = C.length) (hsg1 : sg ≤ 1000) (few : B.length * (sg + 1) ^ many ≤ 499) {Q : EV → Ro → Prop}
    (k : Q (.fr (encWh P (C ++ [List.replicate n (some 0)]) P2 (C2 ++ [List.replicate n2 (some 0)]) (run71 B C.length many sg 500).1)) [.v (encWh P C P2 C2 B), .v (.int (many : Int))]) : wp Q E (m_look [.v (encWh P C P2 C2 B), .v (.int (many : Int))]) := by
  have al : ∀ (E : QX) (a : Nat) (ss : List Nat) (Q : EV → Ro → Prop), a < B.length → (∀ s ∈ ss, s < sg) → ss.length ≤ 1000 → Q (alE (wkO B a ss)) [.v (encBk B), .v (.int (a : Int)), .v (encNs ss)] → wp Q E (m_along [.v (encBk B), .v (.int (a : Int)), .v (encNs ss)]) := fun E a ss Q h1 h2 h3 h4 => along_w hB hrow h1 h2 h3 h4
  have ok := fun j => run_ok (idle := C.length) (many := many) (sg := sg) hB B0 j
  have fw := fun j => Nat.le_trans (sts_few (ok j)) few
  have ev : encWh P C P2 C2 B = .tup [encV P C, encV P2 C2, encBk B] := rfl
  have ec : encV P C = .tup [encP P, .tup (C.map encCR)] := rfl
  have ec2 : encV P2 C2 = .tup [encP P2, .tup (C2.map encCR)] := rfl
  have ep : encP P = .tup (P.map encI) := rfl
  have ep2 : encP P2 = .tup (P2.map encI) := rfl
  have eb : encBk B = .tup (B.map encRm) := rfl
  have b0 : atI (B.map encRm) 0 = some (encRm (B.getD 0 [])) := atI_nat (j := 0) (by rw [List.getElem?_map, List.getD_eq_getElem?_getD, List.getElem?_eq_getElem B0]; rfl)
  have er : encRm (B.getD 0 []) = .tup ((B.getD 0 []).map encSt) := rfl
  rw [er] at b0
  obtain ⟨r0, hr0⟩ : ∃ r0, r0 = (B.getD 0 []).map encSt := ⟨_, rfl⟩
  have r0l : r0.length = sg := by rw [hr0, List.length_map, hsg]
  rw [← hr0] at b0
  clear er
  have evi : ∀ (P : List (List Int)) (C : List (List (Option Int))) (n : Nat), encV P (C ++ [List.replicate n (some 0)]) = .tup [encP P, .tup (C.map encCR ++ [.tup (List.replicate n (.int 0))])] := fun P C n => by
    show M.tup [encP P, .tup ((C ++ [List.replicate n (some 0)]).map encCR)] = _
    rw [List.map_append]
    show M.tup [encP P, .tup (C.map encCR ++ [.tup ((List.replicate n (some (0 : Int))).map encH)])] = _
    rw [List.map_replicate]; rfl
  have ev3 : encWh P (C ++ [List.replicate n (some 0)]) P2 (C2 ++ [List.replicate n2 (some 0)]) (run71 B C.length many sg 500).1 = .tup [.tup [encP P, .tup (C.map encCR ++ [.tup (List.replicate n (.int 0))])], .tup [encP P2, .tup (C2.map encCR ++ [.tup (List.replicate n2 (.int 0))])], .tup ((run71 B C.length many sg 500).1.map encRm)] := by
    rw [← evi, ← evi]; rfl
  rw [ev3] at k
  generalize encWh P C P2 C2 B = W at *
  generalize encV P C = V1 at *
  generalize encV P2 C2 = V2 at *
  generalize encBk B = VB at *
  have kt0 : keyT (M.tup [.int 0, .tup []]) = some (nkSa ⟨0, []⟩) := keyT_sa ⟨0, []⟩
  refine wp_fnR rfl ?_
  unfold b_look
  simp [ev, kt0]
  rw [← ev]
  refine wp_cut (fun fl r => ∃ (L : List Sta) (s8 s9 s10 s11 s12 s13 s14 s15 : Slot), fl = .nx ∧ r = [.v W, .v (.int (many : Int)), .v V1, .v V2, .v VB, .o .free (.l (L.map encSa)), .o .free (.l ((run71 B C.length many sg 500).1.map encRm)), .o .free (.dt (numS 0 L)), s8, s9, s10, s11, s12, s13, s14, s15, .un, .un, .un]) (fun K hK => ?_) ?_
  · refine wp_rng (fun i r => ∃ (rows : Bk) (L : List Sta) (s8 s9 s10 s11 s12 s13 s14 s15 : Slot), i ≤ L.length ∧ rows.length = i ∧ (rows, L) = run71 B C.length many sg i ∧ r = [.v W, .v (.int (many : Int)), .v V1, .v V2, .v VB, .o .free (.l (L.map encSa)), .o .free (.l (rows.map encRm)), .o .free (.dt (numS 0 L)), s8, s9, s10, s11, s12, s13, s14, s15, .un, .un, .un] ∧ canSet s8 = true ∧ canSet s9 = true ∧ canSet s10 = true ∧ canSet s11 = true ∧ canSet s12 = true ∧ canSet s13 = true ∧ canSet s14 = true ∧ canSet s15 = true) ⟨[], [⟨0, []⟩], .un, .un, .un, .un, .un, .un, .un, .un, by simp, rfl, rfl, rfl, rfl, rfl, rfl, rfl, rfl, rfl, rfl, rfl⟩ ?_ ?_
    · rintro i hi5 r ⟨rows, L, s8, s9, s10, s11, s12, s13, s14, s15, hi, hrl, hrun, rfl, h8, h9, h10, h11, h12, h13, h14, h15⟩ J hJ
      have ok1 := ok i
      have fw1 := fw i
      rw [← hrun] at ok1 fw1
      have ok1 : StsOk B.length sg many L := ok1
      have fw1 : L.length ≤ 499 := fw1
      by_cases c : i < L.length
      · obtain ⟨st, hst⟩ : ∃ st, L[i]? = some st := ⟨_, List.getElem?_eq_getElem c⟩
        have sok := ok1.2 st (List.mem_of_getElem? hst)
        have ha : atI (L.map encSa) (i : Int) = some (.tup [.int (st.room : Int), .tup (st.sg.map encN)]) := atI_nat (by rw [List.getElem?_map, hst]; rfl)
        have hsu := run_succ (B := B) (idle := C.length) (many := many) (sg := sg) (i := i) (st := st) (by rw [← hrun]; show L[rows.length]? = some st; rw [hrl]; exact hst)
        rw [← hrun] at hsu
        have hsu : run71 B C.length many sg (i + 1) = (rows ++ [(rowN B C.length many st L sg).1], (rowN B C.length many st L sg).2) := hsu
        have d1 : decide (L.length ≤ i) = false := by simp; omega
        unfold b_look_2
        simp [h8, h9, h10, h11, d1, ha, eb, b0, r0l]
        rw [← eb]
        refine ⟨small_nat (by omega), ?_⟩
        have rok := fun j (hj : j ≤ sg) => sts_few (rowN_ok (idle := C.length) hB ok1 sok j hj)
        refine wp_rng (fun j r => ∃ (s12 s13 s14 s15 : Slot), r = [.v W, .v (.int (many : Int)), .v V1, .v V2, .v VB, .o .free (.l ((rowN B C.length many st L j).2.map encSa)), .o .free (.l (rows.map encRm)), .o .free (.dt (numS 0 (rowN B C.length many st L j).2)), .v (.int (i : Int)), .v (.int (st.room : Int)), .v (encNs st.sg), .o .free (.l ((rowN B C.length many st L j).1.map encSt)), s12, s13, s14, s15, .un, .un, .un] ∧ (rowN B C.length many st L j).1.length = j ∧ canSet s12 = true ∧ canSet s13 = true ∧ canSet s14 = true ∧ canSet s15 = true) ⟨s12, s13, s14, s15, rfl, rfl, h12, h13, h14, h15⟩ ?_ ?_
        · rintro j hj r ⟨s12, s13, s14, s15, rfl, hjl, h12, h13, h14, h15⟩ J2 hJ2
          obtain ⟨rs1, rs2⟩ := rowN_succ (B := B) (idle := C.length) (many := many) (st := st) (L := L) (j := j)
          have rj := rok j (by omega)
          rw [rs1, rs2] at hJ2
          obtain ⟨Lj, hLj⟩ : ∃ Lj, Lj = (rowN B C.length many st L j).2 := ⟨_, rfl⟩
          obtain ⟨aj, haj⟩ : ∃ aj, aj = (rowN B C.length many st L j).1 := ⟨_, rfl⟩
          rw [← hLj] at hJ2 rj
          rw [← haj] at hJ2 hjl
          rw [← hLj, ← haj]
          have el1 : M.tup (st.sg.map encN ++ [M.int (j : Int)]) = encNs (st.sg ++ [j]) := by
            show _ = M.tup ((st.sg ++ [j]).map encN)
            rw [List.map_append]; rfl
          have hk : lkN B C.length many st Lj j = match (wkO B st.room (st.sg ++ [j])).map fun qs => (if st.sg.length < many then (C.length, (qs.getD st.sg.length (0, 0, 0)).2.1, (⟨st.room, st.sg ++ [j]⟩ : Sta)) else ((qs.getD 0 (0, 0, 0)).1, (qs.getD st.sg.length (0, 0, 0)).2.1, ⟨(qs.getD 0 (0, 0, 0)).2.2, (st.sg ++ [j]).drop 1⟩)) with
            | none => (none, Lj)
            | some x => (some (x.1, x.2.1, (addS Lj x.2.2).1), (addS Lj x.2.2).2) := rfl
          have ql := @wkO_len B (st.sg ++ [j]) st.room
          have sl := sok.l
          unfold b_look_1
          simp [h12, h13]
          refine ⟨by unfold big; omega, ?_⟩
          rw [el1]
          refine al _ _ _ _ sok.r (fun s hs => ?_) (by simp; omega) ?_
          · rcases List.mem_append.mp hs with z | z
            · exact sok.s s z
            · rw [List.mem_singleton.mp z]; exact hj
          cases ew : wkO B st.room (st.sg ++ [j]) with
          | none =>
            rw [ew] at hk
            have hk : lkN B C.length many st Lj j = (none, Lj) := hk
            rw [hk] at hJ2
            simp [alE, h13]
            refine ⟨by unfold big; omega, ?_⟩
            exact hJ2 _ ⟨.v (.int (j : Int)), .v .non, s14, s15, by simp [encSt], by simp [hjl], rfl, rfl, h14, h15⟩
          | some qs =>
            have ql := ql ew
            rw [List.length_append, List.length_singleton] at ql
            rw [ew] at hk
            have hk : lkN B C.length many st Lj j = (fun x : Nat × Nat × Sta => (some (x.1, x.2.1, (addS Lj x.2.2).1), (addS Lj x.2.2).2)) (if st.sg.length < many then (C.length, (qs.getD st.sg.length (0, 0, 0)).2.1, (⟨st.room, st.sg ++ [j]⟩ : Sta)) else ((qs.getD 0 (0, 0, 0)).1, (qs.getD st.sg.length (0, 0, 0)).2.1, ⟨(qs.getD 0 (0, 0, 0)).2.2, (st.sg ++ [j]).drop 1⟩)) := hk
            have q0 : atI (qs.map fun q => encSt (some q)) 0 = some (encSt (some (qs.getD 0 (0, 0, 0)))) := atI_nat (j := 0) (by rw [List.getElem?_map, List.getD_eq_getElem?_getD, List.getElem?_eq_getElem (by omega)]; rfl)
            have qn : atI (qs.map fun q => encSt (some q)) (st.sg.length : Int) = some (encSt (some (qs.getD st.sg.length (0, 0, 0)))) := atI_nat (by rw [List.getElem?_map, List.getD_eq_getElem?_getD, List.getElem?_eq_getElem (by omega)]; rfl)
            generalize qs.getD 0 (0, 0, 0) = qa at hk q0
            generalize qs.getD st.sg.length (0, 0, 0) = qb at hk qn
            obtain ⟨a1, a2, a3⟩ := qa
            obtain ⟨b1, b2, b3⟩ := qb
            obtain ⟨Q8, hQ8⟩ : ∃ Q8, Q8 = qs.map fun q => encSt (some q) := ⟨_, rfl⟩
            rw [← hQ8] at q0 qn
            have q0 : atI Q8 0 = some (.tup [encN a1, encN a2, encN a3]) := q0
            have qn : atI Q8 (st.sg.length : Int) = some (.tup [encN b1, encN b2, encN b3]) := qn
            have ae : alE (some qs) = .tmp (.l Q8) := by rw [hQ8]; rfl
            rw [ae]
            -- what is done with the next state
            have fin : ∀ (tk : Nat) (nx : Sta), lkN B C.length many st Lj j = (some (tk, b2, (addS Lj nx).1), (addS Lj nx).2) → ∀ (bl : Bool) (V : M), V = encSa nx →
                J2 [.v W, .v (.int (many : Int)), .v V1, .v V2, .v VB, .o .free (.l ((addS Lj nx).2.map encSa)), .o .free (.l (rows.map encRm)), .o .free (.dt (numS 0 (addS Lj nx).2)), .v (.int (i : Int)), .v (.int (st.room : Int)), .v (encNs st.sg), .o .free (.l (aj.map encSt ++ [.tup [encN tk, encN b2, encN (addS Lj nx).1]])), .v (.int (j : Int)), .o .free (.l Q8), .v (.bl bl), .v V, .un, .un, .un] := fun tk nx h bl V hV => by
              rw [h] at hJ2
              refine hJ2 _ ⟨.v (.int (j : Int)), .o .free (.l Q8), .v (.bl bl), .v V, by simp [encSt], by simp [hjl], rfl, rfl, rfl, rfl⟩
            simp [h14]
            by_cases c : st.sg.length < many
            · rw [if_pos c] at hk
              have fin := fin C.length ⟨st.room, st.sg ++ [j]⟩ hk
              obtain ⟨nx, hnx⟩ : ∃ nx : Sta, nx = ⟨st.room, st.sg ++ [j]⟩ := ⟨_, rfl⟩
              rw [← hnx] at fin
              have en : M.tup [.int (st.room : Int), encNs (st.sg ++ [j])] = encSa nx := by rw [hnx]
              simp [c, h13, h15]
              refine ⟨by unfold big; omega, ?_⟩
              rw [el1]
              obtain ⟨V, hV⟩ : ∃ V, V = encSa nx := ⟨_, rfl⟩
              have kt := keyT_sa nx
              have hf := find_numS nx Lj 0
              have fin := fin true V hV
              rw [← hV] at kt en
              rw [en]
              simp [kt]
              cases hx : idxS Lj nx with
              | some i2 =>
                have ea : addS Lj nx = (i2, Lj) := by unfold addS; rw [hx]
                rw [hx, Option.map_some, Nat.zero_add] at hf
                rw [ea] at fin
                simp [hf, kt, ec, q0, qn]
                rw [← ec]
                refine ⟨by unfold big; omega, ?_⟩
                exact fin
              | none =>
                have ea : addS Lj nx = (Lj.length, Lj ++ [nx]) := by unfold addS; rw [hx]
                have fa := find_addS (L := Lj) (p := nx)
                rw [ea] at fa fin
                rw [hx] at hf
                have hf : findT (numS 0 Lj) (nkSa nx) = none := hf
                have pn := put_numS hx
                rw [← hV] at pn
                have pn2 : putT (numS 0 Lj) V (nkSa nx) (M.int (Lj.length : Int)) = numS 0 (Lj ++ [nx]) := pn
                have fa2 : findT (numS 0 (Lj ++ [nx])) (nkSa nx) = some (encN Lj.length) := fa
                simp [hf, kt, numS_len, pn2, fa2, ec, q0, qn]
                rw [← ec]
                refine ⟨by unfold big; omega, by unfold big; omega, ?_⟩
                rw [List.map_append] at fin
                rw [hV] at fin ⊢
                exact fin
            · rw [if_neg c] at hk
              have fin := fin a1 ⟨a3, (st.sg ++ [j]).drop 1⟩ hk
              obtain ⟨nx, hnx⟩ : ∃ nx : Sta, nx = ⟨a3, (st.sg ++ [j]).drop 1⟩ := ⟨_, rfl⟩
              rw [← hnx] at fin
              have en : M.tup [encN a3, .tup (cutM (st.sg.map encN ++ [M.int (j : Int)]) (some 1) none)] = encSa nx := by
                rw [hnx]
                have e1 : cutM (st.sg.map encN ++ [M.int (j : Int)]) (some ((1 : Nat) : Int)) none = (st.sg.map encN ++ [M.int (j : Int)]).drop 1 := cut_from
                have e2 : cutM (st.sg.map encN ++ [M.int (j : Int)]) (some 1) none = (st.sg.map encN ++ [M.int (j : Int)]).drop 1 := e1
                rw [e2]
                show M.tup [encN a3, .tup ((st.sg.map encN ++ [encN j]).drop 1)] = .tup [encN a3, .tup (((st.sg ++ [j]).drop 1).map encN)]
                rw [List.map_drop, List.map_append]; rfl
              simp [c, h13, h15, q0]
              refine ⟨by unfold big; omega, ?_⟩
              obtain ⟨V, hV⟩ : ∃ V, V = encSa nx := ⟨_, rfl⟩
              have kt := keyT_sa nx
              have hf := find_numS nx Lj 0
              have fin := fin false V hV
              rw [← hV] at kt en
              rw [en]
              simp [kt]
              cases hx : idxS Lj nx with
              | some i2 =>
                have ea : addS Lj nx = (i2, Lj) := by unfold addS; rw [hx]
                rw [hx, Option.map_some, Nat.zero_add] at hf
                rw [ea] at fin
                simp [hf, kt, q0, qn]
                refine ⟨by unfold big; omega, ?_⟩
                exact fin
              | none =>
                have ea : addS Lj nx = (Lj.length, Lj ++ [nx]) := by unfold addS; rw [hx]
                have fa := find_addS (L := Lj) (p := nx)
                rw [ea] at fa fin
                rw [hx] at hf
                have hf : findT (numS 0 Lj) (nkSa nx) = none := hf
                have pn := put_numS hx
                rw [← hV] at pn
                have pn2 : putT (numS 0 Lj) V (nkSa nx) (M.int (Lj.length : Int)) = numS 0 (Lj ++ [nx]) := pn
                have fa2 : findT (numS 0 (Lj ++ [nx])) (nkSa nx) = some (encN Lj.length) := fa
                simp [hf, kt, numS_len, pn2, fa2, q0, qn]
                refine ⟨by unfold big; omega, by unfold big; omega, ?_⟩
                rw [List.map_append] at fin
                rw [hV] at fin ⊢
                exact fin
        · rintro r ⟨s12, s13, s14, s15, rfl, hjl, h12, h13, h14, h15⟩
          obtain ⟨L2, hL2⟩ : ∃ L2, L2 = (rowN B C.length many st L sg).2 := ⟨_, rfl⟩
          obtain ⟨row, hrow⟩ : ∃ row, row = (rowN B C.length many st L sg).1 := ⟨_, rfl⟩
          obtain ⟨M', hM⟩ := rowN_pre (B := B) (idle := C.length) (many := many) (st := st) (L := L) sg
          rw [← hL2] at hM
          rw [← hL2, ← hrow] at hsu
          rw [← hL2, ← hrow]
          simp
          refine ⟨by unfold big; omega, ?_⟩
          refine hJ _ ⟨rows ++ [row], L2, .v (.int (i : Int)), .v (.int (st.room : Int)), .v (encNs st.sg), .o .free (.l (row.map encSt)), s12, s13, s14, s15, ?_, by simp [hrl], hsu.symm, by simp [encRm], rfl, rfl, rfl, rfl, h12, h13, h14, h15⟩
          rw [hM, List.length_append]
          have : M'.length = M'.length := rfl
          omega
      · have hst := run_stay (B := B) (idle := C.length) (many := many) (sg := sg) (k := i) (by rw [← hrun]; show L.length ≤ rows.length; omega) (500 - i)
        rw [show i + (500 - i) = 500 by omega, ← hrun] at hst
        have d1 : decide (L.length ≤ i) = true := by simp; omega
        rw [hst] at hK
        unfold b_look_2
        simp [h8, d1]
        exact hK _ _ ⟨L, .v (.int (i : Int)), s9, s10, s11, s12, s13, s14, s15, rfl, rfl⟩
    · rintro r ⟨rows, L, s8, s9, s10, s11, s12, s13, s14, s15, hi, hrl, hrun, rfl, _⟩
      have fw1 := fw 500
      rw [← hrun] at fw1
      have fw1 : L.length ≤ 499 := fw1
      omega
  rintro fl r ⟨L, s8, s9, s10, s11, s12, s13, s14, s15, rfl, rfl⟩
  have gi : ∀ (V : M) (P : List (List Int)) (C : List (List (Option Int))) (n : Nat), V = .tup [encP P, .tup (C.map encCR)] → P.length = n → gIdle V = .tup [encP P, .tup (C.map encCR ++ [.tup (List.replicate n (.int 0))])] := fun V P C n e hn => by
    rw [e, ← hn]
    show M.tup [.tup (P.map encI), .tup (C.map encCR ++ [.tup (List.replicate (P.map encI).length (.int 0))])] = _
    rw [List.length_map]; rfl
  have g1 := gi V1 P C n ec hP
  have g2 := gi V2 P2 C2 n2 ec2 hP2
  rw [← g1, ← g2] at k
  simp
  refine wp_lcm gIdle (by simp) rfl (by simp; unfold big; omega) (fun m hm => ?_) ?_
  · have one : ∀ (V : M) (P : List (List Int)) (C : List (List (Option Int))), V = .tup [encP P, .tup (C.map encCR)] → P.length ≤ 1000 → C.length ≤ 1000 → ∃ ps cs, V = .tup [.tup ps, .tup cs] ∧ ps.length ≤ 1000 ∧ cs.length ≤ 1000 := fun V P C e h1 h2 => ⟨P.map encI, C.map encCR, e, by rw [List.length_map]; exact h1, by rw [List.length_map]; exact h2⟩
    have : ∃ ps cs, m = .tup [.tup ps, .tup cs] ∧ ps.length ≤ 1000 ∧ cs.length ≤ 1000 := by
      rcases List.mem_cons.mp hm with z | z
      · rw [z]; exact one V1 P C ec (by omega) hC
      · rw [List.mem_singleton.mp z]; exact one V2 P2 C2 ec2 (by omega) (by omega)
    obtain ⟨ps, cs, rfl, pl, cl⟩ := this
    simp
    refine wp_lcm (fun _ => .int 0) (by simp) rfl (by unfold big; omega) (fun m hm => ?_) ?_
    · simp
    · rw [List.map_const']
      have : gIdle (.tup [.tup ps, .tup cs]) = .tup [.tup ps, .tup (cs ++ [.tup (List.replicate ps.length (.int 0))])] := rfl
      rw [this]
      generalize List.replicate ps.length (M.int 0) = z
      simp
      unfold big; omega
  · simp
    exact k
end
end G

set_option Elab.async false
set_option linter.all false
set_option maxRecDepth 100000
set_option maxHeartbeats 4000000
/-! least prices, by the law (k16 to k25) -/
namespace G
open PySem L2 Sx
section
variable {n k i j : Nat} {mo : Int} {D R : List (List Int)}
theorem closed_w {E : QX} {n : Nat} {mo : Int} {P : List (List Int)} (h : Prc n mo P) (hn : n ≤ 1000) {Q : EV → Ro → Prop}
    (k : ∀ R, Shut n mo R → Le2 n R P → Q (.fr (encP R)) [.o .lock (.l (P.map encL))]) : wp Q E (m_closed [.o .lock (.l (P.map encL))]) := by
  refine wp_fnR rfl ?_
  unfold b_closed
  simp
  refine wp_lcL (fun acc ms r => ∃ (d t : List (List Int)) (x : Slot), d ++ t = P ∧ acc = rowsL d ∧ ms = t.map encL ∧ r = [.o .lock (.l (P.map encL)), .un, .un, .un, .un, x] ∧ canSet x = true) rfl (by rw [List.length_map, h.tab.len]; unfold big; omega) ⟨[], P, _, rfl, rfl, rfl, rfl, rfl⟩ ?_ ?_
  · rintro J hJ acc m ms r ⟨d, t, x, e, rfl, e2, rfl, hx⟩
    match t with
    | [] => cases e2
    | y :: t =>
    cases e2
    simp [hx]
    exact hJ _ _ _ ⟨d ++ [y], t, _, by simpa using e, by simp [rowsL], rfl, rfl, rfl⟩
  rintro acc r ⟨d, t, x, e, rfl, e2, rfl, hx⟩
  match t with
  | _ :: _ => cases e2
  | [] =>
  have e : d = P := by simpa using e
  subst e
  simp [hx]
  have hdl := h.tab.len
  refine ⟨by rw [hdl]; exact small_nat (by omega), ?_⟩
  refine wp_rng (fun m r => ∃ (R : List (List Int)) (x y z : Slot), r = [.o .lock (.l (d.map encL)), .o .free (.ll (rowsL R)), x, y, z, .un] ∧ ClI n mo d m R ∧ canSet x = true ∧ canSet y = true ∧ canSet z = true) ⟨d, .un, .un, .un, rfl, ⟨h, fun k hk => absurd hk (by omega), fun _ _ _ _ => Int.le_refl _⟩, rfl, rfl, rfl⟩ ?_ ?_
  · rintro m hm r ⟨D, x, y, z, rfl, ⟨hD, hT, hL⟩, hx, hy, hz⟩ J hJ
    have hm : m < n := by omega
    have hDl := hD.tab.len
    unfold b_closed_3
    simp [hx]
    refine ⟨by rw [hDl]; exact small_nat (by omega), ?_⟩
    refine wp_rng (fun i r => ∃ (R : List (List Int)) (y z : Slot), r = [.o .lock (.l (d.map encL)), .o .free (.ll (rowsL R)), .v (.int m), y, z, .un] ∧ Stage n m i 0 D R ∧ canSet y = true ∧ canSet z = true) ⟨D, y, z, rfl, stage0 hD.tab, hy, hz⟩ ?_ ?_
    · rintro i hi r ⟨R, y, z, rfl, hR, hy, hz⟩ J2 hJ2
      have hi : i < n := by omega
      have hRl := hR.1.len
      unfold b_closed_2
      simp [hy]
      refine ⟨by rw [hRl]; exact small_nat (by omega), ?_⟩
      refine wp_rng (fun j r => ∃ (R : List (List Int)) (z : Slot), r = [.o .lock (.l (d.map encL)), .o .free (.ll (rowsL R)), .v (.int m), .v (.int i), z, .un] ∧ Stage n m i j D R ∧ canSet z = true) ⟨R, z, rfl, hR, hz⟩ ?_ ?_
      · rintro j hj r ⟨R, z, rfl, hR, hz⟩ J3 hJ3
        have hj : j < n := by omega
        have hRl := hR.1.len
        have e1 : ixN R.length (i : Int) = some i := ixN_nat (by omega)
        have e2 : ixN R.length (m : Int) = some m := ixN_nat (by omega)
        obtain ⟨w, w1, w2, _, w3, w4⟩ := hR.1.ex hi
        obtain ⟨u, u1, u2, _, u3, _⟩ := hR.1.ex hm
        have e3 : ixN w.length (j : Int) = some j := ixN_nat (by omega)
        unfold b_closed_1
        simp [hz, e1, e2, e3, w1, u1, w3 j hj, w3 m hm, u3 j hj]
        rw [← w4]
        exact hJ3 _ ⟨_, _, rfl, stage_step hD hR hm hi hj, rfl⟩
      · rintro r ⟨R, z, rfl, hR, hz⟩
        simp
        exact hJ2 _ ⟨R, _, _, rfl, stage_row (by rw [hRl] at hR; exact hR), rfl, hz⟩
    · rintro r ⟨R, y, z, rfl, hR, hy, hz⟩
      have hR : Stage n m n 0 D R := by rw [hDl] at hR; exact hR
      simp
      exact hJ _ ⟨R, _, _, _, rfl, ⟨stage_prc hD hR hm, stage_tri hD hT hR hm, stage_le hL hR⟩, rfl, hy, hz⟩
  · rintro r ⟨R, x, y, z, rfl, ⟨hD, hT, hL⟩, hx, hy, hz⟩
    rw [hdl] at hT
    have hRl := hD.tab.len
    simp
    refine wp_lcm tupOf (by simp) rfl (by rw [List.length_map]; unfold big; omega) (fun m hm => ?_) ?_
    · obtain ⟨q, _, rfl⟩ := List.mem_map.mp hm
      simp
      rfl
    simp
    exact k R ⟨hD, hT⟩ hL
end
end G

set_option Elab.async false
set_option linter.all false
set_option maxRecDepth 100000
set_option maxHeartbeats 4000000
/-! SKe: drawn cases (k71, k74) -/
namespace G
open PySem L2 Sx
theorem rng_msE (n : Nat) : rngM 0 n = (List.range' 0 n).map fun j : Nat => M.int (j : Int) := by
  simp [rngM, List.range_eq_range']
section
variable {E : QX}
theorem serviceE_w {n t pr co : Nat} {b : List M} (hb : Box b) (hn : 0 < n) (hn2 : n ≤ 10) (ht : t ≤ 10) (hpr : pr ≤ 60) (hco : co ≤ 60) {Q : EV → Ro → Prop}
    (k : ∀ P C b', P.length = n → C.length = t → Box b' → Q (.fr (encV P C)) [.o .pin (.l b'), .v (.int n), .v (.int t), .v (.int pr), .v (.int co)]) : wp Q E (m_service [.o .pin (.l b), .v (.int n), .v (.int t), .v (.int pr), .v (.int co)]) := by
  refine wp_fnR rfl ?_
  unfold b_service
  simp
  refine ⟨small_nat (by omega), ?_⟩
  refine wp_rng (fun i r => ∃ (b : List M) (P : List (List Int)) (x : Slot), r = [.o .pin (.l b), .v (.int n), .v (.int t), .v (.int pr), .v (.int co), .o .free (.l (P.map encL)), x, .un, .un, .un, .un, .un] ∧ Box b ∧ RowsTo n pr i P ∧ canSet x = true ∧ plainS x = true) ⟨b, [], .un, rfl, hb, rowsTo0, rfl, rfl⟩ ?_ ?_
  · rintro i hi r ⟨b, P, x, rfl, hb, hP, hx, px⟩ J hJ
    have Pl := hP.len
    unfold b_service_1
    simp [hx]
    refine ⟨small_nat (by omega), ?_⟩
    rw [rng_msE]
    refine wp_lc (fun acc ms r => ∃ (w : List Int) (b : List M) (j l : Nat) (y : Slot), acc = w.map M.int ∧ ms = (List.range' j l).map (fun j : Nat => M.int (j : Int)) ∧ j + l = n ∧ RowTo i pr j w ∧ r = [.o .pin (.l b), .v (.int n), .v (.int t), .v (.int pr), .v (.int co), .o .free (.l (P.map encL)), .v (.int (i : Int)), .un, .un, .un, .un, y] ∧ Box b ∧ canSet y = true) rfl (by simp; unfold big; omega) ⟨[], b, 0, n, _, rfl, rfl, by omega, rowTo0, rfl, hb, rfl⟩ ?_ ?_
    · rintro J2 hJ2 acc m ms r ⟨w, b, j, l, y, rfl, e2, hjl, hw, rfl, hb, hy⟩
      obtain _ | l := l
      · cases e2
      rw [List.range'_succ, List.map_cons] at e2
      obtain ⟨rfl, rfl⟩ := List.cons.inj e2
      simp [hy]
      refine wp_iff (fun c => ?_) (fun c => ?_)
      · simp
        refine hJ2 _ _ _ ⟨w ++ [0], b, j + 1, l, .v (.int (j : Int)), by rw [List.map_append]; rfl, rfl, by omega, rowTo_step hw (by omega) (fun _ => rfl), rfl, hb, rfl⟩
      · have c' : ((pr : Int) + 1) = ((pr + 1 : Nat) : Int) := by omega
        simp
        rw [c']
        refine take _ _ _ _ hb (by omega) (by omega) fun q b hq hb => ?_
        simp
        refine hJ2 _ _ _ ⟨w ++ [(q : Int)], b, j + 1, l, .v (.int (j : Int)), by rw [List.map_append]; rfl, rfl, by omega, rowTo_step hw (by omega) (fun z => absurd (by omega) c), rfl, hb, rfl⟩
    · rintro acc r ⟨w, b, j, l, y, rfl, e2, hjl, hw, rfl, hb, hy⟩
      obtain rfl : l = 0 := by
        have := congrArg List.length e2
        simp at this
        omega
      obtain rfl : j = n := by omega
      simp [hy]
      refine ⟨by unfold big; omega, ?_⟩
      exact hJ _ ⟨b, P ++ [w], .v (.int (i : Int)), by rw [List.map_append]; rfl, hb, rowsTo_step hP hw, rfl, rfl⟩
  rintro r ⟨b, P, x, rfl, hb, hP, hx, px⟩
  simp
  refine ⟨small_nat (by omega), ?_⟩
  refine wp_rng (fun k r => ∃ (b : List M) (C : List (List (Option Int))) (x s8 s9 s10 : Slot), r = [.o .pin (.l b), .v (.int n), .v (.int t), .v (.int pr), .v (.int co), .o .free (.l (P.map encL)), x, .o .free (.l (C.map encCR)), s8, s9, s10, .un] ∧ Box b ∧ C.length = k ∧ plainS x = true ∧ canSet s8 = true ∧ canSet s9 = true ∧ canSet s10 = true) ⟨b, [], x, .un, .un, .un, rfl, hb, rfl, px, rfl, rfl, rfl⟩ ?_ ?_
  · rintro k' hk r ⟨b, C, x, s8, s9, s10, rfl, hb, hC, px, h8, h9, h10⟩ J hJ
    unfold b_service_2
    simp [h8, h9, h10]
    refine take _ _ _ _ hb (by omega) (by omega) fun sp b hsp hb => ?_
    simp [h9, h10]
    refine ⟨small_nat (by omega), ?_⟩
    rw [rng_msE]
    refine wp_lc (fun acc ms r => ∃ (w : List (Option Int)) (b : List M) (j l : Nat) (y : Slot), acc = w.map encH ∧ ms = (List.range' j l).map (fun j : Nat => M.int (j : Int)) ∧ j + l = n ∧ w.length = j ∧ r = [.o .pin (.l b), .v (.int n), .v (.int t), .v (.int pr), .v (.int co), .o .free (.l (P.map encL)), y, .o .free (.l (C.map encCR)), .v (.int (k' : Int)), .v (.int (sp : Int)), s10, .un] ∧ Box b ∧ canSet y = true) (by simp [px]) (by simp; unfold big; omega) ⟨[], b, 0, n, x, rfl, rfl, by omega, rfl, rfl, hb, plain_can px⟩ ?_ ?_
    · rintro J2 hJ2 acc m ms r ⟨w, b, j, l, y, rfl, e2, hjl, hw, rfl, hb, hy⟩
      obtain _ | l := l
      · cases e2
      rw [List.range'_succ, List.map_cons] at e2
      obtain ⟨rfl, rfl⟩ := List.cons.inj e2
      have fin : ∀ (b : List M) (o : Option Int), Box b → J2 (w.map encH ++ [encH o]) ((List.range' (j + 1) l).map (fun j : Nat => M.int (j : Int))) [.o .pin (.l b), .v (.int n), .v (.int t), .v (.int pr), .v (.int co), .o .free (.l (P.map encL)), .v (.int (j : Int)), .o .free (.l (C.map encCR)), .v (.int (k' : Int)), .v (.int (sp : Int)), s10, .un] := fun b o hb => hJ2 _ _ _ ⟨w ++ [o], b, j + 1, l, .v (.int (j : Int)), by rw [List.map_append]; rfl, rfl, by omega, by simp [hw], rfl, hb, rfl⟩
      have draw : ∀ (b : List M), Box b → ∀ (Q : EV → Ro → Prop) (E : QX), (∀ (q : Nat) b, Box b → Q (.fr (.int (q : Int))) [.o .pin (.l b), .v (.int ((co : Int) + 1))]) → wp Q E (m_take [.o .pin (.l b), .v (.int ((co : Int) + 1))]) := fun b hb Q E kk => by
        have c' : ((co : Int) + 1) = ((co + 1 : Nat) : Int) := by omega
        rw [c'] at kk ⊢
        exact take _ _ _ _ hb (by omega) (by omega) fun q b _ hb => kk q b hb
      simp [hy]
      refine wp_iff (fun c => ?_) (fun c => ?_)
      · simp
        refine draw _ hb _ _ fun q b hb => ?_
        simp
        exact fin b (some (q : Int)) hb
      · simp
        refine take _ _ _ _ hb (by omega) (by omega) fun d b _ hb => ?_
        simp
        by_cases c2 : d = 0
        · simp [c2]
          exact fin b none hb
        · simp [c2]
          refine draw _ hb _ _ fun q b hb => ?_
          simp
          exact fin b (some (q : Int)) hb
    · rintro acc r ⟨w, b, j, l, y, rfl, e2, hjl, hw, rfl, hb, hy⟩
      obtain rfl : l = 0 := by
        have := congrArg List.length e2
        simp at this
        omega
      simp [hy, h10]
      refine ⟨by unfold big; omega, ?_⟩
      exact hJ _ ⟨b, C ++ [w], x, .v (.int (k' : Int)), .v (.int (sp : Int)), .o .free (.l (w.map encH)), by rw [List.map_append]; rfl, hb, by simp [hC], px, rfl, rfl, rfl⟩
  rintro r ⟨b, C, x, s8, s9, s10, rfl, hb, hC, px, h8, h9, h10⟩
  simp
  refine closed_w (rowsTo_prc hP) (by omega) fun R hR hL => ?_
  simp
  exact k R C b hR.tab.len hC hb
theorem bookE_w {R sg t : Nat} {b : List M} (hb : Box b) (hR : 0 < R) (hR2 : R ≤ 8) (hs2 : sg ≤ 6) (ht : 0 < t) (ht2 : t ≤ 6) {Q : EV → Ro → Prop} (k : ∀ B b, B.length = R → (∀ r ∈ B, r.length = sg) → (∀ r ∈ B, ∀ q : Nat × Nat × Nat, some q ∈ r → q.2.2 < R) → Box b → Q (.fr (encBk B)) [.o .pin (.l b), .v (.int R), .v (.int sg), .v (.int t), .v (.int 9)]) : wp Q E (m_book [.o .pin (.l b), .v (.int R), .v (.int sg), .v (.int t), .v (.int 9)]) := by
  refine wp_fnR rfl ?_
  unfold b_book
  simp
  refine ⟨small_nat (by omega), ?_⟩
  refine wp_rng (fun i r => ∃ (B : Bk) (b : List M) (s6 s7 s8 s9 : Slot), r = [.o .pin (.l b), .v (.int R), .v (.int sg), .v (.int t), .v (.int 9), .o .free (.l (B.map encRm)), s6, s7, s8, s9] ∧ B.length = i ∧ (∀ r ∈ B, r.length = sg ∧ ∀ q : Nat × Nat × Nat, some q ∈ r → q.2.2 < R) ∧ Box b ∧ canSet s6 = true ∧ canSet s7 = true ∧ canSet s8 = true ∧ canSet s9 = true) ⟨[], b, .un, .un, .un, .un, rfl, rfl, (fun _ h => nomatch h), hb, rfl, rfl, rfl, rfl⟩ ?_ ?_
  · rintro i hi r ⟨B, b, s6, s7, s8, s9, rfl, bl, hB, hb, h6, h7, h8, h9⟩ J hJ
    unfold b_book_2
    simp [h6, h7]
    refine ⟨small_nat (by omega), ?_⟩
    refine wp_rng (fun j r => ∃ (w : List (Option (Nat × Nat × Nat))) (b : List M) (s8 s9 : Slot), r = [.o .pin (.l b), .v (.int R), .v (.int sg), .v (.int t), .v (.int 9), .o .free (.l (B.map encRm)), .v (.int (i : Int)), .o .free (.l (w.map encSt)), s8, s9] ∧ w.length = j ∧ (∀ q : Nat × Nat × Nat, some q ∈ w → q.2.2 < R) ∧ Box b ∧ canSet s8 = true ∧ canSet s9 = true) ⟨[], b, s8, s9, rfl, rfl, (fun _ h => nomatch h), hb, h8, h9⟩ ?_ ?_
    · rintro j hj r ⟨w, b, s8, s9, rfl, wl, hw, hb, h8, h9⟩ J2 hJ2
      unfold b_book_1
      simp [h8, h9]
      refine take _ _ _ _ hb (by omega) (by omega) fun tk b htk hb => ?_
      simp
      refine take _ _ _ _ hb (by omega) (by omega) fun w0 b hw0 hb => ?_
      simp
      refine pick _ _ _ _ _ _ hb rfl (by simp) (by simp) (by simp) fun m b hm hb => ?_
      have : ∃ d : Nat, m = .int d := by
        simp at hm
        rcases hm with rfl | rfl
        · exact ⟨0, rfl⟩
        · exact ⟨w0, rfl⟩
      obtain ⟨wr, rfl⟩ := this
      simp
      refine take _ _ _ _ hb (by omega) (by omega) fun rm b hrm hb => ?_
      simp [h9]
      refine take _ _ _ _ hb (by omega) (by omega) fun y b _ hb => ?_
      simp
      have yes : J2 [.o .pin (.l b), .v (.int R), .v (.int sg), .v (.int t), .v (.int 9), .o .free (.l (B.map encRm)), .v (.int (i : Int)), .o .free (.l (w.map encSt ++ [encSt (some (tk, wr, rm))])), .v (.int (j : Int)), .v (encSt (some (tk, wr, rm)))] := hJ2 _ ⟨w ++ [some (tk, wr, rm)], b, .v (.int (j : Int)), .v (encSt (some (tk, wr, rm))), by simp, by simp [wl], fun q hq => by
        rcases List.mem_append.mp hq with z | z
        · exact hw q z
        · have : q = (tk, wr, rm) := by simpa using z
          rw [this]; show rm < R; omega, hb, rfl, rfl⟩
      have no : J2 [.o .pin (.l b), .v (.int R), .v (.int sg), .v (.int t), .v (.int 9), .o .free (.l (B.map encRm)), .v (.int (i : Int)), .o .free (.l (w.map encSt ++ [encSt none])), .v (.int (j : Int)), .v (encSt (some (tk, wr, rm)))] := hJ2 _ ⟨w ++ [none], b, .v (.int (j : Int)), .v (encSt (some (tk, wr, rm))), by simp, by simp [wl], fun q hq => by
        rcases List.mem_append.mp hq with z | z
        · exact hw q z
        · simp at z, hb, rfl, rfl⟩
      simp [encSt] at yes no
      refine wp_iff (fun c => ?_) (fun c => ?_)
      · simp
        exact ⟨by unfold big; omega, yes⟩
      · cases decide ((i : Int) + (j : Int) = 0) with
        | true =>
          simp
          exact ⟨by unfold big; omega, yes⟩
        | false =>
          simp
          exact ⟨by unfold big; omega, no⟩
    · rintro r ⟨w, b, s8, s9, rfl, wl, hw, hb, h8, h9⟩
      simp
      refine ⟨by unfold big; omega, ?_⟩
      refine hJ _ ⟨B ++ [w], b, .v (.int (i : Int)), .o .free (.l (w.map encSt)), s8, s9, by simp [encRm], by simp [bl], fun r hr => ?_, hb, rfl, rfl, h8, h9⟩
      rcases List.mem_append.mp hr with z | z
      · exact hB r z
      · rw [List.mem_singleton.mp z]; exact ⟨wl, hw⟩
  rintro r ⟨B, b, s6, s7, s8, s9, rfl, bl, hB, hb, h6, h7, h8, h9⟩
  simp
  exact k B b bl (fun r hr => (hB r hr).1) (fun r hr => (hB r hr).2) hb
/-- a drawn case: its shape -/
structure W71 (n n2 t R sg : Nat) (P : List (List Int)) (C : List (List (Option Int))) (P2 : List (List Int)) (C2 : List (List (Option Int))) (B : Bk) : Prop where
  p : P.length = n
  n0 : 0 < n
  n1 : n ≤ 3
  p2 : P2.length = n2
  n02 : 0 < n2
  n12 : n2 ≤ 3
  c : C.length = t
  c2 : C2.length = t
  t3 : t ≤ 3
  bl : B.length = R
  row : ∀ r ∈ B, r.length = sg
  stp : ∀ r ∈ B, ∀ q : Nat × Nat × Nat, some q ∈ r → q.2.2 < R
theorem caseE_w {R sg : Nat} {b : List M} (hb : Box b) (hR : 0 < R) (hR2 : R ≤ 8) (hs2 : sg ≤ 6) {Q : EV → Ro → Prop} (k : ∀ n n2 t P C P2 C2 B b, W71 n n2 t R sg P C P2 C2 B → Box b → Q (.fr (encWh P C P2 C2 B)) [.o .pin (.l b), .v (.int R), .v (.int sg), .v (.int 9), .v (.int 9)]) : wp Q E (m_case [.o .pin (.l b), .v (.int R), .v (.int sg), .v (.int 9), .v (.int 9)]) := by
  refine wp_fnR rfl ?_
  unfold b_case
  simp
  refine take _ _ _ _ hb (by omega) (by omega) fun x1 b hx1 hb => ?_
  obtain ⟨t, ht⟩ : ∃ t, t = 1 + x1 := ⟨_, rfl⟩
  have i1 : 1 + (x1 : Int) = (t : Int) := by omega
  simp [i1]
  refine take _ _ _ _ hb (by omega) (by omega) fun x2 b hx2 hb => ?_
  obtain ⟨n, hn⟩ : ∃ n, n = 1 + x2 := ⟨_, rfl⟩
  have i2 : 1 + (x2 : Int) = (n : Int) := by omega
  simp [i2]
  refine serviceE_w (pr := 9) (co := 9) hb (by omega) (by omega) (by omega) (by omega) (by omega) fun P C b hP hC hb => ?_
  simp
  refine take _ _ _ _ hb (by omega) (by omega) fun x3 b hx3 hb => ?_
  obtain ⟨n2, hn2⟩ : ∃ n, n = 1 + x3 := ⟨_, rfl⟩
  have i3 : 1 + (x3 : Int) = (n2 : Int) := by omega
  simp [i3]
  refine serviceE_w (pr := 9) (co := 9) hb (by omega) (by omega) (by omega) (by omega) (by omega) fun P2 C2 b hP2 hC2 hb => ?_
  simp
  refine take _ _ _ _ hb (by omega) (by omega) fun x4 b hx4 hb => ?_
  simp
  refine wp_iff (fun c => ?_) (fun c => ?_)
  · simp
    refine bookE_w hb hR hR2 hs2 (by omega) (by omega) fun B b h1 h2 h3 hb => ?_
    simp
    exact k n n2 t P C P2 C2 B b ⟨hP, by omega, by omega, hP2, by omega, by omega, hC, hC2, by omega, h1, h2, h3⟩ hb
  · simp
    refine bookE_w hb hR hR2 hs2 (by omega) (by omega) fun B b h1 h2 h3 hb => ?_
    simp
    exact k n n t P C P C B b ⟨hP, by omega, by omega, hP, by omega, by omega, hC, hC, by omega, h1, h2, h3⟩ hb
end
end G

set_option Elab.async false
set_option linter.all false
set_option maxRecDepth 100000
set_option maxHeartbeats 4000000
/-! K71: the law (k71) -/
namespace G
open PySem L2 Sx
section
variable {E : QX}
theorem both71 {n n2 t R sg many : Nat} {P : List (List Int)} {C : List (List (Option Int))} {P2 : List (List Int)} {C2 : List (List (Option Int))} {B : Bk} (h : W71 n n2 t R sg P C P2 C2 B) (R0 : 0 < R) (hm : many ≤ 3) (hsg : sg ≤ 6) (few : R * (sg + 1) ^ many ≤ 499) :
    ∃ D : M, Pl blM 6 D ∧ (∀ (E : QX) (Q : EV → Ro → Prop), Q (.fr D) [.v (encWh P C P2 C2 B), .v (.int (many : Int))] → wp Q E (m_p_look_case [.v (encWh P C P2 C2 B), .v (.int (many : Int))])) ∧ ∀ (E : QX) (Q : EV → Ro → Prop), Q (.fr D) [.v (encWh P C P2 C2 B), .v (.int (many : Int))] → wp Q E (m_look [.v (encWh P C P2 C2 B), .v (.int (many : Int))]) := by
  have B0 : 0 < B.length := by rw [h.bl]; exact R0
  have h0 : (B.getD 0 []).length = sg := by
    rw [List.getD_eq_getElem?_getD, List.getElem?_eq_getElem B0]
    exact h.row _ (List.getElem_mem B0)
  have hB : ∀ r ∈ B, ∀ q : Nat × Nat × Nat, some q ∈ r → q.2.2 < B.length := by rw [h.bl]; exact h.stp
  have n1 := h.n1
  have n12 := h.n12
  have c := h.c
  have c2 := h.c2
  have t3 := h.t3
  refine ⟨_, wh_pl, fun E Q k => p_look_case_w hB h0 B0 (by omega) h.p h.n0 (by omega) h.p2 h.n02 (by omega) (by omega) (by omega) (by omega) (by rw [h.bl]; exact few) k, fun E Q k => look_w hB h.row h0 B0 (by omega) h.p h.n0 (by omega) h.p2 h.n02 (by omega) (by omega) (by omega) (by omega) (by rw [h.bl]; exact few) k⟩
end
theorem law_true : ∀ ns : List Int, ns.length ≤ 63 → ∃ o, G.m_law [.v (.ro (ns.map Sx.M.int))] = .ok (.fr (.bl true)) o := by
  intro ns hns
  have key : wp (fun e _ => e = .fr (.bl true)) noE (m_law [.v (.ro (ns.map M.int))]) := by
    refine wp_fnR rfl ?_
    unfold b_law
    simp
    refine wp_rng (n := 3) (fun k r => ∃ (s1 s2 s3 s4 s5 s6 s7 : Slot), r = [.v (.ro (ns.map M.int)), s1, s2, s3, s4, s5, s6, s7] ∧ canSet s1 = true ∧ canSet s2 = true ∧ canSet s3 = true ∧ canSet s4 = true ∧ canSet s5 = true ∧ canSet s6 = true ∧ canSet s7 = true) ⟨.un, .un, .un, .un, .un, .un, .un, rfl, rfl, rfl, rfl, rfl, rfl, rfl, rfl⟩ ?_ ?_
    · rintro k hk r ⟨s1, s2, s3, s4, s5, s6, s7, rfl, h1, h2, h3, h4, h5, h6, h7⟩ J hJ
      unfold b_law_1
      simp [h1, h2, h3, h4, h5, h6, h7]
      refine box _ _ ns k fun b hb => ?_
      simp [h1, h2, h3, h4, h5, h6, h7]
      refine take _ _ _ _ hb (by omega) (by omega) fun m b hm hb => ?_
      have m3 : m = 0 ∨ m = 1 ∨ m = 2 ∨ m = 3 := by omega
      have am : atI [M.int 0, M.int 1, M.int 2, M.int 3] (m : Int) = some (.int (m : Int)) := by
        rcases m3 with rfl | rfl | rfl | rfl <;> rfl
      have as : ∃ x : Nat, atI [M.int 6, M.int 6, M.int 3, M.int 3] (m : Int) = some (.int (x : Int)) ∧ 0 < x ∧ x ≤ 6 ∧ (2 ≤ m → x ≤ 3) := by
        rcases m3 with rfl | rfl | rfl | rfl
        · exact ⟨6, rfl, by omega, by omega, by omega⟩
        · exact ⟨6, rfl, by omega, by omega, by omega⟩
        · exact ⟨3, rfl, by omega, by omega, by omega⟩
        · exact ⟨3, rfl, by omega, by omega, by omega⟩
      have ar : ∃ x : Nat, atI [M.int 8, M.int 8, M.int 8, M.int 4] (m : Int) = some (.int (x : Int)) ∧ 0 < x ∧ x ≤ 8 ∧ (m = 3 → x ≤ 4) := by
        rcases m3 with rfl | rfl | rfl | rfl
        · exact ⟨8, rfl, by omega, by omega, by omega⟩
        · exact ⟨8, rfl, by omega, by omega, by omega⟩
        · exact ⟨8, rfl, by omega, by omega, by omega⟩
        · exact ⟨4, rfl, by omega, by omega, by omega⟩
      obtain ⟨sx, as, sx0, sx6, sx3⟩ := as
      obtain ⟨rx, ar, rx0, rx8, rx4⟩ := ar
      simp [h1, h2, h3, h4, h5, h6, h7, am, as, ar]
      refine take _ _ _ _ hb (by omega) (by omega) fun x1 b hx1 hb => ?_
      simp [h1, h2, h3, h4, h5, h6, h7, am, as, ar]
      refine take _ _ _ _ hb (by omega) (by omega) fun x2 b hx2 hb => ?_
      simp [h1, h2, h3, h4, h5, h6, h7]
      have p1 : ∀ x : Nat, (1 : Int) + (x : Int) = ((1 + x : Nat) : Int) := fun x => by omega
      rw [p1, p1]
      obtain ⟨sg, hsg⟩ : ∃ sg, sg = 1 + x1 := ⟨_, rfl⟩
      obtain ⟨R, hR⟩ : ∃ R, R = 1 + x2 := ⟨_, rfl⟩
      rw [← hsg, ← hR]
      have pw : ∀ (R sg a c m : Nat), R ≤ a → sg + 1 ≤ c → R * (sg + 1) ^ m ≤ a * c ^ m := fun R sg a c m h1 h2 => Nat.mul_le_mul h1 (Nat.pow_le_pow_left h2 m)
      have fw1 : R * (sg + 1) ^ m ≤ 499 := by
        rcases m3 with rfl | rfl | rfl | rfl
        · exact Nat.le_trans (pw R sg 8 7 0 (by omega) (by omega)) (by decide)
        · exact Nat.le_trans (pw R sg 8 7 1 (by omega) (by omega)) (by decide)
        · exact Nat.le_trans (pw R sg 8 4 2 (by omega) (by omega)) (by decide)
        · exact Nat.le_trans (pw R sg 4 4 3 (by omega) (by omega)) (by decide)
      refine wp_cut (fun (cb : Bool) r => ∃ (b : List M), (cb = true → m = 2) ∧ r = [.v (.ro (ns.map M.int)), .v (.int (k : Int)), .o .free (.l b), .v (.int (m : Int)), .v (.int (sg : Int)), .v (.int (R : Int)), s6, s7] ∧ Box b) (fun K hK => ?_) ?_
      · refine wp_iff (fun c => ?_) (fun c => ?_)
        · simp [h1, h2, h3, h4, h5, h6, h7]
          refine take _ _ _ _ hb (by omega) (by omega) fun y b hy hb => ?_
          simp [h1, h2, h3, h4, h5, h6, h7]
          exact hK _ _ ⟨b, fun _ => by omega, rfl, hb⟩
        · simp [h1, h2, h3, h4, h5, h6, h7]
          exact hK _ _ ⟨b, (fun z => nomatch z), rfl, hb⟩
      rintro cb r ⟨b, hcb, rfl, hb⟩
      refine wp_cut (fun fl r => ∃ (sg R : Nat) (b : List M), fl = .nx ∧ 0 < R ∧ R ≤ 8 ∧ sg ≤ 6 ∧ R * (sg + 1) ^ m ≤ 499 ∧ r = [.v (.ro (ns.map M.int)), .v (.int (k : Int)), .o .free (.l b), .v (.int (m : Int)), .v (.int (sg : Int)), .v (.int (R : Int)), s6, s7] ∧ Box b) (fun K hK => ?_) ?_
      · cases cb with
        | false =>
          simp [h1, h2, h3, h4, h5, h6, h7]
          exact hK _ _ ⟨sg, R, b, rfl, by omega, by omega, by omega, fw1, rfl, hb⟩
        | true =>
          obtain rfl := hcb rfl
          simp [h1, h2, h3, h4, h5, h6, h7]
          refine take _ _ _ _ hb (by omega) (by omega) fun y b hy hb => ?_
          simp [h1, h2, h3, h4, h5, h6, h7]
          rw [p1]
          exact hK _ _ ⟨6, 1 + y, b, rfl, by omega, by omega, by omega, Nat.le_trans (pw (1 + y) 6 6 7 2 (by omega) (by omega)) (by decide), rfl, hb⟩
      rintro fl r ⟨sg, R, b, rfl, R0, R8, sg6, fw, rfl, hb⟩
      simp [h1, h2, h3, h4, h5, h6, h7]
      refine caseE_w hb R0 R8 sg6 fun n n2 t P C P2 C2 B b hw hb => ?_
      obtain ⟨D, pD, q1, q2⟩ := both71 hw R0 (by omega) sg6 fw
      obtain ⟨D0, pD0, q3, q4⟩ := both71 (many := 0) hw R0 (by omega) sg6 (by simp; omega)
      generalize encWh P C P2 C2 B = W at q1 q2 q3 q4 ⊢
      simp [h1, h2, h3, h4, h5, h6, h7]
      refine q2 _ _ ?_
      simp [h1, h2, h3, h4, h5, h6, h7]
      refine q1 _ _ ?_
      simp [h1, h2, h3, h4, h5, h6, h7]
      refine same 6 _ _ _ pD ?_
      simp [h1, h2, h3, h4, h5, h6, h7]
      have fin : ∀ b, J [.v (.ro (ns.map M.int)), .v (.int (k : Int)), .o .free (.l b), .v (.int (m : Int)), .v (.int (sg : Int)), .v (.int (R : Int)), .v W, .v D] := fun b => hJ _ ⟨_, _, _, _, _, _, _, rfl, rfl, rfl, rfl, rfl, rfl, rfl, rfl⟩
      refine wp_iff (fun c => ?_) (fun c => ?_)
      · simp [h1, h2, h3, h4, h5, h6, h7]
        refine q3 _ _ ?_
        simp [h1, h2, h3, h4, h5, h6, h7]
        refine q4 _ _ ?_
        simp [h1, h2, h3, h4, h5, h6, h7]
        refine same 6 _ _ _ pD0 ?_
        simp [h1, h2, h3, h4, h5, h6, h7]
        exact fin b
      · simp [h1, h2, h3, h4, h5, h6, h7]
        exact fin b
    · rintro r ⟨s1, s2, s3, s4, s5, s6, s7, rfl, _⟩
      simp
  obtain ⟨a, r, e, rfl⟩ := wp_out key
  exact ⟨r, e⟩
end G

open PySem PySem.W PyProof.Rows
set_option maxHeartbeats 0 in
theorem PySem.Challenge.cw_wordsworth_k71_looking_ahead_holds : PySem.Challenge.rw_wordsworth_k71_looking_ahead.Holds := by
  w_on; o_law; k_head; (case hw => w_witness2)
  k_fill
  refine L2.walk_of (l := PySem.Challenge.rw_wordsworth_k71_looking_ahead) (n := 63) (k := 7) (x := "script") (CX := fun w => L2.CX PySem.Challenge.pw_wordsworth_k71_looking_ahead w) (sp := fun w => Sx.spLaw _) rfl (by decide) rfl ⟨rfl, by decide, by decide⟩ (fun w h Y => PySem.W.kIn_of Y) ?F (fun _ _ a ns hl _ hS => ⟨a, ns, rfl, hl, hS, fun _ => rfl⟩) (fun _ _ _ _ _ h => by
    obtain ⟨_, _, _, _, _, _, _, _, _, _, _, _, z⟩ := h
    exact z)
  case F =>
    intro w mg fa h KX GN hmg
    refine' G.end_ok KX GN hmg (G.tx_mk KX GN ?zn_abs ?zn_bool ?zn_int ?zn_isinstance ?zn_len ?zn_list ?zn_min ?zn_range ?zn_str ?zn_tuple ?zn_zip ?za_p_step_at ?zl_p_step_at ?zc_p_step_at ?zk_p_step_at ?za_p_idle_service ?zl_p_idle_service ?zc_p_idle_service ?zk_p_idle_service ?za_p_steps_along ?zl_p_steps_along ?zc_p_steps_along ?zk_p_steps_along ?za_p_number_for ?zl_p_number_for ?zc_p_number_for ?zk_p_number_for ?za_p_look_step ?zl_p_look_step ?zc_p_look_step ?zk_p_look_step ?za_p_look_case ?zl_p_look_case ?zc_p_look_case ?zk_p_look_case ?za_box ?zl_box ?zc_box ?zk_box ?za_take ?zl_take ?zc_take ?zk_take ?za_pick ?zl_pick ?zc_pick ?zk_pick ?za_same ?zl_same ?zc_same ?zk_same ?za_closed ?zl_closed ?zc_closed ?zk_closed ?za_service ?zl_service ?zc_service ?zk_service ?za_book ?zl_book ?zc_book ?zk_book ?za_case ?zl_case ?zc_case ?zk_case ?za_along ?zl_along ?zc_along ?zk_along ?za_look ?zl_look ?zc_look ?zk_look ?za_law ?zl_law ?zc_law ?zk_law) G.law_true
    (case zn_abs => k_is); (case zn_bool => k_is); (case zn_int => k_is); (case zn_isinstance => k_is); (case zn_len => k_is); (case zn_list => k_is); (case zn_min => k_is); (case zn_range => k_is); (case zn_str => k_is); (case zn_tuple => k_is); (case zn_zip => k_is); (case za_p_step_at => k_is); (case zl_p_step_at => k_is); (case zc_p_step_at => k_is); (case zk_p_step_at => k_is); (case za_p_idle_service => k_is); (case zl_p_idle_service => k_is); (case zc_p_idle_service => k_is); (case zk_p_idle_service => k_is); (case za_p_steps_along => k_is); (case zl_p_steps_along => k_is); (case zc_p_steps_along => k_is); (case zk_p_steps_along => k_is); (case za_p_number_for => k_is); (case zl_p_number_for => k_is); (case zc_p_number_for => k_is); (case zk_p_number_for => k_is); (case za_p_look_step => k_is); (case zl_p_look_step => k_is); (case zc_p_look_step => k_is); (case zk_p_look_step => k_is); (case za_p_look_case => k_is); (case zl_p_look_case => k_is); (case zc_p_look_case => k_is); (case zk_p_look_case => k_is); (case za_box => k_is); (case zl_box => k_is); (case zc_box => k_is); (case zk_box => k_is); (case za_take => k_is); (case zl_take => k_is); (case zc_take => k_is); (case zk_take => k_is); (case za_pick => k_is); (case zl_pick => k_is); (case zc_pick => k_is); (case zk_pick => k_is); (case za_same => k_is); (case zl_same => k_is); (case zc_same => k_is); (case zk_same => k_is); (case za_closed => k_is); (case zl_closed => k_is); (case zc_closed => k_is); (case zk_closed => k_is); (case za_service => k_is); (case zl_service => k_is); (case zc_service => k_is); (case zk_service => k_is); (case za_book => k_is); (case zl_book => k_is); (case zc_book => k_is); (case zk_book => k_is); (case za_case => k_is); (case zl_case => k_is); (case zc_case => k_is); (case zk_case => k_is); (case za_along => k_is); (case zl_along => k_is); (case zc_along => k_is); (case zk_along => k_is); (case za_look => k_is); (case zl_look => k_is); (case zc_look => k_is); (case zk_look => k_is); (case za_law => k_is); (case zl_law => k_is); (case zc_law => k_is); (case zk_law => k_is)

