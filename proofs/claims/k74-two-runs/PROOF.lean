import PyProof.Rows.All
import HandS.ForMost
import KE.KeyNested
import KE.KDictKeyed
import KE.KDictDisplayH
import HandS.Deep
import HandS.TupAny
import HandS.Style
import HandS.More
import HandS.Walk
import HandS.TupSets
import HandS.SortOrd
import HandS.Comp
import HandS.Iter
import HandS.Conv
import HandS.Text
import HandS.Strs
import HandS.Spec
import HandS.Ends
import HandS.Words
import HandS.SortInts
import HandS.SetFor
import PySem.Challenge.RW_langwork_k74_whole_two_runs
section
set_option Elab.async false
set_option linter.all false
set_option autoImplicit false
set_option maxRecDepth 100000
/-! Dcore: values without addresses (D), a store of changing objects, readings over both, and how they are lifted to the hand layer's readings. -/
namespace Lw
open PySem PySem.Spec PyProof.Rows L2

/-- a value; tuples are values, changing objects are places of a store -/
inductive D where
  | non | bl (b : Bool) | int (i : Int) | str (s : Str) | ty (n : String)
  | tup (xs : List D) | loc (n : Nat) | rol (ns : List Int) | bm (n : Nat) (m : Str)

/-- what stands at a place -/
inductive MO where
  | lst (xs : List D)
  | dA (kvs : List (Key × D))
  | dT (kvs : List (NestedKey × D))
  | ins (cn : Str) (fs : List (Str × D))

abbrev Env' := List (Option D)
abbrev Sto := List MO
/-- what all readings lean on: the program, the world, what stands below, the class addresses, the addresses of methods -/
structure Cz where
  P : Program
  w : World
  K : PySem.W.Frag
  cl : Str → Addr
  mt : Str → Addr

/-! ### keys of dicts with tuple keys -/
mutual
/-- the value is this key -/
def VKey (K : PySem.W.Frag) (H : Hp) : NestedKey → V → Prop
  | .none, v => v = .non
  | .num i, v => v = .int i ∨ ∃ b, v = .bl b ∧ i = (if b = true then 1 else 0)
  | .text x, v => v = .str x
  | .tup ks, v => ∃ a vs, v = .ref a ∧ SqT K H a vs ∧ VKeys K H ks vs
def VKeys (K : PySem.W.Frag) (H : Hp) : List NestedKey → List V → Prop
  | [], vs => vs = []
  | k :: ks, vs => ∃ v r, vs = v :: r ∧ VKey K H k v ∧ VKeys K H ks r
end
/-- the dict object at a: its entries (key, the key's address, value) -/
def DTO (P : Program) (w : World) (a : Addr) (ws : List (NestedKey × Addr × V)) : HO := .ext fun h => ∃ xs : List (NestedKey × Addr × Value), Paired (fun p q => p.1 = q.1 ∧ p.2.1 = q.2.1 ∧ RelV p.2.2 q.2.2) ws xs ∧
  ∃ o es ep, h.get? a = some o ∧ o.ExactDict ∧ o.data = .dict es ep ∧ es.toList = xs.map (entryOfKey (nestedKind P w)) ∧ (xs.map (·.1)).Nodup ∧ (a == sysModules) = false ∧ xs.length ≤ sizeLine

def RolAt (K : PySem.W.Frag) (H : Hp) (a : Addr) (ns : List Int) : Prop :=
  (∃ o, H a = some (.frz o (.lst (ns.map V.int)))) ∨
    ∃ (o : Obj) (its : Array Value) (n : Nat), K.lookup a = some o ∧ o.cls = .type "list" ∧ o.dict = none ∧ o.data = .seq its n ∧ its.size ≤ sizeLine ∧ Vals (ns.map V.int) its.toList
theorem RolAt.sq {K : PySem.W.Frag} {H : Hp} {a : Addr} {ns : List Int} (h : RolAt K H a ns) : SqL K H a (ns.map V.int) := by
  rcases h with ⟨o, h⟩ | h
  · exact .inl (.inr ⟨o, h⟩)
  · exact .inr h

mutual
def Rep (c : Cz) (μ : List Addr) (H : Hp) : D → V → Prop
  | .non, v => v = .non
  | .bl b, v => v = .bl b
  | .int i, v => v = .int i
  | .str s, v => v = .str s
  | .ty n, v => v = .ty n
  | .tup ds, v => ∃ a vs, v = .ref a ∧ SqT c.K H a vs ∧ RepL c μ H ds vs
  | .loc n, v => ∃ a, v = .ref a ∧ μ[n]? = some a
  | .rol ns, v => ∃ a, v = .ref a ∧ RolAt c.K H a ns
  | .bm n m, v => ∃ p a, v = .ref p ∧ μ[n]? = some a ∧ H p = some (.met (c.mt m) a)
def RepL (c : Cz) (μ : List Addr) (H : Hp) : List D → List V → Prop
  | [], vs => vs = []
  | d :: ds, vs => ∃ v r, vs = v :: r ∧ Rep c μ H d v ∧ RepL c μ H ds r
end

/-- the object at a place -/
def RepO (c : Cz) (μ : List Addr) (H : Hp) : MO → Addr → Prop
  | .lst ds, a => ∃ vs, H a = some (.lst vs) ∧ RepL c μ H ds vs
  | .dA kvs, a => ∃ ws : List (Key × V), H a = some (.dK ws) ∧ ws.map (·.1) = kvs.map (·.1) ∧ RepL c μ H (kvs.map (·.2)) (ws.map (·.2))
  | .dT kvs, a => ∃ ws, H a = some (DTO c.P c.w a ws) ∧ ws.map (·.1) = kvs.map (·.1) ∧ (∀ x ∈ ws, VKey c.K H x.1 (.ref x.2.1) ∧ x.1.depth ≤ 8) ∧ RepL c μ H (kvs.map (·.2)) (ws.map (·.2.2))
  | .ins cn fs, a => ∃ (dx : Addr) (gs : List (Str × V)), H a = some (.ins (c.cl cn) dx gs) ∧ gs.map (·.1) = fs.map (·.1) ∧ RepL c μ H (fs.map (·.2)) (gs.map (·.2))

structure Stor (c : Cz) (μ : List Addr) (st : Sto) (H : Hp) : Prop where
  len : μ.length = st.length
  nd : μ.Nodup
  ob : ∀ (n : Nat) (mo : MO) (a : Addr), st[n]? = some mo → μ[n]? = some a → RepO c μ H mo a

structure Ext (μ : List Addr) (H : Hp) (μ' : List Addr) (H' : Hp) : Prop where
  pre : ∃ l, μ' = μ ++ l
  tup : ∀ a xs, H a = some (.tup xs) → H' a = some (.tup xs)
  frz : ∀ a o u, H a = some (.frz o u) → H' a = some (.frz o u)
  met : ∀ a f x, H a = some (.met f x) → H' a = some (.met f x)

theorem Ext.refl {μ : List Addr} {H : Hp} : Ext μ H μ H := ⟨⟨[], by simp⟩, fun _ _ h => h, fun _ _ _ h => h, fun _ _ _ h => h⟩
theorem Ext.trans {μ μ1 μ2 : List Addr} {H H1 H2 : Hp} (a : Ext μ H μ1 H1) (b : Ext μ1 H1 μ2 H2) : Ext μ H μ2 H2 := by
  obtain ⟨⟨l, rfl⟩, a1, a2, a3⟩ := a
  obtain ⟨⟨l', rfl⟩, b1, b2, b3⟩ := b
  exact ⟨⟨l ++ l', by rw [List.append_assoc]⟩, fun x y h => b1 _ _ (a1 _ _ h), fun x y z h => b2 _ _ _ (a2 _ _ _ h), fun x y z h => b3 _ _ _ (a3 _ _ _ h)⟩
theorem Ext.at {μ μ' : List Addr} {H H' : Hp} (e : Ext μ H μ' H') {n : Nat} {a : Addr} (h : μ[n]? = some a) : μ'[n]? = some a := by
  obtain ⟨⟨l, rfl⟩, _⟩ := e
  have hn : n < μ.length := (List.getElem?_eq_some_iff.mp h).1
  rw [List.getElem?_append_left hn]; exact h
theorem Ext.sqT {K : PySem.W.Frag} {μ μ' : List Addr} {H H' : Hp} (e : Ext μ H μ' H') {a : Addr} {xs : List V} (h : SqT K H a xs) : SqT K H' a xs := by
  rcases h with (h | ⟨o, h⟩) | h
  · exact .inl (.inl (e.tup _ _ h))
  · exact .inl (.inr ⟨o, e.frz _ _ _ h⟩)
  · exact .inr h
theorem Ext.rol {K : PySem.W.Frag} {μ μ' : List Addr} {H H' : Hp} (e : Ext μ H μ' H') {a : Addr} {ns : List Int} (h : RolAt K H a ns) : RolAt K H' a ns := by
  rcases h with ⟨o, h⟩ | h
  · exact .inl ⟨o, e.frz _ _ _ h⟩
  · exact .inr h
mutual
theorem Rep.ext {c : Cz} {μ μ' : List Addr} {H H' : Hp} (e : Ext μ H μ' H') : ∀ (d : D) (v : V), Rep c μ H d v → Rep c μ' H' d v
  | .non, _, h | .bl _, _, h | .int _, _, h | .str _, _, h | .ty _, _, h => h
  | .tup ds, v, h => by
    obtain ⟨a, vs, rfl, h1, h2⟩ := h
    exact ⟨a, vs, rfl, e.sqT h1, RepL.ext e ds vs h2⟩
  | .loc n, v, h => by
    obtain ⟨a, rfl, h1⟩ := h
    exact ⟨a, rfl, e.at h1⟩
  | .rol ns, v, h => by
    obtain ⟨a, rfl, h1⟩ := h
    exact ⟨a, rfl, e.rol h1⟩
  | .bm n m, v, h => by
    obtain ⟨p, a, rfl, h1, h2⟩ := h
    exact ⟨p, a, rfl, e.at h1, e.met _ _ _ h2⟩
theorem RepL.ext {c : Cz} {μ μ' : List Addr} {H H' : Hp} (e : Ext μ H μ' H') : ∀ (ds : List D) (vs : List V), RepL c μ H ds vs → RepL c μ' H' ds vs
  | [], _, h => h
  | d :: ds, vs, h => by
    obtain ⟨v, r, rfl, h1, h2⟩ := h
    exact ⟨v, r, rfl, Rep.ext e d v h1, RepL.ext e ds r h2⟩
end

/-! ### lists of representations -/
section
variable {c : Cz} {μ : List Addr} {H : Hp}
theorem RepL.len : ∀ {ds : List D} {vs : List V}, RepL c μ H ds vs → vs.length = ds.length
  | [], _, h => by cases h; rfl
  | d :: ds, vs, h => by
    obtain ⟨v, r, rfl, _, h2⟩ := h
    simp [RepL.len h2]
theorem RepL.nil : RepL c μ H [] [] := rfl
theorem RepL.cons {d : D} {v : V} {ds : List D} {vs : List V} (h : Rep c μ H d v) (t : RepL c μ H ds vs) : RepL c μ H (d :: ds) (v :: vs) := ⟨v, vs, rfl, h, t⟩
theorem RepL.append : ∀ {ds es : List D} {vs ws : List V}, RepL c μ H ds vs → RepL c μ H es ws → RepL c μ H (ds ++ es) (vs ++ ws)
  | [], _, _, _, h, t => by cases h; exact t
  | d :: ds, _, vs, _, h, t => by
    obtain ⟨v, r, rfl, h1, h2⟩ := h
    exact ⟨v, _, rfl, h1, RepL.append h2 t⟩
theorem RepL.get : ∀ {ds : List D} {vs : List V} {i : Nat} {d : D}, RepL c μ H ds vs → ds[i]? = some d → ∃ v, vs[i]? = some v ∧ Rep c μ H d v
  | [], _, _, _, _, e => by simp at e
  | d :: ds, vs, 0, x, h, e => by
    obtain ⟨v, r, rfl, h1, h2⟩ := h
    simp at e; subst e
    exact ⟨v, rfl, h1⟩
  | d :: ds, vs, i + 1, x, h, e => by
    obtain ⟨v, r, rfl, h1, h2⟩ := h
    exact RepL.get (i := i) h2 (by simpa using e)
theorem RepL.get' : ∀ {ds : List D} {vs : List V} {i : Nat} {v : V}, RepL c μ H ds vs → vs[i]? = some v → ∃ d, ds[i]? = some d ∧ Rep c μ H d v
  | [], _, _, _, h, e => by cases h; simp at e
  | d :: ds, vs, 0, x, h, e => by
    obtain ⟨v, r, rfl, h1, h2⟩ := h
    simp at e; subst e
    exact ⟨d, rfl, h1⟩
  | d :: ds, vs, i + 1, x, h, e => by
    obtain ⟨v, r, rfl, h1, h2⟩ := h
    exact RepL.get' (i := i) h2 (by simpa using e)
theorem RepL.take : ∀ (n : Nat) {ds : List D} {vs : List V}, RepL c μ H ds vs → RepL c μ H (ds.take n) (vs.take n)
  | 0, _, _, _ => rfl
  | n + 1, [], _, h => by cases h; rfl
  | n + 1, d :: ds, vs, h => by
    obtain ⟨v, r, rfl, h1, h2⟩ := h
    exact ⟨v, _, rfl, h1, RepL.take n h2⟩
theorem RepL.drop : ∀ (n : Nat) {ds : List D} {vs : List V}, RepL c μ H ds vs → RepL c μ H (ds.drop n) (vs.drop n)
  | 0, _, _, h => h
  | n + 1, [], _, h => by cases h; rfl
  | n + 1, d :: ds, vs, h => by
    obtain ⟨v, r, rfl, h1, h2⟩ := h
    exact RepL.drop n h2
theorem RepL.set : ∀ (n : Nat) {ds : List D} {vs : List V} {d : D} {v : V}, RepL c μ H ds vs → Rep c μ H d v → RepL c μ H (ds.set n d) (vs.set n v)
  | _, [], _, _, _, h, _ => by cases h; rfl
  | 0, d :: ds, vs, x, y, h, q => by
    obtain ⟨v, r, rfl, h1, h2⟩ := h
    exact ⟨y, r, rfl, q, h2⟩
  | n + 1, d :: ds, vs, x, y, h, q => by
    obtain ⟨v, r, rfl, h1, h2⟩ := h
    exact ⟨v, _, rfl, h1, RepL.set n h2 q⟩
theorem RepL.reverse : ∀ {ds : List D} {vs : List V}, RepL c μ H ds vs → RepL c μ H ds.reverse vs.reverse
  | [], _, h => by cases h; rfl
  | d :: ds, vs, h => by
    obtain ⟨v, r, rfl, h1, h2⟩ := h
    rw [List.reverse_cons, List.reverse_cons]
    exact RepL.append (RepL.reverse h2) (RepL.cons h1 RepL.nil)
theorem RepL.ints : ∀ (ns : List Int), RepL c μ H (ns.map D.int) (ns.map V.int)
  | [] => rfl
  | n :: ns => ⟨_, _, rfl, rfl, RepL.ints ns⟩
theorem RepL.ints_inv : ∀ {ns : List Int} {vs : List V}, RepL c μ H (ns.map D.int) vs → vs = ns.map V.int
  | [], _, h => h
  | n :: ns, vs, h => by
    obtain ⟨v, r, rfl, h1, h2⟩ := h
    cases h1
    rw [RepL.ints_inv h2]; rfl
theorem RepL.strs_inv : ∀ {ns : List Str} {vs : List V}, RepL c μ H (ns.map D.str) vs → vs = ns.map V.str
  | [], _, h => h
  | n :: ns, vs, h => by
    obtain ⟨v, r, rfl, h1, h2⟩ := h
    cases h1
    rw [RepL.strs_inv h2]; rfl
theorem RepL.strs : ∀ (ns : List Str), RepL c μ H (ns.map D.str) (ns.map V.str)
  | [] => rfl
  | n :: ns => ⟨_, _, rfl, rfl, RepL.strs ns⟩
end

mutual
theorem VKey.ext {K : PySem.W.Frag} {μ μ' : List Addr} {H H' : Hp} (e : Ext μ H μ' H') : ∀ (k : NestedKey) (v : V), VKey K H k v → VKey K H' k v
  | .none, _, h | .num _, _, h | .text _, _, h => h
  | .tup ks, v, h => by
    obtain ⟨a, vs, rfl, h1, h2⟩ := h
    exact ⟨a, vs, rfl, e.sqT h1, VKeys.ext e ks vs h2⟩
theorem VKeys.ext {K : PySem.W.Frag} {μ μ' : List Addr} {H H' : Hp} (e : Ext μ H μ' H') : ∀ (ks : List NestedKey) (vs : List V), VKeys K H ks vs → VKeys K H' ks vs
  | [], _, h => h
  | k :: ks, vs, h => by
    obtain ⟨v, r, rfl, h1, h2⟩ := h
    exact ⟨v, r, rfl, VKey.ext e k v h1, VKeys.ext e ks r h2⟩
end
theorem RepO.ext {c : Cz} {μ μ' : List Addr} {H H' : Hp} (e : Ext μ H μ' H') {mo : MO} {a : Addr} (ha : H' a = H a) (h : RepO c μ H mo a) : RepO c μ' H' mo a := by
  cases mo with
  | lst ds =>
    obtain ⟨vs, h1, h2⟩ := h
    exact ⟨vs, ha.trans h1, h2.ext e⟩
  | dA kvs =>
    obtain ⟨ws, h1, h2, h3⟩ := h
    exact ⟨ws, ha.trans h1, h2, h3.ext e⟩
  | dT kvs =>
    obtain ⟨ws, h1, h2, h3, h4⟩ := h
    exact ⟨ws, ha.trans h1, h2, fun x hx => ⟨(h3 x hx).1.ext e, (h3 x hx).2⟩, h4.ext e⟩
  | ins cn fs =>
    obtain ⟨dx, gs, h1, h2, h3⟩ := h
    exact ⟨dx, gs, ha.trans h1, h2, h3.ext e⟩
/-- an object of the store is tracked, may be written -/
theorem RepO.mut {c : Cz} {μ : List Addr} {H : Hp} {mo : MO} {a : Addr} (h : RepO c μ H mo a) : ∃ o, H a = some o ∧ Mut (some o) ∧ (∀ f x, o ≠ .met f x) := by
  cases mo with
  | lst ds =>
    obtain ⟨vs, h1, _⟩ := h
    exact ⟨_, h1, trivial, fun _ _ => by intro z; cases z⟩
  | dA kvs =>
    obtain ⟨ws, h1, _⟩ := h
    exact ⟨_, h1, trivial, fun _ _ => by intro z; cases z⟩
  | dT kvs =>
    obtain ⟨ws, h1, _⟩ := h
    exact ⟨_, h1, trivial, fun _ _ => by intro z; cases z⟩
  | ins cn fs =>
    obtain ⟨dx, gs, h1, _⟩ := h
    exact ⟨_, h1, trivial, fun _ _ => by intro z; cases z⟩

section
variable {c : Cz} {μ : List Addr} {H : Hp} {st : Sto}
theorem Stor.addr (S : Stor c μ st H) {n : Nat} {mo : MO} (h : st[n]? = some mo) : ∃ a, μ[n]? = some a ∧ RepO c μ H mo a := by
  have hn : n < st.length := (List.getElem?_eq_some_iff.mp h).1
  have hm : n < μ.length := by rw [S.len]; exact hn
  exact ⟨μ[n], List.getElem?_eq_getElem hm, S.ob n mo _ h (List.getElem?_eq_getElem hm)⟩
theorem Stor.ref (S : Stor c μ st H) {n : Nat} {mo : MO} {v : V} (h : st[n]? = some mo) (r : Rep c μ H (.loc n) v) : ∃ a, v = .ref a ∧ μ[n]? = some a ∧ RepO c μ H mo a := by
  obtain ⟨a, rfl, ha⟩ := r
  exact ⟨a, rfl, ha, S.ob n mo a h ha⟩
/-- a new untracked-so-far address: all stays -/
theorem Ext.new {p : Addr} {o : HO} (hp : H p = none) : Ext μ H μ (upd H p o) :=
  ⟨⟨[], by simp⟩, fun a xs h => by rw [upd_ne (ne_of_none h hp)]; exact h, fun a _ _ h => by rw [upd_ne (ne_of_none h hp)]; exact h, fun a _ _ h => by rw [upd_ne (ne_of_none h hp)]; exact h⟩
theorem Ext.more {μ' : List Addr} {H' : Hp} (e : Ext μ H μ' H') (l : List Addr) : Ext μ H (μ' ++ l) H' := by
  obtain ⟨⟨l', rfl⟩, a, b, d⟩ := e
  exact ⟨⟨l' ++ l, by rw [List.append_assoc]⟩, a, b, d⟩
theorem Stor.fresh (S : Stor c μ st H) {p : Addr} (hp : H p = none) : p ∉ μ := fun hm => by
  obtain ⟨n, hn, e⟩ := List.getElem_of_mem hm
  have hs : n < st.length := by rw [← S.len]; exact hn
  obtain ⟨o, h, _⟩ := (S.ob n st[n] p (List.getElem?_eq_getElem hs) (by rw [List.getElem?_eq_getElem hn, e])).mut
  rw [hp] at h; cases h
/-- something new that is no object of the store -/
theorem Stor.aside (S : Stor c μ st H) {p : Addr} {o : HO} (hp : H p = none) : Stor c μ st (upd H p o) := by
  refine ⟨S.len, S.nd, fun n mo a h1 h2 => (S.ob n mo a h1 h2).ext (Ext.new hp) ?_⟩
  refine upd_ne ?_
  rintro rfl
  exact S.fresh hp (List.mem_of_getElem? h2)
/-- a new object of the store -/
theorem Stor.push (S : Stor c μ st H) {p : Addr} {o : HO} {mo : MO} (hp : H p = none) (h : RepO c (μ ++ [p]) (upd H p o) mo p) : Stor c (μ ++ [p]) (st ++ [mo]) (upd H p o) := by
  have hf := S.fresh hp
  have E : Ext μ H (μ ++ [p]) (upd H p o) := (Ext.new hp).more [p]
  refine ⟨by simp [S.len], ?_, fun n mo' a h1 h2 => ?_⟩
  · rw [List.nodup_append]
    refine ⟨S.nd, by simp, fun x hx y hy => ?_⟩
    rw [List.mem_singleton.mp hy]
    rintro rfl
    exact hf hx
  · by_cases hn : n < st.length
    · have hn' : n < μ.length := by rw [S.len]; exact hn
      rw [List.getElem?_append_left hn] at h1
      rw [List.getElem?_append_left hn'] at h2
      refine (S.ob n mo' a h1 h2).ext E (upd_ne ?_)
      rintro rfl
      exact hf (List.mem_of_getElem? h2)
    · have hl : n < (st ++ [mo]).length := (List.getElem?_eq_some_iff.mp h1).1
      have e : n = st.length := by simp at hl; omega
      subst e
      rw [List.getElem?_append_right (Nat.le_refl _)] at h1
      rw [List.getElem?_append_right (by rw [S.len]; exact Nat.le_refl _), S.len] at h2
      simp at h1 h2
      subst h1; subst h2
      exact h
theorem Ext.push {p : Addr} {o : HO} (hp : H p = none) : Ext μ H (μ ++ [p]) (upd H p o) := (Ext.new hp).more [p]
theorem Rep.pushed {p : Addr} {H' : Hp} (S : Stor c μ st H) : Rep c (μ ++ [p]) H' (.loc st.length) (.ref p) := ⟨p, rfl, by rw [← S.len]; simp⟩
/-- an object of the store is written -/
theorem Ext.write (S : Stor c μ st H) {n : Nat} {mo : MO} {a : Addr} (h1 : st[n]? = some mo) (h2 : μ[n]? = some a) {o : HO} : Ext μ H μ (upd H a o) := by
  obtain ⟨u, hu, hm, hne⟩ := (S.ob n mo a h1 h2).mut
  refine ⟨⟨[], by simp⟩, fun b xs h => ?_, fun b o' u' h => ?_, fun b f x h => ?_⟩
  · rw [upd_ne]; exact h
    rintro rfl; rw [hu] at h; cases h; exact hm
  · rw [upd_ne]; exact h
    rintro rfl; rw [hu] at h; cases h; exact hm
  · rw [upd_ne]; exact h
    rintro rfl; rw [hu] at h; cases h; exact hne _ _ rfl
theorem Stor.write (S : Stor c μ st H) {n : Nat} {mo mo' : MO} {a : Addr} {o : HO} (h1 : st[n]? = some mo) (h2 : μ[n]? = some a) (h : RepO c μ (upd H a o) mo' a) : Stor c μ (st.set n mo') (upd H a o) := by
  refine ⟨by simp [S.len], S.nd, fun m mo2 b q1 q2 => ?_⟩
  by_cases e : m = n
  · subst e
    have hn : m < st.length := (List.getElem?_eq_some_iff.mp h1).1
    rw [List.getElem?_set_self hn] at q1
    cases q1
    rw [h2] at q2; cases q2
    exact h
  · rw [List.getElem?_set_ne (Ne.symm e)] at q1
    refine (S.ob m mo2 b q1 q2).ext (Ext.write S h1 h2) (upd_ne ?_)
    rintro rfl
    obtain ⟨i1, j1⟩ := List.getElem?_eq_some_iff.mp h2
    obtain ⟨i2, j2⟩ := List.getElem?_eq_some_iff.mp q2
    exact e ((List.getElem_inj S.nd).mp (j2.trans j1.symm))
end

/-! ### the slots -/
structure RelE (c : Cz) (μ : List Addr) (H : Hp) (ρ : Env') (σ : L2.St) : Prop where
  len : σ.length = ρ.length
  at_ : ∀ (i : Nat) (d : D), ρ[i]? = some (some d) → ∃ v, σ[i]? = some (some v) ∧ Rep c μ H d v
theorem RelE.ext {c : Cz} {μ μ' : List Addr} {H H' : Hp} {ρ : Env'} {σ : L2.St} (r : RelE c μ H ρ σ) (e : Ext μ H μ' H') : RelE c μ' H' ρ σ :=
  ⟨r.len, fun i d h => let ⟨v, h1, h2⟩ := r.at_ i d h; ⟨v, h1, h2.ext e⟩⟩
theorem RelE.set {c : Cz} {μ : List Addr} {H : Hp} {ρ : Env'} {σ : L2.St} (r : RelE c μ H ρ σ) (i : Nat) {d : D} {v : V} (h : Rep c μ H d v) : RelE c μ H (ρ.set i (some d)) (σ.set i (some v)) := by
  refine ⟨by simp [r.len], fun j x e => ?_⟩
  by_cases hj : j = i
  · subst hj
    have hl : j < ρ.length := by
      have := (List.getElem?_eq_some_iff.mp e).1
      simpa using this
    rw [List.getElem?_set_self hl] at e
    cases e
    exact ⟨v, by rw [List.getElem?_set_self (by rw [r.len]; exact hl)], h⟩
  · rw [List.getElem?_set_ne (Ne.symm hj)] at e
    obtain ⟨w, h1, h2⟩ := r.at_ j x e
    exact ⟨w, by rw [List.getElem?_set_ne (Ne.symm hj)]; exact h1, h2⟩
theorem RelE.unset {c : Cz} {μ : List Addr} {H : Hp} {ρ : Env'} {σ : L2.St} (r : RelE c μ H ρ σ) (i : Nat) : RelE c μ H (ρ.set i none) (σ.set i none) := by
  refine ⟨by simp [r.len], fun j x e => ?_⟩
  by_cases hj : j = i
  · subst hj
    have hl : j < ρ.length := by
      have := (List.getElem?_eq_some_iff.mp e).1
      simpa using this
    rw [List.getElem?_set_self hl] at e
    cases e
  · rw [List.getElem?_set_ne (Ne.symm hj)] at e
    obtain ⟨w, h1, h2⟩ := r.at_ j x e
    exact ⟨w, by rw [List.getElem?_set_ne (Ne.symm hj)]; exact h1, h2⟩

/-! ### results -/
/-- a reading over values: what it gives, the store behind -/
abbrev R1 := Option (D × Sto)
abbrev FE := Env' → Sto → Option (D × Sto)
abbrev FT := Env' → Sto → Option (Bool × Sto)
abbrev FA := Env' → Sto → Option (List D × Sto)
abbrev DF := List D → Sto → Option (D × Sto)
inductive Out where
  | nx (ρ : Env') (st : Sto) | rt (d : D) (st : Sto) | bk (ρ : Env') (st : Sto) | ct (ρ : Env') (st : Sto)
abbrev FS := Env' → Sto → Option Out
/-- what an iteration goes over -/
inductive ItD where
  | loc (n : Nat) (xs : List D) | tup (xs : List D) | str (s : Str) | rng (lo : Int) (n : Nat) | rol (ns : List Int)
abbrev FI := Env' → Sto → Option (ItD × Sto)

def Res (c : Cz) (μ : List Addr) (H : Hp) (o : Option (D × Sto)) (Q : VK) : Prop :=
  ∃ d st', o = some (d, st') ∧ ∀ v H' μ', Ext μ H μ' H' → Stor c μ' st' H' → Rep c μ' H' d v → Q v H'
def ResB (c : Cz) (μ : List Addr) (H : Hp) (o : Option (Bool × Sto)) (Q : Bool → Hp → Prop) : Prop :=
  ∃ b st', o = some (b, st') ∧ ∀ H' μ', Ext μ H μ' H' → Stor c μ' st' H' → Q b H'
def ResA (c : Cz) (μ : List Addr) (H : Hp) (o : Option (List D × Sto)) (Q : List V → Hp → Prop) : Prop :=
  ∃ ds st', o = some (ds, st') ∧ ∀ vs H' μ', Ext μ H μ' H' → Stor c μ' st' H' → RepL c μ' H' ds vs → Q vs H'
def Hit (c : Cz) (μ : List Addr) (H : Hp) (E : Ends) : Out → Prop
  | .nx ρ' st' => ∀ σ' H' μ', Ext μ H μ' H' → Stor c μ' st' H' → RelE c μ' H' ρ' σ' → E.nx σ' H'
  | .rt d st' => ∀ v H' μ', Ext μ H μ' H' → Stor c μ' st' H' → Rep c μ' H' d v → E.rt v H'
  | .bk ρ' st' => ∀ σ' H' μ', Ext μ H μ' H' → Stor c μ' st' H' → RelE c μ' H' ρ' σ' → E.bk σ' H'
  | .ct ρ' st' => ∀ σ' H' μ', Ext μ H μ' H' → Stor c μ' st' H' → RelE c μ' H' ρ' σ' → E.ct σ' H'
def ResS (c : Cz) (μ : List Addr) (H : Hp) (o : Option Out) (E : Ends) : Prop := ∃ r, o = some r ∧ Hit c μ H E r
section
variable {c : Cz} {μ μ' : List Addr} {H H' : Hp} {st : Sto}
theorem Res.ext {o : Option (D × Sto)} {Q : VK} (e : Ext μ H μ' H') (h : Res c μ H o Q) : Res c μ' H' o Q :=
  let ⟨d, st', a, k⟩ := h; ⟨d, st', a, fun v H2 μ2 e2 s r => k v H2 μ2 (e.trans e2) s r⟩
theorem ResB.ext {o : Option (Bool × Sto)} {Q : Bool → Hp → Prop} (e : Ext μ H μ' H') (h : ResB c μ H o Q) : ResB c μ' H' o Q :=
  let ⟨d, st', a, k⟩ := h; ⟨d, st', a, fun H2 μ2 e2 s => k H2 μ2 (e.trans e2) s⟩
theorem ResA.ext {o : Option (List D × Sto)} {Q : List V → Hp → Prop} (e : Ext μ H μ' H') (h : ResA c μ H o Q) : ResA c μ' H' o Q :=
  let ⟨d, st', a, k⟩ := h; ⟨d, st', a, fun v H2 μ2 e2 s r => k v H2 μ2 (e.trans e2) s r⟩
theorem Hit.ext {E : Ends} (e : Ext μ H μ' H') : ∀ {r : Out}, Hit c μ H E r → Hit c μ' H' E r
  | .nx _ _, k => fun v H2 μ2 e2 s r => k v H2 μ2 (e.trans e2) s r
  | .rt _ _, k => fun v H2 μ2 e2 s r => k v H2 μ2 (e.trans e2) s r
  | .bk _ _, k => fun v H2 μ2 e2 s r => k v H2 μ2 (e.trans e2) s r
  | .ct _ _, k => fun v H2 μ2 e2 s r => k v H2 μ2 (e.trans e2) s r
theorem ResS.ext {o : Option Out} {E : Ends} (e : Ext μ H μ' H') (h : ResS c μ H o E) : ResS c μ' H' o E := let ⟨r, a, k⟩ := h; ⟨r, a, k.ext e⟩
/-- one reading behind another -/
theorem Res.bind {o : Option (D × Sto)} {g : D × Sto → Option (D × Sto)} {Q : VK} (h : Res c μ H (o.bind g) Q) : ∃ d st', o = some (d, st') ∧ Res c μ H (g (d, st')) Q := by
  obtain ⟨d, st', a, k⟩ := h
  obtain ⟨⟨d1, st1⟩, h1, h2⟩ := Option.bind_eq_some_iff.mp a
  exact ⟨d1, st1, h1, d, st', h2, k⟩
theorem bind_some {α β : Type} {o : Option α} {g : α → Option β} {b : β} (h : o.bind g = some b) : ∃ a, o = some a ∧ g a = some b := Option.bind_eq_some_iff.mp h
/-- the value is there already -/
theorem Res.same {d : D} {v : V} {Q : VK} (h : Res c μ H (some (d, st)) Q) (S : Stor c μ st H) (r : Rep c μ H d v) : Q v H := by
  obtain ⟨d', st', e, k⟩ := h
  cases e
  exact k v H μ Ext.refl S r
theorem Res.same' {o : Option (D × Sto)} {d : D} {v : V} {Q : VK} (h : Res c μ H o Q) (e : o = some (d, st)) (S : Stor c μ st H) (r : Rep c μ H d v) : Q v H := by
  subst e; exact h.same S r
theorem ResB.same {b : Bool} {Q : Bool → Hp → Prop} (h : ResB c μ H (some (b, st)) Q) (S : Stor c μ st H) : Q b H := by
  obtain ⟨d', st', e, k⟩ := h
  cases e
  exact k H μ Ext.refl S
theorem ResA.same {ds : List D} {vs : List V} {Q : List V → Hp → Prop} (h : ResA c μ H (some (ds, st)) Q) (S : Stor c μ st H) (r : RepL c μ H ds vs) : Q vs H := by
  obtain ⟨d', st', e, k⟩ := h
  cases e
  exact k vs H μ Ext.refl S r
/-- a new tuple -/
theorem Res.tup {ds : List D} {vs : List V} {Q : VK} (h : Res c μ H (some (.tup ds, st)) Q) (S : Stor c μ st H) (r : RepL c μ H ds vs) {p : Addr} (hp : H p = none) : Q (.ref p) (upd H p (.tup vs)) := by
  obtain ⟨d', st', e, k⟩ := h
  cases e
  exact k (.ref p) _ μ (Ext.new hp) (S.aside hp) ⟨p, vs, rfl, SqT.of upd_same, r.ext (Ext.new hp)⟩
/-- a new object of the store -/
theorem Res.push {mo : MO} {o : HO} {Q : VK} (h : Res c μ H (some (.loc st.length, st ++ [mo])) Q) (S : Stor c μ st H) {p : Addr} (hp : H p = none) (r : RepO c (μ ++ [p]) (upd H p o) mo p) : Q (.ref p) (upd H p o) := by
  obtain ⟨d', st', e, k⟩ := h
  cases e
  exact k (.ref p) _ (μ ++ [p]) (Ext.push hp) (S.push hp r) (Rep.pushed S)
theorem Res.pushL {ds : List D} {vs : List V} {Q : VK} (h : Res c μ H (some (.loc st.length, st ++ [.lst ds])) Q) (S : Stor c μ st H) {p : Addr} (hp : H p = none) (r : RepL c μ H ds vs) : Q (.ref p) (upd H p (.lst vs)) :=
  h.push S hp ⟨vs, upd_same, r.ext (Ext.push hp)⟩
/-- an object is written -/
theorem Res.write {d : D} {v : V} {n : Nat} {mo mo' : MO} {a : Addr} {o : HO} {Q : VK} (h : Res c μ H (some (d, st.set n mo')) Q) (S : Stor c μ st H) (h1 : st[n]? = some mo) (h2 : μ[n]? = some a) (h3 : RepO c μ (upd H a o) mo' a) (r : Rep c μ H d v) : Q v (upd H a o) := by
  obtain ⟨d', st', e, k⟩ := h
  cases e
  have E := Ext.write S h1 h2 (o := o)
  exact k v _ μ E (S.write h1 h2 h3) (r.ext E)
end

/-! ### lifting -/
def LE (c : Cz) (f : FE) : TE := fun σ H Q => ∃ ρ st μ, RelE c μ H ρ σ ∧ Stor c μ st H ∧ Res c μ H (f ρ st) Q
def LT (c : Cz) (f : FT) : TT := fun σ H Q => ∃ ρ st μ, RelE c μ H ρ σ ∧ Stor c μ st H ∧ ResB c μ H (f ρ st) Q
def LA (c : Cz) (f : FA) : TA := fun σ H Q => ∃ ρ st μ, RelE c μ H ρ σ ∧ Stor c μ st H ∧ ResA c μ H (f ρ st) Q
def LS (c : Cz) (f : FS) : TS := fun E σ H => ∃ ρ st μ, RelE c μ H ρ σ ∧ Stor c μ st H ∧ ResS c μ H (f ρ st) E
/-- an operation of two values, of one, of a list -/
def LR2 (c : Cz) (r : D → D → Sto → Option (D × Sto)) : R2 := fun x y H Q => ∃ μ st d e, Stor c μ st H ∧ Rep c μ H d x ∧ Rep c μ H e y ∧ Res c μ H (r d e st) Q
def LU (c : Cz) (r : D → Sto → Option (D × Sto)) : V → Hp → VK → Prop := fun x H Q => ∃ μ st d, Stor c μ st H ∧ Rep c μ H d x ∧ Res c μ H (r d st) Q
def LC (c : Cz) (r : DF) : List V → Hp → VK → Prop := fun xs H Q => ∃ μ st ds, Stor c μ st H ∧ RepL c μ H ds xs ∧ Res c μ H (r ds st) Q
def LM (c : Cz) (r : D → DF) : V → List V → Hp → VK → Prop := fun x xs H Q => ∃ μ st d ds, Stor c μ st H ∧ Rep c μ H d x ∧ RepL c μ H ds xs ∧ Res c μ H (r d ds st) Q
def LTr (c : Cz) (r : D → Sto → Option (Bool × Sto)) : V → Hp → (Bool → Hp → Prop) → Prop := fun x H Q => ∃ μ st d, Stor c μ st H ∧ Rep c μ H d x ∧ ResB c μ H (r d st) Q

abbrev QE (c : Cz) (X : Cx) (e : Expr) (f : FE) : Prop := PE X e (LE c f)
abbrev QT (c : Cz) (X : Cx) (e : Expr) (f : FT) : Prop := PT X e (LT c f)
abbrev QW (c : Cz) (X : Cx) (e : Expr) (f : FT) : Prop := PW X e (LT c f)
abbrev QA (c : Cz) (X : Cx) (e : List Expr) (f : FA) : Prop := PA X e (LA c f)
abbrev QS (c : Cz) (X : Cx) (e : Stmt) (f : FS) : Prop := PS X e (LS c f)
abbrev QSs (c : Cz) (X : Cx) (e : List Stmt) (f : FS) : Prop := PSs X e (LS c f)

/-- another reading under the old one -/
theorem PE.of {X : Cx} {e : Expr} {t t' : TE} (h : PE X e t) (i : ∀ σ H Q, t' σ H Q → t σ H Q) : PE X e t' := ⟨fun pins s σ H Q I q => h.run pins s σ H Q I (i σ H Q q)⟩
theorem PT.of {X : Cx} {e : Expr} {t t' : TT} (h : PT X e t) (i : ∀ σ H Q, t' σ H Q → t σ H Q) : PT X e t' := ⟨fun pins s σ H Q I q => h.run pins s σ H Q I (i σ H Q q)⟩
theorem PW.of {X : Cx} {e : Expr} {t t' : TT} (h : PW X e t) (i : ∀ σ H Q, t' σ H Q → t σ H Q) : PW X e t' := ⟨fun wh pins s σ H Q I q => h.run wh pins s σ H Q I (i σ H Q q)⟩
theorem PA.of {X : Cx} {e : List Expr} {t t' : TA} (h : PA X e t) (i : ∀ σ H Q, t' σ H Q → t σ H Q) : PA X e t' := ⟨fun p pins s σ H Q I q => h.run p pins s σ H Q I (i σ H Q q)⟩
theorem PS.of {X : Cx} {e : Stmt} {t t' : TS} (h : PS X e t) (i : ∀ D σ H, t' D σ H → t D σ H) : PS X e t' := ⟨fun pins s σ H D I q => h.run pins s σ H D I (i D σ H q)⟩
theorem PSs.of {X : Cx} {e : List Stmt} {t t' : TS} (h : PSs X e t) (i : ∀ D σ H, t' D σ H → t D σ H) : PSs X e t' := ⟨fun pins s σ H D I q => h.run pins s σ H D I (i D σ H q)⟩
theorem OpR.of {X : Cx} {f : Value → Value → Sem Value} {r r' : R2} (h : OpR X f r) (i : ∀ x y H Q, r' x y H Q → r x y H Q) : OpR X f r' := fun pins s σ H x y v u Q I a b q => h pins s σ H x y v u Q I a b (i _ _ _ _ q)
theorem CallR.of {X : Cx} {f : Value} {r r' : List V → Hp → VK → Prop} (h : CallR X f r) (i : ∀ x H Q, r' x H Q → r x H Q) : CallR X f r' := fun pins s σ H x v Q I a q => h pins s σ H x v Q I a (i _ _ _ q)
theorem MtR.of {X : Cx} {id : String} {r r' : V → List V → Hp → VK → Prop} (h : MtR X id r) (i : ∀ x y H Q, r' x y H Q → r x y H Q) : MtR X id r' := fun pins s σ H x xs v us Q I a b q => h pins s σ H x xs v us Q I a b (i _ _ _ _ q)
theorem IxR.of {X : Cx} {r r' : R2} (h : IxR X r) (i : ∀ x y H Q, r' x y H Q → r x y H Q) : IxR X r' := fun vl sl pins s σ H x y v u Q I a b q hs => h vl sl pins s σ H x y v u Q I a b (i _ _ _ _ q) hs

/-- what a body's context is asked -/
structure Cok (c : Cz) (X : Cx) : Prop where
  K : X.K = c.K
  P : X.prog = c.P
  w : X.w = c.w
  calm : X.calm = true
  un : X.A.units + 66 < cLine
  pass : PassesOwn (model X.prog X.w) X.A X.env X.xe
theorem Cok.u0 {c : Cz} {X : Cx} (h : Cok c X) : X.A.units < cLine := by have := h.un; omega
theorem Cok.u1 {c : Cz} {X : Cx} (h : Cok c X) : X.A.units + 1 < cLine := by have := h.un; omega
end Lw
end
section
set_option Elab.async false
set_option linter.all false
set_option autoImplicit false
set_option maxRecDepth 100000
/-! Dop: the operations of values. -/
namespace Lw
open PySem PySem.Spec PyProof.Rows L2

/-- how long a sequence may grow here -/
abbrev top5 : Nat := 100000
theorem top_le {n : Nat} (h : n ≤ 100000) : n ≤ sizeLine := Nat.le_trans h (by decide)
theorem top_lt {n : Nat} (h : n < 100000) : n < sizeLine := Nat.lt_of_lt_of_le h (by decide)

/-! ### representation facts by shape -/
section
variable {c : Cz} {μ : List Addr} {H : Hp} {st : Sto} {v : V}
theorem rep_non (h : Rep c μ H .non v) : v = .non := h
theorem rep_bl {b : Bool} (h : Rep c μ H (.bl b) v) : v = .bl b := h
theorem rep_int {i : Int} (h : Rep c μ H (.int i) v) : v = .int i := h
theorem rep_str {s : Str} (h : Rep c μ H (.str s) v) : v = .str s := h
theorem rep_tup {ds : List D} (h : Rep c μ H (.tup ds) v) : ∃ a vs, v = .ref a ∧ SqT c.K H a vs ∧ RepL c μ H ds vs := h
theorem Stor.lst (S : Stor c μ st H) {n : Nat} {xs : List D} (h : st[n]? = some (.lst xs)) (r : Rep c μ H (.loc n) v) : ∃ a vs, v = .ref a ∧ μ[n]? = some a ∧ H a = some (.lst vs) ∧ RepL c μ H xs vs := by
  obtain ⟨a, e, h1, vs, h2, h3⟩ := S.ref h r
  exact ⟨a, vs, e, h1, h2, h3⟩
theorem Stor.dA (S : Stor c μ st H) {n : Nat} {kvs : List (Key × D)} (h : st[n]? = some (.dA kvs)) (r : Rep c μ H (.loc n) v) : ∃ a ws, v = .ref a ∧ μ[n]? = some a ∧ H a = some (.dK ws) ∧ ws.map (·.1) = kvs.map (·.1) ∧ RepL c μ H (kvs.map (·.2)) (ws.map (·.2)) := by
  obtain ⟨a, e, h1, ws, h2, h3⟩ := S.ref h r
  exact ⟨a, ws, e, h1, h2, h3⟩
theorem Stor.ins (S : Stor c μ st H) {n : Nat} {cn : Str} {fs : List (Str × D)} (h : st[n]? = some (.ins cn fs)) (r : Rep c μ H (.loc n) v) : ∃ a dx gs, v = .ref a ∧ μ[n]? = some a ∧ H a = some (.ins (c.cl cn) dx gs) ∧ gs.map (·.1) = fs.map (·.1) ∧ RepL c μ H (fs.map (·.2)) (gs.map (·.2)) := by
  obtain ⟨a, e, h1, dx, gs, h2, h3⟩ := S.ref h r
  exact ⟨a, dx, gs, e, h1, h2, h3⟩
end

/-! ### + - * % // ** -/
def addD : D → D → Sto → Option (D × Sto)
  | .int i, .int j, st => some (.int (i + j), st)
  | .str a, .str b, st => if a.length + b.length ≤ 100000 then some (.str (a ++ b), st) else none
  | .tup a, .tup b, st => if a.length + b.length ≤ 100000 then some (.tup (a ++ b), st) else none
  | .loc m, .loc n, st => match st[m]?, st[n]? with
    | some (.lst a), some (.lst b) => if a.length + b.length ≤ 100000 then some (.loc st.length, st ++ [.lst (a ++ b)]) else none
    | _, _ => none
  | _, _, _ => none
def subD : D → D → Sto → Option (D × Sto)
  | .int i, .int j, st => some (.int (i - j), st)
  | _, _, _ => none
def mulD : D → D → Sto → Option (D × Sto)
  | .int i, .int j, st => if (-(2 ^ 64) < i ∧ i < 2 ^ 64) ∨ (-(2 ^ 64) < j ∧ j < 2 ^ 64) then some (.int (i * j), st) else none
  | _, _, _ => none
def modD : D → D → Sto → Option (D × Sto)
  | .int i, .int j, st => if 0 < j then some (.int (i % j), st) else none
  | _, _, _ => none
def fdivD : D → D → Sto → Option (D × Sto)
  | .int i, .int j, st => if 0 < j ∧ j < 1073741824 then some (.int (i / j), st) else none
  | _, _, _ => none
def powD : D → D → Sto → Option (D × Sto)
  | .int i, .int j, st => if 0 ≤ j ∧ j ≤ 1000000 ∧ i.natAbs < 2 ^ 64 then some (.int (i ^ j.toNat), st) else none
  | _, _, _ => none
section
variable {c : Cz} {X : Cx}
/-- of whole numbers alone -/
theorem o_int {f : Value → Value → Sem Value} {r : D → D → Sto → Option (D × Sto)} {C : Int → Int → Prop} {g : Int → Int → Int} (h : OpR X f (rI C fun i j => .int (g i j)))
    (hr : ∀ d e st z, r d e st = some z → ∃ i j, d = .int i ∧ e = .int j ∧ C i j ∧ z = (.int (g i j), st)) : OpR X f (LR2 c r) := by
  refine OpR.of h fun x y H Q q => ?_
  obtain ⟨μ, st, d, e, S, rx, ry, q⟩ := q
  obtain ⟨d', st', e1, k⟩ := q
  obtain ⟨i, j, rfl, rfl, hC, ez⟩ := hr _ _ _ _ e1
  cases ez
  exact ⟨i, j, rx, ry, hC, k _ _ _ Ext.refl S rfl⟩
theorem rI_of {g : Int → Int → V} {f : Value → Value → Sem Value} (h : OpR X f (rI0 g)) : OpR X f (rI (fun _ _ => True) g) := OpR.of h fun x y H Q ⟨i, j, a, b, _, q⟩ => ⟨i, j, a, b, q⟩
theorem o_sub : OpR X (binaryOp .Sub) (LR2 c subD) := o_int (rI_of op_sub) fun d e st z h => by
  unfold subD at h; split at h
  · cases h; exact ⟨_, _, rfl, rfl, trivial, rfl⟩
  · cases h
theorem o_mul : OpR X (binaryOp .Mult) (LR2 c mulD) := o_int op_mul fun d e st z h => by
  unfold mulD at h; split at h
  · split at h
    · cases h; exact ⟨_, _, rfl, rfl, by assumption, rfl⟩
    · cases h
  · cases h
theorem o_mod : OpR X (binaryOp .Mod) (LR2 c modD) := o_int op_mod fun d e st z h => by
  unfold modD at h; split at h
  · split at h
    · cases h; exact ⟨_, _, rfl, rfl, by assumption, rfl⟩
    · cases h
  · cases h
theorem o_fdiv : OpR X (binaryOp .FloorDiv) (LR2 c fdivD) := o_int op_fdiv fun d e st z h => by
  unfold fdivD at h; split at h
  · split at h
    · cases h; exact ⟨_, _, rfl, rfl, by assumption, rfl⟩
    · cases h
  · cases h
theorem o_pow : OpR X (binaryOp .Pow) (LR2 c powD) := o_int op_pow fun d e st z h => by
  unfold powD at h; split at h
  · split at h
    · cases h; exact ⟨_, _, rfl, rfl, by assumption, rfl⟩
    · cases h
  · cases h
theorem RepL.nil_iff {μ : List Addr} {H : Hp} {ds : List D} {vs : List V} (h : RepL c μ H ds vs) : vs = [] ↔ ds = [] := by
  have := h.len
  constructor
  · rintro rfl; exact List.eq_nil_of_length_eq_zero (by simpa using this.symm)
  · rintro rfl; exact h
theorem o_add (hx : Cok c X) : OpR X (binaryOp .Add) (LR2 c addD) := by
  have hK := hx.K
  refine OpR.of ((op_add.or op_add_str).or (op_catA.or op_cat)) fun x y H Q q => ?_
  obtain ⟨μ, st, d, e, S, rx, ry, q⟩ := q
  obtain ⟨d', st', e1, k⟩ := id q
  unfold addD at e1
  split at e1
  · cases e1
    exact .inl (.inl ⟨_, _, rx, ry, k _ _ _ Ext.refl S rfl⟩)
  · split at e1
    · cases e1
      exact .inl (.inr ⟨_, _, rx, ry, top_le (by assumption), k _ _ _ Ext.refl S rfl⟩)
    · cases e1
  · split at e1
    · rename_i a b _ hl
      cases e1
      obtain ⟨p, vs, rfl, h1, h2⟩ := rx
      obtain ⟨p', vs', rfl, h3, h4⟩ := ry
      refine .inr (.inl ⟨p, p', vs, vs', rfl, rfl, by rw [hK]; exact h1, by rw [hK]; exact h3, by rw [h2.len, h4.len]; exact top_le hl, fun z => ?_, fun z z' => ?_, fun z z' t ht => ?_⟩)
      · refine k _ _ _ Ext.refl S ⟨p', vs', rfl, h3, ?_⟩
        rw [h2.nil_iff.mp z]; exact h4
      · refine k _ _ _ Ext.refl S ⟨p, vs, rfl, h1, ?_⟩
        rw [h4.nil_iff.mp z', List.append_nil]; exact h2
      · exact k _ _ μ (Ext.new ht) (S.aside ht) ⟨t, vs ++ vs', rfl, SqT.of upd_same, (h2.append h4).ext (Ext.new ht)⟩
    · cases e1
  · split at e1
    · split at e1
      · rename_i a b hm hn hl
        cases e1
        obtain ⟨p, vs, rfl, a1, h1, h2⟩ := S.lst hm rx
        obtain ⟨p', vs', rfl, a2, h3, h4⟩ := S.lst hn ry
        refine .inr (.inr ⟨p, p', vs, vs', rfl, rfl, h1, h3, by rw [h2.len, h4.len]; exact top_le hl, fun t ht => ?_⟩)
        exact Res.pushL ⟨_, _, rfl, k⟩ S ht (h2.append h4)
      · cases e1
    · cases e1
  · cases e1
end

/-! ### values as data -/
mutual
def pyD : D → PyData
  | .non => .none
  | .bl b => .bool b
  | .int i => .int i
  | .str s => .str s
  | .tup xs => .tuple (pyDs xs)
  | .ty _ | .loc _ | .rol _ | .bm _ _ => .dict []
def pyDs : List D → List PyData
  | [] => []
  | d :: ds => pyD d :: pyDs ds
end
theorem pyDs_map : ∀ ds : List D, pyDs ds = ds.map pyD
  | [] => rfl
  | d :: ds => by rw [pyDs, pyDs_map ds]; rfl
section
variable {c : Cz} {μ : List Addr} {H : Hp}
mutual
theorem dp_of : ∀ (d : D) (v : V), (pyD d).canLay0 = true → Rep c μ H d v → Dp c.K H v (pyD d)
  | .non, _, _, h => by cases h; exact .non
  | .bl b, _, _, h => by cases h; exact .bl b
  | .int i, _, _, h => by cases h; exact .int i
  | .str s, _, _, h => by cases h; exact .str s
  | .tup xs, v, p, h => by
    obtain ⟨a, vs, rfl, h1, h2⟩ := h
    rw [pyD, PyData.canLay0] at p
    rw [pyD]
    exact .tup h1 (dps_of xs vs p h2)
  | .ty _, _, p, _ | .loc _, _, p, _ | .rol _, _, p, _ | .bm _ _, _, p, _ => by rw [pyD, PyData.canLay0] at p; cases p
theorem dps_of : ∀ (ds : List D) (vs : List V), PyData.canLayAll0 (pyDs ds) = true → RepL c μ H ds vs → DpAll c.K H vs (pyDs ds)
  | [], _, _, h => by cases h; exact .nil
  | d :: ds, _, p, h => by
    obtain ⟨v, r, rfl, h1, h2⟩ := h
    rw [pyDs, PyData.canLayAll0, Bool.and_eq_true] at p
    rw [pyDs]
    exact .cons (dp_of d v p.1 h1) (dps_of ds r p.2 h2)
end
theorem shaped_canLay {d : PyData} (h : SeqAt.shaped d = true) : d.canLay0 = true := SeqAt.canLay_of_shaped h
end

/-! ### keys -/
mutual
def keyD : D → Option NestedKey
  | .non => some .none
  | .bl b => some (.num (if b = true then 1 else 0))
  | .int i => some (.num i)
  | .str s => some (.text s)
  | .tup xs => (keysD xs).map .tup
  | .ty _ | .loc _ | .rol _ | .bm _ _ => none
def keysD : List D → Option (List NestedKey)
  | [] => some []
  | d :: ds => (keyD d).bind fun k => (keysD ds).map fun ks => k :: ks
end
section
variable {c : Cz} {μ : List Addr} {H : Hp}
mutual
theorem vkey_of : ∀ (d : D) (k : NestedKey) (v : V), keyD d = some k → Rep c μ H d v → VKey c.K H k v
  | .non, _, _, e, h => by rw [keyD] at e; cases e; exact h
  | .bl b, _, _, e, h => by rw [keyD] at e; cases e; exact .inr ⟨b, h, rfl⟩
  | .int i, _, _, e, h => by rw [keyD] at e; cases e; exact .inl h
  | .str s, _, _, e, h => by rw [keyD] at e; cases e; exact h
  | .tup xs, k, v, e, h => by
    rw [keyD] at e
    obtain ⟨ks, e1, rfl⟩ := Option.map_eq_some_iff.mp e
    obtain ⟨a, vs, rfl, h1, h2⟩ := h
    exact ⟨a, vs, rfl, h1, vkeys_of xs ks vs e1 h2⟩
  | .ty _, _, _, e, _ | .loc _, _, _, e, _ | .rol _, _, _, e, _ | .bm _ _, _, _, e, _ => by rw [keyD] at e; cases e
theorem vkeys_of : ∀ (ds : List D) (ks : List NestedKey) (vs : List V), keysD ds = some ks → RepL c μ H ds vs → VKeys c.K H ks vs
  | [], _, _, e, h => by rw [keysD] at e; cases e; exact h
  | d :: ds, _, _, e, h => by
    rw [keysD] at e
    obtain ⟨k, e1, e2⟩ := bind_some e
    obtain ⟨ks, e3, rfl⟩ := Option.map_eq_some_iff.mp e2
    obtain ⟨v, r, rfl, h1, h2⟩ := h
    exact ⟨v, r, rfl, vkey_of d k v e1 h1, vkeys_of ds ks r e3 h2⟩
end
end
end Lw
end
section
set_option Elab.async false
set_option linter.all false
set_option autoImplicit false
set_option maxRecDepth 100000
/-! Ddict: dicts with tuple keys. -/
namespace Lw
open PySem PySem.Spec PyProof.Rows L2

/-! ### lists of entries -/
section
variable {α : Type}
def gT (kvs : List (NestedKey × α)) (k : NestedKey) : Option α := (kvs.find? fun kv => decide (kv.1 = k)).map (·.2)
def pT (kvs : List (NestedKey × α)) (k : NestedKey) (v : α) : List (NestedKey × α) := if (gT kvs k).isSome then kvs.map (fun kv => if kv.1 = k then (kv.1, v) else kv) else kvs ++ [(k, v)]
theorem gT_nil (k : NestedKey) : gT ([] : List (NestedKey × α)) k = none := rfl
theorem gT_cons (p : NestedKey × α) (r : List (NestedKey × α)) (k : NestedKey) : gT (p :: r) k = if p.1 = k then some p.2 else gT r k := by
  unfold gT
  rw [List.find?_cons]
  by_cases h : p.1 = k
  · rw [decide_eq_true h, if_pos h]; rfl
  · rw [decide_eq_false h, if_neg h]
end

section
variable {P : Program} {w : World} {H : Hp} {h : Heap} {K : PySem.W.Frag}
mutual
theorem nested_of (hok : HOk P w H h) (KX : K.In h) : ∀ (k : NestedKey) (v : V) (u : Value), VKey K H k v → RelV v u → NestedIs h k u
  | .none, _, u, a, r => by cases a; cases (show u = Value.none from r); exact .none
  | .num i, _, u, a, r => by
    rcases a with rfl | ⟨b, rfl, e⟩
    · obtain ⟨t, rfl⟩ := r; exact .int _ _
    · cases (show u = Value.bool b from r); exact .bool e
  | .text x, _, u, a, r => by cases a; obtain ⟨t, rfl⟩ := r; exact .text _ _
  | .tup ks, _, u, a, r => by
    obtain ⟨p, vs, rfl, h1, h2⟩ := a
    cases (show u = Value.ref p from r)
    obtain ⟨its, o, n, rv, e1, e2, e3⟩ := L2.sqT_at hok KX h1
    exact .tup e1 e2 e3 (nesteds_of hok KX ks vs its h2 rv)
theorem nesteds_of (hok : HOk P w H h) (KX : K.In h) : ∀ (ks : List NestedKey) (vs : List V) (us : List Value), VKeys K H ks vs → Vals vs us → NestedAll h ks us
  | [], _, us, a, r => by cases a; cases r; exact .nil
  | k :: ks, _, us, a, r => by
    obtain ⟨v, vs, rfl, a1, a2⟩ := a
    cases r with
    | cons r1 r2 => exact .cons (nested_of hok KX k v _ a1 r1) (nesteds_of hok KX ks vs _ a2 r2)
end
end

abbrev WsT := List (NestedKey × Addr × V)
abbrev XsT := List (NestedKey × Addr × Value)
abbrev PaT : WsT → XsT → Prop := Paired fun p q => p.1 = q.1 ∧ p.2.1 = q.2.1 ∧ RelV p.2.2 q.2.2
def gW (ws : WsT) (k : NestedKey) : Option V := (ws.find? fun x => decide (x.1 = k)).map fun x => x.2.2
def pW (ws : WsT) (k : NestedKey) (b : Addr) (v : V) : WsT := if (gW ws k).isSome then ws.map (fun x => if x.1 = k then (x.1, x.2.1, v) else x) else ws ++ [(k, b, v)]
theorem PaT.get : ∀ {ws : WsT} {xs : XsT} (r : PaT ws xs) (k : NestedKey), RelO (gW ws k) ((atKey xs k).map (·.2))
  | [], _, .nil, k => trivial
  | p :: ws, q :: xs, .cons h t, k => by
    have ih := PaT.get t k
    unfold gW atKey at ih ⊢
    rw [List.find?_cons, List.find?_cons, ← h.1]
    by_cases e : p.1 = k
    · rw [decide_eq_true e]
      exact h.2.2
    · rw [decide_eq_false e]
      exact ih
theorem PaT.some_iff {ws : WsT} {xs : XsT} (r : PaT ws xs) (k : NestedKey) : (gW ws k).isSome = (atKey xs k).isSome := by
  have h := r.get k
  cases e1 : gW ws k <;> cases e2 : atKey xs k <;> rw [e1, e2] at h <;> first | rfl | exact h.elim
theorem PaT.app : ∀ {ws : WsT} {xs : XsT} {ws' : WsT} {xs' : XsT}, PaT ws xs → PaT ws' xs' → PaT (ws ++ ws') (xs ++ xs')
  | [], _, _, _, .nil, t => t
  | _ :: _, _ :: _, _, _, .cons h r, t => .cons h (PaT.app r t)
theorem PaT.len : ∀ {ws : WsT} {xs : XsT}, PaT ws xs → ws.length = xs.length
  | [], _, .nil => rfl
  | _ :: _, _ :: _, .cons _ r => congrArg (· + 1) (PaT.len r)
theorem PaT.over (k : NestedKey) {v : V} {u : Value} (rv : RelV v u) : ∀ {ws : WsT} {xs : XsT}, PaT ws xs → PaT (ws.map fun x => if x.1 = k then (x.1, x.2.1, v) else x) (xs.map (putAt k u))
  | [], _, .nil => .nil
  | p :: ws, q :: xs, .cons h t => by
    rw [List.map_cons, List.map_cons]
    refine .cons ?_ (PaT.over k rv t)
    obtain ⟨h1, h2, h3⟩ := h
    by_cases e : p.1 = k
    · have e' : q.1 = k := h1 ▸ e
      unfold putAt
      rw [if_pos e, if_pos e']
      exact ⟨h1, h2, rv⟩
    · have e' : ¬ q.1 = k := h1 ▸ e
      unfold putAt
      rw [if_neg e, if_neg e']
      exact ⟨h1, h2, h3⟩
theorem PaT.put {ws : WsT} {xs : XsT} (r : PaT ws xs) (k : NestedKey) {b : Addr} {v : V} {u : Value} (rv : RelV v u) : PaT (pW ws k b v) (storedH xs k b u) := by
  unfold pW storedH
  rw [r.some_iff]
  split
  · exact r.over k rv
  · exact r.app (.cons ⟨rfl, rfl, rv⟩ .nil)

/-- a tuple as a key -/
def keyT (d : D) : Option NestedKey := match d with
  | .tup xs => (keyD (.tup xs)).bind fun k => if k.depth ≤ 8 then some k else none
  | _ => none
theorem keyT_is {c : Cz} {μ : List Addr} {H : Hp} {d : D} {k : NestedKey} {v : V} (h : keyT d = some k) (r : Rep c μ H d v) : ∃ a, v = .ref a ∧ VKey c.K H k (.ref a) ∧ k.depth ≤ 8 := by
  unfold keyT at h
  split at h
  · obtain ⟨k', e, h⟩ := bind_some h
    split at h
    · cases h
      have q := vkey_of _ _ _ e r
      obtain ⟨a, vs, rfl, _⟩ := r
      exact ⟨a, rfl, q, by assumption⟩
    · cases h
  · cases h
/-- what stands in the store for such a dict -/
structure DTAt (c : Cz) (μ : List Addr) (H : Hp) (kvs : List (NestedKey × D)) (a : Addr) (ws : WsT) : Prop where
  ob : H a = some (DTO c.P c.w a ws)
  ks : ws.map (·.1) = kvs.map (·.1)
  kd : ∀ x ∈ ws, VKey c.K H x.1 (.ref x.2.1) ∧ x.1.depth ≤ 8
  vs : RepL c μ H (kvs.map (·.2)) (ws.map (·.2.2))
theorem Stor.dT {c : Cz} {μ : List Addr} {H : Hp} {st : Sto} {v : V} (S : Stor c μ st H) {n : Nat} {kvs : List (NestedKey × D)} (h : st[n]? = some (.dT kvs)) (r : Rep c μ H (.loc n) v) : ∃ a ws, v = .ref a ∧ μ[n]? = some a ∧ DTAt c μ H kvs a ws := by
  obtain ⟨a, e, h1, ws, h2, h3, h4, h5⟩ := S.ref h r
  exact ⟨a, ws, e, h1, h2, h3, h4, h5⟩
theorem gW_of {c : Cz} {μ : List Addr} {H : Hp} (k : NestedKey) : ∀ {ws : WsT} {kvs : List (NestedKey × D)}, ws.map (·.1) = kvs.map (·.1) → RepL c μ H (kvs.map (·.2)) (ws.map (·.2.2)) →
    (gT kvs k = none ∧ gW ws k = none) ∨ ∃ d v, gT kvs k = some d ∧ gW ws k = some v ∧ Rep c μ H d v
  | [], [], _, _ => .inl ⟨rfl, rfl⟩
  | [], _ :: _, e, _ => by simp at e
  | _ :: _, [], e, _ => by simp at e
  | p :: ws, q :: kvs, e, r => by
    rw [List.map_cons, List.map_cons] at e r
    injection e with e1 e2
    obtain ⟨v, r', er, r1, r2⟩ := r
    injection er with er1 er2
    subst er1 er2
    rw [gT_cons]
    unfold gW
    rw [List.find?_cons]
    by_cases h : p.1 = k
    · rw [decide_eq_true h, if_pos (e1 ▸ h)]
      exact .inr ⟨_, _, rfl, rfl, r1⟩
    · rw [decide_eq_false h, if_neg (e1 ▸ h)]
      exact gW_of k e2 r2
section
variable {c : Cz} {X : Cx} {pins : List (Addr × Obj)} {σ : L2.St} {μ : List Addr} {H : Hp} {s : Shared} {kvs : List (NestedKey × D)} {a : Addr} {ws : WsT}
theorem DTAt.heap (hx : Cok c X) (I : Inv X pins σ H s) (h : DTAt c μ H kvs a ws) : ∃ xs, PaT ws xs ∧ s.heap.DictOfH (nestedKind X.prog X.w) a xs ∧ (a == sysModules) = false ∧ xs.length ≤ sizeLine := by
  obtain ⟨h1, _, h3, _⟩ := h
  rw [← hx.P, ← hx.w] at h1
  rw [← hx.K] at h3
  obtain ⟨⟨xs, r, o, es, ep, e1, e2, e3, e4, e5, e6, e7⟩, _⟩ := I.hok a _ h1
  refine ⟨xs, r, ⟨o, es, ep, e1, e2, e3, e4, fun x hx' => ?_, e5⟩, e6, e7⟩
  have key : ∀ {ws : WsT} {xs : XsT}, PaT ws xs → (∀ x ∈ ws, VKey X.K H x.1 (.ref x.2.1) ∧ x.1.depth ≤ 8) → ∀ x ∈ xs, VKey X.K H x.1 (.ref x.2.1) ∧ x.1.depth ≤ 8 := by
    intro ws xs r
    induction r with
    | nil => intro _ x hx; cases hx
    | @cons p q ws xs h t ih =>
      intro hk x hx
      rcases List.mem_cons.mp hx with e | hx
      · subst e
        have z := hk p List.mem_cons_self
        rw [h.1, h.2.1] at z
        exact z
      · exact ih (fun y hy => hk y (List.mem_cons_of_mem _ hy)) x hx
  have z := key r h3 x hx'
  exact ⟨nested_of I.hok I.kIn _ _ _ z.1 rfl, z.2⟩
theorem key_heap (hx : Cok c X) (I : Inv X pins σ H s) {k : NestedKey} {b : Addr} (h : VKey c.K H k (.ref b)) (hd : k.depth ≤ 8) : (nestedKind X.prog X.w).is s.heap k b := by
  rw [← hx.K] at h
  exact ⟨nested_of I.hok I.kIn _ _ _ h rfl, hd⟩
theorem Cok.room {A : Around} (h : A.units + 66 < cLine) : (nestedKind X.prog X.w).room A.in1 := by
  show A.in1.units + 8 < cLine
  rw [Around.in1_units]
  omega
/-- is the key there -/
theorem t_in (hx : Cok c X) (I : Inv X pins σ H s) (h : DTAt c μ H kvs a ws) {k : NestedKey} {b : Addr} (hk : VKey c.K H k (.ref b)) (hd : k.depth ≤ 8) {Q : Value → Shared → Prop} {E : Value → Shared → Prop}
    (q : ∀ s', Inv X pins σ H s' → Q (.bool (gT kvs k).isSome) s') : wpAny (model X.prog X.w) X.A (compareOp .In (.ref b) (.ref a)) Q E s := by
  obtain ⟨xs, r, hm, hs, hl⟩ := h.heap hx I
  refine wpAny_in_heap (Cok.room hx.un) (key_heap hx I hk hd) hs hm ?_
  have e : (gT kvs k).isSome = (atKey xs k).isSome := by
    rw [← r.some_iff]
    rcases gW_of k h.ks h.vs with ⟨e1, e2⟩ | ⟨d, v, e1, e2, _⟩ <;> rw [e1, e2] <;> rfl
  rw [← e]
  exact q _ (I.tok _)
theorem t_notIn (hx : Cok c X) (I : Inv X pins σ H s) (h : DTAt c μ H kvs a ws) {k : NestedKey} {b : Addr} (hk : VKey c.K H k (.ref b)) (hd : k.depth ≤ 8) {Q : Value → Shared → Prop} {E : Value → Shared → Prop}
    (q : ∀ s', Inv X pins σ H s' → Q (.bool (!(gT kvs k).isSome)) s') : wpAny (model X.prog X.w) X.A (compareOp .NotIn (.ref b) (.ref a)) Q E s := by
  obtain ⟨xs, r, hm, hs, hl⟩ := h.heap hx I
  show wpAny _ _ (do return .bool (!(← contains (.ref a) (.ref b)))) Q E s
  refine wpAny_bind (wpAny_contains_heap (Cok.room hx.un) (key_heap hx I hk hd) hs hm (wpAny_pure ?_))
  have e : (gT kvs k).isSome = (atKey xs k).isSome := by
    rw [← r.some_iff]
    rcases gW_of k h.ks h.vs with ⟨e1, e2⟩ | ⟨d, v, e1, e2, _⟩ <;> rw [e1, e2] <;> rfl
  rw [← e]
  exact q _ (I.tok _)
theorem t_get (hx : Cok c X) (I : Inv X pins σ H s) (h : DTAt c μ H kvs a ws) {k : NestedKey} {b : Addr} (hk : VKey c.K H k (.ref b)) (hd : k.depth ≤ 8) {d : D} (hg : gT kvs k = some d) {Q : Value → Shared → Prop} {E : Value → Shared → Prop}
    (q : ∀ v u s', Inv X pins σ H s' → Rep c μ H d v → RelV v u → Q u s') : wpAny (model X.prog X.w) X.A (getItem (.ref a) (.ref b)) Q E s := by
  obtain ⟨xs, r, hm, hs, hl⟩ := h.heap hx I
  rcases gW_of k h.ks h.vs with ⟨e1, e2⟩ | ⟨d', v, e1, e2, rv⟩
  · rw [hg] at e1; cases e1
  · rw [hg] at e1; cases e1
    have g := r.get k
    rw [e2] at g
    cases e3 : atKey xs k with
    | none => rw [e3] at g; exact g.elim
    | some p =>
      rw [e3] at g
      exact wpAny_getItem_heap (Cok.room hx.un) (key_heap hx I hk hd) hm e3 (q v _ _ (I.tok _) rv g)
theorem t_getOr (hx : Cok c X) (I : Inv X pins σ H s) (h : DTAt c μ H kvs a ws) {k : NestedKey} {b : Addr} (hk : VKey c.K H k (.ref b)) (hd : k.depth ≤ 8) {z : D} {y : V} {x : Value} (hz : Rep c μ H z y) (ry : RelV y x) {Q : Value → Shared → Prop} {E : Value → Shared → Prop}
    (q : ∀ v u s', Inv X pins σ H s' → Rep c μ H ((gT kvs k).getD z) v → RelV v u → Q u s') : wpAny (model X.prog X.w) X.A (call (.builtin "dict.get") [.ref a, .ref b, x]) Q E s := by
  obtain ⟨xs, r, hm, hs, hl⟩ := h.heap hx I
  refine call_meetsIn F.slot_dict_get hm.typeIs F.entry_dict_get (F.args_dict_get_3 _ _ _) (meetsH_dict_get_default (nestedKind X.prog X.w) a b hs x) ⟨Cok.room hx.un, k, xs, key_heap hx I hk hd, hm, ?_⟩
  have g := r.get k
  rcases gW_of k h.ks h.vs with ⟨e1, e2⟩ | ⟨d', v, e1, e2, rv⟩
  · rw [e2] at g
    cases e3 : atKey xs k with
    | some p => rw [e3] at g; exact g.elim
    | none => exact q y _ _ (I.tok _) (by rw [e1]; exact hz) ry
  · rw [e2] at g
    cases e3 : atKey xs k with
    | none => rw [e3] at g; exact g.elim
    | some p => rw [e3] at g; exact q v _ _ (I.tok _) (by rw [e1]; exact rv) g

theorem dto_ok {P : Program} {w : World} {H : Hp} {h : Heap} {xs : XsT} (r : PaT ws xs) (hm : h.DictOfH (nestedKind P w) a xs) (hs : (a == sysModules) = false) (hl : xs.length ≤ sizeLine) : ObjOk P w H h a (DTO P w a ws) := by
  obtain ⟨o, es, ep, e1, e2, e3, e4, _, e5⟩ := hm
  refine ⟨⟨xs, r, o, es, ep, e1, e2, e3, e4, e5, hs, hl⟩, ⟨o, e1⟩, fun h1 h2 q k => ?_⟩
  obtain ⟨xs, r, o, es, ep, e1, z⟩ := q
  exact ⟨xs, r, o, es, ep, k _ e1, z⟩
theorem storedH_len (xs : XsT) (k : NestedKey) (b : Addr) (u : Value) : (storedH xs k b u).length ≤ xs.length + 1 := by
  unfold storedH
  split
  · rw [List.length_map]; exact Nat.le_succ _
  · rw [List.length_append]; exact Nat.le_refl _
theorem pW_keys {k : NestedKey} (ws : WsT) (kvs : List (NestedKey × D)) (h : ws.map (·.1) = kvs.map (·.1)) (e : (gW ws k).isSome = (gT kvs k).isSome) (b : Addr) (v : V) (d : D) : (pW ws k b v).map (·.1) = (pT kvs k d).map (·.1) := by
  unfold pW pT
  rw [e]
  split
  · rw [List.map_map, List.map_map]
    have e1 : ((fun x : NestedKey × Addr × V => x.1) ∘ fun x => if x.1 = k then (x.1, x.2.1, v) else x) = fun x => x.1 := by
      funext x; show (if x.1 = k then (x.1, x.2.1, v) else x).1 = x.1; split <;> rfl
    have e2 : ((fun x : NestedKey × D => x.1) ∘ fun x => if x.1 = k then (x.1, d) else x) = fun x => x.1 := by
      funext x; show (if x.1 = k then (x.1, d) else x).1 = x.1; split <;> rfl
    rw [e1, e2]
    exact h
  · rw [List.map_append, List.map_append, h]
    rfl
theorem pW_vals {k : NestedKey} {v : V} {d : D} {H' : Hp} (hv : Rep c μ H' d v) : ∀ {ws : WsT} {kvs : List (NestedKey × D)}, ws.map (·.1) = kvs.map (·.1) → RepL c μ H' (kvs.map (·.2)) (ws.map (·.2.2)) →
    RepL c μ H' ((kvs.map fun x => if x.1 = k then (x.1, d) else x).map (·.2)) ((ws.map fun x => if x.1 = k then (x.1, x.2.1, v) else x).map (·.2.2))
  | [], [], _, _ => RepL.nil
  | [], _ :: _, e, _ => by simp at e
  | _ :: _, [], e, _ => by simp at e
  | p :: ws, q :: kvs, e, r => by
    rw [List.map_cons, List.map_cons] at e
    injection e with e1 e2
    obtain ⟨z, r', er, r1, r2⟩ := r
    injection er with er1 er2
    subst er1 er2
    rw [List.map_cons, List.map_cons, List.map_cons, List.map_cons]
    refine RepL.cons ?_ (pW_vals hv e2 r2)
    by_cases h : p.1 = k
    · rw [if_pos h, if_pos (e1 ▸ h)]; exact hv
    · rw [if_neg h, if_neg (e1 ▸ h)]; exact r1
theorem pW_repl {k : NestedKey} {b : Addr} {v : V} {d : D} {H' : Hp} (hv : Rep c μ H' d v) (h1 : ws.map (·.1) = kvs.map (·.1)) (h2 : RepL c μ H' (kvs.map (·.2)) (ws.map (·.2.2))) : RepL c μ H' ((pT kvs k d).map (·.2)) ((pW ws k b v).map (·.2.2)) := by
  unfold pW pT
  rcases gW_of k h1 h2 with ⟨e1, e2⟩ | ⟨d', v', e1, e2, _⟩
  · rw [e1, e2]
    show RepL c μ _ ((kvs ++ [(k, d)]).map (·.2)) ((ws ++ [(k, b, v)]).map (·.2.2))
    rw [List.map_append, List.map_append]
    exact h2.append (RepL.cons hv RepL.nil)
  · rw [e1, e2]
    exact pW_vals hv h1 h2
theorem pW_mem {k : NestedKey} {b : Addr} {v : V} {F : NestedKey → Addr → Prop} (hk : F k b) (h : ∀ x ∈ ws, F x.1 x.2.1) : ∀ x ∈ pW ws k b v, F x.1 x.2.1 := by
  intro x hx
  unfold pW at hx
  split at hx
  · obtain ⟨y, hy, rfl⟩ := List.mem_map.mp hx
    split
    · exact h y hy
    · exact h y hy
  · rcases List.mem_append.mp hx with hx | hx
    · exact h x hx
    · cases List.mem_singleton.mp hx; exact hk
/-- what stands behind d[k] = v -/
theorem t_behind (hx : Cok c X) (I : Inv X pins σ H s) {st : Sto} {n : Nat} (S : Stor c μ st H) (hn : st[n]? = some (.dT kvs)) (ha : μ[n]? = some a) (h : DTAt c μ H kvs a ws) {k : NestedKey} {b : Addr} (hk : VKey c.K H k (.ref b)) (hd : k.depth ≤ 8) {d : D} {v : V} {u : Value} (hv : Rep c μ H d v) (ru : RelV v u)
    (hl : kvs.length < 100000) {xs : XsT} (r : PaT ws xs) (hs : (a == sysModules) = false) {h' : Heap} {tk : Nat} (hm' : h'.DictOfH (nestedKind X.prog X.w) a (storedH xs k b u)) (sb : Heap.SameBut a s.heap h') :
    ∃ H', Inv X pins σ H' { s with heap := h', toks := tk } ∧ Ext μ H μ H' ∧ Stor c μ (st.set n (.dT (pT kvs k d))) H' := by
  have lw : ws.length = kvs.length := by have := congrArg List.length h.ks; simpa using this
  have E1 : Ext μ H μ (upd H a (DTO c.P c.w a (pW ws k b v))) := Ext.write S hn ha
  have hmu : Mut (H a) := by rw [h.ob]; trivial
  have new : ObjOk X.prog X.w (upd H a (DTO c.P c.w a (pW ws k b v))) h' a (DTO c.P c.w a (pW ws k b v)) := by
    have z := dto_ok (H := upd H a (DTO c.P c.w a (pW ws k b v))) (r.put k (b := b) ru) hm' hs (by
      have := storedH_len xs k b u
      have := r.len
      exact top_le (by omega))
    rw [hx.P, hx.w] at z ⊢
    exact z
  have I1 : Inv X pins σ (upd H a (DTO c.P c.w a (pW ws k b v))) { s with heap := h', toks := tk } := by
    obtain ⟨o, es, ep, e1, _⟩ := hm'
    exact I.write hmu (.inl rfl) (fun b' o' hb e => (sb.2 b' hb).trans e) ⟨o, e1⟩ new
  refine ⟨_, I1, E1, S.write hn ha ⟨pW ws k b v, upd_same, ?_, ?_, ?_⟩⟩
  · refine pW_keys ws kvs h.ks ?_ b v d
    rcases gW_of k h.ks h.vs with ⟨e1, e2⟩ | ⟨d, v, e1, e2, _⟩ <;> rw [e1, e2] <;> rfl
  · intro x hx'
    have z := pW_mem (F := fun k b => VKey c.K H k (.ref b) ∧ k.depth ≤ 8) ⟨hk, hd⟩ h.kd x hx'
    exact ⟨z.1.ext E1, z.2⟩
  · exact pW_repl (hv.ext E1) h.ks (h.vs.ext E1)
/-- d[k] = v -/
theorem t_set (hx : Cok c X) (I : Inv X pins σ H s) {st : Sto} {n : Nat} (S : Stor c μ st H) (hn : st[n]? = some (.dT kvs)) (ha : μ[n]? = some a) (h : DTAt c μ H kvs a ws) {k : NestedKey} {b : Addr} (hk : VKey c.K H k (.ref b)) (hd : k.depth ≤ 8) {d : D} {v : V} {u : Value} (hv : Rep c μ H d v) (ru : RelV v u)
    (hl : kvs.length < 100000) {Q : Unit → Shared → Prop} {E : Value → Shared → Prop}
    (q : ∀ s' H', Inv X pins σ H' s' → Ext μ H μ H' → Stor c μ (st.set n (.dT (pT kvs k d))) H' → Q () s') : wpAny (model X.prog X.w) X.A (setItem (.ref a) (.ref b) u) Q E s := by
  obtain ⟨xs, r, hm, hs, hl'⟩ := h.heap hx I
  refine wpAny_setItem_heap (Cok.room hx.un) (key_heap hx I hk hd) hm (fun h' hm' sb => ?_) hl'
  obtain ⟨H', I1, E1, S1⟩ := t_behind (tk := s.toks + (nestedKind X.prog X.w).draws k) hx I S hn ha h hk hd hv ru hl r hs hm' sb
  exact q _ H' I1 E1 S1
/-- {} -/
theorem t_new (hx : Cok c X) (I : Inv X pins σ H s) {st : Sto} (S : Stor c μ st H) : Inv X pins σ (upd H s.heap.objs.size (DTO c.P c.w s.heap.objs.size [])) { s with heap := s.heap.push { cls := .type "dict", data := .dict #[] } } ∧
    Stor c (μ ++ [s.heap.objs.size]) (st ++ [.dT []]) (upd H s.heap.objs.size (DTO c.P c.w s.heap.objs.size [])) ∧ H s.heap.objs.size = none := by
  have hf : H s.heap.objs.size = none := I.hok.fresh (Nat.le_refl _)
  refine ⟨I.laid (fun _ _ q => Heap.get?_push_of_some _ q) (Nat.le_refl _) ?_, S.push hf ⟨[], upd_same, rfl, (fun x hx => by cases hx), RepL.nil⟩, hf⟩
  have z := dto_ok (H := upd H s.heap.objs.size (DTO c.P c.w s.heap.objs.size [])) (a := s.heap.objs.size) (ws := []) (P := X.prog) (w := X.w) .nil (Heap.DictOfH.new s.heap) (beq_eq_false_iff_ne.mpr (Nat.ne_of_gt I.big)) (Nat.zero_le _)
  rw [hx.P, hx.w] at z ⊢
  exact z
end
end Lw
end
section
set_option Elab.async false
set_option linter.all false
set_option autoImplicit false
set_option maxRecDepth 100000
/-! Dcmp: comparisons, in, is. -/
namespace Lw
open PySem PySem.Spec PyProof.Rows L2

def cmpD (f : D → D → Sto → Option Bool) : D → D → Sto → Option (D × Sto) := fun d e st => (f d e st).map fun b => (.bl b, st)
theorem cmpD_some {f : D → D → Sto → Option Bool} {d e : D} {st st' : Sto} {z : D} (h : cmpD f d e st = some (z, st')) : ∃ b, f d e st = some b ∧ z = .bl b ∧ st' = st := by
  obtain ⟨b, h1, h2⟩ := Option.map_eq_some_iff.mp h
  cases h2
  exact ⟨b, h1, rfl, rfl⟩
def intsD : List D → Option (List Int)
  | [] => some []
  | .int i :: r => (intsD r).map (i :: ·)
  | _ :: _ => none
theorem intsD_some : ∀ {ds : List D} {ns : List Int}, intsD ds = some ns → ds = ns.map D.int
  | [], _, h => by cases h; rfl
  | .int i :: r, _, h => by
    rw [intsD] at h
    obtain ⟨ns, h1, rfl⟩ := Option.map_eq_some_iff.mp h
    rw [intsD_some h1]; rfl
  | .non :: _, _, h | .bl _ :: _, _, h | .str _ :: _, _, h | .ty _ :: _, _, h | .tup _ :: _, _, h | .loc _ :: _, _, h | .rol _ :: _, _, h | .bm _ _ :: _, _, h => by cases h
theorem intsD_map : ∀ ns : List Int, intsD (ns.map D.int) = some ns
  | [] => rfl
  | n :: ns => by rw [List.map_cons, intsD, intsD_map ns]; rfl
def strsD : List D → Option (List Str)
  | [] => some []
  | .str i :: r => (strsD r).map (i :: ·)
  | _ :: _ => none
theorem strsD_some : ∀ {ds : List D} {ns : List Str}, strsD ds = some ns → ds = ns.map D.str
  | [], _, h => by cases h; rfl
  | .str i :: r, _, h => by
    rw [strsD] at h
    obtain ⟨ns, h1, rfl⟩ := Option.map_eq_some_iff.mp h
    rw [strsD_some h1]; rfl
  | .non :: _, _, h | .bl _ :: _, _, h | .int _ :: _, _, h | .ty _ :: _, _, h | .tup _ :: _, _, h | .loc _ :: _, _, h | .rol _ :: _, _, h | .bm _ _ :: _, _, h => by cases h
theorem strsD_map : ∀ ns : List Str, strsD (ns.map D.str) = some ns
  | [] => rfl
  | n :: ns => by rw [List.map_cons, strsD, strsD_map ns]; rfl

def eqB : D → D → Sto → Option Bool
  | .int i, .int j, _ => some (decide (i = j))
  | .str i, .str j, _ => some (decide (i = j))
  | .bl i, .bl j, _ => some (decide (i = j))
  | .loc m, .loc n, st => match st[m]?, st[n]? with
    | some (.lst a), some (.lst b) => if SeqAt.shaped (.list (pyDs a)) = true ∧ SeqAt.shaped (.list (pyDs b)) = true then some (PyData.eqv (.list (pyDs a)) (.list (pyDs b))) else none
    | _, _ => none
  | _, _, _ => none
def neB : D → D → Sto → Option Bool
  | .int i, .int j, _ => some (!decide (i = j))
  | .str i, .str j, _ => some (!decide (i = j))
  | .bl i, .bl j, _ => some (!decide (i = j))
  | _, _, _ => none
def ltB : D → D → Sto → Option Bool
  | .int i, .int j, _ => some (decide (i < j))
  | .tup a, .tup b, _ => (intsD a).bind fun ns => (intsD b).map fun ms => HT.lexLt ns ms
  | _, _, _ => none
def leB : D → D → Sto → Option Bool
  | .int i, .int j, _ => some (decide (i ≤ j))
  | .str i, .str j, _ => some (!decide (j.cps.toList < i.cps.toList))
  | _, _, _ => none
def gtB : D → D → Sto → Option Bool
  | .int i, .int j, _ => some (decide (j < i))
  | _, _, _ => none
def geB : D → D → Sto → Option Bool
  | .int i, .int j, _ => some (decide (j ≤ i))
  | _, _, _ => none
def isNB : D → D → Sto → Option Bool
  | .non, .non, _ => some true
  | _, .non, _ => some false
  | .bl a, .bl b, _ => some (decide (a = b))
  | _, _, _ => none
def notNB : D → D → Sto → Option Bool
  | .non, .non, _ => some false
  | _, .non, _ => some true
  | .bl a, .bl b, _ => some (!decide (a = b))
  | _, _, _ => none
def inB : D → D → Sto → Option Bool
  | .int i, .tup xs, _ => (intsD xs).map fun ns => decide (i ∈ ns)
  | .str s, .str z, _ => match s.cps.toList with
    | [c] => some (decide (c ∈ z.cps.toList))
    | _ => none
  | d, .loc n, st => match st[n]? with
    | some (.lst xs) => if SeqAt.shaped (pyD d) = true ∧ SeqAt.shaped (.list (pyDs xs)) = true then some ((pyDs xs).any fun z => PyData.eqv z (pyD d)) else none
    | some (.dT kvs) => (keyT d).map fun k => (gT kvs k).isSome
    | _ => none
  | _, _, _ => none
def notInB (d e : D) (st : Sto) : Option Bool := (inB d e st).map (!·)

section
variable {c : Cz} {X : Cx}
theorem sqL_K (hx : Cok c X) {H : Hp} {a : Addr} {vs : List V} (h : H a = some (.lst vs)) : SqL X.K H a vs := SqL.of h
theorem sqT_K (hx : Cok c X) {H : Hp} {a : Addr} {vs : List V} (h : SqT c.K H a vs) : SqT X.K H a vs := by rw [hx.K]; exact h
theorem cmp_of {f : Value → Value → Sem Value} {r : R2} {g : D → D → Sto → Option Bool} (h : OpR X f r)
    (k : ∀ (μ : List Addr) (st : Sto) (H : Hp) (d e : D) (x y : V) (b : Bool) (Q : VK), Stor c μ st H → Rep c μ H d x → Rep c μ H e y → g d e st = some b → Q (.bl b) H → r x y H Q) : OpR X f (LR2 c (cmpD g)) := by
  refine OpR.of h fun x y H Q q => ?_
  obtain ⟨μ, st, d, e, S, rx, ry, z, st', e1, kk⟩ := q
  obtain ⟨b, h1, rfl, rfl⟩ := cmpD_some e1
  exact k μ st' H d e x y b Q S rx ry h1 (kk _ _ _ Ext.refl S rfl)
theorem o_eq (hx : Cok c X) : OpR X (compareOp .Eq) (LR2 c (cmpD eqB)) := by
  refine cmp_of (op_eq.or (op_eqD (by have := hx.un; omega))) fun μ st H d e x y b Q S rx ry h q => ?_
  unfold eqB at h
  split at h
  · cases h; cases rx; cases ry; exact .inl ⟨rfl, by simpa using q⟩
  · cases h; cases rx; cases ry; exact .inl ⟨rfl, by simpa using q⟩
  · cases h; cases rx; cases ry; exact .inl ⟨rfl, by simpa using q⟩
  · split at h
    · rename_i a b' hm hn
      split at h
      · rename_i hs
        cases h
        obtain ⟨p, vs, rfl, _, h1, h2⟩ := S.lst hm rx
        obtain ⟨p', vs', rfl, _, h3, h4⟩ := S.lst hn ry
        have l1 := shaped_canLay hs.1
        have l2 := shaped_canLay hs.2
        rw [PyData.canLay0] at l1 l2
        refine .inr ⟨_, _, .lst (SqL.of h1) ?_, .lst (SqL.of h3) ?_, hs.1, hs.2, q⟩
        · rw [hx.K]; exact dps_of _ _ l1 h2
        · rw [hx.K]; exact dps_of _ _ l2 h4
      · cases h
    · cases h
  · cases h
theorem o_ne : OpR X (compareOp .NotEq) (LR2 c (cmpD neB)) := by
  refine cmp_of op_ne fun μ st H d e x y b Q S rx ry h q => ?_
  unfold neB at h
  split at h
  · cases h; cases rx; cases ry; exact ⟨rfl, by simpa using q⟩
  · cases h; cases rx; cases ry; exact ⟨rfl, by simpa using q⟩
  · cases h; cases rx; cases ry; exact ⟨rfl, by simpa using q⟩
  · cases h
theorem o_lt (hx : Cok c X) : OpR X (compareOp .Lt) (LR2 c (cmpD ltB)) := by
  refine cmp_of (op_lt.or (op_ltT hx.u0)) fun μ st H d e x y b Q S rx ry h q => ?_
  unfold ltB at h
  split at h
  · cases h; cases rx; cases ry; exact .inl ⟨_, _, rfl, rfl, q⟩
  · obtain ⟨ns, h1, h2⟩ := bind_some h
    obtain ⟨ms, h3, rfl⟩ := Option.map_eq_some_iff.mp h2
    obtain ⟨p, vs, rfl, a1, a2⟩ := rx
    obtain ⟨p', vs', rfl, b1, b2⟩ := ry
    rw [intsD_some h1] at a2
    rw [intsD_some h3] at b2
    cases RepL.ints_inv a2
    cases RepL.ints_inv b2
    exact .inr ⟨p, p', ns, ms, rfl, rfl, sqT_K hx a1, sqT_K hx b1, q⟩
  · cases h
theorem o_le : OpR X (compareOp .LtE) (LR2 c (cmpD leB)) := by
  refine cmp_of (op_le.or op_le_str) fun μ st H d e x y b Q S rx ry h q => ?_
  unfold leB at h
  split at h
  · cases h; cases rx; cases ry; exact .inl ⟨_, _, rfl, rfl, q⟩
  · cases h; cases rx; cases ry; exact .inr ⟨_, _, rfl, rfl, q⟩
  · cases h
theorem o_gt : OpR X (compareOp .Gt) (LR2 c (cmpD gtB)) := by
  refine cmp_of op_gt fun μ st H d e x y b Q S rx ry h q => ?_
  unfold gtB at h
  split at h
  · cases h; cases rx; cases ry; exact ⟨_, _, rfl, rfl, q⟩
  · cases h
theorem o_ge : OpR X (compareOp .GtE) (LR2 c (cmpD geB)) := by
  refine cmp_of op_ge fun μ st H d e x y b Q S rx ry h q => ?_
  unfold geB at h
  split at h
  · cases h; cases rx; cases ry; exact ⟨_, _, rfl, rfl, q⟩
  · cases h
theorem rep_ne_non {μ : List Addr} {H : Hp} : ∀ {d : D} {x : V}, d ≠ .non → Rep c μ H d x → x ≠ .non
  | .non, _, h, _ => absurd rfl h
  | .bl _, _, _, r | .int _, _, _, r | .str _, _, _, r | .ty _, _, _, r => by cases r; intro z; cases z
  | .tup _, _, _, r => by obtain ⟨a, _, rfl, _⟩ := r; intro z; cases z
  | .loc _, _, _, r => by obtain ⟨a, rfl, _⟩ := r; intro z; cases z
  | .rol _, _, _, r => by obtain ⟨a, rfl, _⟩ := r; intro z; cases z
  | .bm _ _, _, _, r => by obtain ⟨a, _, rfl, _⟩ := r; intro z; cases z
theorem o_is : OpR X (compareOp .Is) (LR2 c (cmpD isNB)) := by
  refine cmp_of (op_isN.or op_isBl) fun μ st H d e x y b Q S rx ry h q => ?_
  unfold isNB at h
  split at h
  · cases h; cases rx; cases ry; exact .inl ⟨rfl, q⟩
  · rename_i hne
    cases h; cases ry
    refine .inl ⟨rfl, ?_⟩
    rw [decide_eq_false (rep_ne_non (fun z => hne z) rx)]; exact q
  · cases h; cases rx; cases ry; exact .inr ⟨_, _, rfl, rfl, q⟩
  · cases h
theorem o_isNot : OpR X (compareOp .IsNot) (LR2 c (cmpD notNB)) := by
  refine cmp_of (op_notN.or op_notBl) fun μ st H d e x y b Q S rx ry h q => ?_
  unfold notNB at h
  split at h
  · cases h; cases rx; cases ry; exact .inl ⟨rfl, q⟩
  · rename_i hne
    cases h; cases ry
    refine .inl ⟨rfl, ?_⟩
    rw [decide_eq_false (rep_ne_non (fun z => hne z) rx)]; exact q
  · cases h; cases rx; cases ry; exact .inr ⟨_, _, rfl, rfl, q⟩
  · cases h
theorem flat_ints : ∀ ns : List Int, (ns.map V.int).all flatV = true
  | [] => rfl
  | n :: ns => by rw [List.map_cons, List.all_cons, flat_ints ns]; rfl
theorem inV_ints (i : Int) : ∀ ns : List Int, inV (.int i) (ns.map V.int) = decide (i ∈ ns)
  | [] => by simp [inV]
  | n :: ns => by
    have ih := inV_ints i ns
    unfold inV at ih ⊢
    rw [List.map_cons, List.any_cons, ih]
    by_cases h : i = n
    · subst h; simp [eqV]
    · have : ¬ n = i := fun z => h z.symm
      simp [eqV, h, this]
/-- the dict's in, by the machine -/
def rInT (c : Cz) : R2 := fun x y H Q => ∃ μ kvs a ws k b, x = .ref b ∧ y = .ref a ∧ DTAt c μ H kvs a ws ∧ VKey c.K H k (.ref b) ∧ k.depth ≤ 8 ∧ Q (.bl (gT kvs k).isSome) H
def rNotInT (c : Cz) : R2 := fun x y H Q => ∃ μ kvs a ws k b, x = .ref b ∧ y = .ref a ∧ DTAt c μ H kvs a ws ∧ VKey c.K H k (.ref b) ∧ k.depth ≤ 8 ∧ Q (.bl (!(gT kvs k).isSome)) H
theorem op_inT (hx : Cok c X) : OpR X (compareOp .In) (rInT c) := by
  intro pins s σ H x y v u Q I rx ry ⟨μ, kvs, a, ws, k, b, e1, e2, h, hk, hd, q⟩
  subst e1 e2
  cases (show v = Value.ref b from rx)
  cases (show u = Value.ref a from ry)
  exact t_in hx I h hk hd fun s' I' => ⟨.bl _, H, I', rfl, q⟩
theorem op_notInT (hx : Cok c X) : OpR X (compareOp .NotIn) (rNotInT c) := by
  intro pins s σ H x y v u Q I rx ry ⟨μ, kvs, a, ws, k, b, e1, e2, h, hk, hd, q⟩
  subst e1 e2
  cases (show v = Value.ref b from rx)
  cases (show u = Value.ref a from ry)
  exact t_notIn hx I h hk hd fun s' I' => ⟨.bl _, H, I', rfl, q⟩
theorem str_one {s : Str} {cp : Nat} (h : s.cps.toList = [cp]) : s = ⟨#[cp]⟩ := TL.ext_tl h
theorem o_in (hx : Cok c X) : OpR X (compareOp .In) (LR2 c (cmpD inB)) := by
  refine cmp_of ((op_in_seq.or op_in_sign).or ((op_inD (by have := hx.un; omega)).or (op_inT hx))) fun μ st H d e x y b Q S rx ry h q => ?_
  unfold inB at h
  split at h
  · obtain ⟨ns, h1, rfl⟩ := Option.map_eq_some_iff.mp h
    obtain ⟨p, vs, rfl, a1, a2⟩ := ry
    cases rx
    rw [intsD_some h1] at a2
    cases RepL.ints_inv a2
    exact .inl (.inl ⟨p, _, rfl, .inr (sqT_K hx a1), rfl, flat_ints ns, by rw [inV_ints]; exact q⟩)
  · split at h
    · rename_i cp hc
      cases h; cases rx; cases ry
      exact .inl (.inr ⟨cp, _, by rw [str_one hc], rfl, q⟩)
    · cases h
  · split at h
    · rename_i hn
      split at h
      · rename_i hs
        cases h
        obtain ⟨p, vs, rfl, _, h1, h2⟩ := S.lst hn ry
        have l1 := shaped_canLay hs.1
        have l2 := shaped_canLay hs.2
        rw [PyData.canLay0] at l2
        refine .inr (.inl ⟨_, _, ?_, .lst (SqL.of h1) ?_, hs.1, hs.2, q⟩)
        · rw [hx.K]; exact dp_of _ _ l1 rx
        · rw [hx.K]; exact dps_of _ _ l2 h2
      · cases h
    · rename_i hn
      obtain ⟨k, hk, rfl⟩ := Option.map_eq_some_iff.mp h
      obtain ⟨b, rfl, k1, k2⟩ := keyT_is hk rx
      obtain ⟨a, ws, rfl, _, hd⟩ := S.dT hn ry
      exact .inr (.inr ⟨μ, _, a, ws, k, b, rfl, rfl, hd, k1, k2, q⟩)
    · cases h
  · cases h
theorem o_notIn (hx : Cok c X) : OpR X (compareOp .NotIn) (LR2 c (cmpD notInB)) := by
  refine cmp_of ((op_notIn_seq.or op_notIn_sign).or ((op_notInD (by have := hx.un; omega)).or (op_notInT hx))) fun μ st H d e x y b Q S rx ry h q => ?_
  obtain ⟨b', h0, rfl⟩ := Option.map_eq_some_iff.mp h
  clear h
  have h := h0
  clear h0
  unfold inB at h
  split at h
  · obtain ⟨ns, h1, rfl⟩ := Option.map_eq_some_iff.mp h
    obtain ⟨p, vs, rfl, a1, a2⟩ := ry
    cases rx
    rw [intsD_some h1] at a2
    cases RepL.ints_inv a2
    exact .inl (.inl ⟨p, _, rfl, .inr (sqT_K hx a1), rfl, flat_ints ns, by rw [inV_ints]; exact q⟩)
  · split at h
    · rename_i cp hc
      cases h; cases rx; cases ry
      exact .inl (.inr ⟨cp, _, by rw [str_one hc], rfl, q⟩)
    · cases h
  · split at h
    · rename_i hn
      split at h
      · rename_i hs
        cases h
        obtain ⟨p, vs, rfl, _, h1, h2⟩ := S.lst hn ry
        have l1 := shaped_canLay hs.1
        have l2 := shaped_canLay hs.2
        rw [PyData.canLay0] at l2
        refine .inr (.inl ⟨_, _, ?_, .lst (SqL.of h1) ?_, hs.1, hs.2, q⟩)
        · rw [hx.K]; exact dp_of _ _ l1 rx
        · rw [hx.K]; exact dps_of _ _ l2 h2
      · cases h
    · rename_i hn
      obtain ⟨k, hk, rfl⟩ := Option.map_eq_some_iff.mp h
      obtain ⟨b, rfl, k1, k2⟩ := keyT_is hk rx
      obtain ⟨a, ws, rfl, _, hd⟩ := S.dT hn ry
      exact .inr (.inr ⟨μ, _, a, ws, k, b, rfl, rfl, hd, k1, k2, q⟩)
    · cases h
  · cases h
end
end Lw
end
section
set_option Elab.async false
set_option linter.all false
set_option autoImplicit false
set_option maxRecDepth 100000
/-! Dexp: readings of expressions. -/
namespace Lw
open PySem PySem.Spec PyProof.Rows L2

def fVar (i : Nat) : FE := fun ρ st => match ρ[i]? with
  | some (some d) => some (d, st)
  | _ => none
def fC (d : D) : FE := fun _ st => some (d, st)
def fOp (r : D → D → Sto → Option (D × Sto)) (fa fb : FE) : FE := fun ρ st => (fa ρ st).bind fun p => (fb ρ p.2).bind fun q => r p.1 q.1 q.2
def fUn (r : D → Sto → Option (D × Sto)) (fa : FE) : FE := fun ρ st => (fa ρ st).bind fun p => r p.1 p.2
def bool1 (p : D × Sto) : Option (Bool × Sto) := match p.1 with
  | .bl b => some (b, p.2)
  | _ => none
theorem bool1_some {x : D} {st st' : Sto} {b : Bool} (h : bool1 (x, st) = some (b, st')) : x = .bl b ∧ st = st' := by
  unfold bool1 at h
  split at h
  · rename_i b' hb
    cases h
    exact ⟨hb, rfl⟩
  · cases h
def fTest (f : FE) : FT := fun ρ st => (f ρ st).bind bool1
def fChain (r r' : D → D → Sto → Option (D × Sto)) (fa fb fc : FE) : FE := fun ρ st => (fa ρ st).bind fun p => (fb ρ p.2).bind fun q => (r p.1 q.1 q.2).bind fun z => (bool1 z).bind fun k =>
  if k.1 = true then (fc ρ k.2).bind fun w => r' q.1 w.1 w.2 else some (.bl false, k.2)
def fAnd (f g : FT) : FT := fun ρ st => (f ρ st).bind fun p => if p.1 = true then g ρ p.2 else some (false, p.2)
def fOr (f g : FT) : FT := fun ρ st => (f ρ st).bind fun p => if p.1 = true then some (true, p.2) else g ρ p.2
def fNot (f : FT) : FT := fun ρ st => (f ρ st).map fun p => (!p.1, p.2)
def fAndV (f g : FE) : FE := fun ρ st => ((f ρ st).bind bool1).bind fun p => if p.1 = true then g ρ p.2 else some (.bl false, p.2)
def fOrV (f g : FE) : FE := fun ρ st => ((f ρ st).bind bool1).bind fun p => if p.1 = true then some (.bl true, p.2) else g ρ p.2
def truD : D → Sto → Option (Bool × Sto)
  | .non, st => some (false, st)
  | .bl b, st => some (b, st)
  | .int i, st => some (i != 0, st)
  | .tup xs, st => some (!xs.isEmpty, st)
  | .loc n, st => match st[n]? with
    | some (.lst xs) => some (!xs.isEmpty, st)
    | _ => none
  | _, _ => none
def fTru (f : FE) : FT := fun ρ st => (f ρ st).bind fun p => truD p.1 p.2
def fNil : FA := fun _ st => some ([], st)
def fCons (f : FE) (g : FA) : FA := fun ρ st => (f ρ st).bind fun p => (g ρ p.2).map fun q => (p.1 :: q.1, q.2)
def tupD : DF := fun ds st => if ds.length ≤ 100000 then some (.tup ds, st) else none
def lstD : DF := fun ds st => if ds.length ≤ 100000 then some (.loc st.length, st ++ [.lst ds]) else none
def fApp (r : DF) (g : FA) : FE := fun ρ st => (g ρ st).bind fun p => r p.1 p.2
def fTup (g : FA) : FE := fApp tupD g
def fLst (g : FA) : FE := fApp lstD g
def fMt (r : D → DF) (f : FE) (g : FA) : FE := fun ρ st => (f ρ st).bind fun p => (g ρ p.2).bind fun q => r p.1 q.1 q.2

section
variable {c : Cz} {X : Cx} {e a b d : Expr} {es : List Expr} {fa fb fc f : FE} {ta tb : FT} {ga : FA} {pos : Pos} {r r' : D → D → Sto → Option (D × Sto)} {σ : L2.St} {H : Hp}
theorem q_var (i : Nat) {x : Str} {pos : Pos} (hN : X.N[i]? = some x := by rfl) (hv : Vis X.env.scope x := by first | exact Or.inl rfl | exact Or.inr (Or.inl rfl) | exact Or.inr (Or.inr rfl)) (hd : (x == ("__debug__" : Str)) = false := by decide)
    (hcd : (x == ("__classdict__" : Str)) = false := by decide) : QE c X (.Name x pos) (fVar i) := PE.of (pe_var hN hv hd hcd) fun σ H Q ⟨ρ, st, μ, R, S, q⟩ => by
  obtain ⟨d, st', e, k⟩ := q
  unfold fVar at e
  split at e
  · rename_i d' hd
    cases e
    obtain ⟨v, h1, h2⟩ := R.at_ i _ hd
    exact ⟨v, h1, k v H μ Ext.refl S h2⟩
  · cases e
theorem q_c {v : V} {d : D} (h : PE X e (tC v)) (hr : ∀ μ H, Rep c μ H d v) : QE c X e (fC d) := PE.of h fun σ H Q ⟨ρ, st, μ, R, S, q⟩ => Res.same q S (hr μ H)
theorem q_int {i : Int} {j : Nat} : QE c X (.Constant (.int i) j pos) (fC (.int i)) := q_c pe_int fun _ _ => rfl
theorem q_bl {i : Bool} {j : Nat} : QE c X (.Constant (.bool i) j pos) (fC (.bl i)) := q_c pe_bl fun _ _ => rfl
theorem q_non {j : Nat} : QE c X (.Constant .none j pos) (fC .non) := q_c pe_non fun _ _ => rfl
theorem q_str {i : Str} {j : Nat} : QE c X (.Constant (.str i) j pos) (fC (.str i)) := q_c pe_str fun _ _ => rfl
theorem op_lift {Q : VK} (h : LE c (fOp r fa fb) σ H Q) : tOp (LR2 c r) (LE c fa) (LE c fb) σ H Q := by
  obtain ⟨ρ, st, μ, R, S, z, st', e, k⟩ := h
  obtain ⟨⟨x, st1⟩, e1, e2⟩ := bind_some e
  obtain ⟨⟨y, st2⟩, e3, e4⟩ := bind_some e2
  exact ⟨ρ, st, μ, R, S, x, st1, e1, fun v1 H1 μ1 E1 S1 r1 => ⟨ρ, st1, μ1, R.ext E1, S1, y, st2, e3, fun v2 H2 μ2 E2 S2 r2 => ⟨μ2, st2, x, y, S2, r1.ext E2, r2, z, st', e4, fun v H' μ' E3 S3 r3 => k v H' μ' ((E1.trans E2).trans E3) S3 r3⟩⟩⟩
theorem q_op {op : Operator} (ho : OpR X (binaryOp op) (LR2 c r)) (ha : QE c X a fa) (hb : QE c X b fb) : QE c X (.BinOp a op b pos) (fOp r fa fb) := PE.of (pe_op ho ha hb) fun _ _ _ => op_lift
theorem test_lift {Q : Bool → Hp → Prop} (h : LT c (fTest f) σ H Q) : LE c f σ H (fun x H' => ∃ k, x = .bl k ∧ Q k H') := by
  obtain ⟨ρ, st, μ, R, S, z, st', e, k⟩ := h
  obtain ⟨⟨x, st1⟩, e1, e2⟩ := bind_some e
  obtain ⟨rfl, rfl⟩ := bool1_some e2
  exact ⟨ρ, st, μ, R, S, _, _, e1, fun v H' μ' E S' rr => ⟨z, rr, k H' μ' E S'⟩⟩
theorem LE.mono {Q Q' : VK} (h : LE c f σ H Q) (k : ∀ v H', Q v H' → Q' v H') : LE c f σ H Q' := by
  obtain ⟨ρ, st, μ, R, S, z, st', e, kk⟩ := h
  exact ⟨ρ, st, μ, R, S, z, st', e, fun v H' μ' E S' rr => k _ _ (kk v H' μ' E S' rr)⟩
theorem q_cmp {op : CmpOp} (ho : OpR X (compareOp op) (LR2 c r)) (ha : QE c X a fa) (hb : QE c X b fb) (hm : behindInMarks op b = false) : QE c X (.Compare a [op] [b] pos) (fOp r fa fb) := PE.of (pe_cmpR ho ha hb hm) fun _ _ _ => op_lift
theorem q_tcmp {op : CmpOp} (ho : OpR X (compareOp op) (LR2 c r)) (ha : QE c X a fa) (hb : QE c X b fb) (hm : behindInMarks op b = false) : QT c X (.Compare a [op] [b] pos) (fTest (fOp r fa fb)) :=
  PT.of (pt_cmpR ho ha hb hm) fun σ H Q h => op_lift (test_lift h)
theorem chain_lift {Q : VK} (h : LE c (fChain r r' fa fb fc) σ H Q) : tChain (LR2 c r) (LR2 c r') (LE c fa) (LE c fb) (LE c fc) σ H Q := by
  obtain ⟨ρ, st, μ, R, S, z, st', e, k⟩ := h
  obtain ⟨⟨x, st1⟩, e1, e⟩ := bind_some e
  obtain ⟨⟨y, st2⟩, e2, e⟩ := bind_some e
  obtain ⟨⟨w, st3⟩, e3, e⟩ := bind_some e
  obtain ⟨⟨t, st4⟩, e4, e⟩ := bind_some e
  obtain ⟨rfl, rfl⟩ := bool1_some e4
  refine ⟨ρ, st, μ, R, S, x, st1, e1, fun v1 H1 μ1 E1 S1 r1 => ⟨ρ, st1, μ1, R.ext E1, S1, y, st2, e2, fun v2 H2 μ2 E2 S2 r2 => ⟨μ2, st2, x, y, S2, r1.ext E2, r2, _, st3, e3, fun v3 H3 μ3 E3 S3 r3 => ⟨t, r3, ?_⟩⟩⟩⟩
  have e' : (if t = true then (fc ρ st3).bind fun w => r' y w.1 w.2 else some (.bl false, st3)) = some (z, st') := e
  clear e
  by_cases ht : t = true
  · rw [if_pos ht] at e'
    rw [if_pos ht]
    obtain ⟨⟨u, st5⟩, e5, e6⟩ := bind_some e'
    exact ⟨ρ, st3, μ3, R.ext ((E1.trans E2).trans E3), S3, u, st5, e5, fun v4 H4 μ4 E4 S4 r4 => ⟨μ4, st5, y, u, S4, (r2.ext E3).ext E4, r4, z, st', e6, fun v H' μ' E5 S5 r5 => k v H' μ' ((((E1.trans E2).trans E3).trans E4).trans E5) S5 r5⟩⟩
  · rw [if_neg ht] at e'
    rw [if_neg ht]
    cases e'
    exact k _ _ _ ((E1.trans E2).trans E3) S3 rfl
theorem q_chain {op op' : CmpOp} (ho : OpR X (compareOp op) (LR2 c r)) (ho' : OpR X (compareOp op') (LR2 c r')) (ha : QE c X a fa) (hb : QE c X b fb) (hc : QE c X d fc) (hm : lastMarks [op, op'] [b, d] = false := by with_unfolding_all rfl) :
    QE c X (.Compare a [op, op'] [b, d] pos) (fChain r r' fa fb fc) := PE.of (pe_chain ho ho' ha hb hc hm) fun _ _ _ => chain_lift
theorem q_tchain {op op' : CmpOp} (ho : OpR X (compareOp op) (LR2 c r)) (ho' : OpR X (compareOp op') (LR2 c r')) (ha : QE c X a fa) (hb : QE c X b fb) (hc : QE c X d fc) (hm : lastMarks [op, op'] [b, d] = false := by with_unfolding_all rfl) :
    QT c X (.Compare a [op, op'] [b, d] pos) (fTest (fChain r r' fa fb fc)) := PT.of (pt_chain ho ho' ha hb hc hm) fun _ _ _ h => chain_lift (test_lift h)
theorem and_lift {Q : Bool → Hp → Prop} (h : LT c (fAnd ta tb) σ H Q) : tAnd (LT c ta) (LT c tb) σ H Q := by
  obtain ⟨ρ, st, μ, R, S, z, st', e, k⟩ := h
  obtain ⟨⟨x, st1⟩, e1, e⟩ := bind_some e
  refine ⟨ρ, st, μ, R, S, x, st1, e1, fun H1 μ1 E1 S1 => ?_⟩
  have e' : (if x = true then tb ρ st1 else some (false, st1)) = some (z, st') := e
  show if x = true then LT c tb σ H1 Q else Q false H1
  by_cases hx : x = true
  · rw [if_pos hx] at e' ⊢
    exact ⟨ρ, st1, μ1, R.ext E1, S1, z, st', e', fun H2 μ2 E2 S2 => k H2 μ2 (E1.trans E2) S2⟩
  · rw [if_neg hx] at e' ⊢
    cases e'
    exact k _ _ E1 S1
theorem or_lift {Q : Bool → Hp → Prop} (h : LT c (fOr ta tb) σ H Q) : tOr (LT c ta) (LT c tb) σ H Q := by
  obtain ⟨ρ, st, μ, R, S, z, st', e, k⟩ := h
  obtain ⟨⟨x, st1⟩, e1, e⟩ := bind_some e
  refine ⟨ρ, st, μ, R, S, x, st1, e1, fun H1 μ1 E1 S1 => ?_⟩
  have e' : (if x = true then some (true, st1) else tb ρ st1) = some (z, st') := e
  show if x = true then Q true H1 else LT c tb σ H1 Q
  by_cases hx : x = true
  · rw [if_pos hx] at e' ⊢
    cases e'
    exact k _ _ E1 S1
  · rw [if_neg hx] at e' ⊢
    exact ⟨ρ, st1, μ1, R.ext E1, S1, z, st', e', fun H2 μ2 E2 S2 => k H2 μ2 (E1.trans E2) S2⟩
theorem q_and1 (ha : QT c X a ta) : QW c X (.BoolOp .And [a] pos) ta := pw_and1 ha
theorem q_or1 (ha : QT c X a ta) : QW c X (.BoolOp .Or [a] pos) ta := pw_or1 ha
theorem q_and {rest : List Expr} (ha : QT c X a ta) (hb : QW c X (.BoolOp .And (b :: rest) pos) tb) : QW c X (.BoolOp .And (a :: b :: rest) pos) (fAnd ta tb) := PW.of (pw_and ha hb) fun _ _ _ => and_lift
theorem q_or {rest : List Expr} (ha : QT c X a ta) (hb : QW c X (.BoolOp .Or (b :: rest) pos) tb) : QW c X (.BoolOp .Or (a :: b :: rest) pos) (fOr ta tb) := PW.of (pw_or ha hb) fun _ _ _ => or_lift
theorem q_not (ha : QT c X a ta) : QT c X (.UnaryOp .Not a pos) (fNot ta) := PT.of (pt_not ha) fun σ H Q h => by
  obtain ⟨ρ, st, μ, R, S, z, st', e, k⟩ := h
  obtain ⟨⟨x, st1⟩, e1, e⟩ := Option.map_eq_some_iff.mp e
  cases e
  exact ⟨ρ, st, μ, R, S, x, st1, e1, k⟩
theorem q_one {op : BoolOp} (ha : QE c X a fa) : QE c X (.BoolOp op [a] pos) fa := pe_one ha
theorem bool_lift {f : FE} {ρ : Env'} {st st1 : Sto} {b : Bool} (e : (f ρ st).bind bool1 = some (b, st1)) : f ρ st = some (.bl b, st1) := by
  obtain ⟨⟨x, st2⟩, e1, e2⟩ := bind_some e
  obtain ⟨rfl, rfl⟩ := bool1_some e2
  exact e1
theorem q_andV {rest : List Expr} (ha : QE c X a fa) (hb : QE c X (.BoolOp .And (b :: rest) pos) fb) : QE c X (.BoolOp .And (a :: b :: rest) pos) (fAndV fa fb) := PE.of (pe_and ha hb) fun σ H Q h => by
  obtain ⟨ρ, st, μ, R, S, z, st', e, k⟩ := h
  obtain ⟨⟨x, st1⟩, e1, e⟩ := bind_some e
  refine ⟨ρ, st, μ, R, S, _, st1, bool_lift e1, fun v1 H1 μ1 E1 S1 r1 => ⟨x, r1, ?_⟩⟩
  have e' : (if x = true then fb ρ st1 else some (.bl false, st1)) = some (z, st') := e
  by_cases hx : x = true
  · rw [if_pos hx] at e' ⊢
    exact ⟨ρ, st1, μ1, R.ext E1, S1, z, st', e', fun v2 H2 μ2 E2 S2 r2 => k v2 H2 μ2 (E1.trans E2) S2 r2⟩
  · rw [if_neg hx] at e' ⊢
    cases e'
    exact k _ _ _ E1 S1 rfl
theorem q_orV {rest : List Expr} (ha : QE c X a fa) (hb : QE c X (.BoolOp .Or (b :: rest) pos) fb) : QE c X (.BoolOp .Or (a :: b :: rest) pos) (fOrV fa fb) := PE.of (pe_or ha hb) fun σ H Q h => by
  obtain ⟨ρ, st, μ, R, S, z, st', e, k⟩ := h
  obtain ⟨⟨x, st1⟩, e1, e⟩ := bind_some e
  refine ⟨ρ, st, μ, R, S, _, st1, bool_lift e1, fun v1 H1 μ1 E1 S1 r1 => ⟨x, r1, ?_⟩⟩
  have e' : (if x = true then some (.bl true, st1) else fb ρ st1) = some (z, st') := e
  by_cases hx : x = true
  · rw [if_pos hx] at e' ⊢
    cases e'
    exact k _ _ _ E1 S1 rfl
  · rw [if_neg hx] at e' ⊢
    exact ⟨ρ, st1, μ1, R.ext E1, S1, z, st', e', fun v2 H2 μ2 E2 S2 r2 => k v2 H2 μ2 (E1.trans E2) S2 r2⟩
theorem isEmpty_len {μ : List Addr} {ds : List D} {vs : List V} (h : RepL c μ H ds vs) : vs.isEmpty = ds.isEmpty := by
  cases ds with
  | nil => cases h; rfl
  | cons d ds => obtain ⟨v, r, rfl, _⟩ := h; rfl
theorem q_tru (hx : Cok c X) (ha : QE c X a fa) (he : ∀ whole, isTrue a X.env whole = (do let v ← whole; standAt a.pos; holding [v] (truthy v)) := by intro _; rfl) : QT c X a (fTru fa) := PT.of (pt_truth ha he) fun σ H Q h => by
  obtain ⟨ρ, st, μ, R, S, z, st', e, k⟩ := h
  obtain ⟨⟨x, st1⟩, e1, e⟩ := bind_some e
  refine ⟨ρ, st, μ, R, S, x, st1, e1, fun v1 H1 μ1 E1 S1 r1 => ?_⟩
  have e' : truD x st1 = some (z, st') := e
  clear e e1
  unfold truD at e'
  split at e'
  · cases e'; cases r1; exact ⟨_, rfl, k _ _ E1 S1⟩
  · cases e'; cases r1; exact ⟨_, rfl, k _ _ E1 S1⟩
  · cases e'; cases r1; exact ⟨_, rfl, k _ _ E1 S1⟩
  · cases e'
    obtain ⟨p, vs, rfl, h1, h2⟩ := r1
    exact ⟨_, .inr (.inl ⟨vs, sqT_K hx h1, by rw [isEmpty_len h2]⟩), k _ _ E1 S1⟩
  · split at e'
    · rename_i hn
      cases e'
      obtain ⟨p, vs, rfl, _, h1, h2⟩ := S1.lst hn r1
      exact ⟨_, .inl ⟨vs, SqL.of h1, by rw [isEmpty_len h2]⟩, k _ _ E1 S1⟩
    · cases e'
  · cases e'
theorem q_nil : QA c X [] fNil := PA.of pa_nil fun σ H Q ⟨ρ, st, μ, R, S, q⟩ => ResA.same q S RepL.nil
theorem q_cons (ha : QE c X e fa) (hr : QA c X es ga) (hs : starEach (e :: es) X.env = (false, eval e X.env) :: starEach es X.env := by rfl) : QA c X (e :: es) (fCons fa ga) := PA.of (pa_cons ha hr hs) fun σ H Q h => by
  obtain ⟨ρ, st, μ, R, S, z, st', e, k⟩ := h
  obtain ⟨⟨x, st1⟩, e1, e⟩ := bind_some e
  obtain ⟨⟨y, st2⟩, e2, e⟩ := Option.map_eq_some_iff.mp e
  cases e
  exact ⟨ρ, st, μ, R, S, x, st1, e1, fun v1 H1 μ1 E1 S1 r1 => ⟨ρ, st1, μ1, R.ext E1, S1, y, st2, e2, fun v2 H2 μ2 E2 S2 r2 => k _ H2 μ2 (E1.trans E2) S2 (RepL.cons (r1.ext E2) r2)⟩⟩
theorem app_lift {rd : DF} {Q : VK} (h : LE c (fApp rd ga) σ H Q) : LA c ga σ H (fun vs H1 => LC c rd vs H1 Q) := by
  obtain ⟨ρ, st, μ, R, S, z, st', e, k⟩ := h
  obtain ⟨⟨x, st1⟩, e1, e⟩ := bind_some e
  exact ⟨ρ, st, μ, R, S, x, st1, e1, fun v1 H1 μ1 E1 S1 r1 => ⟨μ1, st1, x, S1, r1, z, st', e, fun v2 H2 μ2 E2 S2 r2 => k _ H2 μ2 (E1.trans E2) S2 r2⟩⟩
theorem LA.mono {Q Q' : List V → Hp → Prop} (h : LA c ga σ H Q) (k : ∀ v H', Q v H' → Q' v H') : LA c ga σ H Q' := by
  obtain ⟨ρ, st, μ, R, S, z, st', e, kk⟩ := h
  exact ⟨ρ, st, μ, R, S, z, st', e, fun v H' μ' E S' rr => k _ _ (kk v H' μ' E S' rr)⟩
theorem q_tup {x1 : _} (h : QA c X es ga) : QE c X (.Tuple es x1 pos) (fTup ga) := PE.of (pe_tup h) fun σ H Q q => (app_lift q).mono fun vs H1 q => by
  obtain ⟨μ, st, ds, S, rr, z, st', e, k⟩ := q
  unfold tupD at e
  split at e
  · rename_i hl
    cases e
    exact ⟨by rw [rr.len]; exact top_le hl, fun p hp => Res.tup ⟨_, _, rfl, k⟩ S rr hp⟩
  · cases e
theorem q_lst (h : QA c X es ga) : QE c X (.List es pos) (fLst ga) := PE.of (pe_lst h) fun σ H Q q => (app_lift q).mono fun vs H1 q => by
  obtain ⟨μ, st, ds, S, rr, z, st', e, k⟩ := q
  unfold lstD at e
  split at e
  · rename_i hl
    cases e
    exact ⟨by rw [rr.len]; exact top_le hl, fun p hp => Res.pushL ⟨_, _, rfl, k⟩ S hp rr⟩
  · cases e
end
end Lw
end
section
set_option Elab.async false
set_option linter.all false
set_option autoImplicit false
set_option maxRecDepth 100000
/-! Dcall: subscripts, slices, calls, methods, fields. -/
namespace Lw
open PySem PySem.Spec PyProof.Rows L2

/-! ### subscripts -/
def ixD : D → D → Sto → Option (D × Sto)
  | .loc n, .int i, st => match st[n]? with
    | some (.lst xs) => (atI xs i).map fun d => (d, st)
    | _ => none
  | .tup xs, .int i, st => (atI xs i).map fun d => (d, st)
  | .str z, .int i, st => if z.length ≤ 100000 then (atI z.cps.toList i).map fun c => (.str ⟨#[c]⟩, st) else none
  | .rol ns, .int i, st => (atI ns i).map fun k => (.int k, st)
  | _, _, _ => none
section
variable {c : Cz} {X : Cx} {μ : List Addr} {H : Hp}
theorem atI_rep {ds : List D} {vs : List V} {i : Int} {d : D} (h : RepL c μ H ds vs) (e : atI ds i = some d) : ∃ v, atI vs i = some v ∧ Rep c μ H d v := by
  unfold atI at e ⊢
  rw [h.len]
  obtain ⟨j, e1, e2⟩ := bind_some e
  obtain ⟨v, h1, h2⟩ := RepL.get (i := j) h e2
  exact ⟨v, by rw [e1]; exact h1, h2⟩
theorem o_ix (hx : Cok c X) : IxR X (LR2 c ixD) := by
  refine IxR.of ix_seq fun x y H Q q => ?_
  obtain ⟨μ, st, d, e, S, rx, ry, z, st', e1, k⟩ := q
  unfold ixD at e1
  split at e1
  · split at e1
    · rename_i hn
      obtain ⟨w, hw, e2⟩ := Option.map_eq_some_iff.mp e1
      cases e2; cases ry
      obtain ⟨a, vs, rfl, _, h1, h2⟩ := S.lst hn rx
      obtain ⟨v, h3, h4⟩ := atI_rep h2 hw
      exact .inl ⟨a, vs, _, v, rfl, rfl, SqL.of h1, h3, k _ _ _ Ext.refl S h4⟩
    · cases e1
  · obtain ⟨w, hw, e2⟩ := Option.map_eq_some_iff.mp e1
    cases e2; cases ry
    obtain ⟨a, vs, rfl, h1, h2⟩ := rx
    obtain ⟨v, h3, h4⟩ := atI_rep h2 hw
    exact .inr (.inl ⟨a, vs, _, v, rfl, rfl, sqT_K hx h1, h3, k _ _ _ Ext.refl S h4⟩)
  · split at e1
    · rename_i hl
      obtain ⟨w, hw, e2⟩ := Option.map_eq_some_iff.mp e1
      cases e2; cases rx; cases ry
      exact .inr (.inr ⟨_, _, w, rfl, rfl, top_le hl, hw, k _ _ _ Ext.refl S rfl⟩)
    · cases e1
  · obtain ⟨w, hw, e2⟩ := Option.map_eq_some_iff.mp e1
    cases e2; cases ry
    obtain ⟨a, rfl, h1⟩ := rx
    refine .inl ⟨a, _, _, _, rfl, rfl, (by rw [hx.K]; exact h1.sq), (?_ : atI _ _ = some (V.int w)), k _ _ _ Ext.refl S rfl⟩
    unfold atI at hw ⊢
    obtain ⟨j, e1, e2⟩ := bind_some hw
    rw [List.length_map, e1]
    show (List.map V.int _)[j]? = _
    rw [List.getElem?_map, e2]; rfl
  · cases e1
theorem q_ix (hx : Cok c X) {a b : Expr} {fa fb : FE} {pos : Pos} (ha : QE c X a fa) (hb : QE c X b fb) (hs : PlainIx b := by intro _ _; rfl) : QE c X (.Subscript a b pos) (fOp ixD fa fb) := PE.of (pe_ix (o_ix hx) ha hb hs) fun _ _ _ => op_lift

/-! ### slices -/
abbrev FO := Env' → Sto → Option (Option Int × Sto)
def LO (c : Cz) (f : FO) : TO := fun σ H Q => ∃ ρ st μ, RelE c μ H ρ σ ∧ Stor c μ st H ∧ ∃ o st', f ρ st = some (o, st') ∧ ∀ H' μ', Ext μ H μ' H' → Stor c μ' st' H' → Q o H'
def foN : FO := fun _ st => some (none, st)
def int1 : D → Sto → Option (Option Int × Sto)
  | .int i, st => some (some i, st)
  | _, _ => none
def foS (f : FE) : FO := fun ρ st => (f ρ st).bind fun p => int1 p.1 p.2
theorem q_ono : PO X none (LO c foN) := ⟨fun pins s σ H Q I h => po_none.run pins s σ H Q I (by
  obtain ⟨ρ, st, μ, R, S, o, st', e, k⟩ := h
  cases e
  exact k _ _ Ext.refl S)⟩
theorem q_osome {e : Expr} {f : FE} (h : QE c X e f) : PO X (some e) (LO c (foS f)) := ⟨fun pins s σ H Q I q => (po_some h).run pins s σ H Q I (by
  obtain ⟨ρ, st, μ, R, S, o, st', e, k⟩ := q
  obtain ⟨⟨x, st1⟩, e1, e2⟩ := bind_some e
  refine ⟨ρ, st, μ, R, S, x, st1, e1, fun v H' μ' E S' rr => ?_⟩
  have e3 : int1 x st1 = some (o, st') := e2
  clear e2 e1
  unfold int1 at e3
  split at e3
  · cases e3
    exact ⟨_, rr, k _ _ E S'⟩
  · cases e3)⟩
def cutG {α : Type} (xs : List α) (lo hi : Option Int) : List α := (xs.drop (HT.sIx xs.length 0 lo)).take (HT.sIx xs.length xs.length hi - HT.sIx xs.length 0 lo)
def slD : D → Option Int → Option Int → Sto → Option (D × Sto)
  | .tup xs, lo, hi, st => some (.tup (cutG xs lo hi), st)
  | .str z, lo, hi, st => if z.length ≤ 100000 then some (.str (cutS z lo hi), st) else none
  | .loc n, lo, hi, st => match st[n]? with
    | some (.lst xs) => some (.loc st.length, st ++ [.lst (cutG xs lo hi)])
    | _ => none
  | _, _, _, _ => none
def fSl (fe : FE) (fl fh : FO) : FE := fun ρ st => (fe ρ st).bind fun p => (fl ρ p.2).bind fun l => (fh ρ l.2).bind fun h => slD p.1 l.1 h.1 h.2
theorem cut_rep {ds : List D} {vs : List V} (h : RepL c μ H ds vs) (lo hi : Option Int) : RepL c μ H (cutG ds lo hi) (cutV vs lo hi) := by
  unfold cutG cutV
  rw [h.len]
  exact (h.drop _).take _
theorem cut_whole {α : Type} {xs : List α} {lo hi : Option Int} (h : HT.sIx xs.length 0 lo = 0 ∧ HT.sIx xs.length xs.length hi = xs.length) : cutG xs lo hi = xs := by
  unfold cutG
  rw [h.1, h.2, List.drop_zero, Nat.sub_zero, List.take_length]
def LSl (c : Cz) : V → Option Int → Option Int → Hp → VK → Prop := fun x lo hi H Q => ∃ μ st d, Stor c μ st H ∧ Rep c μ H d x ∧ Res c μ H (slD d lo hi st) Q
theorem SlR.of {r r' : V → Option Int → Option Int → Hp → VK → Prop} (h : SlR X r) (i : ∀ x lo hi H Q, r' x lo hi H Q → r x lo hi H Q) : SlR X r' :=
  fun pins s σ H x v vl vu lo hi sl Q I a b d e q => h pins s σ H x v vl vu lo hi sl Q I a b d e (i _ _ _ _ _ q)
theorem o_sl (hx : Cok c X) : SlR X (LSl c) := by
  refine SlR.of (sl_tupA.or (sl_str.or sl_list)) fun x lo hi H Q q => ?_
  obtain ⟨μ, st, d, S, rx, z, st', e, k⟩ := q
  unfold slD at e
  split at e
  · rename_i xs
    cases e
    obtain ⟨a, vs, rfl, h1, h2⟩ := rx
    refine .inl ⟨a, vs, rfl, sqT_K hx h1, fun w => ?_, fun w p hp => ?_⟩
    · rw [h2.len] at w
      refine k _ _ _ Ext.refl S ⟨a, vs, rfl, h1, ?_⟩
      rw [cut_whole w]; exact h2
    · exact Res.tup ⟨_, _, rfl, k⟩ S (cut_rep h2 lo hi) hp
  · split at e
    · rename_i hl
      cases e; cases rx
      exact .inr (.inl ⟨_, rfl, top_le hl, k _ _ _ Ext.refl S rfl⟩)
    · cases e
  · split at e
    · rename_i hn
      cases e
      obtain ⟨a, vs, rfl, _, h1, h2⟩ := S.lst hn rx
      exact .inr (.inr ⟨a, vs, rfl, SqL.of h1, fun p hp => Res.pushL ⟨_, _, rfl, k⟩ S hp (cut_rep h2 lo hi)⟩)
    · cases e
  · cases e
theorem q_sl (hx : Cok c X) {e : Expr} {lo hi : Option Expr} {fe : FE} {fl fh : FO} {pos p2 : Pos} (he : QE c X e fe) (hl : PO X lo (LO c fl)) (hu : PO X hi (LO c fh)) : QE c X (.Subscript e (.Slice lo hi none p2) pos) (fSl fe fl fh) :=
  PE.of (pe_slice (o_sl hx) he hl hu) fun σ H Q q => by
  obtain ⟨ρ, st, μ, R, S, z, st', e, k⟩ := q
  obtain ⟨⟨x, st1⟩, e1, e⟩ := bind_some e
  obtain ⟨⟨l, st2⟩, e2, e⟩ := bind_some e
  obtain ⟨⟨h, st3⟩, e3, e⟩ := bind_some e
  exact ⟨ρ, st, μ, R, S, x, st1, e1, fun v1 H1 μ1 E1 S1 r1 => ⟨ρ, st1, μ1, R.ext E1, S1, l, st2, e2, fun H2 μ2 E2 S2 => ⟨ρ, st2, μ2, R.ext (E1.trans E2), S2, h, st3, e3, fun H3 μ3 E3 S3 =>
    ⟨μ3, st3, x, S3, r1.ext (E2.trans E3), z, st', e, fun v H' μ' E4 S4 r4 => k v H' μ' (((E1.trans E2).trans E3).trans E4) S4 r4⟩⟩⟩⟩

/-! ### calls of built-in functions -/
theorem q_callB {id : String} {x : Str} {rd : DF} {e : Expr} {es : List Expr} {ga : FA} {p pos : Pos} (hc : CallR X (.builtin id) (LC c rd)) (hm : X.mg x = none) (hv : bootBuiltins x = some (.builtin id)) (ha : QA c X (e :: es) ga) (hg : Gl X x := by rfl) (hn : x ≠ "__name__" := by decide) (hdb : (x == ("__debug__" : Str)) = false := by decide)
    (he : starEach (e :: es) X.env = (false, eval e X.env) :: starEach es X.env := by rfl) (hpl : (backTo pos (starEach es X.env)).any (·.1) = false := by rfl) : QE c X (.Call (.Name x p) (e :: es) [] pos) (fApp rd ga) :=
  PE.of (pe_callB hc hg hm hv ha hn hdb he hpl) fun _ _ _ => app_lift
theorem q_callTy {T : String} {x : Str} {rd : DF} {e : Expr} {es : List Expr} {ga : FA} {p pos : Pos} (hc : CallR X (.type T) (LC c rd)) (hm : X.mg x = none) (hv : bootBuiltins x = some (.type T)) (ha : QA c X (e :: es) ga) (hg : Gl X x := by rfl) (hn : x ≠ "__name__" := by decide) (hdb : (x == ("__debug__" : Str)) = false := by decide)
    (he : starEach (e :: es) X.env = (false, eval e X.env) :: starEach es X.env := by rfl) (hpl : (backTo pos (starEach es X.env)).any (·.1) = false := by rfl) : QE c X (.Call (.Name x p) (e :: es) [] pos) (fApp rd ga) :=
  PE.of (pe_callTy hc hg hm hv ha hn hdb he hpl) fun _ _ _ => app_lift
def lenD : DF
  | [.str s], st => if s.length ≤ 100000 then some (.int s.length, st) else none
  | [.tup xs], st => some (.int xs.length, st)
  | [.rol xs], st => some (.int xs.length, st)
  | [.loc n], st => match st[n]? with
    | some (.lst xs) => some (.int xs.length, st)
    | _ => none
  | _, _ => none
theorem rep1 {d : D} {xs : List V} (h : RepL c μ H [d] xs) : ∃ v, xs = [v] ∧ Rep c μ H d v := by
  obtain ⟨v, r, rfl, h1, h2⟩ := h
  cases h2
  exact ⟨v, rfl, h1⟩
theorem o_len (hx : Cok c X) : CallR X (.builtin "len") (LC c lenD) := CallR.of call_len fun xs H Q q => by
  obtain ⟨μ, st, ds, S, rr, z, st', e, k⟩ := q
  unfold lenD at e
  split at e
  · split at e
    · rename_i hl
      cases e
      obtain ⟨v, rfl, h⟩ := rep1 rr
      cases h
      exact ⟨_, _, rfl, ⟨top_le hl, rfl⟩, k _ _ _ Ext.refl S rfl⟩
    · cases e
  · cases e
    obtain ⟨v, rfl, a, vs, rfl, h1, h2⟩ := rep1 rr
    exact ⟨_, _, rfl, .inr ⟨vs, sqT_K hx h1, h2.len.symm⟩, k _ _ _ Ext.refl S rfl⟩
  · cases e
    obtain ⟨v, rfl, a, rfl, h1⟩ := rep1 rr
    exact ⟨_, _, rfl, .inl ⟨_, (by rw [hx.K]; exact h1.sq), (List.length_map _).symm⟩, k _ _ _ Ext.refl S rfl⟩
  · split at e
    · rename_i hn
      cases e
      obtain ⟨v, rfl, h⟩ := rep1 rr
      obtain ⟨a, vs, rfl, _, h1, h2⟩ := S.lst hn h
      exact ⟨_, _, rfl, .inl ⟨vs, SqL.of h1, h2.len.symm⟩, k _ _ _ Ext.refl S rfl⟩
    · cases e
  · cases e
def absD : DF
  | [.int i], st => some (.int (if i < 0 then -i else i), st)
  | _, _ => none
theorem o_abs : CallR X (.builtin "abs") (LC c absD) := CallR.of call_abs fun xs H Q q => by
  obtain ⟨μ, st, ds, S, rr, z, st', e, k⟩ := q
  unfold absD at e
  split at e
  · cases e
    obtain ⟨v, rfl, h⟩ := rep1 rr
    cases h
    exact ⟨_, rfl, k _ _ _ Ext.refl S rfl⟩
  · cases e
def intD : DF
  | [.int i], st => some (.int i, st)
  | [.bl b], st => some (.int (if b = true then 1 else 0), st)
  | _, _ => none
theorem o_int1 : CallR X (.type "int") (LC c intD) := CallR.of call_int1 fun xs H Q q => by
  obtain ⟨μ, st, ds, S, rr, z, st', e, k⟩ := q
  unfold intD at e
  split at e
  · cases e
    obtain ⟨v, rfl, h⟩ := rep1 rr
    cases h
    exact .inl ⟨_, rfl, k _ _ _ Ext.refl S rfl⟩
  · cases e
    obtain ⟨v, rfl, h⟩ := rep1 rr
    cases h
    exact .inr ⟨_, rfl, k _ _ _ Ext.refl S rfl⟩
  · cases e
def listD : DF
  | [.tup xs], st => some (.loc st.length, st ++ [.lst xs])
  | [.rol ns], st => some (.loc st.length, st ++ [.lst (ns.map .int)])
  | [.loc n], st => match st[n]? with
    | some (.lst xs) => some (.loc st.length, st ++ [.lst xs])
    | _ => none
  | _, _ => none
theorem o_list (hx : Cok c X) : CallR X (.type "list") (LC c listD) := CallR.of call_list_of fun xs H Q q => by
  obtain ⟨μ, st, ds, S, rr, z, st', e, k⟩ := q
  unfold listD at e
  split at e
  · cases e
    obtain ⟨v, rfl, a, vs, rfl, h1, h2⟩ := rep1 rr
    exact ⟨a, vs, rfl, .inr (sqT_K hx h1), fun l hl => Res.pushL ⟨_, _, rfl, k⟩ S hl h2⟩
  · cases e
    obtain ⟨v, rfl, a, rfl, h1⟩ := rep1 rr
    exact ⟨a, _, rfl, .inl (by rw [hx.K]; exact h1.sq), fun l hl => Res.pushL ⟨_, _, rfl, k⟩ S hl (RepL.ints _)⟩
  · split at e
    · rename_i hn
      cases e
      obtain ⟨v, rfl, h⟩ := rep1 rr
      obtain ⟨a, vs, rfl, _, h1, h2⟩ := S.lst hn h
      exact ⟨a, vs, rfl, .inl (SqL.of h1), fun l hl => Res.pushL ⟨_, _, rfl, k⟩ S hl h2⟩
    · cases e
  · cases e
def tupleD : DF
  | [.tup xs], st => some (.tup xs, st)
  | [.loc n], st => match st[n]? with
    | some (.lst xs) => some (.tup xs, st)
    | _ => none
  | _, _ => none
theorem o_tuple (hx : Cok c X) : CallR X (.type "tuple") (LC c tupleD) := CallR.of call_tuple_of fun xs H Q q => by
  obtain ⟨μ, st, ds, S, rr, z, st', e, k⟩ := q
  unfold tupleD at e
  split at e
  · cases e
    obtain ⟨v, rfl, a, vs, rfl, h1, h2⟩ := rep1 rr
    exact ⟨a, vs, rfl, .inr ⟨sqT_K hx h1, k _ _ _ Ext.refl S ⟨a, vs, rfl, h1, h2⟩⟩⟩
  · split at e
    · rename_i hn
      cases e
      obtain ⟨v, rfl, h⟩ := rep1 rr
      obtain ⟨a, vs, rfl, _, h1, h2⟩ := S.lst hn h
      exact ⟨a, vs, rfl, .inl ⟨SqL.of h1, fun l hl => Res.tup ⟨_, _, rfl, k⟩ S h2 hl⟩⟩
    · cases e
  · cases e

/-! ### methods of built-in types -/
/-- the type asked -/
def isTy (T : String) (d : D) (st : Sto) : Bool := match d with
  | .str _ => decide (T = "str")
  | .loc n => match st[n]? with
    | some (.lst _) => decide (T = "list")
    | _ => false
  | _ => false
theorem ty_of {T : String} {d : D} {st : Sto} {v : V} (S : Stor c μ st H) (h : isTy T d st = true) (r : Rep c μ H d v) : tyV X.K T v H := by
  unfold isTy at h
  split at h
  · cases r; exact (of_decide_eq_true h : T = "str")
  · split at h
    · rename_i hn
      obtain ⟨a, vs, rfl, _, h1, h2⟩ := S.lst hn r
      exact .inl ⟨of_decide_eq_true h, vs, SqL.of h1⟩
    · cases h
  · cases h
def fBm (T : String) (r : D → DF) (fo : FE) (ga : FA) : FE := fun ρ st => (fo ρ st).bind fun p => if isTy T p.1 p.2 = true then (ga ρ p.2).bind fun q => r p.1 q.1 q.2 else none
theorem q_bm {T id : String} {name : Str} {o e : Expr} {es : List Expr} {rd : D → DF} {fo : FE} {ga : FA} {apos cpos : Pos} (pa : PlainAttrs T) (slot : Slot T name id) (hty : typeOf (.builtin id) = pure (.type "method_descriptor")) (hm : MtR X id (LM c rd)) (ho : QE c X o fo) (ha : QA c X (e :: es) ga)
    (hbase : attributeBase o name X.env (eval o X.env) = eval o X.env := by rfl)
    (hfew : ((backTo cpos (starEach (e :: es) X.env)).all (fun x => !x.1) && (backToKw cpos (keywordEach [] X.env)).all (fun x => x.1.isSome)
      && decide ((e :: es).length + ([] : List Keyword).length + (if ([] : List Keyword).isEmpty then 0 else 1) < 30)) = true := by rfl)
    (hline : (apos.endLine == cpos.line) = true := by rfl) (hs : starEach (e :: es) X.env = (false, eval e X.env) :: starEach es X.env := by rfl) (hplain : (backTo cpos (starEach es X.env)).any (·.1) = false := by rfl) :
    QE c X (.Call (.Attribute o name apos) (e :: es) [] cpos) (fBm T rd fo ga) := PE.of (pe_bm pa slot hty hm ho ha hbase hfew hline hs hplain) fun σ H Q q => by
  obtain ⟨ρ, st, μ, R, S, z, st', e, k⟩ := q
  obtain ⟨⟨x, st1⟩, e1, e⟩ := bind_some e
  have e' : (if isTy T x st1 = true then (ga ρ st1).bind fun q => rd x q.1 q.2 else none) = some (z, st') := e
  split at e'
  · rename_i ht
    obtain ⟨⟨y, st2⟩, e2, e3⟩ := bind_some e'
    exact ⟨ρ, st, μ, R, S, x, st1, e1, fun v1 H1 μ1 E1 S1 r1 => ⟨ty_of S1 ht r1, ρ, st1, μ1, R.ext E1, S1, y, st2, e2, fun v2 H2 μ2 E2 S2 r2 => ⟨μ2, st2, x, y, S2, r1.ext E2, r2, z, st', e3, fun v H' μ' E3 S3 r3 => k v H' μ' ((E1.trans E2).trans E3) S3 r3⟩⟩⟩
  · cases e'
theorem q_bm0 {T id : String} {name : Str} {o : Expr} {rd : D → DF} {fo : FE} {apos cpos : Pos} (pa : PlainAttrs T) (slot : Slot T name id) (hty : typeOf (.builtin id) = pure (.type "method_descriptor")) (hm : MtR X id (LM c rd)) (ho : QE c X o fo)
    (hbase : attributeBase o name X.env (eval o X.env) = eval o X.env := by rfl) (hline : (apos.endLine == cpos.line) = true := by rfl) : QE c X (.Call (.Attribute o name apos) [] [] cpos) (fBm T rd fo fNil) := PE.of (pe_bm0 pa slot hty hm ho hbase hline) fun σ H Q q => by
  obtain ⟨ρ, st, μ, R, S, z, st', e, k⟩ := q
  obtain ⟨⟨x, st1⟩, e1, e⟩ := bind_some e
  have e' : (if isTy T x st1 = true then (fNil ρ st1).bind fun q => rd x q.1 q.2 else none) = some (z, st') := e
  split at e'
  · rename_i ht
    exact ⟨ρ, st, μ, R, S, x, st1, e1, fun v1 H1 μ1 E1 S1 r1 => ⟨ty_of S1 ht r1, μ1, st1, x, [], S1, r1, RepL.nil, z, st', e', fun v H' μ' E3 S3 r3 => k v H' μ' (E1.trans E3) S3 r3⟩⟩
  · cases e'
def appendD : D → DF
  | .loc n, [y], st => match st[n]? with
    | some (.lst xs) => if xs.length < 100000 then some (.non, st.set n (.lst (xs ++ [y]))) else none
    | _ => none
  | _, _, _ => none
theorem o_append : MtR X "list.append" (LM c appendD) := MtR.of mt_append fun x xs H Q q => by
  obtain ⟨μ, st, d, ds, S, rx, rr, z, st', e, k⟩ := q
  unfold appendD at e
  split at e
  · split at e
    · rename_i hn
      split at e
      · rename_i hl
        cases e
        obtain ⟨v, rfl, h⟩ := rep1 rr
        obtain ⟨a, vs, rfl, h0, h1, h2⟩ := S.lst hn rx
        refine ⟨a, vs, v, rfl, rfl, h1, by rw [h2.len]; exact top_lt hl, ?_⟩
        exact Res.write ⟨_, _, rfl, k⟩ S hn h0 ⟨_, upd_same, (h2.append (RepL.cons h RepL.nil)).ext (Ext.write S hn h0)⟩ rfl
      · cases e
    · cases e
  · cases e
def popD : D → DF
  | .loc n, [], st => match st[n]? with
    | some (.lst xs) => (xs[xs.length - 1]?).map fun y => (y, st.set n (.lst xs.dropLast))
    | _ => none
  | .loc n, [.int i], st => match st[n]? with
    | some (.lst (y :: xs)) => if i = 0 then some (y, st.set n (.lst xs)) else none
    | _ => none
  | _, _, _ => none
theorem RepL.dropLast {ds : List D} {vs : List V} (h : RepL c μ H ds vs) : RepL c μ H ds.dropLast vs.dropLast := by
  rw [List.dropLast_eq_take, List.dropLast_eq_take, h.len]
  exact h.take _
theorem o_pop : MtR X "list.pop" (LM c popD) := MtR.of (MtR.or mt_pop mt_popAt) fun x xs H Q q => by
  obtain ⟨μ, st, d, ds, S, rx, rr, z, st', e, k⟩ := q
  unfold popD at e
  split at e
  · split at e
    · rename_i hn
      obtain ⟨y, e1, e2⟩ := Option.map_eq_some_iff.mp e
      cases e2; cases rr
      obtain ⟨a, vs, rfl, h0, h1, h2⟩ := S.lst hn rx
      obtain ⟨v, h3, h4⟩ := RepL.get h2 e1
      refine .inl ⟨a, vs, v, rfl, rfl, h1, by rw [h2.len]; exact h3, ?_⟩
      exact Res.write ⟨_, _, rfl, k⟩ S hn h0 ⟨_, upd_same, h2.dropLast.ext (Ext.write S hn h0)⟩ h4
    · cases e
  · split at e
    · rename_i hn
      split at e
      · rename_i hi
        cases e
        subst hi
        obtain ⟨v, rfl, h⟩ := rep1 rr
        cases h
        obtain ⟨a, vs, rfl, h0, h1, h2⟩ := S.lst hn rx
        obtain ⟨v, r, rfl, h3, h4⟩ := h2
        refine .inr ⟨a, v :: r, 0, 0, v, rfl, rfl, h1, by decide, by decide, ?_, rfl, ?_⟩
        · unfold seqIndex?
          simp
        · exact Res.write ⟨_, _, rfl, k⟩ S hn h0 ⟨_, upd_same, h4.ext (Ext.write S hn h0)⟩ h3
      · cases e
    · cases e
  · cases e
def reverseD : D → DF
  | .loc n, [], st => match st[n]? with
    | some (.lst xs) => some (.non, st.set n (.lst xs.reverse))
    | _ => none
  | _, _, _ => none
theorem o_reverse : MtR X "list.reverse" (LM c reverseD) := MtR.of mt_reverse fun x xs H Q q => by
  obtain ⟨μ, st, d, ds, S, rx, rr, z, st', e, k⟩ := q
  unfold reverseD at e
  split at e
  · split at e
    · rename_i hn
      cases e; cases rr
      obtain ⟨a, vs, rfl, h0, h1, h2⟩ := S.lst hn rx
      refine ⟨a, vs, rfl, rfl, h1, ?_⟩
      exact Res.write ⟨_, _, rfl, k⟩ S hn h0 ⟨_, upd_same, h2.reverse.ext (Ext.write S hn h0)⟩ rfl
    · cases e
  · cases e
def joinD : D → DF
  | .str a, [.loc n], st => match st[n]? with
    | some (.lst xs) => (strsD xs).bind fun ys => if (ys.map (·.length)).sum + ys.length * a.length ≤ 100000 then some (.str (Txt.join a ys), st) else none
    | _ => none
  | _, _, _ => none
theorem o_join : MtR X "str.join" (LM c joinD) := MtR.of mt_join fun x xs H Q q => by
  obtain ⟨μ, st, d, ds, S, rx, rr, z, st', e, k⟩ := q
  unfold joinD at e
  split at e
  · split at e
    · rename_i hn
      obtain ⟨ys, e1, e2⟩ := bind_some e
      split at e2
      · rename_i hl
        cases e2; cases rx
        obtain ⟨v, rfl, h⟩ := rep1 rr
        obtain ⟨p, vs, rfl, h0, h1, h2⟩ := S.lst hn h
        rw [strsD_some e1] at h2
        cases RepL.strs_inv h2
        exact ⟨_, p, ys, rfl, rfl, .inl (SqL.of h1), Nat.le_trans hl (by decide), k _ _ _ Ext.refl S rfl⟩
      · cases e2
    · cases e
  · cases e
end
end Lw
end
section
set_option Elab.async false
set_option linter.all false
set_option autoImplicit false
set_option maxRecDepth 100000
/-! Dobj: dicts, instances, calls of one's own defs. -/
namespace Lw
open PySem PySem.Spec PyProof.Rows L2

/-! ### dicts with plain keys -/
def keyA : D → Option Key
  | .int i => some (.inl i)
  | .str s => some (.inr s)
  | _ => none
def pA (kvs : List (Key × D)) (k : Key) (v : D) : List (Key × D) := if (kvs.any fun kv => decide (kv.1 = k)) = true then kvs.map (fun kv => if kv.1 = k then (kv.1, v) else kv) else kvs ++ [(k, v)]
section
variable {c : Cz} {X : Cx} {μ : List Addr} {H : Hp}
theorem any_keys {α β : Type} (k : Key) : ∀ {ws : List (Key × α)} {kvs : List (Key × β)}, ws.map (·.1) = kvs.map (·.1) → (ws.any fun kv => decide (kv.1 = k)) = kvs.any fun kv => decide (kv.1 = k)
  | [], [], _ => rfl
  | [], _ :: _, e => by simp at e
  | _ :: _, [], e => by simp at e
  | p :: ws, q :: kvs, e => by
    rw [List.map_cons, List.map_cons] at e
    injection e with e1 e2
    rw [List.any_cons, List.any_cons, e1, any_keys k e2]
theorem pA_keys {ws : List (Key × V)} {kvs : List (Key × D)} (h : ws.map (·.1) = kvs.map (·.1)) (k : Key) (v : V) (d : D) : (putK ws k v).map (·.1) = (pA kvs k d).map (·.1) := by
  unfold putK pA
  rw [any_keys k h]
  split
  · rw [List.map_map, List.map_map]
    have e1 : ((fun x : Key × V => x.1) ∘ fun x => if x.1 = k then (x.1, v) else x) = fun x => x.1 := by
      funext x; show (if x.1 = k then (x.1, v) else x).1 = x.1; split <;> rfl
    have e2 : ((fun x : Key × D => x.1) ∘ fun x => if x.1 = k then (x.1, d) else x) = fun x => x.1 := by
      funext x; show (if x.1 = k then (x.1, d) else x).1 = x.1; split <;> rfl
    rw [e1, e2]
    exact h
  · rw [List.map_append, List.map_append, h]
    rfl
theorem pA_vals {k : Key} {v : V} {d : D} (hv : Rep c μ H d v) : ∀ {ws : List (Key × V)} {kvs : List (Key × D)}, ws.map (·.1) = kvs.map (·.1) → RepL c μ H (kvs.map (·.2)) (ws.map (·.2)) →
    RepL c μ H ((kvs.map fun x => if x.1 = k then (x.1, d) else x).map (·.2)) ((ws.map fun x => if x.1 = k then (x.1, v) else x).map (·.2))
  | [], [], _, _ => RepL.nil
  | [], _ :: _, e, _ => by simp at e
  | _ :: _, [], e, _ => by simp at e
  | p :: ws, q :: kvs, e, r => by
    rw [List.map_cons, List.map_cons] at e
    injection e with e1 e2
    obtain ⟨z, r', er, r1, r2⟩ := r
    injection er with er1 er2
    subst er1 er2
    rw [List.map_cons, List.map_cons, List.map_cons, List.map_cons]
    refine RepL.cons ?_ (pA_vals hv e2 r2)
    by_cases h : p.1 = k
    · rw [if_pos h, if_pos (e1 ▸ h)]; exact hv
    · rw [if_neg h, if_neg (e1 ▸ h)]; exact r1
theorem pA_repl {k : Key} {v : V} {d : D} {ws : List (Key × V)} {kvs : List (Key × D)} (hv : Rep c μ H d v) (h1 : ws.map (·.1) = kvs.map (·.1)) (h2 : RepL c μ H (kvs.map (·.2)) (ws.map (·.2))) : RepL c μ H ((pA kvs k d).map (·.2)) ((putK ws k v).map (·.2)) := by
  unfold putK pA
  rw [any_keys k h1]
  split
  · exact pA_vals hv h1 h2
  · rw [List.map_append, List.map_append]
    exact h2.append (RepL.cons hv RepL.nil)
theorem keyA_is {d : D} {k : Key} {v : V} (h : keyA d = some k) (r : Rep c μ H d v) : v = kV k := by
  unfold keyA at h
  split at h
  · cases h; exact r
  · cases h; exact r
  · cases h
end

/-! ### d[k] = v -/
def putD : D → D → D → Sto → Option Sto
  | .loc n, k, v, st => match st[n]? with
    | some (.dT kvs) => (keyT k).bind fun kk => if kvs.length < 100000 then some (st.set n (.dT (pT kvs kk v))) else none
    | some (.dA kvs) => (keyA k).bind fun kk => if kvs.length < 100000 then some (st.set n (.dA (pA kvs kk v))) else none
    | _ => none
  | _, _, _, _ => none
def sPut (fo fi fv : FE) : FS := fun ρ st => (fv ρ st).bind fun v => (fo ρ v.2).bind fun o => (fi ρ o.2).bind fun i => (putD o.1 i.1 v.1 i.2).map fun st' => .nx ρ st'
def getD' : D → D → Sto → Option (D × Sto)
  | .loc n, k, st => match st[n]? with
    | some (.dT kvs) => (keyT k).bind fun kk => (gT kvs kk).map fun d => (d, st)
    | _ => none
  | _, _, _ => none
def isDT (d : D) (st : Sto) : Bool := match d with
  | .loc n => match st[n]? with
    | some (.dT _) => true
    | _ => false
  | _ => false
def getOrD : D → D → D → Sto → Option (D × Sto)
  | .loc n, k, z, st => match st[n]? with
    | some (.dT kvs) => (keyT k).map fun kk => ((gT kvs kk).getD z, st)
    | _ => none
  | _, _, _, _ => none
def fGet2 (fo fe ff : FE) : FE := fun ρ st => (fo ρ st).bind fun p => if isDT p.1 p.2 = true then (fe ρ p.2).bind fun q => (ff ρ q.2).bind fun w => getOrD p.1 q.1 w.1 w.2 else none
section
variable {c : Cz} {X : Cx} {μ : List Addr} {H : Hp} {pins : List (Addr × Obj)} {σ : L2.St} {s : Shared} {st : Sto}
/-- the store behind d[k] = v -/
theorem put_ok (hx : Cok c X) (I : Inv X pins σ H s) (S : Stor c μ st H) {o i v : D} {st' : Sto} (h : putD o i v st = some st') {x y z : V} {u w r : Value} (ro : Rep c μ H o x) (ri : Rep c μ H i y) (rv : Rep c μ H v z) (ru : RelV x u) (rw' : RelV y w) (rr : RelV z r)
    {Q : Unit → Shared → Prop} {E : Value → Shared → Prop} (q : ∀ s' H', Inv X pins σ H' s' → Ext μ H μ H' → Stor c μ st' H' → Q () s') : wpAny (model X.prog X.w) X.A (setItem u w r) Q E s := by
  unfold putD at h
  split at h
  · split at h
    · rename_i n
      obtain ⟨k, e1, e2⟩ := bind_some h
      split at e2
      · rename_i hl
        cases e2
        obtain ⟨a, ws, rfl, ha, hd⟩ := S.dT n ro
        obtain ⟨b, rfl, k1, k2⟩ := keyT_is e1 ri
        cases (show u = Value.ref a from ru)
        cases (show w = Value.ref b from rw')
        exact t_set hx I S n ha hd k1 k2 rv rr hl fun s' H' I' E' S' => q s' H' I' E' S'
      · cases e2
    · rename_i n
      obtain ⟨k, e1, e2⟩ := bind_some h
      split at e2
      · rename_i hl
        cases e2
        obtain ⟨a, ws, rfl, ha, hd, h1, h2⟩ := S.dA n ro
        cases keyA_is e1 ri
        cases (show u = Value.ref a from ru)
        have lw := congrArg List.length h1
        rw [List.length_map, List.length_map] at lw
        refine d_setItem hx.u1 I (DPut.k (k := k) hd (by rw [lw]; exact top_lt hl)) rw' rr fun s' I' => ?_
        have E1 : Ext μ H μ (upd H a (.dK (putK ws k z))) := Ext.write S n ha
        exact q s' _ I' E1 (S.write n ha ⟨_, upd_same, pA_keys h1 k z v, pA_repl (rv.ext E1) h1 (h2.ext E1)⟩)
      · cases e2
    · cases h
  · cases h
theorem q_put (hx : Cok c X) {o i value : Expr} {fo fi fv : FE} {pos pos' : Pos} (ho : QE c X o fo) (hi : QE c X i fi) (hv : QE c X value fv) (hs : swapsWith value (some (.Subscript o i pos')) pos.line X.env = pure false := by rfl) : QS c X (.Assign [.Subscript o i pos'] value pos) (sPut fo fi fv) := by
  refine ⟨fun pins s σ H D I h => ?_⟩
  obtain ⟨ρ, st, μ, R, S, o', e, k⟩ := h
  obtain ⟨⟨v, st1⟩, e1, e⟩ := bind_some e
  obtain ⟨⟨ob, st2⟩, e2, e⟩ := bind_some e
  obtain ⟨⟨ix, st3⟩, e3, e⟩ := bind_some e
  obtain ⟨st4, e4, e⟩ := Option.map_eq_some_iff.mp e
  cases e
  refine wpAny_Assign_Subscript (thn (hv.run pins s σ H (fun x H1 => ∃ μ1, Ext μ H μ1 H1 ∧ Stor c μ1 st1 H1 ∧ Rep c μ1 H1 v x) I ⟨ρ, st, μ, R, S, v, st1, e1, fun v1 H1 μ1 E1 S1 r1 => ⟨μ1, E1, S1, r1⟩⟩) fun r s1 ⟨x, H1, I1, rx, μ1, E1, S1, r1⟩ =>
    thn (ho.run pins s1 σ H1 (fun x H2 => ∃ μ2, Ext μ1 H1 μ2 H2 ∧ Stor c μ2 st2 H2 ∧ Rep c μ2 H2 ob x) I1 ⟨ρ, st1, μ1, R.ext E1, S1, ob, st2, e2, fun v1 H1 μ1 E1 S1 r1 => ⟨μ1, E1, S1, r1⟩⟩) fun u s2 ⟨y, H2, I2, ry, μ2, E2, S2, r2⟩ =>
    thn (hi.run pins s2 σ H2 (fun x H3 => ∃ μ3, Ext μ2 H2 μ3 H3 ∧ Stor c μ3 st3 H3 ∧ Rep c μ3 H3 ix x) I2 ⟨ρ, st2, μ2, R.ext (E1.trans E2), S2, ix, st3, e3, fun v1 H1 μ1 E1 S1 r1 => ⟨μ1, E1, S1, r1⟩⟩) fun w s3 ⟨z, H3, I3, rz, μ3, E3, S3, r3⟩ => ?_) hs
  refine put_ok hx I3 S3 e4 (r2.ext E3) r3 (r1.ext (E2.trans E3)) ry rz rx fun s4 H4 I4 E4 S4 => ?_
  exact ⟨σ, H4, I4, k σ H4 μ3 (((E1.trans E2).trans E3).trans E4) S4 (R.ext (((E1.trans E2).trans E3).trans E4))⟩
/-- d[k], d a dict with tuple keys -/
theorem q_get (hx : Cok c X) {o i : Expr} {fo fi : FE} {pos : Pos} (ho : QE c X o fo) (hi : QE c X i fi) (hs : NoSl i := by intro _ _; rfl) : QE c X (.Subscript o i pos) (fOp getD' fo fi) := by
  refine ⟨fun pins s σ H Q I h => ?_⟩
  obtain ⟨ρ, st, μ, R, S, z, st', e, k⟩ := h
  obtain ⟨⟨x, st1⟩, e1, e⟩ := bind_some e
  obtain ⟨⟨y, st2⟩, e2, e⟩ := bind_some e
  refine subD_of PySem.F.slot_dict_getitem.lookup hs (thn (ho.run pins s σ H (fun v H1 => ∃ μ1, Ext μ H μ1 H1 ∧ Stor c μ1 st1 H1 ∧ Rep c μ1 H1 x v) I ⟨ρ, st, μ, R, S, x, st1, e1, fun v1 H1 μ1 E1 S1 r1 => ⟨μ1, E1, S1, r1⟩⟩) fun u s1 ⟨v, H1, I1, rv, μ1, E1, S1, r1⟩ =>
    thn (hi.run pins s1 σ H1 (fun w H2 => ∃ μ2, Ext μ1 H1 μ2 H2 ∧ Stor c μ2 st2 H2 ∧ Rep c μ2 H2 y w) I1 ⟨ρ, st1, μ1, R.ext E1, S1, y, st2, e2, fun v1 H1 μ1 E1 S1 r1 => ⟨μ1, E1, S1, r1⟩⟩) fun iv s2 ⟨w, H2, I2, rw', μ2, E2, S2, r2⟩ => ?_)
  have e' : getD' x y st2 = some (z, st') := e
  unfold getD' at e'
  split at e'
  · split at e'
    · rename_i hn
      obtain ⟨kk, e3, e4⟩ := bind_some e'
      obtain ⟨d, e5, e6⟩ := Option.map_eq_some_iff.mp e4
      cases e6
      obtain ⟨a, ws, rfl, ha, hd⟩ := S2.dT hn (r1.ext E2)
      obtain ⟨b, rfl, k1, k2⟩ := keyT_is e3 r2
      cases (show u = Value.ref a from rv)
      cases (show iv = Value.ref b from rw')
      obtain ⟨xs, _, hm, _⟩ := hd.heap hx I2
      refine ⟨hm.typeIs, t_get hx I2 hd k1 k2 e5 fun v u s' I' rv ru => ⟨v, H2, I', ru, k v H2 μ2 (E1.trans E2) S2 rv⟩⟩
    · cases e'
  · cases e'
theorem dt_type (hx : Cok c X) (I : Inv X pins σ H s) (S : Stor c μ st H) {d : D} (h : isDT d st = true) {v : V} (r : Rep c μ H d v) : ∃ a, v = .ref a ∧ s.TypeIs (.ref a) "dict" ∧ ∀ b, Value.ref a = .ref b → ∃ ob, s.heap.get? b = some ob ∧ ob.dict = none := by
  unfold isDT at h
  split at h
  · split at h
    · rename_i hn
      obtain ⟨a, ws, rfl, ha, hd⟩ := S.dT hn r
      obtain ⟨xs, _, hm, _⟩ := hd.heap hx I
      refine ⟨a, rfl, hm.typeIs, fun b e => ?_⟩
      cases e
      obtain ⟨o, es, ep, e1, e2, _⟩ := hm
      exact ⟨o, e1, e2.2.1⟩
    · cases h
  · cases h
/-- d.get(k, z), d a dict with tuple keys -/
theorem q_get2 (hx : Cok c X) {o e f : Expr} {fo fe ff : FE} {apos cpos : Pos} (ho : QE c X o fo) (he : QE c X e fe) (hf : QE c X f ff) (m : M2 X o "get" apos e f cpos) : QE c X (.Call (.Attribute o "get" apos) [e, f] [] cpos) (fGet2 fo fe ff) := by
  refine ⟨fun pins s σ H Q I h => ?_⟩
  obtain ⟨ρ, st, μ, R, S, z, st', e, k⟩ := h
  obtain ⟨⟨x, st1⟩, e1, e⟩ := bind_some e
  have e' : (if isDT x st1 = true then (fe ρ st1).bind fun q => (ff ρ q.2).bind fun w => getOrD x q.1 w.1 w.2 else none) = some (z, st') := e
  clear e
  split at e'
  · rename_i hd
    obtain ⟨⟨y, st2⟩, e2, e⟩ := bind_some e'
    obtain ⟨⟨w, st3⟩, e3, e⟩ := bind_some e
    refine wpAny_Call_method m.base m.few m.line PySem.F.plainAttrs_dict PySem.F.slot_dict_get PySem.F.type_dict_get (thn (ho.run pins s σ H (fun v H1 => ∃ μ1, Ext μ H μ1 H1 ∧ Stor c μ1 st1 H1 ∧ Rep c μ1 H1 x v) I ⟨ρ, st, μ, R, S, x, st1, e1, fun v1 H1 μ1 E1 S1 r1 => ⟨μ1, E1, S1, r1⟩⟩) fun u s1 ⟨v, H1, I1, rv, μ1, E1, S1, r1⟩ => ?_)
    obtain ⟨a, rfl, t1, t2⟩ := dt_type hx I1 S1 hd r1
    cases (show u = Value.ref a from rv)
    refine ⟨t1, t2, ?_⟩
    rw [m.trees]
    refine Calls.callWith_builtin rfl (Calls.evalArgs_plain (Calls.spliced_cons (thn (he.run pins s1 σ H1 (fun w H2 => ∃ μ2, Ext μ1 H1 μ2 H2 ∧ Stor c μ2 st2 H2 ∧ Rep c μ2 H2 y w) I1 ⟨ρ, st1, μ1, R.ext E1, S1, y, st2, e2, fun v1 H1 μ1 E1 S1 r1 => ⟨μ1, E1, S1, r1⟩⟩) fun iv s2 ⟨yv, H2, I2, ry, μ2, E2, S2, r2⟩ =>
      Calls.spliced_cons (thn (hf.run pins s2 σ H2 (fun w' H3 => ∃ μ3, Ext μ2 H2 μ3 H3 ∧ Stor c μ3 st3 H3 ∧ Rep c μ3 H3 w w') I2 ⟨ρ, st2, μ2, R.ext (E1.trans E2), S2, w, st3, e3, fun v1 H1 μ1 E1 S1 r1 => ⟨μ1, E1, S1, r1⟩⟩) fun fv s3 ⟨zv, H3, I3, rz, μ3, E3, S3, r3⟩ => Calls.spliced_nil ?_))))
    have e4 : getOrD x y w st3 = some (z, st') := e
    unfold getOrD at e4
    split at e4
    · split at e4
      · rename_i hn
        obtain ⟨kk, e5, e6⟩ := Option.map_eq_some_iff.mp e4
        cases e6
        obtain ⟨a', ws, e7, ha, hd'⟩ := S3.dT hn (r1.ext (E2.trans E3))
        cases e7
        obtain ⟨b, rfl, k1, k2⟩ := keyT_is e5 (r2.ext E3)
        cases (show iv = Value.ref b from ry)
        exact t_getOr hx I3 hd' k1 k2 r3 rz fun v u s' I' rv ru => ⟨v, H3, I', ru, k v H3 μ3 ((E1.trans E2).trans E3) S3 rv⟩
      · cases e4
    · cases e4
  · cases e'
/-- {} -/
def fNewT : FE := fun _ st => some (.loc st.length, st ++ [.dT []])
def fNewA : FE := fun _ st => some (.loc st.length, st ++ [.dA []])
def isNewT (n : Nat) (st : Sto) : Bool := match st[n]? with
  | some (.dT []) => true
  | _ => false
theorem isNewT_is {n : Nat} {st : Sto} (h : isNewT n st = true) : st[n]? = some (.dT []) := by
  unfold isNewT at h
  split at h
  · assumption
  · cases h
/-- {k: v} -/
def fNewT1 (fk fv : FE) : FE := fun ρ st => (fk ρ (st ++ [.dT []])).bind fun p => (fv ρ p.2).bind fun q => if isNewT st.length q.2 = true then (keyT p.1).map fun k => (.loc st.length, q.2.set st.length (.dT [(k, q.1)])) else none
theorem q_newT (hx : Cok c X) {pos : Pos} : QE c X (.Dict [] [] pos) fNewT := by
  refine ⟨fun pins s σ H Q I h => ?_⟩
  obtain ⟨ρ, st, μ, R, S, z, st', e, k⟩ := h
  cases e
  obtain ⟨I1, S1, hf⟩ := t_new hx I S
  exact wpAny_Dict_empty ⟨.ref s.heap.objs.size, _, I1, rfl, k _ _ _ (Ext.push hf) S1 (Rep.pushed S)⟩
theorem q_newT1 (hx : Cok c X) {kx vx : Expr} {fk fv : FE} {pos : Pos} (hk : QE c X kx fk) (hv : QE c X vx fv) : QE c X (.Dict [some kx] [vx] pos) (fNewT1 fk fv) := by
  refine ⟨fun pins s σ H Q I h => ?_⟩
  obtain ⟨ρ, st, μ, R, S, z, st', e, k⟩ := h
  obtain ⟨⟨kd, st1⟩, e1, e⟩ := bind_some e
  obtain ⟨⟨vd, st2⟩, e2, e⟩ := bind_some e
  have e' : (if isNewT st.length st2 = true then (keyT kd).map fun k => (D.loc st.length, st2.set st.length (.dT [(k, vd)])) else none) = some (z, st') := e
  clear e
  split at e'
  · rename_i hn
    obtain ⟨kk, e3, e4⟩ := Option.map_eq_some_iff.mp e'
    cases e4
    have hn := isNewT_is hn
    obtain ⟨I1, S1, hf⟩ := t_new hx I S
    have E1 : Ext μ H (μ ++ [s.heap.objs.size]) (upd H s.heap.objs.size (DTO c.P c.w s.heap.objs.size [])) := Ext.push hf
    have hd0 : (μ ++ [s.heap.objs.size])[st.length]? = some s.heap.objs.size := by rw [← S.len]; simp
    rw [arm_eval_Dict, show (evalEachOpt [some kx] X.env).zip ((evalEach [vx] X.env).map fun v => do let x ← v; standAt pos; pure x) = [(eval kx X.env, (do let x ← eval vx X.env; standAt pos; pure x : Sem Value))].map fun p => (some p.1, p.2) from rfl, dictDisplay_pairs _ (by simp) (by simp)]
    refine wpAny_bind (wpAny_standAt (wpAny_bind (wpAny_subDictH (knd := nestedKind X.prog X.w) (Q := fun d s' => wpAny (model X.prog X.w) X.A (pure (Value.ref d)) (EP X pins σ Q) X.xe s') (show X.A.units + 8 < cLine by have := hx.un; omega) (by simp) (evalPairs_cons ?_))))
    refine thn (hk.run pins _ σ _ (fun x H2 => ∃ μ2, Ext (μ ++ [s.heap.objs.size]) (upd H s.heap.objs.size (DTO c.P c.w s.heap.objs.size [])) μ2 H2 ∧ Stor c μ2 st1 H2 ∧ Rep c μ2 H2 kd x) I1 ⟨ρ, _, _, R.ext E1, S1, kd, st1, e1, fun v1 H1 μ1 E1 S1 r1 => ⟨μ1, E1, S1, r1⟩⟩) fun ku s2 ⟨kv, H2, I2, rk, μ2, E2, S2, r2⟩ => ?_
    refine wpAny_bind (thn (hv.run pins s2 σ H2 (fun x H3 => ∃ μ3, Ext μ2 H2 μ3 H3 ∧ Stor c μ3 st2 H3 ∧ Rep c μ3 H3 vd x) I2 ⟨ρ, _, _, R.ext (E1.trans E2), S2, vd, st2, e2, fun v1 H1 μ1 E1 S1 r1 => ⟨μ1, E1, S1, r1⟩⟩) fun vu s3 ⟨vv, H3, I3, rv, μ3, E3, S3, r3⟩ => wpAny_bind (wpAny_standAt (wpAny_pure (evalPairs_nil ?_))))
    have hd3 : μ3[st.length]? = some s.heap.objs.size := E3.at (E2.at hd0)
    obtain ⟨b, rfl, k1, k2⟩ := keyT_is e3 (r2.ext E3)
    cases (show ku = Value.ref b from rk)
    obtain ⟨ws, h2, h3, h4, h5⟩ := S3.ob _ _ _ hn hd3
    have hD : DTAt c μ3 H3 [] s.heap.objs.size ws := ⟨h2, h3, h4, h5⟩
    obtain ⟨xs, r, hm, hs, hl⟩ := hD.heap hx I3
    have hw0 : ws = [] := by cases ws with
      | nil => rfl
      | cons _ _ => simp at h3
    subst hw0
    cases r
    refine ⟨[(kk, b, vu)], ⟨rfl, rfl, key_heap hx I3 k1 k2, trivial⟩, hm, fun h' tk hm' sb => ?_⟩
    obtain ⟨H', I4, E4, S4⟩ := t_behind (tk := tk) hx I3 S3 hn hd3 hD k1 k2 r3 rv (by decide) .nil hs hm' sb
    exact wpAny_pure ⟨.ref s.heap.objs.size, H', I4, rfl, k _ H' μ3 (((E1.trans E2).trans E3).trans E4) S4 ⟨_, rfl, hd3⟩⟩
  · cases e'
theorem q_newA {pos : Pos} : QE c X (.Dict [] [] pos) fNewA := PE.of pe_dnewK fun σ H Q q => by
  obtain ⟨ρ, st, μ, R, S, z, st', e, k⟩ := q
  cases e
  exact fun p hp => Res.push ⟨_, _, rfl, k⟩ S hp ⟨[], upd_same, rfl, RepL.nil⟩
end

/-! ### instances -/
def putG {α : Type} (f : Str) (v : α) : List (Str × α) → List (Str × α)
  | [] => [(f, v)]
  | (g, x) :: r => if g = f then (g, v) :: r else (g, x) :: putG f v r
def fFld (cn f : Str) (fe : FE) : FE := fun ρ st => (fe ρ st).bind fun p => match p.1 with
  | .loc n => match p.2[n]? with
    | some (.ins cn' fs) => if cn' = cn then (fs.lookup f).map fun d => (d, p.2) else none
    | _ => none
  | _ => none
def setFld (cn f : Str) : D → D → Sto → Option Sto
  | .loc n, v, st => match st[n]? with
    | some (.ins cn' fs) => if cn' = cn ∧ fs.length < 1000 then some (st.set n (.ins cn (putG f v fs))) else none
    | _ => none
  | _, _, _ => none
def sFldD (cn f : Str) (fo fv : FE) : FS := fun ρ st => (fv ρ st).bind fun v => (fo ρ v.2).bind fun o => (setFld cn f o.1 v.1 o.2).map fun st' => .nx ρ st'
def insOf (cn : Str) (d : D) (st : Sto) : Option (List (Str × D)) := match d with
  | .loc n => match st[n]? with
    | some (.ins cn' fs) => if cn' = cn then some fs else none
    | _ => none
  | _ => none
section
variable {c : Cz} {X : Cx} {μ : List Addr} {H : Hp} {st : Sto}
theorem insOf_is (S : Stor c μ st H) {cn : Str} {d : D} {fs : List (Str × D)} {v : V} (h : insOf cn d st = some fs) (r : Rep c μ H d v) : ∃ n a dx gs, d = .loc n ∧ st[n]? = some (.ins cn fs) ∧ v = .ref a ∧ μ[n]? = some a ∧ H a = some (.ins (c.cl cn) dx gs) ∧ gs.map (·.1) = fs.map (·.1) ∧ RepL c μ H (fs.map (·.2)) (gs.map (·.2)) := by
  unfold insOf at h
  split at h
  · split at h
    · rename_i hn
      split at h
      · rename_i hc
        cases h
        subst hc
        obtain ⟨a, dx, gs, rfl, h1, h2, h3, h4⟩ := S.ins hn r
        exact ⟨_, a, dx, gs, rfl, hn, rfl, h1, h2, h3, h4⟩
      · cases h
    · cases h
  · cases h
theorem fFld_eq (cn f : Str) (fe : FE) (ρ : Env') (st : Sto) : fFld cn f fe ρ st = (fe ρ st).bind fun p => (insOf cn p.1 p.2).bind fun fs => (fs.lookup f).map fun d => (d, p.2) := by
  unfold fFld insOf
  congr 1
  funext p
  split
  · split
    · split <;> rfl
    · rfl
  · rfl
theorem lookup_rep {f : Str} : ∀ {fs : List (Str × D)} {gs : List (Str × V)} {d : D}, gs.map (·.1) = fs.map (·.1) → RepL c μ H (fs.map (·.2)) (gs.map (·.2)) → fs.lookup f = some d → ∃ v, gs.lookup f = some v ∧ Rep c μ H d v
  | [], _, _, _, _, e => by simp at e
  | _ :: _, [], _, h, _, _ => by simp at h
  | p :: fs, q :: gs, d, h, r, e => by
    rw [List.map_cons, List.map_cons] at h
    injection h with h1 h2
    obtain ⟨v, r', er, r1, r2⟩ := r
    injection er with er1 er2
    subst er1 er2
    obtain ⟨g, x⟩ := p
    obtain ⟨g', y⟩ := q
    cases (show g' = g from h1)
    rw [List.lookup_cons] at e ⊢
    cases hb : f == g with
    | true => rw [hb] at e; cases e; exact ⟨_, rfl, r1⟩
    | false => rw [hb] at e; exact lookup_rep h2 r2 e
theorem lookup_none {f : Str} : ∀ {fs : List (Str × D)} {gs : List (Str × V)}, gs.map (·.1) = fs.map (·.1) → fs.lookup f = none → gs.lookup f = none
  | [], [], _, _ => rfl
  | [], _ :: _, h, _ => by simp at h
  | _ :: _, [], h, _ => by simp at h
  | p :: fs, q :: gs, h, e => by
    rw [List.map_cons, List.map_cons] at h
    injection h with h1 h2
    obtain ⟨g, x⟩ := p
    obtain ⟨g', y⟩ := q
    cases (show g' = g from h1)
    rw [List.lookup_cons] at e ⊢
    cases hb : f == g with
    | true => rw [hb] at e; cases e
    | false => rw [hb] at e; exact lookup_none h2 e
theorem put_rep {f : Str} {v : V} {d : D} (hv : Rep c μ H d v) : ∀ {fs : List (Str × D)} {gs : List (Str × V)}, gs.map (·.1) = fs.map (·.1) → RepL c μ H (fs.map (·.2)) (gs.map (·.2)) → (putF f v gs).map (·.1) = (putG f d fs).map (·.1) ∧ RepL c μ H ((putG f d fs).map (·.2)) ((putF f v gs).map (·.2))
  | [], [], _, _ => ⟨rfl, RepL.cons hv RepL.nil⟩
  | [], _ :: _, h, _ => by simp at h
  | _ :: _, [], h, _ => by simp at h
  | p :: fs, q :: gs, h, r => by
    rw [List.map_cons, List.map_cons] at h
    injection h with h1 h2
    obtain ⟨z, r', er, r1, r2⟩ := r
    injection er with er1 er2
    subst er1 er2
    obtain ⟨g, x⟩ := p
    obtain ⟨g', y⟩ := q
    cases (show g' = g from h1)
    obtain ⟨i1, i2⟩ := put_rep (f := f) hv h2 r2
    unfold putF putG
    by_cases e : g = f
    · rw [if_pos e, if_pos e]
      exact ⟨congrArg (_ :: ·) h2, RepL.cons hv r2⟩
    · rw [if_neg e, if_neg e]
      exact ⟨congrArg (_ :: ·) i1, RepL.cons r1 i2⟩
theorem q_fld (hx : Cok c X) {e : Expr} {cn f : Str} {fe : FE} {pos : Pos} (he : QE c X e fe) (hc : Cls c.K (c.cl cn)) (hn : NoAttr c.K (c.cl cn) f) (hb : attributeBase e f X.env (eval e X.env) = eval e X.env := by rfl) : QE c X (.Attribute e f pos) (fFld cn f fe) := PE.of (pe_fld he hb) fun σ H Q q => by
  obtain ⟨ρ, st, μ, R, S, z, st', e, k⟩ := q
  rw [fFld_eq] at e
  obtain ⟨⟨x, st1⟩, e1, e⟩ := bind_some e
  obtain ⟨fs, e2, e⟩ := bind_some e
  obtain ⟨d, e3, e4⟩ := Option.map_eq_some_iff.mp e
  cases e4
  refine ⟨ρ, st, μ, R, S, x, st1, e1, fun v1 H1 μ1 E1 S1 r1 => ?_⟩
  obtain ⟨n, a, dx, gs, rfl, hn', rfl, ha, h1, h2, h3⟩ := insOf_is S1 e2 r1
  obtain ⟨v, h4, h5⟩ := lookup_rep h2 h3 e3
  exact ⟨a, _, dx, gs, v, rfl, h1, by rw [hx.K]; exact hc, by rw [hx.K]; exact hn, h4, k v H1 μ1 E1 S1 h5⟩
theorem setFld_eq (cn f : Str) (d v : D) (st : Sto) {st' : Sto} (h : setFld cn f d v st = some st') : ∃ n fs, d = .loc n ∧ st[n]? = some (.ins cn fs) ∧ fs.length < 1000 ∧ st' = st.set n (.ins cn (putG f v fs)) := by
  unfold setFld at h
  split at h
  · split at h
    · rename_i hn
      split at h
      · rename_i hc
        cases h
        obtain ⟨rfl, hl⟩ := hc
        exact ⟨_, _, rfl, hn, hl, rfl⟩
      · cases h
    · cases h
  · cases h
theorem q_setFld (hx : Cok c X) {o value : Expr} {cn f : Str} {fo fv : FE} {pos pos' : Pos} (ho : QE c X o fo) (hv : QE c X value fv) (hc : Cls c.K (c.cl cn)) (hn : NoAttr c.K (c.cl cn) f) (hs : swapsWith value (some (.Attribute o f pos')) pos.line X.env = pure false := by rfl) :
    QS c X (.Assign [.Attribute o f pos'] value pos) (sFldD cn f fo fv) := PS.of (ps_fld ho hv hs) fun D σ H q => by
  obtain ⟨ρ, st, μ, R, S, o', e, k⟩ := q
  obtain ⟨⟨v, st1⟩, e1, e⟩ := bind_some e
  obtain ⟨⟨ob, st2⟩, e2, e⟩ := bind_some e
  obtain ⟨st3, e3, e⟩ := Option.map_eq_some_iff.mp e
  cases e
  obtain ⟨n, fs, e4, hn', hl, e5⟩ := setFld_eq _ _ _ _ _ e3
  have e4 : ob = .loc n := e4
  subst e4 e5
  refine ⟨ρ, st, μ, R, S, v, st1, e1, fun v1 H1 μ1 E1 S1 r1 => ⟨ρ, st1, μ1, R.ext E1, S1, _, st2, e2, fun v2 H2 μ2 E2 S2 r2 => ?_⟩⟩
  obtain ⟨a, dx, gs, rfl, ha, h1, h2, h3⟩ := S2.ins hn' r2
  have lg : gs.length = fs.length := by have := congrArg List.length h2; simpa using this
  refine ⟨a, _, dx, gs, rfl, h1, by rw [hx.K]; exact hc, by rw [hx.K]; exact hn, by rw [lg]; exact hl, ?_⟩
  have E3 : Ext μ2 H2 μ2 (upd H2 a (.ins (c.cl cn) dx (putF f v1 gs))) := Ext.write S2 hn' ha
  obtain ⟨p1, p2⟩ := put_rep (f := f) ((r1.ext E2).ext E3) h2 (h3.ext E3)
  exact k σ _ μ2 ((E1.trans E2).trans E3) (S2.write hn' ha ⟨dx, _, upd_same, p1, p2⟩) (R.ext ((E1.trans E2).trans E3))
end

/-! ### one's own defs -/
/-- the promise: what the reading p says -/
def spD (c : Cz) (n : Nat) (p : DF) : Sp := fun vs H Q _ => ∃ ds st μ, ds.length = n ∧ RepL c μ H ds vs ∧ Stor c μ st H ∧ Res c μ H (p ds st) Q
theorem spD_len {c : Cz} {n : Nat} {p : DF} {vs : List V} {H : Hp} {Q : VK} {E : XK} (h : spD c n p vs H Q E) : vs.length = n := by
  obtain ⟨ds, st, μ, hl, r, _⟩ := h
  rw [r.len, hl]
def fCall (n : Nat) (p : DF) (ga : FA) : FE := fun ρ st => (ga ρ st).bind fun q => if q.1.length = n then p q.1 q.2 else none
def fMeth (cn m : Str) (n : Nat) (p : DF) (fo : FE) (ga : FA) : FE := fun ρ st => (fo ρ st).bind fun o => (insOf cn o.1 o.2).bind fun fs => if (fs.lookup m).isNone = true then (ga ρ o.2).bind fun q => if q.1.length + 1 = n then p (o.1 :: q.1) q.2 else none else none
def thenNon : D → D × Sto → Option (D × Sto)
  | .non, r => some r
  | _, _ => none
theorem thenNon_some {d : D} {r r' : D × Sto} (h : thenNon d r = some r') : d = .non ∧ r = r' := by
  unfold thenNon at h
  split at h
  · cases h; exact ⟨rfl, rfl⟩
  · cases h
def fMake (cn : Str) (n : Nat) (p : DF) (ga : FA) : FE := fun ρ st => (ga ρ st).bind fun q => if q.1.length + 1 = n then (p (.loc q.2.length :: q.1) (q.2 ++ [.ins cn []])).bind fun r => thenNon r.1 (.loc q.2.length, r.2) else none
section
variable {c : Cz} {X : Cx} {k n : Nat} {f : Addr} {fd : FuncData} {ps : List Str} {p : DF} {x : Str} {e o : Expr} {es : List Expr} {ga : FA} {fo : FE} {pp pos apos : Pos}
theorem q_call (F : FnOk X.prog X.w X.K X.mg X.base CX0 k f fd ps (spD c n p)) (hr : Room k X.A) (hm : X.mg x = some (.ref f)) (hk : PySem.W.keepIn X.K (.ref f) = true) (hb : Binds X.K fd ps []) (ha : QA c X (e :: es) ga) (hg : Gl X x := by rfl) (hdb : (x == ("__debug__" : Str)) = false := by decide)
    (he : starEach (e :: es) X.env = (false, eval e X.env) :: starEach es X.env := by rfl) (hpl : (backTo pos (starEach es X.env)).any (·.1) = false := by rfl) : QE c X (.Call (.Name x pp) (e :: es) [] pos) (fCall n p ga) :=
  PE.of (pe_call F hr hg hm hk hb .nil pass0 ha hdb he hpl) fun σ H Q q => by
  obtain ⟨ρ, st, μ, R, S, z, st', e, k⟩ := q
  obtain ⟨⟨y, st1⟩, e1, e⟩ := bind_some e
  have e' : (if y.length = n then p y st1 else none) = some (z, st') := e
  split at e'
  · rename_i hl
    refine ⟨ρ, st, μ, R, S, y, st1, e1, fun v1 H1 μ1 E1 S1 r1 => ?_⟩
    show spD c n p (v1 ++ []) H1 Q E0
    rw [List.append_nil]
    exact ⟨y, st1, μ1, hl, r1, S1, z, st', e', fun v H' μ' E2 S2 r2 => k v H' μ' (E1.trans E2) S2 r2⟩
  · cases e'
theorem q_meth {cn m : Str} {pl : Sem Bool} (hx : Cok c X) (F : FnOk X.prog X.w X.K X.mg X.base CX0 k f fd ps (spD c n p)) (hr : Room k X.A) (hc : Cls c.K (c.cl cn)) (hm : Meth c.K (c.cl cn) m f) (hb : Binds X.K fd ps []) (ho : QE c X o fo) (ha : QA c X (e :: es) ga)
    (hst : starEach (e :: es) X.env = (false, eval e X.env) :: starEach es X.env := by rfl) (hpl : (backTo pos (starEach es X.env)).any (·.1) = false := by rfl)
    (ht : eval (.Call (.Attribute o m apos) (e :: es) [] pos) X.env = (do
      let ov ← eval o X.env
      standAt apos.atName
      let (f, first) ← holding [ov] (getMethod ov m pl)
      callWith pos f first (backTo pos (starEach (e :: es) X.env)) (backToKw pos (keywordEach [] X.env))) := by rfl) : QE c X (.Call (.Attribute o m apos) (e :: es) [] pos) (fMeth cn m n p fo ga) :=
  PE.of (pe_meth (pl := pl) ho (by rw [hx.K]; exact hc) (by rw [hx.K]; exact hm) F hr hb .nil pass0 ha hst hpl ht) fun σ H Q q => by
  obtain ⟨ρ, st, μ, R, S, z, st', e, k⟩ := q
  obtain ⟨⟨y, st1⟩, e1, e⟩ := bind_some e
  obtain ⟨fs, e2, e⟩ := bind_some e
  split at e
  · rename_i hn
    obtain ⟨⟨w, st2⟩, e3, e⟩ := bind_some e
    split at e
    · rename_i hl
      refine ⟨ρ, st, μ, R, S, y, st1, e1, fun v1 H1 μ1 E1 S1 r1 => ?_⟩
      obtain ⟨n', a, dx, gs, hy, hn', rfl, hμ, h1, h2, h3⟩ := insOf_is S1 e2 r1
      refine ⟨a, dx, gs, rfl, h1, lookup_none h2 (by simpa using hn), ρ, st1, μ1, R.ext E1, S1, w, st2, e3, fun v2 H2 μ2 E2 S2 r2 => ?_⟩
      show spD c n p (_ :: (v2 ++ [])) H2 Q E0
      rw [List.append_nil]
      exact ⟨y :: w, st2, μ2, hl, RepL.cons (r1.ext E2) r2, S2, z, st', e, fun v H' μ' E3 S3 r3 => k v H' μ' ((E1.trans E2).trans E3) S3 r3⟩
    · cases e
  · cases e
theorem q_meth0 {cn m : Str} {pl : Sem Bool} (hx : Cok c X) (F : FnOk X.prog X.w X.K X.mg X.base CX0 k f fd ps (spD c n p)) (hr : Room k X.A) (hc : Cls c.K (c.cl cn)) (hm : Meth c.K (c.cl cn) m f) (hb : Binds X.K fd ps []) (ho : QE c X o fo)
    (ht : eval (.Call (.Attribute o m apos) [] [] pos) X.env = (do
      let ov ← eval o X.env
      standAt apos.atName
      let (f, first) ← holding [ov] (getMethod ov m pl)
      callWith pos f first (backTo pos (starEach [] X.env)) (backToKw pos (keywordEach [] X.env))) := by rfl) : QE c X (.Call (.Attribute o m apos) [] [] pos) (fMeth cn m n p fo fNil) :=
  PE.of (pe_meth0 (pl := pl) ho (by rw [hx.K]; exact hc) (by rw [hx.K]; exact hm) F hr hb .nil pass0 ht) fun σ H Q q => by
  obtain ⟨ρ, st, μ, R, S, z, st', e, k⟩ := q
  obtain ⟨⟨y, st1⟩, e1, e⟩ := bind_some e
  obtain ⟨fs, e2, e⟩ := bind_some e
  split at e
  · rename_i hn
    obtain ⟨⟨w, st2⟩, e3, e⟩ := bind_some e
    cases e3
    split at e
    · rename_i hl
      refine ⟨ρ, st, μ, R, S, y, st1, e1, fun v1 H1 μ1 E1 S1 r1 => ?_⟩
      obtain ⟨n', a, dx, gs, hy, hn', rfl, hμ, h1, h2, h3⟩ := insOf_is S1 e2 r1
      refine ⟨a, dx, gs, rfl, h1, lookup_none h2 (by simpa using hn), ?_⟩
      exact ⟨[y], st1, μ1, hl, RepL.cons r1 RepL.nil, S1, z, st', e, fun v H' μ' E3 S3 r3 => k v H' μ' (E1.trans E3) S3 r3⟩
    · cases e
  · cases e
theorem q_make {cn : Str} (hx : Cok c X) (M : Mk c.K (c.cl cn) f) (F : FnOk X.prog X.w X.K X.mg X.base CX0 k f fd ps (spD c n p)) (hr : Room (k + 1) X.A) (hm : X.mg x = some (.ref (c.cl cn))) (hb : Binds X.K fd ps []) (ha : QA c X (e :: es) ga) (hg : Gl X x := by rfl) (hdb : (x == ("__debug__" : Str)) = false := by decide)
    (he : starEach (e :: es) X.env = (false, eval e X.env) :: starEach es X.env := by rfl) (hpl : (backTo pos (starEach es X.env)).any (·.1) = false := by rfl) : QE c X (.Call (.Name x pp) (e :: es) [] pos) (fMake cn n p ga) :=
  PE.of (pe_make (by rw [hx.K]; exact M) F hr hg hm hb .nil pass0 ha hdb he hpl) fun σ H Q q => by
  obtain ⟨ρ, st, μ, R, S, z, st', e, k⟩ := q
  obtain ⟨⟨y, st1⟩, e1, e⟩ := bind_some e
  have e' : (if y.length + 1 = n then (p (.loc st1.length :: y) (st1 ++ [.ins cn []])).bind fun r => thenNon r.1 (.loc st1.length, r.2) else none) = some (z, st') := e
  clear e
  split at e'
  · rename_i hl
    obtain ⟨⟨w, st2⟩, e2, e3⟩ := bind_some e'
    obtain ⟨e4, e5⟩ := thenNon_some e3
    have e4 : w = .non := e4
    subst e4
    cases e5
    refine ⟨ρ, st, μ, R, S, y, st1, e1, fun v1 H1 μ1 E1 S1 r1 a dx ha hdx hne => ?_⟩
    rw [List.append_nil]
    have S2 := S1.aside (o := .own a) hdx
    have E2 : Ext μ1 H1 μ1 (upd H1 dx (.own a)) := Ext.new hdx
    have hp : (upd H1 dx (.own a)) a = none := by rw [upd_ne (Ne.symm hne)]; exact ha
    have E3 : Ext μ1 (upd H1 dx (.own a)) (μ1 ++ [a]) (upd (upd H1 dx (.own a)) a (.ins (c.cl cn) dx [])) := Ext.push hp
    have S3 : Stor c (μ1 ++ [a]) (st1 ++ [.ins cn []]) (upd (upd H1 dx (.own a)) a (.ins (c.cl cn) dx [])) := S2.push hp ⟨dx, [], upd_same, rfl, RepL.nil⟩
    have ra : Rep c (μ1 ++ [a]) (upd (upd H1 dx (.own a)) a (.ins (c.cl cn) dx [])) (.loc st1.length) (.ref a) := Rep.pushed S1
    refine ⟨.loc st1.length :: y, _, μ1 ++ [a], by rw [List.length_cons]; exact hl, RepL.cons ra ((r1.ext E2).ext E3), S3, .non, st2, e2, fun v H' μ' E4 S4 r4 => ⟨r4, ?_⟩⟩
    exact k _ H' μ' (((E1.trans E2).trans E3).trans E4) S4 (ra.ext E4)
  · cases e'
end
end Lw
end
section
set_option Elab.async false
set_option linter.all false
set_option autoImplicit false
set_option maxRecDepth 100000
/-! Dstm: targets, iterations, loops, comprehensions, statements, the promise of a def. -/
namespace Lw
open PySem PySem.Spec PyProof.Rows L2

/-! ### targets -/
inductive Tgt where
  | nm (i : Nat) | tp (is : List Nat)
def Tgt.ix : Tgt → List Nat
  | .nm i => [i]
  | .tp is => is
def gNames : List Nat → TGs
  | [] => gNil
  | i :: is => gCons (gName i) (gNames is)
def tgV (K : PySem.W.Frag) : Tgt → TG
  | .nm i => gName i
  | .tp is => gTup K is.length (gNames is)
def sets : List Nat → List D → Env' → Env'
  | i :: is, d :: ds, ρ => sets is ds (ρ.set i (some d))
  | _, _, ρ => ρ
def asg : Tgt → D → Env' → Option Env'
  | .nm i, d, ρ => some (ρ.set i (some d))
  | .tp is, .tup ds, ρ => if ds.length = is.length then some (sets is ds ρ) else none
  | .tp _, _, _ => none
section
variable {c : Cz} {X : Cx} {μ : List Addr} {H : Hp} {σ : L2.St} {ρ : Env'}
theorem wipe_set {i : Nat} {v : Option V} : ∀ {vs : List Nat}, i ∈ vs → wipe (σ.set i v) vs = wipe σ vs
  | [], h => by cases h
  | w :: vs, h => by
    unfold wipe
    by_cases e : i ∈ vs
    · rw [wipe_set e]
    · have hw : i = w := by
        rcases List.mem_cons.mp h with h | h
        · exact h
        · exact absurd h e
      subst hw
      have key : ∀ {vs : List Nat}, i ∉ vs → wipe (σ.set i v) vs = (wipe σ vs).set i v := by
        intro vs
        induction vs with
        | nil => intro _; rfl
        | cons u us ih =>
          intro hn
          unfold wipe
          rw [ih (fun z => hn (List.mem_cons_of_mem _ z)), List.set_comm]
          intro z; exact hn (z ▸ List.mem_cons_self)
      rw [key e, List.set_set]
theorem sets_ok : ∀ {is : List Nat} {ds : List D} {xs : List V} {ρ : Env'} {σ : L2.St}, ds.length = is.length → RelE c μ H ρ σ → RepL c μ H ds xs →
    ∃ σ', RelE c μ H (sets is ds ρ) σ' ∧ (∀ vs, (∀ i ∈ is, i ∈ vs) → wipe σ' vs = wipe σ vs) ∧ ∀ K : L2.St → Hp → Prop, K σ' H → gNames is xs σ H K
  | [], [], _, _, σ, _, R, r => ⟨σ, R, fun _ _ => rfl, fun K k => ⟨r, k⟩⟩
  | [], _ :: _, _, _, _, h, _, _ => by simp at h
  | _ :: _, [], _, _, _, h, _, _ => by simp at h
  | i :: is, d :: ds, _, ρ, σ, h, R, r => by
    obtain ⟨v, xs, rfl, r1, r2⟩ := r
    obtain ⟨σ', h1, h2, h3⟩ := sets_ok (is := is) (ds := ds) (by simpa using h) (R.set i r1) r2
    exact ⟨σ', h1, fun vs hv => (h2 vs fun j hj => hv j (List.mem_cons_of_mem _ hj)).trans (wipe_set (hv i List.mem_cons_self)), fun K k => ⟨v, xs, rfl, h3 K k⟩⟩
theorem asg_ok (hx : Cok c X) {t : Tgt} {d : D} {ρ' : Env'} {x : V} (h : asg t d ρ = some ρ') (R : RelE c μ H ρ σ) (r : Rep c μ H d x) :
    ∃ σ', RelE c μ H ρ' σ' ∧ (∀ vs, (∀ i ∈ t.ix, i ∈ vs) → wipe σ' vs = wipe σ vs) ∧ ∀ K : L2.St → Hp → Prop, K σ' H → tgV X.K t x σ H K := by
  unfold asg at h
  split at h
  · cases h
    exact ⟨_, R.set _ r, fun vs hv => wipe_set (hv _ (List.mem_singleton.mpr rfl)), fun K k => k⟩
  · split at h
    · rename_i hl
      cases h
      obtain ⟨a, xs, rfl, h1, h2⟩ := r
      obtain ⟨σ', e1, e2, e3⟩ := sets_ok hl R h2
      exact ⟨σ', e1, e2, fun K k => ⟨a, xs, rfl, sqT_K hx h1, by rw [h2.len]; exact hl, e3 K k⟩⟩
    · cases h
  · cases h
theorem g_nm {i : Nat} {x : Str} {pos : Pos} (hN : X.N.Nodup) (hi : X.N[i]? = some x := by rfl) (hx : Loc X.env.scope x := by first | exact Or.inl rfl | exact Or.inr rfl) (hf : X.fn x = true ∨ X.env.scope.names.lookup x = some .local := by first | exact .inl rfl | exact .inr rfl) :
    PG X (.Name x pos) (tgV X.K (.nm i)) := pg_name hN hi hx hf
theorem gs_nil : PGs X [] (gNames []) := pgs_nil
theorem gs_cons {e : Expr} {es : List Expr} {i : Nat} {is : List Nat} (h1 : PG X e (tgV X.K (.nm i))) (h2 : PGs X es (gNames is)) (hs : (assignEach (e :: es) X.env).map (·.2) = assign e X.env :: (assignEach es X.env).map (·.2) := by rfl) : PGs X (e :: es) (gNames (i :: is)) := pgs_cons h1 h2 hs
theorem g_tp {es : List Expr} {k : Nat} {is : List Nat} {pos : Pos} (hc : X.calm = true) (h : PGs X es (gNames is)) (hn : (assignEach es X.env).length = is.length := by rfl) (hst : (assignEach es X.env).findIdx? (·.1) = none := by rfl) : PG X (.Tuple es k pos) (tgV X.K (.tp is)) := pg_tup hc h hn hst
end

/-! ### iterations -/
def ItD.items : ItD → List D
  | .loc _ xs => xs
  | .tup xs => xs
  | .str s => s.cps.toList.map fun k => .str ⟨#[k]⟩
  | .rng lo n => (List.range n).map fun i : Nat => .int (lo + (i : Int))
  | .rol ns => ns.map .int
def gd : ItD → Sto → Prop
  | .loc n xs, st => st[n]? = some (.lst xs)
  | _, _ => True
noncomputable instance (it : ItD) (st : Sto) : Decidable (gd it st) := Classical.propDecidable _
structure ItOk (c : Cz) (it : ItD) (J : It) (μ₀ : List Addr) (H₀ : Hp) : Prop where
  goes : ∀ i μ H st, Ext μ₀ H₀ μ H → Stor c μ st H → gd it st → i < it.items.length → J.go i H
  stops : ∀ μ H st, Ext μ₀ H₀ μ H → Stor c μ st H → gd it st → J.stop it.items.length H
  yields : ∀ i μ H st x H', Ext μ₀ H₀ μ H → Stor c μ st H → gd it st → i < it.items.length → J.yld i H x H' → H' = H ∧ ∃ d, it.items[i]? = some d ∧ Rep c μ H d x
def LI (c : Cz) (f : FI) : TI := fun σ H R => ∃ ρ st μ, RelE c μ H ρ σ ∧ Stor c μ st H ∧ ∃ it st1, f ρ st = some (it, st1) ∧ ∀ J H' μ', Ext μ H μ' H' → Stor c μ' st1 H' → ItOk c it J μ' H' → R J H'
def itL : D → Sto → Option (ItD × Sto)
  | .loc n, st => match st[n]? with
    | some (.lst xs) => some (.loc n xs, st)
    | _ => none
  | .rol ns, st => some (.rol ns, st)
  | _, _ => none
def itT : D → Sto → Option (ItD × Sto)
  | .tup xs, st => some (.tup xs, st)
  | _, _ => none
def itS : D → Sto → Option (ItD × Sto)
  | .str s, st => some (.str s, st)
  | _, _ => none
def fIt (r : D → Sto → Option (ItD × Sto)) (f : FE) : FI := fun ρ st => (f ρ st).bind fun p => r p.1 p.2
def rng1 : List D → Sto → Option (ItD × Sto)
  | [.int j], st => if -(2 ^ 62) ≤ j ∧ j < 2 ^ 62 then some (.rng 0 j.toNat, st) else none
  | _, _ => none
def fRng (g : FA) : FI := fun ρ st => (g ρ st).bind fun p => rng1 p.1 p.2
structure QI (c : Cz) (X : Cx) (tg e : Expr) (f : FI) : Prop where
  pi : ∃ wi, PI X tg e wi ∧ ∀ σ H R, LI c f σ H R → wi σ H R
section
variable {c : Cz} {X : Cx} {tg e : Expr} {fe : FE} {μ : List Addr} {H : Hp}
theorem q_iL (hx : Cok c X) (he : QE c X e fe) : QI c X tg e (fIt itL fe) := by
  refine ⟨_, pi_list he, fun σ H R q => ?_⟩
  obtain ⟨ρ, st, μ, RE, S, it, st1, e, k⟩ := q
  obtain ⟨⟨x, st2⟩, e1, e⟩ := bind_some e
  refine ⟨ρ, st, μ, RE, S, x, st2, e1, fun v H1 μ1 E1 S1 r1 => ?_⟩
  have e' : itL x st2 = some (it, st1) := e
  unfold itL at e'
  split at e'
  · split at e'
    · rename_i n _ _ xs hn
      cases e'
      obtain ⟨a, vs, rfl, h0, h1, h2⟩ := S1.lst hn r1
      refine ⟨a, rfl, ⟨vs, SqL.of h1⟩, k _ H1 μ1 E1 S1 ⟨fun i μ2 H2 st' E S g hi => ?_, fun μ2 H2 st' E S g => ?_, fun i μ2 H2 st' y H' E S g hi z => ?_⟩⟩
      · obtain ⟨a', vs', e1, h3, h4, h5⟩ := S.lst g (r1.ext E)
        cases e1
        have hv : i < vs'.length := by rw [h5.len]; exact hi
        exact ⟨vs', vs'[i], sqL_K hx h4, List.getElem?_eq_getElem hv⟩
      · obtain ⟨a', vs', e1, h3, h4, h5⟩ := S.lst g (r1.ext E)
        cases e1
        exact ⟨vs', sqL_K hx h4, by rw [h5.len]; exact Nat.le_refl _⟩
      · obtain ⟨a', vs', e1, h3, h4, h5⟩ := S.lst g (r1.ext E)
        cases e1
        obtain ⟨rfl, z⟩ := z
        obtain ⟨d, q1, q2⟩ := RepL.get' h5 (z vs' (sqL_K hx h4))
        exact ⟨rfl, d, q1, q2⟩
    · cases e'
  · rename_i ns
    cases e'
    obtain ⟨a, rfl, h1⟩ := r1
    refine ⟨a, rfl, ⟨_, by rw [hx.K]; exact h1.sq⟩, k _ H1 μ1 E1 S1 ⟨fun i μ2 H2 st' E S g hi => ?_, fun μ2 H2 st' E S g => ?_, fun i μ2 H2 st' y H' E S g hi z => ?_⟩⟩
    · have hv : i < (ns.map V.int).length := by rw [List.length_map]; exact (by simpa [ItD.items] using hi)
      exact ⟨_, _, by rw [hx.K]; exact (E.rol h1).sq, List.getElem?_eq_getElem hv⟩
    · exact ⟨_, by rw [hx.K]; exact (E.rol h1).sq, by simp [ItD.items]⟩
    · obtain ⟨rfl, z⟩ := z
      have z1 := z _ (by rw [hx.K]; exact (E.rol h1).sq)
      rw [List.getElem?_map] at z1
      obtain ⟨n, z2, z3⟩ := Option.map_eq_some_iff.mp z1
      exact ⟨rfl, .int n, by show (ns.map D.int)[i]? = _; rw [List.getElem?_map, z2]; rfl, z3.symm⟩
  · cases e'
theorem iT_lift (hx : Cok c X) : ∀ σ H R, LI c (fIt itT fe) σ H R → iTup X.K (LE c fe) σ H R := by
  intro σ H R q
  obtain ⟨ρ, st, μ, RE, S, it, st1, e, k⟩ := q
  obtain ⟨⟨x, st2⟩, e1, e⟩ := bind_some e
  refine ⟨ρ, st, μ, RE, S, x, st2, e1, fun v H1 μ1 E1 S1 r1 => ?_⟩
  have e' : itT x st2 = some (it, st1) := e
  unfold itT at e'
  split at e'
  · rename_i xs
    cases e'
    obtain ⟨a, vs, rfl, h1, h2⟩ := r1
    refine ⟨a, rfl, ⟨vs, sqT_K hx h1⟩, k _ H1 μ1 E1 S1 ⟨fun i μ2 H2 st' E S g hi => ?_, fun μ2 H2 st' E S g => ?_, fun i μ2 H2 st' y H' E S g hi z => ?_⟩⟩
    · have hv : i < vs.length := by rw [h2.len]; exact hi
      exact ⟨vs, vs[i], sqT_K hx (E.sqT h1), List.getElem?_eq_getElem hv⟩
    · exact ⟨vs, sqT_K hx (E.sqT h1), by rw [h2.len]; exact Nat.le_refl _⟩
    · obtain ⟨rfl, z⟩ := z
      obtain ⟨d, q1, q2⟩ := RepL.get' h2 (z vs (sqT_K hx (E.sqT h1)))
      exact ⟨rfl, d, q1, q2.ext E⟩
  · cases e'
theorem q_iT (hx : Cok c X) (he : QE c X e fe) : QI c X tg e (fIt itT fe) := ⟨_, pi_tup he, iT_lift hx⟩
theorem q_iS (hx : Cok c X) (he : QE c X e fe) : QI c X tg e (fIt itS fe) := by
  refine ⟨_, pi_str he, fun σ H R q => ?_⟩
  obtain ⟨ρ, st, μ, RE, S, it, st1, e, k⟩ := q
  obtain ⟨⟨x, st2⟩, e1, e⟩ := bind_some e
  refine ⟨ρ, st, μ, RE, S, x, st2, e1, fun v H1 μ1 E1 S1 r1 => ?_⟩
  have e' : itS x st2 = some (it, st1) := e
  unfold itS at e'
  split at e'
  · rename_i s
    cases e'
    cases r1
    have hl : (ItD.str s).items.length = s.cps.size := by simp [ItD.items]
    refine ⟨s, rfl, k _ H1 μ1 E1 S1 ⟨fun i μ2 H2 st' E S g hi => ?_, fun μ2 H2 st' E S g => ?_, fun i μ2 H2 st' y H' E S g hi z => ?_⟩⟩
    · show i < s.cps.size
      rw [← hl]; exact hi
    · show s.cps.size ≤ _
      rw [hl]; exact Nat.le_refl _
    · obtain ⟨rfl, cp, z, rfl⟩ := z
      refine ⟨rfl, .str ⟨#[cp]⟩, ?_, rfl⟩
      show (s.cps.toList.map _)[i]? = _
      rw [List.getElem?_map, Array.getElem?_toList, z]; rfl
  · cases e'
theorem q_iR {a : Expr} {ga : FA} {p pos : Pos} (hm : X.mg "range" = none) (ha : QA c X [a] ga) (hg : Gl X "range" := by rfl) (hs : starEach [a] X.env = [(false, eval a X.env)] := by rfl) : QI c X tg (.Call (.Name "range" p) [a] [] pos) (fRng ga) := by
  refine ⟨_, pi_range1 hg hm ha hs, fun σ H R q => ?_⟩
  obtain ⟨ρ, st, μ, RE, S, it, st1, e, k⟩ := q
  obtain ⟨⟨x, st2⟩, e1, e⟩ := bind_some e
  refine ⟨ρ, st, μ, RE, S, x, st2, e1, fun v H1 μ1 E1 S1 r1 => ?_⟩
  have e' : rng1 x st2 = some (it, st1) := e
  unfold rng1 at e'
  split at e'
  · rename_i j
    split at e'
    · rename_i hj
      cases e'
      obtain ⟨w, rfl, r2⟩ := rep1 r1
      cases r2
      have hl : (ItD.rng 0 j.toNat).items.length = j.toNat := by simp [ItD.items]
      refine ⟨j, rfl, hj.1, hj.2, k _ H1 μ1 E1 S1 ⟨fun i μ2 H2 st' E S g hi => ?_, fun μ2 H2 st' E S g => ?_, fun i μ2 H2 st' y H' E S g hi z => ?_⟩⟩
      · show i < j.toNat
        rw [← hl]; exact hi
      · show j.toNat ≤ _
        rw [hl]; exact Nat.le_refl _
      · obtain ⟨rfl, rfl⟩ := z
        refine ⟨rfl, .int (0 + i), ?_, rfl⟩
        show ((List.range j.toNat).map _)[i]? = _
        rw [hl] at hi
        rw [List.getElem?_map, List.getElem?_range hi]; rfl
    · cases e'
  · cases e'
end

/-! ### for -/
noncomputable def loopF (it : ItD) (g : Tgt) (b : FS) : List D → FS
  | [], ρ, st => if gd it st then some (.nx ρ st) else none
  | d :: ds, ρ, st => if gd it st then (asg g d ρ).bind fun ρ1 => (b ρ1 st).bind fun o => match o with
    | .nx ρ2 st2 => loopF it g b ds ρ2 st2
    | .ct ρ2 st2 => loopF it g b ds ρ2 st2
    | .bk ρ2 st2 => some (.nx ρ2 st2)
    | .rt d st2 => some (.rt d st2) else none
noncomputable def sFor (fi : FI) (g : Tgt) (b : FS) : FS := fun ρ st => (fi ρ st).bind fun p => loopF p.1 g b p.1.items ρ p.2
section
variable {c : Cz} {X : Cx} {tg e : Expr} {fi : FI} {g : Tgt} {b : FS} {body : List Stmt} {pos : Pos}
theorem q_for (hx : Cok c X) (hi : QI c X tg e fi) (hg : PG X tg (tgV X.K g)) (hb : QSs c X body b) (hs : ∀ x, foldedSetIterable e X.env x = pure x := by intro _; rfl) : QS c X (.For tg e body [] pos) (sFor fi g b) := by
  obtain ⟨wi, h1, h2⟩ := hi.pi
  refine PS.of (ps_for hx.pass hx.calm h1 hg hb hs) fun D σ H q => h2 _ _ _ ?_
  obtain ⟨ρ, st, μ, RE, S, o, e, k⟩ := q
  obtain ⟨⟨it, st1⟩, e1, e⟩ := bind_some e
  refine ⟨ρ, st, μ, RE, S, it, st1, e1, fun J H1 μ1 E1 S1 ok => ?_⟩
  refine ⟨fun i m σ H => m = it.items.length - i ∧ i ≤ it.items.length ∧ ∃ ρ st μ, Ext μ1 H1 μ H ∧ RelE c μ H ρ σ ∧ Stor c μ st H ∧ ResS c μ H (loopF it g b (it.items.drop i) ρ st) D,
    ⟨_, rfl, Nat.zero_le _, ρ, st1, μ1, Ext.refl, RE.ext E1, S1, ResS.ext E1 ⟨o, e, k⟩⟩, ?_⟩
  rintro i m σ2 H2 ⟨rfl, hi, ρ2, st2, μ2, E2, R2, S2, Q2⟩
  by_cases hlt : i < it.items.length
  · right
    rw [List.drop_eq_getElem_cons hlt] at Q2
    obtain ⟨o2, e2, k2⟩ := Q2
    rw [loopF] at e2
    split at e2
    · rename_i hg2
      obtain ⟨ρ3, e3, e2⟩ := bind_some e2
      obtain ⟨o3, e4, e2⟩ := bind_some e2
      refine ⟨ok.goes i μ2 H2 st2 E2 S2 hg2 hlt, fun σ' H' => ∃ ρ st μ, Ext μ1 H1 μ H' ∧ RelE c μ H' ρ σ' ∧ Stor c μ st H' ∧ ResS c μ H' (loopF it g b (it.items.drop (i + 1)) ρ st) D,
        fun σ' H' n => ⟨it.items.length - (i + 1), by omega, rfl, hlt, n⟩, fun x H' y => ?_⟩
      obtain ⟨rfl, d, hd, rx⟩ := ok.yields i μ2 H2 st2 x H' E2 S2 hg2 hlt y
      rw [List.getElem?_eq_getElem hlt] at hd
      cases hd
      obtain ⟨σ', R3, _, K3⟩ := asg_ok hx e3 R2 rx
      refine K3 _ ⟨ρ3, st2, μ2, R3, S2, o3, e4, ?_⟩
      cases o3 with
      | nx ρ4 st4 => exact fun σ4 H4 μ4 E4 S4 R4 => ⟨ρ4, st4, μ4, E2.trans E4, R4, S4, ResS.ext E4 ⟨o2, e2, k2⟩⟩
      | ct ρ4 st4 => exact fun σ4 H4 μ4 E4 S4 R4 => ⟨ρ4, st4, μ4, E2.trans E4, R4, S4, ResS.ext E4 ⟨o2, e2, k2⟩⟩
      | bk ρ4 st4 => cases e2; exact k2
      | rt d st4 => cases e2; exact k2
    · cases e2
  · have hn : i = it.items.length := by omega
    subst hn
    left
    rw [List.drop_eq_nil_of_le (Nat.le_refl _)] at Q2
    obtain ⟨o2, e2, k2⟩ := Q2
    rw [loopF] at e2
    split at e2
    · rename_i hg2
      cases e2
      exact ⟨ok.stops μ2 H2 st2 E2 S2 hg2, k2 σ2 H2 μ2 Ext.refl S2 R2⟩
    · cases e2
end

/-! ### while -/
def iterW (fc : FT) (b : FS) : Nat → FS
  | 0, _, _ => none
  | n + 1, ρ, st => (fc ρ st).bind fun p => if p.1 = true then (b ρ p.2).bind fun o => match o with
    | .nx ρ2 st2 => iterW fc b n ρ2 st2
    | .ct ρ2 st2 => iterW fc b n ρ2 st2
    | .bk ρ2 st2 => some (.nx ρ2 st2)
    | .rt d st2 => some (.rt d st2) else some (.nx ρ p.2)
theorem iterW_succ {fc : FT} {b : FS} : ∀ {n : Nat} {ρ : Env'} {st : Sto} {o : Out}, iterW fc b n ρ st = some o → iterW fc b (n + 1) ρ st = some o
  | 0, _, _, _, h => by cases h
  | n + 1, ρ, st, o, h => by
    rw [iterW] at h ⊢
    obtain ⟨p, e1, e2⟩ := bind_some h
    rw [e1]
    show (if p.1 = true then _ else _) = _
    split at e2
    · rename_i hp
      rw [if_pos hp]
      obtain ⟨o1, e3, e4⟩ := bind_some e2
      rw [e3]
      cases o1 with
      | nx ρ2 st2 => exact iterW_succ (n := n) e4
      | ct ρ2 st2 => exact iterW_succ (n := n) e4
      | bk ρ2 st2 => exact e4
      | rt d st2 => exact e4
    · rename_i hp
      rw [if_neg hp]
      exact e2
theorem iterW_le {fc : FT} {b : FS} {n m : Nat} (h : n ≤ m) {ρ : Env'} {st : Sto} {o : Out} (e : iterW fc b n ρ st = some o) : iterW fc b m ρ st = some o := by
  induction h with
  | refl => exact e
  | step _ ih => exact iterW_succ ih
open Classical in
noncomputable def sWhile (fc : FT) (b : FS) : FS := fun ρ st => if h : ∃ n o, iterW fc b n ρ st = some o then some h.choose_spec.choose else none
theorem sWhile_of {fc : FT} {b : FS} {n : Nat} {ρ : Env'} {st : Sto} {o : Out} (h : iterW fc b n ρ st = some o) : sWhile fc b ρ st = some o := by
  have hx : ∃ n o, iterW fc b n ρ st = some o := ⟨n, o, h⟩
  unfold sWhile
  rw [dif_pos hx]
  have h2 := hx.choose_spec.choose_spec
  have h3 := iterW_le (Nat.le_max_left n hx.choose) h
  have h4 := iterW_le (Nat.le_max_right n hx.choose) h2
  rw [h4] at h3
  exact h3
theorem sWhile_some {fc : FT} {b : FS} {ρ : Env'} {st : Sto} {o : Out} (h : sWhile fc b ρ st = some o) : ∃ n, iterW fc b n ρ st = some o := by
  unfold sWhile at h
  split at h
  · rename_i hx
    cases h
    exact ⟨hx.choose, hx.choose_spec.choose_spec⟩
  · cases h
section
variable {c : Cz} {X : Cx} {e : Expr} {fc : FT} {b : FS} {body : List Stmt} {pos : Pos}
theorem q_while (hx : Cok c X) (hc : QT c X e fc) (hb : QSs c X body b) : QS c X (.While e body [] pos) (sWhile fc b) := PS.of (ps_while hx.pass hc hb) fun D σ H q => by
  obtain ⟨ρ, st, μ, RE, S, o, e, k⟩ := q
  obtain ⟨n, e⟩ := sWhile_some e
  refine ⟨fun m σ H => ∃ ρ st μ, RelE c μ H ρ σ ∧ Stor c μ st H ∧ ResS c μ H (iterW fc b m ρ st) D, ⟨n, ρ, st, μ, RE, S, o, e, k⟩, ?_⟩
  rintro m σ2 H2 ⟨ρ2, st2, μ2, R2, S2, o2, e2, k2⟩
  cases m with
  | zero => cases e2
  | succ m =>
    rw [iterW] at e2
    obtain ⟨⟨t, st3⟩, e3, e2⟩ := bind_some e2
    refine ⟨ρ2, st2, μ2, R2, S2, t, st3, e3, fun H3 μ3 E3 S3 => ?_⟩
    have e2' : (if t = true then (b ρ2 st3).bind fun o => match o with
      | .nx ρ2 st2 => iterW fc b m ρ2 st2
      | .ct ρ2 st2 => iterW fc b m ρ2 st2
      | .bk ρ2 st2 => some (.nx ρ2 st2)
      | .rt d st2 => some (.rt d st2) else some (.nx ρ2 st3)) = some o2 := e2
    clear e2
    by_cases ht : t = true
    · rw [if_pos ht] at e2'
      show if t = true then _ else _
      rw [if_pos ht]
      obtain ⟨o3, e4, e5⟩ := bind_some e2'
      refine ⟨fun σ' H' => ∃ ρ st μ, RelE c μ H' ρ σ' ∧ Stor c μ st H' ∧ ResS c μ H' (iterW fc b m ρ st) D, fun σ' H' n => ⟨m, Nat.lt_succ_self _, n⟩, ρ2, st3, μ3, R2.ext E3, S3, o3, e4, ?_⟩
      cases o3 with
      | nx ρ4 st4 => exact fun σ4 H4 μ4 E4 S4 R4 => ⟨ρ4, st4, μ4, R4, S4, ResS.ext (E3.trans E4) ⟨o2, e5, k2⟩⟩
      | ct ρ4 st4 => exact fun σ4 H4 μ4 E4 S4 R4 => ⟨ρ4, st4, μ4, R4, S4, ResS.ext (E3.trans E4) ⟨o2, e5, k2⟩⟩
      | bk ρ4 st4 => cases e5; exact Hit.ext (E := ⟨D.nx, D.rt, D.nx, D.nx⟩) (r := .nx ρ4 st4) E3 k2
      | rt d st4 => cases e5; exact Hit.ext (E := D) (r := .rt d st4) E3 k2
    · rw [if_neg ht] at e2'
      show if t = true then _ else _
      rw [if_neg ht]
      cases e2'
      exact k2 σ2 H3 μ3 E3 S3 (R2.ext E3)
end

/-! ### the plain statements -/
def sNx : FS := fun ρ st => some (.nx ρ st)
def sSeq (f g : FS) : FS := fun ρ st => (f ρ st).bind fun o => match o with
  | .nx ρ2 st2 => g ρ2 st2
  | o => some o
def sNever : FS := fun _ _ => none
def sDrop (f : FE) : FS := fun ρ st => (f ρ st).map fun p => .nx ρ p.2
def sRet (f : FE) : FS := fun ρ st => (f ρ st).map fun p => .rt p.1 p.2
def sIf (t : FT) (f g : FS) : FS := fun ρ st => (t ρ st).bind fun p => if p.1 = true then f ρ p.2 else g ρ p.2
def sAsg (t : Tgt) (f : FE) : FS := fun ρ st => (f ρ st).bind fun p => (asg t p.1 ρ).map fun ρ' => .nx ρ' p.2
section
variable {c : Cz} {X : Cx} {e : Expr} {f : FE} {t : FT} {s : Stmt} {ss a b : List Stmt} {g g' : FS} {pos : Pos} {tg : Tgt}
theorem qs_nil : QSs c X [] sNx := PSs.of pss_nil fun D σ H ⟨ρ, st, μ, R, S, o, e, k⟩ => by
  cases e
  exact k σ H μ Ext.refl S R
theorem qs_cons (h1 : QS c X s g) (h2 : QSs c X ss g') : QSs c X (s :: ss) (sSeq g g') := PSs.of (pss_cons h1 h2) fun D σ H ⟨ρ, st, μ, R, S, o, e, k⟩ => by
  obtain ⟨o1, e1, e2⟩ := bind_some e
  refine ⟨ρ, st, μ, R, S, o1, e1, ?_⟩
  cases o1 with
  | nx ρ4 st4 => exact fun σ4 H4 μ4 E4 S4 R4 => ⟨ρ4, st4, μ4, R4, S4, ResS.ext E4 ⟨o, e2, k⟩⟩
  | ct ρ4 st4 => cases e2; exact k
  | bk ρ4 st4 => cases e2; exact k
  | rt d st4 => cases e2; exact k
theorem qs_one (h1 : QS c X s g) : QSs c X [s] g := pss_one h1
theorem qs_never : QSs c X ss sNever := PSs.of pss_never fun D σ H ⟨ρ, st, μ, R, S, o, e, k⟩ => by cases e
theorem q_never : QS c X s sNever := PS.of ps_never fun D σ H ⟨ρ, st, μ, R, S, o, e, k⟩ => by cases e
theorem q_expr (he : QE c X e f) (hs : swapsWith e none pos.line X.env = pure false := by rfl) : QS c X (.Expr e pos) (sDrop f) := PS.of (ps_expr he hs) fun D σ H ⟨ρ, st, μ, R, S, o, e, k⟩ => by
  obtain ⟨⟨d, st1⟩, e1, e2⟩ := Option.map_eq_some_iff.mp e
  cases e2
  exact ⟨ρ, st, μ, R, S, d, st1, e1, fun v H1 μ1 E1 S1 r1 => k σ H1 μ1 E1 S1 (R.ext E1)⟩
theorem q_ret (he : QE c X e f) : QS c X (.Return (some e) pos) (sRet f) := PS.of (ps_ret he) fun D σ H ⟨ρ, st, μ, R, S, o, e, k⟩ => by
  obtain ⟨⟨d, st1⟩, e1, e2⟩ := Option.map_eq_some_iff.mp e
  cases e2
  exact ⟨ρ, st, μ, R, S, d, st1, e1, fun v H1 μ1 E1 S1 r1 => k v H1 μ1 E1 S1 r1⟩
theorem q_if (hc : QT c X e t) (ha : QSs c X a g) (hb : QSs c X b g') : QS c X (.If e a b pos) (sIf t g g') := PS.of (ps_if hc ha hb) fun D σ H ⟨ρ, st, μ, R, S, o, e, k⟩ => by
  obtain ⟨⟨d, st1⟩, e1, e2⟩ := bind_some e
  refine ⟨ρ, st, μ, R, S, d, st1, e1, fun H1 μ1 E1 S1 => ?_⟩
  have e' : (if d = true then g ρ st1 else g' ρ st1) = some o := e2
  by_cases hd : d = true
  · rw [if_pos hd] at e'
    show if d = true then _ else _
    rw [if_pos hd]
    exact ⟨ρ, st1, μ1, R.ext E1, S1, o, e', k.ext E1⟩
  · rw [if_neg hd] at e'
    show if d = true then _ else _
    rw [if_neg hd]
    exact ⟨ρ, st1, μ1, R.ext E1, S1, o, e', k.ext E1⟩
theorem asg_lift (hx : Cok c X) {D : Ends} {σ : L2.St} {H : Hp} (q : LS c (sAsg tg f) D σ H) : tAsg (LE c f) (tgV X.K tg) D σ H := by
  obtain ⟨ρ, st, μ, R, S, o, e, k⟩ := q
  obtain ⟨⟨d, st1⟩, e1, e2⟩ := bind_some e
  obtain ⟨ρ', e3, e4⟩ := Option.map_eq_some_iff.mp e2
  cases e4
  refine ⟨ρ, st, μ, R, S, d, st1, e1, fun v H1 μ1 E1 S1 r1 => ?_⟩
  obtain ⟨σ', R3, _, K3⟩ := asg_ok hx e3 (R.ext E1) r1
  exact K3 _ (k σ' H1 μ1 E1 S1 R3)
theorem q_asg (hx : Cok c X) {te : Expr} (he : QE c X e f) (hg : PG X te (tgV X.K tg)) (hs : swapsWithSole [te] e pos.line X.env = pure false := by rfl) (hw : swappedStores [te] e X.env = pure none := by rfl)
    (h1 : (assignEach [te] X.env).map (·.2) = [assign te X.env] := by rfl) : QS c X (.Assign [te] e pos) (sAsg tg f) := PS.of (ps_asg he hg hs hw h1) fun D σ H q => asg_lift hx q
theorem q_set (hx : Cok c X) {i : Nat} {x : Str} {pos' : Pos} (he : QE c X e f) (hN : X.N.Nodup) (hi : X.N[i]? = some x := by rfl) (hl : Loc X.env.scope x := by first | exact Or.inl rfl | exact Or.inr rfl) (hs : swapsWith e (some (.Name x pos')) pos.line X.env = pure false := by rfl)
    (hf : X.fn x = true ∨ X.env.scope.names.lookup x = some .local := by first | exact .inl rfl | exact .inr rfl) : QS c X (.Assign [.Name x pos'] e pos) (sAsg (.nm i) f) := PS.of (ps_set hN hi hl he hs hf) fun D σ H q => asg_lift hx q
/-- x += n, whole numbers -/
def addI : D → D → Option D
  | .int i, .int j => some (.int (i + j))
  | _, _ => none
def sAug (i : Nat) (f : FE) : FS := fun ρ st => (fVar i ρ st).bind fun p => (f ρ p.2).bind fun q => (addI p.1 q.1).map fun z => .nx (ρ.set i (some z)) q.2
end
end Lw
end
section
set_option Elab.async false
set_option linter.all false
set_option autoImplicit false
set_option maxRecDepth 100000
/-! Dfun: comprehensions, bound methods, the promise of a def. -/
namespace Lw
open PySem PySem.Spec PyProof.Rows L2

/-! ### x += n -/
section
variable {c : Cz} {X : Cx} {e : Expr} {f : FE} {pos : Pos}
theorem fVar_some {i : Nat} {ρ : Env'} {st st' : Sto} {d : D} (h : fVar i ρ st = some (d, st')) : ρ[i]? = some (some d) ∧ st' = st := by
  unfold fVar at h
  split at h
  · rename_i hd
    cases h
    exact ⟨hd, rfl⟩
  · cases h
theorem q_aug {i : Nat} {x : Str} {pos' : Pos} (he : QE c X e f) (hN : X.N.Nodup) (hi : X.N[i]? = some x := by rfl) (hl : Loc X.env.scope x := by first | exact Or.inl rfl | exact Or.inr rfl)
    (hf : X.fn x = true ∨ X.env.scope.names.lookup x = some .local := by first | exact .inl rfl | exact .inr rfl) : QS c X (.AugAssign (.Name x pos') .Add e pos) (sAug i f) :=
  PS.of (ps_aug (ti := fun x y H Q => rI0 (fun i j => .int (i + j)) x y H Q) hN hi hl he (fun pins s σ H x y v u Q I a b q => iop_add pins s σ H x y v u Q I a b q) hf) fun D σ H ⟨ρ, st, μ, R, S, o, e, k⟩ => by
  obtain ⟨⟨d1, st2⟩, e3, e1⟩ := bind_some e
  obtain ⟨⟨d2, st3⟩, e4, e1⟩ := bind_some e1
  obtain ⟨z, e5, e6⟩ := Option.map_eq_some_iff.mp e1
  cases e6
  obtain ⟨hd, rfl⟩ := fVar_some e3
  obtain ⟨v, h1, h2⟩ := R.at_ i _ hd
  refine ⟨v, h1, ρ, st2, μ, R, S, d2, st3, e4, fun y H1 μ1 E1 S1 r1 => ?_⟩
  have e7 : addI d1 d2 = some z := e5
  unfold addI at e7
  split at e7
  · cases e7; cases h2; cases r1
    exact ⟨_, _, rfl, rfl, k _ H1 μ1 E1 S1 ((R.ext E1).set i rfl)⟩
  · cases e7
end

/-! ### comprehensions -/
def wipeD (ρ : Env') : List Nat → Env'
  | [] => ρ
  | v :: vs => (wipeD ρ vs).set v none
def fYes : FT := fun _ st => some (true, st)
noncomputable def lcGo (it : ItD) (g : Tgt) (ft : FT) (fe : FE) (n : Nat) (ρ : Env') : List D → Sto → Option Sto
  | [], st => if gd it st then some st else none
  | d :: ds, st => if gd it st then (asg g d ρ).bind fun ρ1 => (ft ρ1 st).bind fun b => if b.1 = true then (fe ρ1 b.2).bind fun y => (appendD (.loc n) [y.1] y.2).bind fun w => lcGo it g ft fe n ρ ds w.2 else lcGo it g ft fe n ρ ds b.2 else none
noncomputable def fLc (fi : FI) (g : Tgt) (ft : FT) (fe : FE) (vs : List Nat) : FE := fun ρ st => (fi ρ st).bind fun i => (lcGo i.1 g ft fe i.2.length (wipeD ρ vs) i.1.items (i.2 ++ [.lst []])).map fun st' => (.loc i.2.length, st')
noncomputable def lc2Go (it : ItD) (g : Tgt) (ft : FT) (fi1 : FI) (g1 : Tgt) (ft1 : FT) (fe : FE) (vs1 : List Nat) (n : Nat) (ρ : Env') : List D → Sto → Option Sto
  | [], st => if gd it st then some st else none
  | d :: ds, st => if gd it st then (asg g d ρ).bind fun ρ1 => (ft ρ1 st).bind fun b => if b.1 = true then (fi1 ρ1 b.2).bind fun i1 => (lcGo i1.1 g1 ft1 fe n (wipeD ρ1 vs1) i1.1.items i1.2).bind fun st2 => lc2Go it g ft fi1 g1 ft1 fe vs1 n ρ ds st2 else lc2Go it g ft fi1 g1 ft1 fe vs1 n ρ ds b.2 else none
noncomputable def fLc2 (fi : FI) (g : Tgt) (ft : FT) (fi1 : FI) (g1 : Tgt) (ft1 : FT) (fe : FE) (vs vs1 : List Nat) : FE := fun ρ st => (fi ρ st).bind fun i => (lc2Go i.1 g ft fi1 g1 ft1 fe vs1 i.2.length (wipeD ρ vs) i.1.items (i.2 ++ [.lst []])).map fun st' => (.loc i.2.length, st')

section
variable {c : Cz} {X : Cx} {μ : List Addr} {H : Hp}
theorem wipe_rel {ρ : Env'} {σ : L2.St} (R : RelE c μ H ρ σ) : ∀ vs : List Nat, RelE c μ H (wipeD ρ vs) (wipe σ vs)
  | [] => R
  | v :: vs => (wipe_rel R vs).unset v
theorem Cok.blk (hx : Cok c X) {s : Shared} {H : Hp} {scope : Scope} {cenv : Env} {fp : List Addr} : Cok c (X.blk s H scope cenv fp) := ⟨hx.K, hx.P, hx.w, hx.calm, hx.un, PassesOwn.never⟩
theorem appendD_some {k : Nat} {z z' : D} {st st' : Sto} (h : appendD (.loc k) [z] st = some (z', st')) : ∃ xs, st[k]? = some (.lst xs) ∧ xs.length < 100000 ∧ st' = st.set k (.lst (xs ++ [z])) := by
  simp only [appendD] at h
  split at h
  · rename_i xs hn
    split at h
    · rename_i hl
      cases h
      exact ⟨xs, hn, hl, rfl⟩
    · cases h
  · cases h
theorem wipe_in {σ : L2.St} {i : Nat} : ∀ {vs : List Nat}, i ∈ vs → i < σ.length → (wipe σ vs)[i]? = some none
  | v :: vs, h, hl => by
    unfold wipe
    by_cases e : v = i
    · subst e
      rw [List.getElem?_set_self (by rw [wipe_length]; exact hl)]
    · rw [List.getElem?_set_ne e]
      exact wipe_in ((List.mem_cons.mp h).resolve_left fun z => e z.symm) hl
theorem wipe_twice {σ : L2.St} (vs : List Nat) : wipe (wipe σ vs) vs = wipe σ vs := by
  apply List.ext_getElem?
  intro i
  by_cases h : i ∈ vs
  · by_cases hl : i < σ.length
    · rw [wipe_in h hl, wipe_in h (by rw [wipe_length]; exact hl)]
    · rw [List.getElem?_eq_none (by rw [wipe_length, wipe_length]; omega), List.getElem?_eq_none (by rw [wipe_length]; omega)]
  · rw [wipe_out h]
theorem ItOk.ext {it : ItD} {J : It} {μ μ' : List Addr} {H H' : Hp} (ok : ItOk c it J μ H) (e : Ext μ H μ' H') : ItOk c it J μ' H' :=
  ⟨fun i μ2 H2 st E => ok.goes i μ2 H2 st (e.trans E), fun μ2 H2 st E => ok.stops μ2 H2 st (e.trans E), fun i μ2 H2 st x H3 E => ok.yields i μ2 H2 st x H3 (e.trans E)⟩
/-- one loop of a comprehension: the invariant holds, or the end is reached -/
theorem lcGo_ok (hx : Cok c X) {it : ItD} {J : It} {μ₀ : List Addr} {H₀ : Hp} (ok : ItOk c it J μ₀ H₀) {g : Tgt} {ft : FT} {fe : FE} {vs : List Nat} (hg : ∀ i ∈ g.ix, i ∈ vs) {k : Nat} {A : Addr} {ρ : Env'} {σ : L2.St} (R₀ : RelE c μ₀ H₀ ρ σ) (hA : μ₀[k]? = some A) (Qd : Hp → Prop) {stf : Sto} (hend : ∀ μ H, Ext μ₀ H₀ μ H → Stor c μ stf H → Qd H) {st₀ : Sto} (S₀ : Stor c μ₀ st₀ H₀) (h : lcGo it g ft fe k ρ it.items st₀ = some stf)
    (hw : wipe σ vs = σ) :
    ∃ W : Nat → Nat → Hp → Prop, (∃ m, W 0 m H₀) ∧ ∀ i m H, W i m H → (J.stop i H ∧ Qd H) ∨ (J.go i H ∧ ∃ Nx : Hp → Prop, (∀ H', Nx H' → ∃ m', m' < m ∧ W (i + 1) m' H') ∧ ∀ x H', J.yld i H x H' → tgV X.K g x σ H' fun σ2 H2 => wipe σ2 vs = σ ∧ LT c ft σ2 H2 fun b H3 =>
      if b = true then LE c fe σ2 H3 fun y H4 => ∃ acc, H4 A = some (.lst acc) ∧ acc.length < sizeLine ∧ Nx (upd H4 A (.lst (acc ++ [y]))) else Nx H3) := by
  refine ⟨fun i m H => m = it.items.length - i ∧ i ≤ it.items.length ∧ ∃ st μ, Ext μ₀ H₀ μ H ∧ Stor c μ st H ∧ lcGo it g ft fe k ρ (it.items.drop i) st = some stf, ⟨_, rfl, Nat.zero_le _, st₀, μ₀, Ext.refl, S₀, h⟩, ?_⟩
  rintro i m H ⟨rfl, hi, st, μ, E, S, e⟩
  by_cases hlt : i < it.items.length
  · right
    rw [List.drop_eq_getElem_cons hlt, lcGo] at e
    split at e
    · rename_i hgd
      obtain ⟨ρ1, e1, e⟩ := bind_some e
      obtain ⟨⟨b, st1⟩, e2, e⟩ := bind_some e
      refine ⟨ok.goes i μ H st E S hgd hlt, fun H' => ∃ st μ, Ext μ₀ H₀ μ H' ∧ Stor c μ st H' ∧ lcGo it g ft fe k ρ (it.items.drop (i + 1)) st = some stf, fun H' n => ⟨it.items.length - (i + 1), by omega, rfl, hlt, n⟩, fun x H' y => ?_⟩
      obtain ⟨rfl, d, hd, rx⟩ := ok.yields i μ H st x H' E S hgd hlt y
      rw [List.getElem?_eq_getElem hlt] at hd
      cases hd
      obtain ⟨σ', R1, w1, K1⟩ := asg_ok hx e1 (R₀.ext E) rx
      refine K1 _ ⟨(w1 vs hg).trans hw, ρ1, st, μ, R1, S, b, st1, e2, fun H2 μ2 E2 S2 => ?_⟩
      by_cases hb : b = true
      · rw [if_pos hb] at e
        show if b = true then _ else _
        rw [if_pos hb]
        obtain ⟨⟨z, st2⟩, e3, e⟩ := bind_some e
        obtain ⟨⟨z', st3⟩, e4, e⟩ := bind_some e
        refine ⟨ρ1, st1, μ2, R1.ext E2, S2, z, st2, e3, fun v H3 μ3 E3 S3 r3 => ?_⟩
        obtain ⟨xs, hn, hl, rfl⟩ := appendD_some e4
        have hA3 : μ3[k]? = some A := E3.at (E2.at (E.at hA))
        obtain ⟨vs', h1, h2⟩ := S3.ob _ _ _ hn hA3
        refine ⟨vs', h1, by rw [h2.len]; exact top_lt hl, _, μ3, ?_, ?_, e⟩
        · exact ((E.trans E2).trans E3).trans (Ext.write S3 hn hA3)
        · exact S3.write hn hA3 ⟨_, upd_same, (h2.append (RepL.cons r3 RepL.nil)).ext (Ext.write S3 hn hA3)⟩
      · rw [if_neg hb] at e
        show if b = true then _ else _
        rw [if_neg hb]
        exact ⟨st1, μ2, E.trans E2, S2, e⟩
    · cases e
  · have hn : i = it.items.length := by omega
    subst hn
    left
    rw [List.drop_eq_nil_of_le (Nat.le_refl _), lcGo] at e
    split at e
    · rename_i hgd
      cases e
      exact ⟨ok.stops μ H _ E S hgd, hend μ H E S⟩
    · cases e

theorem lc_lift (hx : Cok c X) {wi : TI} {fi : FI} (hi : ∀ σ H R, LI c fi σ H R → wi σ H R) {g : Tgt} {ft : FT} {fe : FE} {vs : List Nat} (hg : ∀ i ∈ g.ix, i ∈ vs) {σ : L2.St} {H : Hp} {Q : VK} (q : LE c (fLc fi g ft fe vs) σ H Q) : tLc wi (tgV X.K g) (LT c ft) (LE c fe) vs σ H Q := by
  obtain ⟨ρ, st, μ, R, S, z, st', e, k⟩ := q
  obtain ⟨⟨it, st1⟩, e1, e⟩ := bind_some e
  obtain ⟨stf, e2, e3⟩ := Option.map_eq_some_iff.mp e
  cases e3
  refine hi _ _ _ ⟨ρ, st, μ, R, S, it, st1, e1, fun J H1 μ1 E1 S1 ok A hA => ?_⟩
  have E2 : Ext μ1 H1 (μ1 ++ [A]) (upd H1 A (.lst [])) := Ext.push hA
  have S2 : Stor c (μ1 ++ [A]) (st1 ++ [.lst []]) (upd H1 A (.lst [])) := S1.push hA ⟨[], upd_same, RepL.nil⟩
  have hk : (μ1 ++ [A])[st1.length]? = some A := by rw [← S1.len]; simp
  exact lcGo_ok hx (ok.ext E2) hg (wipe_rel (R.ext (E1.trans E2)) vs) hk (Q (.ref A)) (fun μ3 H3 E3 S3 => k (.ref A) H3 μ3 ((E1.trans E2).trans E3) S3 ⟨A, rfl, E3.at hk⟩) S2 e2 (wipe_twice vs)
theorem lc2_lift (hx : Cok c X) {wi wi1 : TI} {fi fi1 : FI} (hi : ∀ σ H R, LI c fi σ H R → wi σ H R) (hi1 : ∀ σ H R, LI c fi1 σ H R → wi1 σ H R) {g g1 : Tgt} {ft ft1 : FT} {fe : FE} {vs vs1 : List Nat} (hg : ∀ i ∈ g.ix, i ∈ vs) (hg1 : ∀ i ∈ g1.ix, i ∈ vs1) {σ : L2.St} {H : Hp} {Q : VK} (q : LE c (fLc2 fi g ft fi1 g1 ft1 fe vs vs1) σ H Q) :
    tLc2 wi (tgV X.K g) (LT c ft) wi1 (tgV X.K g1) (LT c ft1) (LE c fe) vs vs1 σ H Q := by
  obtain ⟨ρ, st, μ, R, S, z, st', e, k⟩ := q
  obtain ⟨⟨it, st1⟩, e1, e⟩ := bind_some e
  obtain ⟨stf, e2, e3⟩ := Option.map_eq_some_iff.mp e
  cases e3
  refine hi _ _ _ ⟨ρ, st, μ, R, S, it, st1, e1, fun J H1 μ1 E1 S1 ok A hA => ?_⟩
  have E2 : Ext μ1 H1 (μ1 ++ [A]) (upd H1 A (.lst [])) := Ext.push hA
  have S2 : Stor c (μ1 ++ [A]) (st1 ++ [.lst []]) (upd H1 A (.lst [])) := S1.push hA ⟨[], upd_same, RepL.nil⟩
  have hk : (μ1 ++ [A])[st1.length]? = some A := by rw [← S1.len]; simp
  have e2' : lc2Go it g ft fi1 g1 ft1 fe vs1 st1.length (wipeD ρ vs) it.items (st1 ++ [.lst []]) = some st' := e2
  clear e2
  refine ⟨fun i m H => m = it.items.length - i ∧ i ≤ it.items.length ∧ ∃ st μ, Ext (μ1 ++ [A]) (upd H1 A (.lst [])) μ H ∧ Stor c μ st H ∧ lc2Go it g ft fi1 g1 ft1 fe vs1 st1.length (wipeD ρ vs) (it.items.drop i) st = some st', ⟨_, rfl, Nat.zero_le _, _, _, Ext.refl, S2, e2'⟩, ?_⟩
  rintro i m H2 ⟨rfl, hi', st2, μ2, E3, S3, e⟩
  have R3 := wipe_rel (R.ext ((E1.trans E2).trans E3)) vs
  by_cases hlt : i < it.items.length
  · right
    rw [List.drop_eq_getElem_cons hlt, lc2Go] at e
    split at e
    · rename_i hgd
      obtain ⟨ρ1, e4, e⟩ := bind_some e
      obtain ⟨⟨b, st3⟩, e5, e⟩ := bind_some e
      refine ⟨ok.goes i μ2 H2 st2 (E2.trans E3) S3 hgd hlt, fun H' => ∃ st μ, Ext (μ1 ++ [A]) (upd H1 A (.lst [])) μ H' ∧ Stor c μ st H' ∧ lc2Go it g ft fi1 g1 ft1 fe vs1 st1.length (wipeD ρ vs) (it.items.drop (i + 1)) st = some st', fun H' n => ⟨it.items.length - (i + 1), by omega, rfl, hlt, n⟩, fun x H' y => ?_⟩
      obtain ⟨rfl, d, hd, rx⟩ := ok.yields i μ2 H2 st2 x H' (E2.trans E3) S3 hgd hlt y
      rw [List.getElem?_eq_getElem hlt] at hd
      cases hd
      obtain ⟨σ2, R4, w1, K1⟩ := asg_ok hx e4 R3 rx
      refine K1 _ ⟨(w1 vs hg).trans (wipe_twice vs), ρ1, st2, μ2, R4, S3, b, st3, e5, fun H3 μ3 E4 S4 => ?_⟩
      have e' : (if b = true then (fi1 ρ1 st3).bind fun i1 => (lcGo i1.1 g1 ft1 fe st1.length (wipeD ρ1 vs1) i1.1.items i1.2).bind fun st2 => lc2Go it g ft fi1 g1 ft1 fe vs1 st1.length (wipeD ρ vs) (it.items.drop (i + 1)) st2 else lc2Go it g ft fi1 g1 ft1 fe vs1 st1.length (wipeD ρ vs) (it.items.drop (i + 1)) st3) = some st' := e
      clear e
      by_cases hb : b = true
      · rw [if_pos hb] at e'
        show if b = true then _ else _
        rw [if_pos hb]
        obtain ⟨⟨it1, st4⟩, e6, e⟩ := bind_some e'
        obtain ⟨st5, e7, e⟩ := bind_some e
        refine hi1 _ _ _ ⟨ρ1, st3, μ3, R4.ext E4, S4, it1, st4, e6, fun J1 H4 μ4 E5 S5 ok1 => ?_⟩
        exact lcGo_ok hx ok1 hg1 (wipe_rel (R4.ext (E4.trans E5)) vs1) (E5.at (E4.at (E3.at hk))) _ (fun μ5 H5 E6 S6 => ⟨st5, μ5, ((E3.trans E4).trans E5).trans E6, S6, e⟩) S5 e7 (wipe_twice vs1)
      · rw [if_neg hb] at e'
        show if b = true then _ else _
        rw [if_neg hb]
        exact ⟨st3, μ3, E3.trans E4, S4, e'⟩
    · cases e
  · have hn : i = it.items.length := by omega
    subst hn
    left
    rw [List.drop_eq_nil_of_le (Nat.le_refl _), lc2Go] at e
    split at e
    · rename_i hgd
      cases e
      exact ⟨ok.stops μ2 H2 _ (E2.trans E3) S3 hgd, k (.ref A) H2 μ2 ((E1.trans E2).trans E3) S3 ⟨A, rfl, E3.at hk⟩⟩
    · cases e
theorem PTs.of {X : Cx} {ifs : List Expr} {t t' : TT} (h : PTs X ifs t) (i : ∀ σ H Q, t' σ H Q → t σ H Q) : PTs X ifs t' := ⟨fun pins s σ H Q I q => h.run pins s σ H Q I (i σ H Q q)⟩
theorem ts_nil : PTs X [] (LT c fYes) := PTs.of pts_nil fun σ H Q ⟨ρ, st, μ, R, S, q⟩ => ResB.same q S
theorem ts_one {e : Expr} {ft : FT} (h : QT c X e ft) : PTs X [e] (LT c ft) := pts_one h
section
variable {elt tg iter tg1 iter1 : Expr} {ifs ifs1 : List Expr} {scope : Scope} {own : List (Str × Nat)} {vs1 : List Nat} {pos spos py : Pos} {fi fi1 : FI} {g g1 : Tgt} {ft ft1 : FT} {fe : FE} {i : Nat} {y : Str}
theorem q_lc (hx : Cok c X) (hN : X.N.Nodup) (hi : QI c X tg iter fi) (ok : blkC X.N X.env.scope scope own = true) (hv : ∀ i ∈ g.ix, i ∈ own.map (·.2)) (hg : ∀ (s : Shared) (H : Hp) (C : Addr) (cl : List (Str × Addr)) (fp : List Addr), PG (X.blk s H scope (compEnvC scope cl C X.env) fp) tg (tgV X.K g)) (ht : ∀ (s : Shared) (H : Hp) (C : Addr) (cl : List (Str × Addr)) (fp : List Addr), PTs (X.blk s H scope (compEnvC scope cl C X.env) fp) ifs (LT c ft)) (he : ∀ (s : Shared) (H : Hp) (C : Addr) (cl : List (Str × Addr)) (fp : List Addr), QE c (X.blk s H scope (compEnvC scope cl C X.env) fp) elt fe)
    (hs : ∀ x, foldedSetIterable iter X.env x = pure x := by intro _; rfl) : QE c X (.ListComp elt [⟨tg, iter, ifs, 0⟩] scope pos) (fLc fi g ft fe (own.map (·.2))) := by
  obtain ⟨wi, h1, h2⟩ := hi.pi
  exact PE.of (pe_lc hx.calm hN h1 (blkOk_by ok) hg ht he hs) fun σ H Q q => lc_lift hx h2 hv q
theorem q_setLc (hx : Cok c X) (hN : X.N.Nodup) (hi : QI c X tg iter fi) (ok : blkC X.N X.env.scope scope own = true) (hv : ∀ i ∈ g.ix, i ∈ own.map (·.2)) (hg : ∀ (s : Shared) (H : Hp) (C : Addr) (cl : List (Str × Addr)) (fp : List Addr), PG (X.blk s H scope (compEnvC scope cl C X.env) fp) tg (tgV X.K g)) (ht : ∀ (s : Shared) (H : Hp) (C : Addr) (cl : List (Str × Addr)) (fp : List Addr), PTs (X.blk s H scope (compEnvC scope cl C X.env) fp) ifs (LT c ft)) (he : ∀ (s : Shared) (H : Hp) (C : Addr) (cl : List (Str × Addr)) (fp : List Addr), QE c (X.blk s H scope (compEnvC scope cl C X.env) fp) elt fe)
    (hsw : swapsWith (.ListComp elt [⟨tg, iter, ifs, 0⟩] scope pos) (some (.Name y py)) spos.line X.env = pure true) (hy : X.N[i]? = some y := by rfl) (hyl : X.env.scope.names.lookup y = some .local := by rfl)
    (hs : ∀ x, foldedSetIterable iter X.env x = pure x := by intro _; rfl) : QS c X (.Assign [.Name y py] (.ListComp elt [⟨tg, iter, ifs, 0⟩] scope pos) spos) (sAsg (.nm i) (fLc fi g ft fe (own.map (·.2)))) := by
  obtain ⟨wi, h1, h2⟩ := hi.pi
  refine PS.of (ps_setLc hx.calm hN hy hyl hsw h1 (blkOk_by ok) hg ht he hs) fun D σ H q => ?_
  obtain ⟨ρ, st, μ, R, S, o, e, k⟩ := q
  obtain ⟨⟨d, st1⟩, e1, e2⟩ := bind_some e
  cases e2
  exact lc_lift hx h2 hv ⟨ρ, st, μ, R, S, d, st1, e1, fun v H1 μ1 E1 S1 r1 => k _ H1 μ1 E1 S1 ((R.ext E1).set i r1)⟩
theorem q_lc2 (hx : Cok c X) (hN : X.N.Nodup) (hi : QI c X tg iter fi) (ok : blkC X.N X.env.scope scope own = true) (hv1 : ∀ i ∈ vs1, i ∈ own.map (·.2)) (hv : ∀ i ∈ g.ix, i ∈ own.map (·.2)) (hv2 : ∀ i ∈ g1.ix, i ∈ vs1) (hg : ∀ (s : Shared) (H : Hp) (C : Addr) (cl : List (Str × Addr)) (fp : List Addr), PG (X.blk s H scope (compEnvC scope cl C X.env) fp) tg (tgV X.K g)) (ht : ∀ (s : Shared) (H : Hp) (C : Addr) (cl : List (Str × Addr)) (fp : List Addr), PTs (X.blk s H scope (compEnvC scope cl C X.env) fp) ifs (LT c ft))
    {wi1 : TI} (hi1 : ∀ (s : Shared) (H : Hp) (C : Addr) (cl : List (Str × Addr)) (fp : List Addr), PI (X.blk s H scope (compEnvC scope cl C X.env) fp) tg1 iter1 wi1) (hw1 : ∀ σ H R, LI c fi1 σ H R → wi1 σ H R) (hg1 : ∀ (s : Shared) (H : Hp) (C : Addr) (cl : List (Str × Addr)) (fp : List Addr), PG (X.blk s H scope (compEnvC scope cl C X.env) fp) tg1 (tgV X.K g1)) (ht1 : ∀ (s : Shared) (H : Hp) (C : Addr) (cl : List (Str × Addr)) (fp : List Addr), PTs (X.blk s H scope (compEnvC scope cl C X.env) fp) ifs1 (LT c ft1)) (he : ∀ (s : Shared) (H : Hp) (C : Addr) (cl : List (Str × Addr)) (fp : List Addr), QE c (X.blk s H scope (compEnvC scope cl C X.env) fp) elt fe)
    (hs : ∀ x, foldedSetIterable iter X.env x = pure x := by intro _; rfl) (hs1 : ∀ env x, foldedSetIterable iter1 env x = pure x := by intro _ _; rfl) : QE c X (.ListComp elt [⟨tg, iter, ifs, 0⟩, ⟨tg1, iter1, ifs1, 0⟩] scope pos) (fLc2 fi g ft fi1 g1 ft1 fe (own.map (·.2)) vs1) := by
  obtain ⟨wi, h1, h2⟩ := hi.pi
  exact PE.of (pe_lc2 hx.calm hN h1 (blkOk_by ok) hv1 hg ht hi1 hg1 ht1 he hs hs1) fun σ H Q q => lc2_lift hx h2 hw1 hv hv2 q
theorem q_setLc2 (hx : Cok c X) (hN : X.N.Nodup) (hi : QI c X tg iter fi) (ok : blkC X.N X.env.scope scope own = true) (hv1 : ∀ i ∈ vs1, i ∈ own.map (·.2)) (hv : ∀ i ∈ g.ix, i ∈ own.map (·.2)) (hv2 : ∀ i ∈ g1.ix, i ∈ vs1) (hg : ∀ (s : Shared) (H : Hp) (C : Addr) (cl : List (Str × Addr)) (fp : List Addr), PG (X.blk s H scope (compEnvC scope cl C X.env) fp) tg (tgV X.K g)) (ht : ∀ (s : Shared) (H : Hp) (C : Addr) (cl : List (Str × Addr)) (fp : List Addr), PTs (X.blk s H scope (compEnvC scope cl C X.env) fp) ifs (LT c ft))
    {wi1 : TI} (hi1 : ∀ (s : Shared) (H : Hp) (C : Addr) (cl : List (Str × Addr)) (fp : List Addr), PI (X.blk s H scope (compEnvC scope cl C X.env) fp) tg1 iter1 wi1) (hw1 : ∀ σ H R, LI c fi1 σ H R → wi1 σ H R) (hg1 : ∀ (s : Shared) (H : Hp) (C : Addr) (cl : List (Str × Addr)) (fp : List Addr), PG (X.blk s H scope (compEnvC scope cl C X.env) fp) tg1 (tgV X.K g1)) (ht1 : ∀ (s : Shared) (H : Hp) (C : Addr) (cl : List (Str × Addr)) (fp : List Addr), PTs (X.blk s H scope (compEnvC scope cl C X.env) fp) ifs1 (LT c ft1)) (he : ∀ (s : Shared) (H : Hp) (C : Addr) (cl : List (Str × Addr)) (fp : List Addr), QE c (X.blk s H scope (compEnvC scope cl C X.env) fp) elt fe)
    (hsw : swapsWith (.ListComp elt [⟨tg, iter, ifs, 0⟩, ⟨tg1, iter1, ifs1, 0⟩] scope pos) (some (.Name y py)) spos.line X.env = pure true) (hy : X.N[i]? = some y := by rfl) (hyl : X.env.scope.names.lookup y = some .local := by rfl)
    (hs : ∀ x, foldedSetIterable iter X.env x = pure x := by intro _; rfl) (hs1 : ∀ env x, foldedSetIterable iter1 env x = pure x := by intro _ _; rfl) : QS c X (.Assign [.Name y py] (.ListComp elt [⟨tg, iter, ifs, 0⟩, ⟨tg1, iter1, ifs1, 0⟩] scope pos) spos) (sAsg (.nm i) (fLc2 fi g ft fi1 g1 ft1 fe (own.map (·.2)) vs1)) := by
  obtain ⟨wi, h1, h2⟩ := hi.pi
  refine PS.of (ps_setLc2 hx.calm hN hy hyl hsw h1 (blkOk_by ok) hv1 hg ht hi1 hg1 ht1 he hs hs1) fun D σ H q => ?_
  obtain ⟨ρ, st, μ, R, S, o, e, k⟩ := q
  obtain ⟨⟨d, st1⟩, e1, e2⟩ := bind_some e
  cases e2
  exact lc2_lift hx h2 hw1 hv hv2 ⟨ρ, st, μ, R, S, d, st1, e1, fun v H1 μ1 E1 S1 r1 => k _ H1 μ1 E1 S1 ((R.ext E1).set i r1)⟩
end
end
end Lw
end
section
set_option Elab.async false
set_option linter.all false
set_option autoImplicit false
set_option maxRecDepth 100000
/-! Dend: bound methods, the promise of a def. -/
namespace Lw
open PySem PySem.Spec PyProof.Rows L2

def fBnd (cn m : Str) (fo : FE) : FE := fun ρ st => (fo ρ st).bind fun o => (insOf cn o.1 o.2).bind fun fs => if (fs.lookup m).isNone = true then (match o.1 with
  | .loc n => some (.bm n m, o.2)
  | _ => none) else none
def bmOf (m : Str) : D → Option Nat
  | .bm n m' => if m' = m then some n else none
  | _ => none
def fCallB (i : Nat) (m : Str) (n : Nat) (p : DF) (ga : FA) : FE := fun ρ st => (fVar i ρ st).bind fun o => (bmOf m o.1).bind fun k => (ga ρ o.2).bind fun q => if q.1.length + 1 = n then p (.loc k :: q.1) q.2 else none
section
variable {c : Cz} {X : Cx} {μ : List Addr} {H : Hp} {st : Sto} {e o : Expr} {es : List Expr} {fo : FE} {ga : FA} {p : DF} {pos apos pp : Pos} {cn m : Str} {k nn : Nat} {f : Addr} {fd : FuncData} {ps : List Str}
theorem q_bnd (hx : Cok c X) (ho : QE c X o fo) (hc : Cls c.K (c.cl cn)) (hm : BMeth c.K (c.cl cn) m (c.mt m)) (hb : attributeBase o m X.env (eval o X.env) = eval o X.env := by rfl) : QE c X (.Attribute o m pos) (fBnd cn m fo) := by
  refine ⟨fun pins s σ H Q I h => ?_⟩
  obtain ⟨ρ, st, μ, R, S, z, st', e, k⟩ := h
  obtain ⟨⟨x, st1⟩, e1, e⟩ := bind_some e
  obtain ⟨fs, e2, e⟩ := bind_some e
  split at e
  · rename_i hn
    refine attr_of hb (thn (ho.run pins s σ H (fun v H1 => ∃ μ1, Ext μ H μ1 H1 ∧ Stor c μ1 st1 H1 ∧ Rep c μ1 H1 x v) I ⟨ρ, st, μ, R, S, x, st1, e1, fun v1 H1 μ1 E1 S1 r1 => ⟨μ1, E1, S1, r1⟩⟩) fun u s1 ⟨v, H1, I1, rv, μ1, E1, S1, r1⟩ => ?_)
    obtain ⟨n, a, dx, gs, hy, hn', rfl, hμ, h1, h2, h3⟩ := insOf_is S1 e2 r1
    cases hy
    cases (show u = Value.ref a from rv)
    have e3 : some (D.bm n m, st1) = some (z, st') := e
    cases e3
    refine getbound_ok I1 h1 (by rw [hx.K]; exact hc) (by rw [hx.K]; exact hm) (lookup_none h2 (by simpa using hn)) fun q s2 hq I2 => ?_
    exact ⟨.ref q, _, I2, rfl, k (.ref q) _ μ1 (E1.trans (Ext.new hq)) (S1.aside hq) ⟨q, a, rfl, hμ, upd_same⟩⟩
  · cases e
theorem q_callB' {i : Nat} {x : Str} (hx : Cok c X) (hm : BMeth c.K (c.cl cn) m (c.mt m)) (F : FnOk X.prog X.w X.K X.mg X.base CX0 k (c.mt m) fd ps (spD c nn p)) (hr : Room k X.A) (hb : Binds X.K fd ps []) (ha : QA c X (e :: es) ga)
    (hN : X.N[i]? = some x := by rfl) (hv : Vis X.env.scope x := by first | exact Or.inl rfl | exact Or.inr (Or.inl rfl) | exact Or.inr (Or.inr rfl)) (hd : (x == ("__debug__" : Str)) = false := by decide) (hcd : (x == ("__classdict__" : Str)) = false := by decide)
    (he : starEach (e :: es) X.env = (false, eval e X.env) :: starEach es X.env := by rfl) (hpl : (backTo pos (starEach es X.env)).any (·.1) = false := by rfl) : QE c X (.Call (.Name x pp) (e :: es) [] pos) (fCallB i m nn p ga) := by
  refine ⟨fun pins s σ H Q I h => ?_⟩
  obtain ⟨ρ, st, μ, R, S, z, st', e, kq⟩ := h
  obtain ⟨⟨y, st1⟩, e1, e⟩ := bind_some e
  obtain ⟨n, e2, e⟩ := bind_some e
  obtain ⟨⟨ds, st2⟩, e3, e⟩ := bind_some e
  have e' : (if ds.length + 1 = nn then p (.loc n :: ds) st2 else none) = some (z, st') := e
  clear e
  split at e'
  · rename_i hl
    obtain ⟨hd', rfl⟩ := fVar_some e1
    have e4 : bmOf m y = some n := e2
    unfold bmOf at e4
    split at e4
    · split at e4
      · rename_i hm'
        cases e4
        subst hm'
        obtain ⟨v, hs, hv'⟩ := R.at_ i _ hd'
        refine wpAny_Call_Name_kw (thn ((pe_var (pos := pp) hN hv hd hcd).run pins s σ H (fun v1 H1 => v1 = v ∧ H1 = H) I ⟨v, hs, rfl, rfl⟩) fun u s1 ⟨v1, H1, I1, r1, q1⟩ => ?_)
        obtain ⟨ev, eH⟩ := q1
        subst ev
        rw [eH] at I1
        obtain ⟨q, a, rfl, h1, h2⟩ := hv'
        obtain rfl : u = Value.ref q := r1
        rw [he]
        refine callwith_met (a := a) (g := c.mt _) (by show ((false || (backTo pos (starEach es X.env)).any (·.1)) || false) = false; rw [hpl]; rfl) (by rw [hx.K]; exact hm.fi) (Calls.evalArgs_plain ?_)
        have hA := ha.run pos pins s1 σ H (fun vs H2 => ∃ μ2, Ext μ H μ2 H2 ∧ Stor c μ2 st2 H2 ∧ RepL c μ2 H2 ds vs) I1 ⟨ρ, _, μ, R, S, ds, st2, e3, fun v1 H1 μ1 E1 S1 r1 => ⟨μ1, E1, S1, r1⟩⟩
        rw [he] at hA
        refine thn hA fun us s2 ⟨vs, H2, I2, r2, μ2, E2, S2, r3⟩ => ⟨met_P I2 (E2.met _ _ _ h2), ?_⟩
        refine wpAny_call (PySem.W.method_call (met_P I2 (E2.met _ _ _ h2)).1 (run_fnR (us := Value.ref a :: us) (vs := V.ref a :: vs) (F.raw hb .nil) hr pass0 I2 (.cons rfl r2) ?_))
        show spD c nn p (_ :: (vs ++ [])) H2 Q E0
        rw [List.append_nil]
        exact ⟨.loc n :: ds, st2, μ2, by rw [List.length_cons]; exact hl, RepL.cons ⟨a, rfl, E2.at h1⟩ r3, S2, z, st', e', fun v H' μ' E3 S3 r3 => kq v H' μ' (E2.trans E3) S3 r3⟩
      · cases e4
    · cases e4
  · cases e'
end

/-! ### the promise of a def: what its body's reading gives -/
def endO : Out → Option (D × Sto)
  | .rt d st => some (d, st)
  | .nx _ st => some (.non, st)
  | _ => none
def runF (b : FS) (n : Nat) : DF := fun ds st => (b (ds.map some ++ List.replicate (n - ds.length) none) st).bind endO
abbrev CxD (c : Cz) (mg : Str → Option Value) (base : Heap) (N : List Str) (qual : Str) (st : Stmt) (f : Addr) (cdv : Value) (A : Around) (outer : List Env) (s : Shared) (H : Hp) (E : XK) : Cx := (cxOf CX0 c.P c.w c.K mg base N qual (defScope st) f cdv A outer s H E).nox
theorem rel0 {c : Cz} {μ : List Addr} {H : Hp} : ∀ {ds : List D} {vs : List V} (k : Nat), RepL c μ H ds vs → RelE c μ H (ds.map some ++ List.replicate k none) (vs.map some ++ List.replicate k none) := by
  intro ds vs k h
  refine ⟨by simp [h.len], fun i d e => ?_⟩
  by_cases hi : i < ds.length
  · rw [List.getElem?_append_left (by simpa using hi), List.getElem?_map] at e
    obtain ⟨d', h1, h2⟩ := Option.map_eq_some_iff.mp e
    cases h2
    obtain ⟨v, h3, h4⟩ := RepL.get h h1
    exact ⟨v, by rw [List.getElem?_append_left (by simpa [h.len] using hi), List.getElem?_map, h3]; rfl, h4⟩
  · rw [List.getElem?_append_right (by simpa using hi), List.getElem?_replicate] at e
    split at e <;> cases e
theorem fok {c : Cz} {mg : Str → Option Value} {base : Heap} {x qual : Str} {st : Stmt} {f : Addr} {fd : FuncData} {N ps : List Str} {k : Nat} {b : FS} (F : Fun c.K x qual st f fd) (S : FnScope N ps (defScope st))
    (hb : ∀ (cdv : Value) (A : Around) (outer : List Env) (s : Shared) (H : Hp) (E : XK), Room k (CxD c mg base N qual st f cdv A outer s H E).A → Cok c (CxD c mg base N qual st f cdv A outer s H E) → QSs c (CxD c mg base N qual st f cdv A outer s H E) (defBody st) b) :
    FnOk c.P c.w c.K mg base CX0 (k + 1) f fd ps (spD c ps.length (runF b N.length)) := by
  refine F.ok S (fun vs H Q E h => spD_len h) (fun cdv A outer s H vs Q E hr h => ?_)
  obtain ⟨ds, st', μ, hl, r, S', z, st2, e, kq⟩ := h
  have hx : Cok c (CxD c mg base N qual st f cdv A outer s H E) := ⟨rfl, rfl, rfl, rfl, by have := hr.un; show (A.deeper _).units + 66 < cLine; omega, PassesOwn.never⟩
  refine ⟨_, hb cdv A outer s H E hr hx, ds.map some ++ List.replicate (N.length - ds.length) none, st', μ, ?_, S', ?_⟩
  · have z := rel0 (N.length - ds.length) r
    unfold L2.start
    rw [r.len]
    exact z
  · obtain ⟨o, e1, e2⟩ := bind_some e
    refine ⟨o, e1, ?_⟩
    cases o with
    | nx ρ4 st4 => cases e2; exact fun σ4 H4 μ4 E4 S4 R4 => kq .non H4 μ4 E4 S4 rfl
    | rt d st4 => cases e2; exact kq
    | bk ρ4 st4 => cases e2
    | ct ρ4 st4 => cases e2
end Lw
end
section
set_option Elab.async false
set_option linter.all false
set_option autoImplicit false
set_option maxRecDepth 100000
/-! Dset: what sorting and sorted sets give. -/
namespace Lw
open PySem PySem.Spec PyProof.Rows L2

section
variable {α : Type}
/-- into an ascending list, once -/
def gins (lt : α → α → Bool) (x : α) : List α → List α
  | [] => [x]
  | y :: ys => if lt x y = true then x :: y :: ys else if lt y x = true then y :: gins lt x ys else y :: ys
def gsort (lt : α → α → Bool) (l : List α) : List α := l.foldr (gins lt) []
/-- into an ascending list -/
def hins (lt : α → α → Bool) (x : α) : List α → List α
  | [] => [x]
  | y :: ys => if lt y x = true then y :: hins lt x ys else x :: y :: ys
def hsort (lt : α → α → Bool) (l : List α) : List α := l.foldr (hins lt) []
end
def ltI (a b : Int) : Bool := decide (a < b)
def ltN (a b : Nat) : Bool := decide (a < b)
def ltT (a b : Int × Nat × Int) : Bool := decide (a.1 < b.1) || (decide (a.1 = b.1) && (decide (a.2.1 < b.2.1) || (decide (a.2.1 = b.2.1) && decide (a.2.2 < b.2.2))))
def chD (k : Nat) : D := .str ⟨#[k]⟩
def tripD (t : Int × Nat × Int) : D := .tup [.int t.1, chD t.2.1, .int t.2.2]
def tripsD : List D → Option (List (Int × Nat × Int))
  | [] => some []
  | .tup [.int a, .str s, .int b] :: r => match s.cps.toList with
    | [k] => (tripsD r).map ((a, k, b) :: ·)
    | _ => none
  | _ :: _ => none
def negD : D → Sto → Option (D × Sto)
  | .int i, st => some (.int (-i), st)
  | _, _ => none
def ssI : D → Sto → Option (D × Sto)
  | .loc n, st => match st[n]? with
    | some (.lst xs) => (intsD xs).bind fun ns => if ns.length < 60 then some (.loc st.length, st ++ [.lst ((gsort ltI ns).map .int)]) else none
    | _ => none
  | _, _ => none
def ssS : D → Sto → Option (D × Sto)
  | .str s, st => if s.length < 60 then some (.loc st.length, st ++ [.lst ((gsort ltN s.cps.toList).map chD)]) else none
  | _, _ => none
def ssT : D → Sto → Option (D × Sto)
  | .loc n, st => match st[n]? with
    | some (.lst xs) => (tripsD xs).bind fun ns => if ns.length < 60 then some (.loc st.length, st ++ [.lst ((gsort ltT ns).map tripD)]) else none
    | _ => none
  | _, _ => none
def listS : DF
  | [.str s], st => if s.length < 60 then some (.loc st.length, st ++ [.lst (s.cps.toList.map chD)]) else none
  | _, _ => none
def keysI : List (Key × D) → Option (List Int)
  | [] => some []
  | (.inl i, _) :: r => (keysI r).map (i :: ·)
  | (.inr _, _) :: _ => none
def sortD : DF
  | [.loc n], st => match st[n]? with
    | some (.dA kvs) => (keysI kvs).bind fun ks => if ks.length < 60 then some (.loc st.length, st ++ [.lst ((hsort ltI ks).map .int)]) else none
    | _ => none
  | _, _ => none
def sortP : DF
  | [.loc n], st => match st[n]? with
    | some (.lst [.tup a, .tup b]) => (intsD a).bind fun ns => (intsD b).bind fun ms => if ns.length = ms.length ∧ 1 ≤ ns.length ∧ (∀ x ∈ ns, 0 ≤ x ∧ x < 100) ∧ (∀ x ∈ ms, 0 ≤ x ∧ x < 100) then some (.loc st.length, st ++ [.lst (if HT.lexLt ms ns = true then [.tup b, .tup a] else [.tup a, .tup b])]) else none
    | _ => none
  | _, _ => none
section
variable {c : Cz} {X : Cx} {e : Expr} {f : FE} {p p' pos pos' : Pos}
theorem q_neg (h : QE c X e f) : QE c X (.UnaryOp .USub e pos) (fUn negD f) := PE.of (pe_un un_neg h) fun σ H Q q => by
  obtain ⟨ρ, st, μ, R, S, z, st', e, k⟩ := q
  obtain ⟨⟨x, st1⟩, e1, e⟩ := bind_some e
  have e' : negD x st1 = some (z, st') := e
  unfold negD at e'
  split at e'
  · cases e'
    exact ⟨ρ, st, μ, R, S, _, _, e1, fun v1 H1 μ1 E1 S1 r1 => ⟨_, r1, k _ H1 μ1 E1 S1 rfl⟩⟩
  · cases e'
end
end Lw
end
section
set_option Elab.async false
set_option linter.all false
set_option autoImplicit false
set_option maxRecDepth 100000
/-! Dtab: sets of tuples of whole numbers and texts. -/
namespace Lw
open PySem PySem.Spec PyProof.Rows L2

abbrev MK (P : Program) (w : World) := mixKind P w
abbrev mh (P : Program) (w : World) (k : List Key) : Int := tupleKeyHash (mixKind P w) k
abbrev IsM (P : Program) (w : World) (h : Heap) (k : List Key) (a : Addr) : Prop := IsTupleKey (mixKind P w) h k a
abbrev MRow := Addr × List Key

section
variable {P : Program} {w : World} {A : Around} {E : Value → Shared → Prop} {s : Shared}
/-- an item is a number or a text -/
def Plain (v : Value) : Prop := (∃ i t, v = Value.int i t) ∨ ∃ x t, v = Value.str x t
theorem plain_of {k : List Key} {vs : List Value} (r : ItemsAre (mixKind P w) k vs) : ∀ v ∈ vs, Plain v := by
  induction r with
  | nil => exact fun v hv => nomatch hv
  | cons h1 _ ih =>
    refine fun v hv => (List.mem_cons.mp hv).elim (fun e => ?_) (ih v)
    subst e
    rcases keyIs_shape h1 with ⟨i, t, _, e⟩ | ⟨x, t, _, e⟩
    · exact .inl ⟨i, t, e⟩
    · exact .inr ⟨x, t, e⟩
theorem plain_cls {v : Value} (h : Plain v) (n : Nat) : ofAClassStatement n v = pure false := by
  rcases h with ⟨i, t, rfl⟩ | ⟨x, t, rfl⟩ <;> cases n <;> rfl
theorem plain_hash {v : Value} (h : Plain v) (n : Nat) : ∃ b, hashByValue n v = pure b := by
  rcases h with ⟨i, t, rfl⟩ | ⟨x, t, rfl⟩
  · exact ⟨_, hashByValue_scannable n (rfl : Value.scannable (.int i t) = true)⟩
  · exact ⟨_, hashByValue_scannable n (rfl : Value.scannable (.str x t) = true)⟩
theorem m_cls {k : List Key} {b : Addr} {Q : Bool → Shared → Prop} (hk : IsM P w s.heap k b) (q : Q false s) : wpAny (model P w) A (ofAClassStatement 8 (.ref b)) Q E s := by
  have ty := hk.typeIs
  obtain ⟨ob, its, m, e1, _, e2, e3⟩ := hk
  unfold ofAClassStatement
  refine wpAny_bind (wpAny_typeOf ty ?_)
  dsimp only
  simp only [show (("tuple" : String) == "tuple") = true by decide, if_true, Bool.not_true, Bool.false_eq_true, if_false]
  refine (show wpAny (model P w) A (seqItems? (.ref b) >>= _) Q E s from wpAny_bind (wpAny_seqItems e1 e2 ?_))
  dsimp only
  refine wpAny_bind (show wpAny (model P w) A (forIn its _ _) _ E s from ?_)
  rw [← Array.forIn_toList]
  refine wpAny_forIn_list _ (fun rest r s' => (r.1 = none ∧ s' = s) ∧ ∀ v ∈ rest, Plain v) _ ?_ ?_ _ _ ⟨⟨rfl, rfl⟩, plain_of e3⟩
  · rintro v rest r s' ⟨⟨_, rfl⟩, al⟩
    rw [plain_cls (al v List.mem_cons_self)]
    refine wpAny_bind (wpAny_pure ?_)
    simp only [Bool.false_eq_true, if_false]
    exact wpAny_pure ⟨⟨rfl, rfl⟩, fun u hu => al u (List.mem_cons_of_mem _ hu)⟩
  · rintro ⟨r1, _⟩ s' ⟨⟨e, rfl⟩, _⟩
    cases (show r1 = none from e)
    exact wpAny_pure q
theorem m_hby {k : List Key} {b : Addr} {Q : Bool → Shared → Prop} (hk : IsM P w s.heap k b) (q : ∀ b, Q b s) : wpAny (model P w) A (hashByValue 8 (.ref b)) Q E s := by
  have ty := hk.typeIs
  obtain ⟨ob, its, m, e1, _, e2, e3⟩ := hk
  unfold hashByValue
  refine wpAny_bind (wpAny_specialOf ty F.slot_tuple_hash.lookup ?_)
  refine (show wpAny (model P w) A (seqItems? (.ref b) >>= _) Q E s from wpAny_bind (wpAny_seqItems e1 e2 ?_))
  refine wpAny_bind (show wpAny (model P w) A (forIn its _ _) _ E s from ?_)
  rw [← Array.forIn_toList]
  refine wpAny_forIn_list _ (fun rest r s' => (r.1 = none ∧ s' = s) ∧ ∀ v ∈ rest, Plain v) _ ?_ ?_ _ _ ⟨⟨rfl, rfl⟩, plain_of e3⟩
  · rintro v rest r s' ⟨⟨_, rfl⟩, al⟩
    obtain ⟨bb, e⟩ := plain_hash (al v List.mem_cons_self) 7
    rw [e]
    refine wpAny_bind (wpAny_pure ?_)
    cases bb with
    | true =>
      simp only [Bool.not_true, Bool.false_eq_true, if_false]
      exact wpAny_pure ⟨⟨rfl, rfl⟩, fun u hu => al u (List.mem_cons_of_mem _ hu)⟩
    | false =>
      simp only [Bool.not_false, if_true]
      exact wpAny_pure (wpAny_pure (q false))
  · rintro ⟨r1, _⟩ s' ⟨⟨e, rfl⟩, _⟩
    cases (show r1 = none from e)
    exact wpAny_pure (q true)
theorem m_seen {k : List Key} {b : Addr} {Q : Bool → Shared → Prop} (hk : IsM P w s.heap k b) {ys : List Value} (hy : ∀ y ∈ ys, ∃ k' c, y = Value.ref c ∧ IsM P w s.heap k' c) (q : Q false s) : wpAny (model P w) A (searchCouldBeSeen (.ref b) ys) Q E s := by
  unfold searchCouldBeSeen
  refine wpAny_bind (wpAny_forIn_list _ (fun rest r s' => (r.1 = none ∧ s' = s) ∧ ∀ y ∈ rest, ∃ k' c, y = Value.ref c ∧ IsM P w s.heap k' c) _ ?_ ?_ _ _ ⟨⟨rfl, rfl⟩, hy⟩)
  · rintro v rest r s' ⟨⟨_, rfl⟩, al⟩
    obtain ⟨k', c, rfl, kc⟩ := al v List.mem_cons_self
    have more : ∀ y ∈ rest, ∃ k' c, y = Value.ref c ∧ IsM P w s'.heap k' c := fun u hu => al u (List.mem_cons_of_mem _ hu)
    dsimp only
    by_cases same : (b == c || (carriedByValue (.ref b) && carriedByValue (.ref c))) = true
    · exact wp_if_pos same (wpAny_pure ⟨⟨rfl, rfl⟩, more⟩)
    · refine wp_if_neg same (wpAny_bind (wpAny_eqIsQuiet_tuple hk ?_))
      simp only [Bool.not_true, Bool.false_eq_true, if_false]
      refine wpAny_bind (wpAny_eqIsQuiet_tuple kc ?_)
      simp only [Bool.not_true, Bool.false_eq_true, if_false]
      refine wpAny_bind (m_cls hk ?_)
      simp only [Bool.false_eq_true, if_false]
      refine wpAny_bind (m_cls kc ?_)
      simp only [Bool.false_eq_true, if_false]
      exact wpAny_pure ⟨⟨rfl, rfl⟩, more⟩
  · rintro ⟨r1, _⟩ s' ⟨⟨e, rfl⟩, _⟩
    cases (show r1 = none from e)
    exact wpAny_pure q

/-! ### the set, its table tracked -/
def mrows (P : Program) (w : World) (L : List MRow) : List (Int × Value) := L.map fun r => (mh P w r.2, .ref r.1)
abbrev mhs (P : Program) (w : World) (L : List MRow) : List Int := L.map fun r => mh P w r.2
structure MSet (P : Program) (w : World) (h : Heap) (a : Addr) (L : List MRow) (es : Array (Int × Value)) (ep : Nat) (t : SetTable) : Prop where
  at_ : ∃ ob, h.get? a = some ob ∧ ob.ExactSet ∧ ob.data = .set es ep t
  rw_ : es.toList = mrows P w L
  tb : TabOk t (mhs P w L)
  un : (L.map (·.2)).Nodup
  el : ∀ r ∈ L, IsM P w h r.2 r.1
  ld : w.params.followText "set-order" = true ∨ t.led = true
  rm : L.length * 5 < t.mask * 3
  fw : L.length < 64
theorem mrows_size {L : List MRow} {es : Array (Int × Value)} (h : es.toList = mrows P w L) : es.size = L.length := by
  rw [← Array.length_toList, h, mrows, List.length_map]
theorem mrows_at {L : List MRow} {es : Array (Int × Value)} (h : es.toList = mrows P w L) {i : Nat} {r : MRow} (e : L[i]? = some r) : es[i]? = some (mh P w r.2, Value.ref r.1) := by
  rw [← Array.getElem?_toList, h, mrows, List.getElem?_map, e]
  rfl
theorem fit_of {t : SetTable} {n : Nat} (h1 : t.place.size = n) (h2 : t.dummies = #[]) (h3 : n ≤ t.mask) : t.fits n = true := by
  unfold SetTable.fits SetTable.fill
  rw [h2, Bool.and_eq_true, beq_iff_eq, decide_eq_true_eq]
  exact ⟨h1, show t.place.size + 0 ≤ t.mask by omega⟩
variable {a : Addr} {L : List MRow} {es : Array (Int × Value)} {ep : Nat} {t : SetTable}
theorem MSet.place (R : MSet P w s.heap a L es ep t) : t.place.size = L.length := by
  have z := R.tb.sz
  rwa [List.length_map] at z
theorem MSet.fit (R : MSet P w s.heap a L es ep t) : t.fits es.size = true := by
  have z := R.rm
  exact fit_of (R.place.trans (mrows_size R.rw_).symm) R.tb.dm (by rw [mrows_size R.rw_]; omega)
theorem MSet.steady (R : MSet P w s.heap a L es ep t) : ¬ t.gaveWay = true := by
  unfold SetTable.gaveWay
  rw [mask_odd R.tb.mok]
  decide
/-- the road of a hash through the table -/
abbrev road (m : Nat) (h : Int) (c : Nat) : SetTable.Probe := nth m (runAt m (SetTable.bits h % (m + 1)) (SetTable.bits h)) c
theorem road_dummy (m : Nat) : ∀ (n : Nat) (p : SetTable.Probe), p.dummy = none → (nth m p n).dummy = none
  | 0, _, h => h
  | n + 1, p, h => road_dummy m n (adv m p) (by unfold adv; split <;> exact h)
/-- the search, from step c of the road -/
theorem m_search (R : MSet P w s.heap a L es ep t) {x : Addr} {k : List Key} (kx : IsM P w s.heap k x) (hu : A.units < cLine) {N : Nat} (lim : N < 10 * SetTable.turns t.mask)
    (out : way t.mask (mh P w k) N ∉ t.place.toList) (inn : ∀ c, c < N → way t.mask (mh P w k) c ∈ t.place.toList) {Q : SetFound → Shared → Prop} (q1 : k ∈ L.map (·.2) → Q (.there none) s) (q2 : k ∉ L.map (·.2) → Q (.free (way t.mask (mh P w k) N) false) s) :
    ∀ (f c : Nat) (from_ : Option SetTable.Probe), from_.getD (t.probeStart (mh P w k)) = road t.mask (mh P w k) c → c ≤ N → N < c + f → (∀ (i : Nat) r, L[i]? = some r → r.2 = k → ∃ d, c ≤ d ∧ d < N ∧ t.place.toList[i]? = some (way t.mask (mh P w k) d)) →
      wpAny (model P w) A (setSearchFrom a (.ref x) (mh P w k) true f from_) Q E s := by
  obtain ⟨ob, go, gx, gd⟩ := R.at_
  intro f
  induction f with
  | zero => intro c _ _ h1 h2 _; omega
  | succ f ih =>
    intro c from_ hfrom hc hf ahead
    rw [setSearchFrom_succ]
    refine wpAny_bind (wpAny_setState_of go gd R.fit ?_)
    dsimp only
    refine wp_if_neg R.steady ?_
    try refine wpAny_bind (wpAny_pure ?_)
    have shift : ∀ q, nth t.mask (road t.mask (mh P w k) c) q = road t.mask (mh P w k) (c + q) := fun q => (nth_add t.mask c _ q).symm
    have sj : ∀ q, (nth t.mask (road t.mask (mh P w k) c) q).j = way t.mask (mh P w k) (c + q) := fun q => congrArg SetTable.Probe.j (shift q)
    have hat : ∀ (i : Nat) r, L[i]? = some r → (es[i]?.map (·.1)).getD 0 = mh P w r.2 := fun i r e => by rw [mrows_at R.rw_ e]; rfl
    have at_end : c + (N - c) = N := by omega
    rcases go_spec t R.tb.ris R.tb.dm (fun i => (es[i]?.map (·.1)).getD 0) (mh P w k) (10 * SetTable.turns t.mask) (N - c) _ (road_dummy t.mask c _ rfl) (by omega) (fun q hq => by rw [sj]; exact inn (c + q) (by omega)) (by rw [sj, at_end]; exact out) with ⟨q, i, hq, hi, _, first, pr⟩ | ⟨first, pr⟩
    · rw [sj] at hi
      have got : t.probe (fun i => (es[i]?.map (·.1)).getD 0) (mh P w k) (from_.getD (t.probeStart (mh P w k))) = some (.candidate (way t.mask (mh P w k) (c + q)) i (road t.mask (mh P w k) (c + (q + 1)))) := by
        rw [hfrom, ← sj, ← shift]
        exact pr
      rw [got]
      dsimp only
      have il : i < L.length := by
        have z := (List.getElem?_eq_some_iff.mp hi).1
        rw [Array.length_toList, R.place] at z
        exact z
      obtain ⟨r, hr⟩ : ∃ r, L[i]? = some r := ⟨L[i], List.getElem?_eq_getElem il⟩
      have rl : r ∈ L := List.mem_of_getElem? hr
      have live : t.slot (way t.mask (mh P w k) (c + q)) = .live i := slot_live R.tb.ris hi
      have tail : wpAny (model P w) A (searchRest a (.ref x) (mh P w k) true f es t (way t.mask (mh P w k) (c + q)) i (road t.mask (mh P w k) (c + (q + 1)))) Q E s := by
        unfold searchRest
        rw [mrows_at R.rw_ hr]
        dsimp only
        refine wpAny_bind (wpAny_holding (wpAny_eqBool_tuple hu (R.el r rl) kx (wpAny_bind (wpAny_setState_of go gd R.fit ?_))))
        dsimp only
        by_cases e : r.2 = k
        · exact wp_if_pos (by simp [e]) (wpAny_pure (q1 (List.mem_map.mpr ⟨r, rl, e⟩)))
        · refine wp_if_neg (by simp [e]) ?_
          try refine wpAny_bind (wpAny_pure ?_)
          rw [sameMem]
          dsimp only
          simp only [if_true, live, mrows_at R.rw_ hr]
          refine wpAny_bind (wpAny_isSame_ref_self (wpAny_bind (wpAny_pure ?_)))
          simp only [if_true]
          refine wp_if_neg (by simp [e]) (ih (c + (q + 1)) _ rfl (by omega) (by omega) fun i0 r0 h0 e0 => ?_)
          obtain ⟨d, d1, d2, d3⟩ := ahead i0 r0 h0 e0
          refine ⟨d, ?_, d2, d3⟩
          have n1 : ¬ d < c + q := fun z => first (d - c) i0 (by omega) (by rw [sj, show c + (d - c) = d by omega]; exact d3) ((hat i0 r0 h0).trans (congrArg (mh P w) e0))
          have n2 : d ≠ c + q := fun z => by
            rw [z] at d3
            have s0 := live.symm.trans (slot_live R.tb.ris d3)
            injection s0 with s0
            rw [← s0, hr] at h0
            exact e ((congrArg Prod.snd (Option.some.inj h0)).trans e0)
          omega
      by_cases hl : t.led = true
      · refine wp_if_neg (by simp [hl]) ?_
        try refine wpAny_bind (wpAny_pure ?_)
        exact tail
      · refine wp_if_pos (by simp [hl]) (wpAny_bind (m_seen kx (fun y hy => ?_) (wp_if_neg (by decide) ?_)))
        · obtain ⟨z, hz, rfl⟩ := List.mem_map.mp hy
          have hz' : z ∈ es.toList := by
            have q : z ∈ es ∧ z.1 = mh P w k := by simpa using hz
            simpa using q.1
          rw [R.rw_] at hz'
          obtain ⟨r2, m2, rfl⟩ := List.mem_map.mp hz'
          exact ⟨r2.2, r2.1, rfl, R.el r2 m2⟩
        · try refine wpAny_bind (wpAny_pure ?_)
          exact tail
    · have got : t.probe (fun i => (es[i]?.map (·.1)).getD 0) (mh P w k) (from_.getD (t.probeStart (mh P w k))) = some (.empty (way t.mask (mh P w k) N) none) := by
        rw [hfrom, show way t.mask (mh P w k) N = (nth t.mask (road t.mask (mh P w k) c) (N - c)).j by rw [sj, at_end]]
        exact pr
      rw [got]
      dsimp only
      refine wpAny_pure (q2 fun hm => ?_)
      obtain ⟨r0, m0, e0⟩ := List.mem_map.mp hm
      obtain ⟨i0, l0, g0⟩ := List.getElem_of_mem m0
      have h0 : L[i0]? = some r0 := by rw [List.getElem?_eq_getElem l0, g0]
      obtain ⟨d, d1, d2, d3⟩ := ahead i0 r0 h0 e0
      exact first (d - c) i0 (by omega) (by rw [sj, show c + (d - c) = d by omega]; exact d3) ((hat i0 r0 h0).trans (congrArg (mh P w) e0))
/-- the search that adding asks for -/
theorem m_find (R : MSet P w s.heap a L es ep t) {x : Addr} {k : List Key} (kx : IsM P w s.heap k x) (hu : A.units < cLine) {Q : SetFound → Shared → Prop} (q1 : k ∈ L.map (·.2) → Q (.there none) s)
    (q2 : ∀ N, k ∉ L.map (·.2) → way t.mask (mh P w k) N ∉ t.place.toList → (∀ c, c < N → way t.mask (mh P w k) c ∈ t.place.toList) → Q (.free (way t.mask (mh P w k) N) false) s) :
    wpAny (model P w) A (setSearch a (.ref x) (mh P w k) true) Q E s := by
  have z := R.rm
  obtain ⟨N, lim, out, inn⟩ := R.tb.first (by rw [List.length_map]; omega) (mh P w k)
  have low : 10 * SetTable.turns t.mask ≤ 1420 := by
    unfold SetTable.turns
    rcases R.tb.mok with e | e | e <;> omega
  refine m_search R kx hu lim out inn q1 (fun hn => q2 N hn out inn) 100000 0 none rfl (Nat.zero_le _) (by omega) fun i r hr e => ?_
  have il : i < t.place.toList.length := by
    rw [Array.length_toList, R.place]
    exact (List.getElem?_eq_some_iff.mp hr).1
  obtain ⟨d, d1, d2⟩ := R.tb.before (h := mh P w k) (i := i) out (by rw [List.getElem?_map, hr, ← e]; rfl) (List.getElem?_eq_getElem il)
  exact ⟨d, Nat.zero_le _, d1, by rw [d2]; exact List.getElem?_eq_getElem il⟩
theorem m_still {h h' : Heap} {k : List Key} {b : Addr} {ob : Obj} (kb : IsM P w h k b) (go : h.get? a = some ob) (gd : ob.data = .set es ep t) (sb : Heap.SameBut a h h') : IsM P w h' k b := by
  obtain ⟨o1, its, m, e1, e2, e3, e4⟩ := kb
  refine ⟨o1, its, m, ?_, e2, e3, e4⟩
  refine (sb.2 b fun z => ?_).trans e1
  subst z
  rw [go] at e1
  cases e1
  rw [gd] at e3
  cases e3
theorem mrows_order {order : Array Nat} (hr : es.toList = mrows P w L) (hp : order.toList.Perm (List.range L.length)) :
    ∃ L', (order.filterMap (es[·]?)).toList = mrows P w L' ∧ L'.Perm L ∧ mhs P w L' = order.toList.map fun i => (es.map (·.1)).getD i 0 := by
  have all : ∀ l : List Nat, (∀ i ∈ l, i < L.length) → l.filterMap (fun i => es[i]?) = mrows P w (l.filterMap fun i => L[i]?) ∧ mhs P w (l.filterMap fun i => L[i]?) = l.map fun i => (es.map (·.1)).getD i 0 := by
    intro l
    induction l with
    | nil => intro _; exact ⟨rfl, rfl⟩
    | cons i l ih =>
      intro hl
      obtain ⟨i1, i2⟩ := ih fun j hj => hl j (List.mem_cons_of_mem _ hj)
      have hi := List.getElem?_eq_getElem (hl i List.mem_cons_self)
      have he := mrows_at hr hi
      rw [List.filterMap_cons_some he, List.filterMap_cons_some hi, i1]
      refine ⟨rfl, ?_⟩
      unfold mhs at i2 ⊢
      rw [List.map_cons, List.map_cons, i2]
      have z : (es.map (·.1))[i]? = some (mh P w (L[i]'(hl i List.mem_cons_self)).2) := by rw [Array.getElem?_map, he]; rfl
      simp [Array.getD_eq_getD_getElem?, z]
  obtain ⟨a1, a2⟩ := all order.toList fun i hi => List.mem_range.mp (hp.mem_iff.mp hi)
  have whole : (List.range L.length).filterMap (fun i => L[i]?) = L := by
    have part : ∀ n, n ≤ L.length → (List.range n).filterMap (fun i => L[i]?) = L.take n := by
      intro n
      induction n with
      | zero => intro _; rfl
      | succ n ih =>
        intro hn
        rw [List.range_succ, List.filterMap_append, ih (Nat.le_of_lt hn), List.take_succ, List.getElem?_eq_getElem (show n < L.length from hn)]
        rw [List.filterMap_cons_some (List.getElem?_eq_getElem (show n < L.length from hn))]
        rfl
    rw [part _ (Nat.le_refl _), List.take_length]
  refine ⟨order.toList.filterMap fun i => L[i]?, by rw [← a1, Array.toList_filterMap], ?_, a2⟩
  have z := hp.filterMap fun i => L[i]?
  rwa [whole] at z
/-- the table laid anew -/
theorem m_relay {ob : Obj} (go : s.heap.get? a = some ob) (gx : ob.ExactSet) (gd : ob.data = .set es ep t) (hr : es.toList = mrows P w L) (pz : t.place.size = L.length) (dm : t.dummies = #[]) (un : (L.map (·.2)).Nodup) (el : ∀ r ∈ L, IsM P w s.heap r.2 r.1)
    (ld : w.params.followText "set-order" = true ∨ t.led = true) (fw : L.length < 64) (fl : L.length ≤ t.mask) {wish M : Nat} (e1 : SetTable.sizeAbove wish - 1 = M) (e2 : MaskOk M) (e3 : SetTable.sizeAbove wish ≤ 128) (e4 : L.length * 5 < M * 3) {Q : Unit → Shared → Prop}
    (q : ∀ h' L' es' ep' t', Heap.SameBut a s.heap h' → MSet P w h' a L' es' ep' t' → L'.Perm L → Q () { s with heap := h' }) : wpAny (model P w) A (setRelay a wish) Q E s := by
  have ez := mrows_size hr
  obtain ⟨t', order, re, rp, rt, rm, rl, _, _⟩ := relaid_ok t (hs := es.map (·.1)) (wanted := wish) e1 e2 (by rw [Array.size_map, ez]; omega)
  rw [Array.size_map, ez] at rp
  obtain ⟨L', o1, o2, o3⟩ := mrows_order hr rp
  rw [← o3] at rt
  have nz : (order.filterMap (es[·]?)).size = es.size := by rw [mrows_size o1, o2.length_eq, ez]
  rw [setRelay_eq]
  refine wpAny_bind (wpAny_setState_of go gd (fit_of (by rw [pz, ez]) dm (by omega)) ?_)
  dsimp only
  refine wp_if_neg (by rw [sizeLine_eq]; omega) ?_
  try refine wpAny_bind (wpAny_pure ?_)
  rw [re]
  dsimp only
  refine wpAny_bind (wp_if_neg (by rw [nz]; simp) ?_)
  try refine wpAny_bind (wpAny_pure ?_)
  refine wpAny_pure ?_
  dsimp only
  refine wpAny_storeSet_of go gd ?_ (by rw [nz, ez, sizeLine_eq]; omega)
  have sb : Heap.SameBut a s.heap (s.heap.update a (Obj.putSet (order.filterMap (es[·]?)) t')) := Heap.SameBut.update ..
  refine q _ L' _ (ep + 1) t' sb ⟨⟨_, store_at go gd, ⟨gx.1, gx.2.1, gx.2.2⟩, rfl⟩, o1, rt, (o2.map (·.2)).nodup_iff.mpr un, fun r hm => m_still (el r (o2.mem_iff.mp hm)) go gd sb, by rw [rl]; exact ld, ?_, by rw [o2.length_eq]; exact fw⟩ o2
  rw [o2.length_eq, rm]
  exact e4
/-- adding one -/
theorem m_add (R : MSet P w s.heap a L es ep t) {x : Addr} {k : List Key} (kx : IsM P w s.heap k x) (hu : A.units < cLine) (fw : L.length + 1 < 64) {Q : Bool → Shared → Prop}
    (q : ∀ b h' L' es' ep' t', Heap.SameBut a s.heap h' → MSet P w h' a L' es' ep' t' → (k ∈ L.map (·.2) → L' = L) → (k ∉ L.map (·.2) → L'.Perm ((x, k) :: L)) → Q b { s with heap := h' }) :
    wpAny (model P w) A (setAddHashed a (.ref x) (mh P w k)) Q E s := by
  obtain ⟨ob, go, gx, gd⟩ := R.at_
  have ez := mrows_size R.rw_
  have room := R.rm
  unfold setAddHashed
  refine wpAny_holding ?_
  rw [show (100000 : Nat) = 99999 + 1 from rfl, setAddHashedIn_succ]
  refine wpAny_bind (wpAny_setState_of go gd R.fit ?_)
  dsimp only
  refine wp_if_neg (by simp [byScan, Value.scannable]) ?_
  try refine wpAny_bind (wpAny_pure ?_)
  refine wpAny_bind (m_find R kx hu (fun hm => ?_) fun N hm out inn => ?_)
  · dsimp only
    exact wpAny_pure (q false s.heap L es ep t (Heap.SameBut.refl a s.heap) R (fun _ => rfl) fun z => absurd hm z)
  dsimp only
  refine wpAny_bind (wpAny_setState_of go gd R.fit ?_)
  dsimp only
  obtain ⟨u1, u2, u3, u4, u5, _, _, _, u9⟩ := R.tb.put out inn
  generalize t.put (way t.mask (mh P w k) N) = pt at u1 u3 u4 u5 u9 ⊢
  obtain ⟨t1, p⟩ := pt
  dsimp only at u1 u3 u4 u5 u9 ⊢
  subst u1
  -- what is stored
  have pin : (SetTable.insertAt es (SetTable.below t.place (way t.mask (mh P w k) N)) (mh P w k, Value.ref x)).toList = mrows P w (L.take (SetTable.below t.place (way t.mask (mh P w k) N)) ++ (x, k) :: L.drop (SetTable.below t.place (way t.mask (mh P w k) N))) := by
    rw [SetTable.toList_insertAt, R.rw_]
    simp only [mrows, List.map_append, List.map_cons, List.map_take, List.map_drop]
  have hin : mhs P w (L.take (SetTable.below t.place (way t.mask (mh P w k) N)) ++ (x, k) :: L.drop (SetTable.below t.place (way t.mask (mh P w k) N))) = (mhs P w L).take (SetTable.below t.place (way t.mask (mh P w k) N)) ++ mh P w k :: (mhs P w L).drop (SetTable.below t.place (way t.mask (mh P w k) N)) := by
    simp only [mhs, List.map_append, List.map_cons, List.map_take, List.map_drop]
  rw [← hin] at u3
  have pm := put_perm L (SetTable.below t.place (way t.mask (mh P w k) N)) (x, k)
  generalize L.take (SetTable.below t.place (way t.mask (mh P w k) N)) ++ (x, k) :: L.drop (SetTable.below t.place (way t.mask (mh P w k) N)) = L1 at pin u3 pm
  generalize SetTable.insertAt es (SetTable.below t.place (way t.mask (mh P w k) N)) (mh P w k, Value.ref x) = es1 at pin ⊢
  have l1 : L1.length = L.length + 1 := pm.length_eq
  have un1 : (L1.map (·.2)).Nodup := (pm.map (·.2)).nodup_iff.mpr (by rw [List.map_cons]; exact List.nodup_cons.mpr ⟨hm, R.un⟩)
  have z1 : es1.size = L.length + 1 := by rw [mrows_size pin, l1]
  have pz1 : t1.place.size = L1.length := by have z := u3.sz; rwa [List.length_map] at z
  have full : t1.tooFull = true ↔ (L.length + 1) * 5 ≥ t1.mask * 3 := by
    unfold SetTable.tooFull
    rw [decide_eq_true_eq, u9, List.length_map]
  have behind : ∀ b : Bool, TabOk (if b = true then t1 else { t1 with plain := false }) (mhs P w L1) ∧ (if b = true then t1 else { t1 with plain := false }).place = t1.place ∧ (if b = true then t1 else { t1 with plain := false }).mask = t1.mask ∧
      (if b = true then t1 else { t1 with plain := false }).led = t1.led ∧ (if b = true then t1 else { t1 with plain := false }).tooFull = t1.tooFull := fun b => by
    cases b with
    | true => exact ⟨u3, rfl, rfl, rfl, rfl⟩
    | false => exact ⟨⟨u3.ris, u3.dm, u3.sz, u3.mok, u3.bd, u3.reach⟩, rfl, rfl, rfl, rfl⟩
  have main : ∀ t2 : SetTable, TabOk t2 (mhs P w L1) → t2.place = t1.place → t2.mask = t1.mask → t2.led = t1.led → t2.tooFull = t1.tooFull →
      wpAny (model P w) A (storeSet a es1 t2 >>= fun _ => if (!false && t2.tooFull) = true then (setRelay a (SetTable.grown (es.size + 1)) >>= fun _ => pure true) else pure true) Q E s := by
    intro t2 T2 c1 c3 c4 c5
    refine wpAny_bind (wpAny_storeSet_of go gd ?_ (by rw [z1, sizeLine_eq]; omega))
    have sb : Heap.SameBut a s.heap (s.heap.update a (Obj.putSet es1 t2)) := Heap.SameBut.update ..
    have go1 := store_at (es' := es1) (t' := t2) go gd
    generalize s.heap.update a (Obj.putSet es1 t2) = h1 at sb go1 ⊢
    have el1 : ∀ r ∈ L1, IsM P w h1 r.2 r.1 := fun r hr => by
      rcases List.mem_cons.mp (pm.mem_iff.mp hr) with e | hr
      · rw [e]; exact m_still kx go gd sb
      · exact m_still (R.el r hr) go gd sb
    have ld1 : w.params.followText "set-order" = true ∨ t2.led = true := by rw [c4, u5]; exact R.ld
    by_cases hf : t2.tooFull = true
    · have h5 := full.mp (c5 ▸ hf)
      rw [u4] at h5
      have two : (t.mask = 7 ∧ L.length = 4) ∨ (t.mask = 31 ∧ L.length = 18) := by
        rcases R.tb.mok with e | e | e
        · exact .inl ⟨e, by omega⟩
        · exact .inr ⟨e, by omega⟩
        · omega
      have redo : ∀ M, SetTable.sizeAbove (SetTable.grown (es.size + 1)) - 1 = M → MaskOk M → SetTable.sizeAbove (SetTable.grown (es.size + 1)) ≤ 128 → (L.length + 1) * 5 < M * 3 → wpAny (model P w) A (setRelay a (SetTable.grown (es.size + 1))) (fun _ s' => wpAny (model P w) A (pure true) Q E s') E { s with heap := h1 } := fun M m1 m2 m3 m4 =>
        m_relay (s := { s with heap := h1 }) go1 ⟨gx.1, gx.2.1, gx.2.2⟩ rfl pin (by rw [c1, pz1]) T2.dm un1 el1 ld1 (by omega) (by rw [l1, c3, u4]; omega) m1 m2 m3 (by rw [l1]; exact m4) fun h2 L2 es2 ep2 t2 sb2 R2 pm2 => wpAny_pure (q true h2 L2 es2 ep2 t2 (sb.trans sb2) R2 (fun z => absurd z hm) fun _ => pm2.trans pm)
      first
        | refine wpAny_bind (wp_if_pos (by simp [hf]) ?_)
        | refine wp_if_pos (by simp [hf]) (wpAny_bind ?_)
      rw [ez] at redo ⊢
      rcases two with ⟨_, e⟩ | ⟨_, e⟩
      · exact redo 31 (by rw [e, size_20]) (.inr (.inl rfl)) (by rw [e, size_20]; decide) (by omega)
      · exact redo 127 (by rw [e, size_76]) (.inr (.inr rfl)) (by rw [e, size_76]; decide) (by omega)
    · first
        | refine wp_if_neg (by simp [hf]) ?_
        | refine wpAny_bind (wp_if_neg (by simp [hf]) (wpAny_pure ?_))
      refine wpAny_pure (q true h1 L1 es1 (ep + 1) t2 sb ⟨⟨_, go1, ⟨gx.1, gx.2.1, gx.2.2⟩, rfl⟩, pin, T2, un1, el1, ld1, ?_, by omega⟩ (fun z => absurd z hm) fun _ => pm)
      have nf : ¬ (L.length + 1) * 5 ≥ t1.mask * 3 := fun z => hf (c5.trans (full.mpr z))
      rw [l1, c3]
      omega
  by_cases hp : t1.plain = true
  · refine wp_if_pos hp (wpAny_bind (m_hby kx fun b => ?_))
    obtain ⟨T2, c1, c3, c4, c5⟩ := behind b
    exact main _ T2 c1 c3 c4 c5
  · refine wp_if_neg hp (wpAny_bind (wpAny_pure ?_))
    obtain ⟨T2, c1, c3, c4, c5⟩ := behind true
    exact main _ T2 c1 c3 c4 c5
end
end Lw
end
section
set_option Elab.async false
set_option linter.all false
set_option autoImplicit false
set_option maxRecDepth 100000
/-! Dset2: set(list), whatever the list holds. -/
namespace Lw
open PySem PySem.Spec PyProof.Rows L2

section
variable {P : Program} {w : World} {A : Around} {E : Value → Shared → Prop} {s : Shared}
/-- an empty set, as it is made -/
abbrev set0 (w : World) : Obj := { cls := .type "set", dict := none, data := .set #[] 0 (.fresh 0 0 (!w.params.followText "set-order")) }
theorem led0 (w : World) : w.params.followText "set-order" = true ∨ (SetTable.fresh 0 0 (!w.params.followText "set-order")).led = true := by
  show _ ∨ (!w.params.followText "set-order") = true
  cases w.params.followText "set-order"
  · exact .inr rfl
  · exact .inl rfl
/-- how a set grows: Z i says what stands at S when i items are in -/
structure Grow (P : Program) (w : World) (A : Around) (S : Addr) (h0 : Heap) (Pv : Nat → Value → Prop) (Z : Nat → Heap → Prop) : Prop where
  keep : ∀ i h h', Z i h → (∀ o, h.get? S = some o → h'.get? S = some o) → (∀ b o, h0.get? b = some o → h'.get? b = some o) → Z i h'
  step : ∀ (i : Nat) (v : Value) (s : Shared) (Q : Bool → Shared → Prop) (E : Value → Shared → Prop), Pv i v → Z i s.heap → (∀ b o, h0.get? b = some o → s.heap.get? b = some o) →
    (∀ b h' tk, Heap.SameBut S s.heap h' → s.toks ≤ tk → Z (i + 1) h' → Q b { s with heap := h', toks := tk }) → wpAny (model P w) A (setAdd S v) Q E s
theorem grow_loop {S I : Addr} {fp : List Addr} {n : Nat} {h0 : Heap} {Pv : Nat → Value → Prop} {St : Nat → Heap → Prop} {Z : Nat → Heap → Prop} (W : Walks P w A.in1 I fp [I] n Pv St) (G : Grow P w A.in1 S h0 Pv Z) (nf : S ∉ fp) (m1 : h0.get? S = none) (m2 : h0.get? I = none) :
    ∀ (k i : Nat) (s : Shared) (R : Result → Shared → Prop), i + k = n → St i s.heap → (∀ b o, h0.get? b = some o → s.heap.get? b = some o) → Z i s.heap →
      (∀ h' tk, Z n h' → (∀ b o, h0.get? b = some o → h'.get? b = some o) → R (.ok (.ret .none)) { s with heap := h', toks := tk }) → codeAny (model P w) A (.builtin "set.update.loop" ⟨[.ref S, .ref I], []⟩) R s := by
  have n1 : S ≠ I := fun z => nf (z ▸ W.sub I (List.mem_singleton.mpr rfl))
  intro k
  induction k with
  | zero =>
    intro i s R hi it kp z q
    have e : i = n := by omega
    subst e
    refine codeAny_builtin F.entry_set_update_loop ?_
    rw [Around.under_plainId F.plain_set_update_loop _]
    refine (show wpAny (model P w) A.in1 (pyNext (.ref I) >>= _) _ _ s from wpAny_bind (wpAny_with_toks (Nat.le_refl s.toks) (W.done s _ _ it fun h' tk hk _ => ?_)))
    have kp' : ∀ b o, h0.get? b = some o → h'.get? b = some o := fun b o e => hk b o (fun hb => by rw [List.mem_singleton.mp hb, m2] at e; cases e) (kp b o e)
    exact (show wpAny (model P w) A.in1 (ret Value.none) _ _ _ from wpAny_pure (q h' tk (G.keep _ _ _ z (fun o e => hk S o (fun hb => n1 (List.mem_singleton.mp hb)) e) kp') kp'))
  | succ k ih =>
    intro i s R hi it kp z q
    refine codeAny_builtin F.entry_set_update_loop ?_
    rw [Around.under_plainId F.plain_set_update_loop _]
    refine (show wpAny (model P w) A.in1 (pyNext (.ref I) >>= _) _ _ s from wpAny_bind (wpAny_with_toks (Nat.le_refl s.toks) (W.item i s _ _ (by omega) it fun v h' tk hv it' hk _ => ?_)))
    have kp' : ∀ b o, h0.get? b = some o → h'.get? b = some o := fun b o e => hk b o (fun hb => by rw [List.mem_singleton.mp hb, m2] at e; cases e) (kp b o e)
    have z' : Z i h' := G.keep _ _ _ z (fun o e => hk S o (fun hb => n1 (List.mem_singleton.mp hb)) e) kp'
    refine (show wpAny (model P w) A.in1 (holding [v] (setAdd S v) >>= _) _ _ { s with heap := h', toks := tk } from wpAny_bind (wpAny_holding (G.step i v _ _ _ hv z' kp' fun b h2 tk2 sb _ z2 => ?_)))
    refine wpAny_pure ⟨plainId_quiet F.plain_set_update_loop _, ?_⟩
    exact ih (i + 1) { s with heap := h2, toks := tk2 } R (by omega) (W.frame (i + 1) h' h2 it' fun b hb o e => (sb.2 b fun z => nf (z ▸ hb)).trans e) (fun b o e => (sb.2 b (fun z => by rw [z, m1] at e; cases e)).trans (kp' b o e)) z2 q
theorem no_obj {h : Heap} {b : Addr} (hb : h.objs.size ≤ b) : h.get? b = none := by
  cases q : h.get? b with
  | none => rfl
  | some o => exact absurd (Heap.lt_size q) (Nat.not_lt.mpr hb)
set_option maxRecDepth 100000 in
set_option maxHeartbeats 3200000 in
/-- set(l), l a list -/
theorem set_list {l : Addr} {vs : Array Value} {Z : Nat → Heap → Prop} {Q : Value → Shared → Prop} (hh : A.handled = none) (hl : s.heap.IsList l vs) (G : Grow P w A.in1.in1.in1 s.heap.objs.size s.heap (fun i v => vs[i]? = some v) Z)
    (z0 : ∀ h', h'.get? s.heap.objs.size = some (set0 w) → (∀ b o, s.heap.get? b = some o → h'.get? b = some o) → Z 0 h')
    (q : ∀ h' tk, Z vs.size h' → (∀ b o, s.heap.get? b = some o → h'.get? b = some o) → Q (.ref s.heap.objs.size) { s with heap := h', toks := tk }) : wpAny (model P w) A (call (.type "set") [.ref l]) Q E s := by
  obtain ⟨c0, r0, mro0⟩ := F.called_set.mro
  have k1 := F.called_set.made
  have k2 := F.called_set.sub
  refine wpAny_call (codeAny_of_tree (show wpAny _ _ (callAny (.type "set") _) _ _ _ from wpAny_pure ⟨Code.quiet_builtin _ (by decide +kernel), codeAny_builtin F.entry_type_call ?_⟩))
  rw [Around.under_plain (weight_type_call_type "set" [.ref l] []) rfl]
  have k3 := F.called_set.notType
  have k4 := F.called_set.canCreate
  have k5 := F.typeCall_set_1 (.ref l)
  repeat (any_goals (first | assumption | wp_step))
  refine codeAny_mono (code_set_led1 (.ref l) (E := E) (Q₁ := fun obj s₁ => obj = .ref s.heap.objs.size ∧ s₁ = { s with heap := s.heap.push (set0 w) }) ⟨rfl, rfl⟩) fun r s₁ hr => ?_
  cases r with
  | error e => exact hr
  | ok fl =>
    cases fl with
    | ret obj =>
      obtain ⟨rfl, rfl⟩ := hr
      have at0 : (s.heap.push (set0 w)).get? s.heap.objs.size = some (set0 w) := Heap.get?_push_size _ rfl
      have ty0 : Shared.TypeIs { s with heap := s.heap.push (set0 w) } (.ref s.heap.objs.size) "set" := ⟨_, at0, rfl⟩
      have i1 := F.called_set.init.lookup
      have i2 := F.called_set.init.bind (.ref s.heap.objs.size)
      repeat (any_goals (first | assumption | wp_step))
      refine codeAny_mono (codeAny_call_builtin (R := wants (fun r s₂ => r = .none ∧ ∃ h' tk, s₂ = { s with heap := h', toks := tk } ∧ Z vs.size h' ∧ ∀ b o, s.heap.get? b = some o → h'.get? b = some o) E) F.called_set.init.plain F.entry_set_init (check_set_init_1 ty0 ?_)) fun r₂ s₂ hr₂ => ?_
      · obtain ⟨⟨ocls, odict, odata, oslots⟩, g1, g2, nl, g3⟩ := hl
        simp only at g2 g3
        subst g2 g3
        have g4 : (s.heap.push (set0 w)).get? l = some { cls := .type "list", dict := odict, data := .seq vs nl, slots := oslots } := Heap.get?_push_of_some _ g1
        have u1 := F.sub_list_set
        have u2 := F.sub_list_frozenset
        have u3 : (Value.type "list" == Value.type "dict") = false := by decide
        have g5 : (s.heap.push (set0 w)).IsList l vs := ⟨_, g4, rfl, nl, rfl⟩
        unfold Builtin.«set.__init__»
        unfold noKeywords Builtin.Frozenset.updateFrom
        generalize pi : pyIter = PI
        wp_walk
        subst pi
        refine wpAny_pyIter_list g5 (wpAny_bind (wpAny_runValue ?_))
        have hlt : l < s.heap.objs.size := Heap.lt_size g1
        have z1 : (s.heap.push (set0 w)).objs.size = s.heap.objs.size + 1 := Heap.size_push ..
        have hne : s.heap.objs.size ≠ (s.heap.push (set0 w)).objs.size := by rw [z1]; exact Nat.ne_of_lt (Nat.lt_succ_self _)
        have hne2 : s.heap.objs.size ≠ l := fun z => by rw [z] at hlt; exact Nat.lt_irrefl _ hlt
        have hge : s.heap.objs.size ≤ (s.heap.push (set0 w)).objs.size := by rw [z1]; exact Nat.le_succ _
        refine grow_loop (h0 := s.heap) (Z := Z) (I := (s.heap.push (set0 w)).objs.size) (Walks.list (by simp [hh]) _ l (Nat.ne_of_lt (Nat.lt_of_lt_of_le hlt hge)) vs) G (by simp only [List.mem_cons, List.not_mem_nil, or_false]; exact fun z => z.elim hne hne2) (no_obj (Nat.le_refl _)) (no_obj hge) vs.size 0 _ _ (Nat.zero_add _)
          ⟨⟨_, Heap.get?_push_size _ rfl, rfl, rfl⟩, g5.push _⟩ (fun b o e => Heap.get?_push_of_some _ (Heap.get?_push_of_some _ e)) (z0 _ (Heap.get?_push_of_some _ at0) fun b o e => Heap.get?_push_of_some _ (Heap.get?_push_of_some _ e)) fun h' tk zz kp => ?_
        refine (show wpAny _ _ _ _ _ _ from wpAny_pure (show wpAny _ _ (ret Value.none) _ _ _ from wpAny_pure ⟨rfl, h', tk, rfl, zz, kp⟩))
      · cases r₂ with
        | error e => exact hr₂
        | ok fl₂ =>
          cases fl₂ with
          | ret r =>
            obtain ⟨rfl, h', tk, rfl, zz, kp⟩ := hr₂
            repeat (any_goals (first | assumption | wp_step))
            exact q _ _ zz kp
          | _ => exact hr₂.elim
    | _ => exact hr.elim
set_option maxRecDepth 100000 in
set_option maxHeartbeats 3200000 in
/-- set(x), x a text -/
theorem set_text {x : Str} {u : Tok} {Z : Nat → Heap → Prop} {Q : Value → Shared → Prop} (hh : A.handled = none) (G : Grow P w A.in1.in1.in1 s.heap.objs.size s.heap (SignAt x) Z)
    (z0 : ∀ h', h'.get? s.heap.objs.size = some (set0 w) → (∀ b o, s.heap.get? b = some o → h'.get? b = some o) → Z 0 h')
    (q : ∀ h' tk, Z x.cps.size h' → (∀ b o, s.heap.get? b = some o → h'.get? b = some o) → Q (.ref s.heap.objs.size) { s with heap := h', toks := tk }) : wpAny (model P w) A (call (.type "set") [.str x u]) Q E s := by
  obtain ⟨c0, r0, mro0⟩ := F.called_set.mro
  have k1 := F.called_set.made
  have k2 := F.called_set.sub
  refine wpAny_call (codeAny_of_tree (show wpAny _ _ (callAny (.type "set") _) _ _ _ from wpAny_pure ⟨Code.quiet_builtin _ (by decide +kernel), codeAny_builtin F.entry_type_call ?_⟩))
  rw [Around.under_plain (weight_type_call_type "set" [.str x u] []) rfl]
  have k3 := F.called_set.notType
  have k4 := F.called_set.canCreate
  have k5 := F.typeCall_set_1 (.str x u)
  repeat (any_goals (first | assumption | wp_step))
  refine codeAny_mono (code_set_led1 (.str x u) (E := E) (Q₁ := fun obj s₁ => obj = .ref s.heap.objs.size ∧ s₁ = { s with heap := s.heap.push (set0 w) }) ⟨rfl, rfl⟩) fun r s₁ hr => ?_
  cases r with
  | error e => exact hr
  | ok fl =>
    cases fl with
    | ret obj =>
      obtain ⟨rfl, rfl⟩ := hr
      have at0 : (s.heap.push (set0 w)).get? s.heap.objs.size = some (set0 w) := Heap.get?_push_size _ rfl
      have ty0 : Shared.TypeIs { s with heap := s.heap.push (set0 w) } (.ref s.heap.objs.size) "set" := ⟨_, at0, rfl⟩
      have i1 := F.called_set.init.lookup
      have i2 := F.called_set.init.bind (.ref s.heap.objs.size)
      repeat (any_goals (first | assumption | wp_step))
      refine codeAny_mono (codeAny_call_builtin (R := wants (fun r s₂ => r = .none ∧ ∃ h' tk, s₂ = { s with heap := h', toks := tk } ∧ Z x.cps.size h' ∧ ∀ b o, s.heap.get? b = some o → h'.get? b = some o) E) F.called_set.init.plain F.entry_set_init (check_set_init_1 ty0 ?_)) fun r₂ s₂ hr₂ => ?_
      · have u1 := F.sub_str_set
        have u2 := F.sub_str_frozenset
        have u3 : (Value.type "str" == Value.type "dict") = false := by decide
        unfold Builtin.«set.__init__»
        unfold noKeywords Builtin.Frozenset.updateFrom
        generalize pi : pyIter = PI
        wp_walk
        subst pi
        have z1 : (s.heap.push (set0 w)).objs.size = s.heap.objs.size + 1 := Heap.size_push ..
        have hne : s.heap.objs.size ≠ (s.heap.push (set0 w)).objs.size := by rw [z1]; exact Nat.ne_of_lt (Nat.lt_succ_self _)
        have hge : s.heap.objs.size ≤ (s.heap.push (set0 w)).objs.size := by rw [z1]; exact Nat.le_succ _
        refine wpAny_pyIter_str fun ob St W0 st0 => wpAny_bind (wpAny_runValue ?_)
        refine grow_loop (h0 := s.heap) (Z := Z) (I := (s.heap.push (set0 w)).objs.size) (W0 _ (by simp [hh])) G (by simp only [List.mem_cons, List.not_mem_nil, or_false]; exact hne) (no_obj (Nat.le_refl _)) (no_obj hge) x.cps.size 0 _ _ (Nat.zero_add _)
          st0 (fun b o e => Heap.get?_push_of_some _ (Heap.get?_push_of_some _ e)) (z0 _ (Heap.get?_push_of_some _ at0) fun b o e => Heap.get?_push_of_some _ (Heap.get?_push_of_some _ e)) fun h' tk zz kp => ?_
        refine (show wpAny _ _ _ _ _ _ from wpAny_pure (show wpAny _ _ (ret Value.none) _ _ _ from wpAny_pure ⟨rfl, h', tk, rfl, zz, kp⟩))
      · cases r₂ with
        | error e => exact hr₂
        | ok fl₂ =>
          cases fl₂ with
          | ret r =>
            obtain ⟨rfl, h', tk, rfl, zz, kp⟩ := hr₂
            repeat (any_goals (first | assumption | wp_step))
            exact q _ _ zz kp
          | _ => exact hr₂.elim
    | _ => exact hr.elim
end
end Lw
end
section
set_option Elab.async false
set_option linter.all false
set_option autoImplicit false
set_option maxRecDepth 100000
/-! Dset3: how the sets of tuples, of numbers and texts grow. -/
namespace Lw
open PySem PySem.Spec PyProof.Rows L2

section
variable {P : Program} {w : World} {A : Around} {E : Value → Shared → Prop} {s : Shared}
/-! ### tuples -/
structure MGot (ks : List MRow) (i : Nat) (L : List MRow) : Prop where
  sub : ∀ r ∈ L, r ∈ ks.take i
  all : ∀ r ∈ ks.take i, r.2 ∈ L.map (·.2)
  le : L.length ≤ i
theorem MGot.next {ks L L' : List MRow} {i : Nat} {r : MRow} (g : MGot ks i L) (h : ks[i]? = some r) (e1 : r.2 ∈ L.map (·.2) → L' = L) (e2 : r.2 ∉ L.map (·.2) → L'.Perm (r :: L)) : MGot ks (i + 1) L' := by
  have tk : ks.take (i + 1) = ks.take i ++ [r] := take_next h
  by_cases hm : r.2 ∈ L.map (·.2)
  · rw [e1 hm]
    refine ⟨fun x hx => by rw [tk]; exact List.mem_append_left _ (g.sub x hx), fun x hx => ?_, Nat.le_succ_of_le g.le⟩
    rw [tk] at hx
    rcases List.mem_append.mp hx with z | z
    · exact g.all x z
    · rw [List.mem_singleton.mp z]; exact hm
  · have pm := e2 hm
    refine ⟨fun x hx => ?_, fun x hx => ?_, by rw [pm.length_eq, List.length_cons]; exact Nat.succ_le_succ g.le⟩
    · rw [tk]
      rcases List.mem_cons.mp (pm.mem_iff.mp hx) with z | z
      · rw [z]; exact List.mem_append_right _ (List.mem_singleton.mpr rfl)
      · exact List.mem_append_left _ (g.sub x z)
    · rw [(pm.map (·.2)).mem_iff, List.map_cons]
      rw [tk] at hx
      rcases List.mem_append.mp hx with z | z
      · exact List.mem_cons_of_mem _ (g.all x z)
      · rw [List.mem_singleton.mp z]; exact List.mem_cons_self
theorem isM_later {h h' : Heap} {k : List Key} {b : Addr} (x : IsM P w h k b) (kp : ∀ c o, h.get? c = some o → h'.get? c = some o) : IsM P w h' k b := by
  obtain ⟨o, its, n, e, r⟩ := x
  exact ⟨o, its, n, kp b o e, r⟩
theorem mset0 {h : Heap} {a : Addr} (e : h.get? a = some (set0 w)) : MSet P w h a [] #[] 0 (.fresh 0 0 (!w.params.followText "set-order")) :=
  ⟨⟨_, e, ⟨rfl, rfl, rfl⟩, rfl⟩, rfl, ⟨List.Pairwise.nil, rfl, rfl, .inl rfl, (fun x hx => by cases hx), fun i h j hi => by simp at hi⟩, List.nodup_nil, (fun r hr => by cases hr), led0 w, (by show 0 * 5 < 7 * 3; decide), by decide⟩
theorem growM {S : Addr} {h0 : Heap} (ks : List MRow) (hk : ∀ r ∈ ks, IsM P w h0 r.2 r.1) (fw : ks.length < 64) (hu : A.units < cLine) (m1 : h0.get? S = none) :
    Grow P w A S h0 (fun i v => ∃ r, ks[i]? = some r ∧ v = .ref r.1) fun i h => (∃ L es ep t, MSet P w h S L es ep t ∧ MGot ks i L) ∧ ∀ b o, h0.get? b = some o → h.get? b = some o := by
  constructor
  · rintro i h h' ⟨⟨L, es, ep, t, R, g⟩, kp⟩ at_ kp'
    obtain ⟨ob, e, r⟩ := R.at_
    exact ⟨⟨L, es, ep, t, ⟨⟨ob, at_ ob e, r⟩, R.rw_, R.tb, R.un, fun x hx => isM_later (hk x (List.mem_of_mem_take (g.sub x hx))) kp', R.ld, R.rm, R.fw⟩, g⟩, kp'⟩
  · rintro i v s Q E ⟨r, hr, rfl⟩ ⟨⟨L, es, ep, t, R, g⟩, kp⟩ _ q
    unfold setAdd
    have kx := isM_later (hk r (List.mem_of_getElem? hr)) kp
    have il : i < ks.length := (List.getElem?_eq_some_iff.mp hr).1
    have gl := g.le
    refine wpAny_holding (wpAny_bind (wpAny_pyHash_tuple hu kx (m_add (s := { s with toks := s.toks + (r.2.length + 1) }) R kx hu (by omega) fun b h' L' es' ep' t' sb R' e1 e2 => ?_)))
    refine q b h' (s.toks + (r.2.length + 1)) sb (Nat.le_add_right _ _) ⟨⟨L', es', ep', t', R', g.next hr e1 e2⟩, fun c o e => ?_⟩
    exact (sb.2 c fun z => by rw [z, m1] at e; cases e).trans (kp c o e)

/-! ### numbers and texts -/
def keyE (e : Int × Value) : Key := match e.2 with
  | .int k _ => .inl k
  | .str x _ => .inr x
  | _ => .inl 0
def GoodK (w : World) (e : Int × Value) : Prop := keyIs (keyE e) e.2 = true ∧ e.1 = keyH w (keyE e)
structure SKAt (w : World) (h : Heap) (a : Addr) (ks : List Key) (ob : Obj) (es : Array (Int × Value)) (ep : Nat) (t : SetTable) : Prop where
  at_ : h.get? a = some ob
  ex : ob.ExactSet
  da : ob.data = .set es ep t
  gk : ∀ e ∈ es.toList, GoodK w e
  pm : (es.toList.map keyE).Perm ks
  sc : es.size < scanBound
  ft : t.fits es.size = true
  rs : Ris t.place.toList
  ld : w.params.followText "set-order" = true ∨ t.led = true
  un : ks.Nodup
def SK (w : World) (h : Heap) (a : Addr) (ks : List Key) : Prop := ∃ ob es ep t, SKAt w h a ks ob es ep t
theorem keyE_of {k : Key} {v : Value} {i : Int} (h : keyIs k v = true) : keyE (i, v) = k := by
  rcases keyIs_shape h with ⟨i, t, rfl, rfl⟩ | ⟨x, t, rfl, rfl⟩ <;> rfl
theorem keyIs_scan {k : Key} {v : Value} (h : keyIs k v = true) : v.scannable = true := by
  rcases keyIs_shape h with ⟨i, t, rfl, rfl⟩ | ⟨x, t, rfl, rfl⟩ <;> rfl
theorem goodK_is {e : Int × Value} (g : GoodK w e) (k : Key) : keyIs k e.2 = true ↔ keyE e = k := by
  constructor
  · intro h; exact keyE_of (i := e.1) h
  · rintro rfl; exact g.1
theorem sk_elems {l : List (Int × Value)} (g : ∀ e ∈ l, GoodK w e) : ElemsOf (mixKind P w) l := fun e he => ⟨⟨keyE e, (g e he).1, (g e he).2⟩, keyIs_scan (g e he).1⟩
theorem sk0 {h : Heap} {a : Addr} (e : h.get? a = some (set0 w)) : SK w h a [] :=
  ⟨_, #[], 0, _, ⟨e, ⟨rfl, rfl, rfl⟩, rfl, (fun e he => by simp at he), List.Perm.refl _, by decide, rfl, List.Pairwise.nil, led0 w, List.nodup_nil⟩⟩
/-- a new key is laid down -/
theorem sk_put {g : Bool → Sem Unit} (hg : ∀ (b : Bool) (s₁ : Shared) (Q' : Unit → Shared → Prop), Q' () s₁ → wpAny (model P w) A (g b) Q' E s₁) {a : Addr} {ob : Obj} {es es1 : Array (Int × Value)} {ep : Nat} {t t2 : SetTable} {ks : List Key} {dummy : Bool}
    (e1 : s.heap.get? a = some ob) (e2 : ob.ExactSet) (e3 : ob.data = .set es ep t) (gk : ∀ e ∈ es1.toList, GoodK w e) (pm : (es1.toList.map keyE).Perm ks) (sc : es1.size < scanBound) (ft : t2.fits es1.size = true) (rs : Ris t2.place.toList) (ld : w.params.followText "set-order" = true ∨ t2.led = true) (un : ks.Nodup)
    {R : Option Bool → Shared → Prop} (q : ∀ h', Heap.SameBut a s.heap h' → SK w h' a ks → R (some true) { s with heap := h' }) :
    wpAny (model P w) A (storeSet a es1 t2 >>= fun _ => if (!dummy && t2.tooFull) = true then (g (relayAll t2 es1 (SetTable.grown es1.size)).2.2 >>= fun _ => storeSet a (relayAll t2 es1 (SetTable.grown es1.size)).1 (relayAll t2 es1 (SetTable.grown es1.size)).2.1 >>= fun _ => pure (some true)) else pure (some true)) R E s := by
  refine wpAny_bind (wpAny_storeSet_of e1 e3 ?_ (fits_of_scanBound sc))
  have at1 := store_at (es' := es1) (t' := t2) e1 e3
  have sb1 := Heap.SameBut.update s.heap a (Obj.putSet es1 t2)
  by_cases c : (!dummy && t2.tooFull) = true
  · rw [if_pos c]
    have r1 := relayAll_perm t2 es1 (SetTable.grown es1.size)
    have r2 := relayAll_fits t2 es1 (SetTable.grown es1.size)
    have r3 := relayAll_ris t2 es1 (SetTable.grown es1.size)
    have r4 := relayAll_led t2 es1 (SetTable.grown es1.size)
    generalize relayAll t2 es1 (SetTable.grown es1.size) = Y at r1 r2 r3 r4 ⊢
    obtain ⟨es2, t3, gv⟩ := Y
    dsimp only at r1 r2 r3 r4 ⊢
    have z2 : es2.size = es1.size := by rw [← Array.length_toList, r1.length_eq, Array.length_toList]
    refine wpAny_bind (hg _ _ _ (wpAny_bind (wpAny_storeSet_of at1 rfl ?_ (fits_of_scanBound (by rw [z2]; exact sc)))))
    refine wpAny_pure (q _ (sb1.trans (Heap.SameBut.update _ a _)) ⟨_, es2, _, t3, store_at (es' := es2) (t' := t3) at1 rfl, e2, rfl, fun e he => gk e (r1.mem_iff.mp he), (r1.map keyE).trans pm, by rw [z2]; exact sc, r2, r3, by rw [r4]; exact ld, un⟩)
  · rw [if_neg c]
    exact wpAny_pure (q _ sb1 ⟨_, es1, _, t2, at1, e2, rfl, gk, pm, sc, ft, rs, ld, un⟩)
theorem sk_add {a : Addr} {ks : List Key} {k : Key} {v : Value} {Q : Bool → Shared → Prop} (R : SK w s.heap a ks) (hv : keyIs k v = true) (room : ks.length + 1 < scanBound) (q : ∀ b h' ks', Heap.SameBut a s.heap h' → SK w h' a ks' → (k ∈ ks → ks' = ks) → (k ∉ ks → ks' = k :: ks) → Q b { s with heap := h' }) :
    wpAny (model P w) A (setAddHashed a v ((mixKind P w).hash k)) Q E s := by
  obtain ⟨ob, es, ep, t, R⟩ := R
  have sc := keyIs_scan hv
  have el : ElemsOf (mixKind P w) es.toList := sk_elems R.gk
  have kv : (mixKind P w).is k v = true := hv
  unfold setAddHashed setAddHashedIn
  refine wpAny_holding (wpAny_bind (wpAny_setState_of R.at_ R.da R.ft ?_))
  dsimp only
  rw [byScan_of sc R.sc el]
  simp only [↓reduceIte]
  unfold setAddByScan
  refine wpAny_bind (wpAny_bind (wpAny_rule (wpAny_bind (wpAny_setScan_of kv R.at_ R.da R.ft el ?_))))
  cases fi : List.findIdx? (fun e => (mixKind P w).is k e.2) es.toList with
  | some j =>
    dsimp only
    obtain ⟨lj, pj, _⟩ := List.findIdx?_eq_some_iff_getElem.mp fi
    have km : k ∈ ks := R.pm.mem_iff.mp (List.mem_map.mpr ⟨_, List.getElem_mem lj, (goodK_is (R.gk _ (List.getElem_mem lj)) k).mp pj⟩)
    exact wpAny_pure (wpAny_pure (q false s.heap ks (Heap.SameBut.refl a s.heap) ⟨ob, es, ep, t, R⟩ (fun _ => rfl) fun z => absurd km z))
  | none =>
    dsimp only
    have kn : k ∉ ks := fun km => by
      obtain ⟨e, he, ee⟩ := List.mem_map.mp (R.pm.mem_iff.mpr km)
      have z := List.findIdx?_eq_none_iff.mp fi e he
      have z2 : (mixKind P w).is k e.2 = true := (goodK_is (R.gk e he) k).mpr ee
      rw [z2] at z
      cases z
    have calm : ∀ (b : Bool) {s₁ : Shared} {Q' : Unit → Shared → Prop}, Q' () s₁ → wpAny (model P w) A (match b with | true => rule "set.scan.the-table-gave-way" | false => pure ()) Q' E s₁ :=
      fun b s₁ Q' z => by cases b <;> first | exact wpAny_pure z | exact wpAny_rule z
    have p1 := layNew_perm t es ((mixKind P w).hash k) v
    have p2 := layNew_fits t es ((mixKind P w).hash k) v
    have p3 := layNew_ris t es ((mixKind P w).hash k) v R.rs
    have p4 := layNew_led t es ((mixKind P w).hash k) v
    generalize layNew t es ((mixKind P w).hash k) v = Y at p1 p2 p3 p4 ⊢
    obtain ⟨es1, t1, dummy, gave⟩ := Y
    dsimp only at p1 p2 p3 p4 ⊢
    rw [Array.toList_push] at p1
    have p5 : es1.toList.Perm (((mixKind P w).hash k, v) :: es.toList) := p1.trans (List.perm_append_singleton _ _)
    have gk1 : ∀ e ∈ es1.toList, GoodK w e := fun e he => by
      rcases List.mem_cons.mp (p5.mem_iff.mp he) with z | z
      · rw [z]; unfold GoodK; rw [keyE_of hv]; exact ⟨hv, rfl⟩
      · exact R.gk e z
    have pm1 : (es1.toList.map keyE).Perm (k :: ks) := by
      have z := p5.map keyE
      rw [List.map_cons, keyE_of hv] at z
      exact z.trans (R.pm.cons k)
    have z1 : es1.size = ks.length + 1 := by
      have z := pm1.length_eq
      rwa [List.length_map, Array.length_toList, List.length_cons] at z
    have un1 : (k :: ks).Nodup := List.nodup_cons.mpr ⟨kn, R.un⟩
    have ld1 : w.params.followText "set-order" = true ∨ t1.led = true := by rw [p4]; exact R.ld
    have fin : ∀ h', Heap.SameBut a s.heap h' → SK w h' a (k :: ks) → Q true { s with heap := h' } := fun h' sb z => q true h' (k :: ks) sb z (fun y => absurd y kn) fun _ => rfl
    refine wpAny_bind (calm _ ?_)
    split
    · refine wpAny_bind ?_
      rw [hashByValue_scannable 8 sc]
      refine wpAny_pure ?_
      refine sk_put (fun b s₁ Q' z => calm b z) R.at_ R.ex R.da gk1 pm1 (by rw [z1]; exact room) ?_ ?_ ?_ un1 fun h' sb z => wpAny_pure (fin h' sb z)
      · split <;> first | exact p2 | exact SetTable.fits_plain_off p2
      · split <;> exact p3
      · split <;> exact ld1
    · refine wpAny_bind (wpAny_pure ?_)
      simp only [↓reduceIte]
      exact sk_put (fun b s₁ Q' z => calm b z) R.at_ R.ex R.da gk1 pm1 (by rw [z1]; exact room) p2 p3 ld1 un1 fun h' sb z => wpAny_pure (fin h' sb z)
end
end Lw
end
section
set_option Elab.async false
set_option linter.all false
set_option autoImplicit false
set_option maxRecDepth 100000
/-! Dsort: sorted(set). -/
namespace Lw
open PySem PySem.Spec PyProof.Rows L2

section
variable {P : Program} {w : World} {A : Around} {E : Value → Shared → Prop} {s : Shared}
structure KGot (ks : List Key) (i : Nat) (L : List Key) : Prop where
  sub : ∀ k ∈ L, k ∈ ks.take i
  all : ∀ k ∈ ks.take i, k ∈ L
  le : L.length ≤ i
theorem growK {S : Addr} {h0 : Heap} {Pv : Nat → Value → Prop} (ks : List Key) (hp : ∀ i v, Pv i v → ∃ k, ks[i]? = some k ∧ keyIs k v = true) (fw : ks.length + 1 < scanBound) : Grow P w A S h0 Pv fun i h => ∃ L, SK w h S L ∧ KGot ks i L := by
  constructor
  · rintro i h h' ⟨L, ⟨ob, es, ep, t, R⟩, g⟩ at_ _
    exact ⟨L, ⟨ob, es, ep, t, at_ ob R.at_, R.ex, R.da, R.gk, R.pm, R.sc, R.ft, R.rs, R.ld, R.un⟩, g⟩
  · rintro i v s Q E hv ⟨L, R, g⟩ _ q
    obtain ⟨k, hk, kv⟩ := hp i v hv
    have il : i < ks.length := (List.getElem?_eq_some_iff.mp hk).1
    have gl := g.le
    unfold setAdd
    refine wpAny_holding (wpAny_bind ((mixKind P w).pyHash (show (mixKind P w).is k v = true from kv) (sk_add (s := { s with toks := s.toks + 1 }) R kv (by omega) fun b h' L' sb R' e1 e2 => ?_)))
    have tk : ks.take (i + 1) = ks.take i ++ [k] := take_next hk
    refine q b h' (s.toks + 1) sb (Nat.le_succ _) ⟨L', R', ?_⟩
    by_cases km : k ∈ L
    · rw [e1 km]
      refine ⟨fun x hx => by rw [tk]; exact List.mem_append_left _ (g.sub x hx), fun x hx => ?_, by omega⟩
      rw [tk] at hx
      rcases List.mem_append.mp hx with z | z
      · exact g.all x z
      · rw [List.mem_singleton.mp z]; exact km
    · rw [e2 km]
      refine ⟨fun x hx => ?_, fun x hx => ?_, by rw [List.length_cons]; omega⟩
      · rw [tk]
        rcases List.mem_cons.mp hx with z | z
        · rw [z]; exact List.mem_append_right _ (List.mem_singleton.mpr rfl)
        · exact List.mem_append_left _ (g.sub x z)
      · rw [tk] at hx
        rcases List.mem_append.mp hx with z | z
        · exact List.mem_cons_of_mem _ (g.all x z)
        · rw [List.mem_singleton.mp z]; exact List.mem_cons_self
/-- sorted(a), a a set -/
theorem sorted_from {a : Addr} {es : Array (Int × Value)} {ep : Nat} {t : SetTable} {ltv : Value → Value → Bool} {Q : Value → Shared → Prop} (hh : A.handled = none) (at_ : SetAt s.heap a es ep t) (ft : t.fits es.size = true) (sc : es.size < scanBound) (rs : Ris t.place.toList) (ld : w.params.followText "set-order" = true ∨ t.led = true)
    (O : SrtO.Swo ltv) (srt : ∀ (s1 : Shared) (l : Addr) (vs : List Value), (∀ b o, s.heap.get? b = some o → s1.heap.get? b = some o) → s1.heap.get? l = some (seqObj "list" vs.toArray 0) → vs.Perm (es.toList.map (·.2)) → 2 ≤ vs.length → SrtO.SortableO P w A.in1.in1 s1 l vs ltv)
    (q : ∀ s' p c (out : List Value), (∀ b o, s.heap.get? b = some o → s'.heap.get? b = some o) → s'.gens = s.gens → s'.os = s.os → s.heap.objs.size ≤ p → s'.heap.get? p = some (seqObj "list" out.toArray c) → SrtO.Srtd ltv out → out.Perm (es.toList.map (·.2)) → Q (.ref p) s') :
    wpAny (model P w) A (call (.builtin "sorted") [.ref a]) Q E s := by
  refine Calls.call_function_entry kind_sorted plain_sorted entry_sorted (args_sorted1 _) ?_
  unfold Builtin.«sorted»
  refine wpAny_bind (m := checkCount "sorted" 1 1 _) (wpAny_pure (wpAny_bind (collect_set (A := A.in1) hh at_ ft sc rs ld fun s1 vs k1 z1 g1 o1 pm => ?_)))
  have vl : vs.length ≤ sizeLine := by rw [pm.length_eq, List.length_map, Array.length_toList]; exact fits_of_scanBound sc
  refine wpAny_bind (wpAny_newList ?_ vl)
  have oL : (s1.heap.push (seqObj "list" vs.toArray 0)).get? s1.heap.objs.size = some (seqObj "list" vs.toArray 0) := Heap.get?_push_size _ rfl
  refine (show wpAny _ _ _ _ _ { s1 with heap := s1.heap.push (seqObj "list" vs.toArray 0) } from ?_)
  refine wpAny_bind (wpAny_holding (wpAny_call_entry slot_list_sort ⟨_, oL, rfl⟩ entry_list_sort (SrtO.list_sort_ord O oL vl (fun h2 => srt { s1 with heap := s1.heap.push (seqObj "list" vs.toArray 0) } _ vs (fun b o e => Heap.get?_push_of_some _ (k1 b o e)) oL pm h2) fun out so st => ⟨_, rfl, ?_⟩) (args_list_sort _)))
  obtain ⟨c, hc⟩ := sortedHeap_at (vs := vs) (out := out.toArray) oL
  refine wpAny_pure ⟨_, rfl, q _ s1.heap.objs.size c out (fun b o e => ?_) g1 o1 z1 hc so (st.perm.trans pm)⟩
  have z := k1 b o e
  have lt := Heap.lt_size z
  refine (show (sortedHeap (s1.heap.push (seqObj "list" vs.toArray 0)) s1.heap.objs.size vs out.toArray).get? b = some o from ?_)
  rw [sortedHeap_old (Nat.ne_of_lt lt) (by rw [size_push']; exact Nat.lt_succ_of_lt lt)]
  exact Heap.get?_push_of_some _ z
end
end Lw
end
section
set_option Elab.async false
set_option linter.all false
set_option autoImplicit false
set_option maxRecDepth 100000
/-! Dord: ascending lists. -/
namespace Lw
section
variable {α : Type} {lt : α → α → Bool}
structure Lin (lt : α → α → Bool) : Prop where
  irr : ∀ x, lt x x = false
  tr : ∀ x y z, lt x y = true → lt y z = true → lt x z = true
  tri : ∀ x y, lt x y = false → lt y x = false → x = y
abbrev Up (lt : α → α → Bool) (l : List α) : Prop := l.Pairwise fun x y => lt x y = true
theorem Lin.asym (O : Lin lt) {x y : α} (h : lt x y = true) : lt y x = false := by
  cases e : lt y x with
  | false => rfl
  | true => have z := O.tr _ _ _ h e; rw [O.irr] at z; cases z
theorem gins_mem (O : Lin lt) (x y : α) : ∀ l : List α, y ∈ gins lt x l ↔ y = x ∨ y ∈ l
  | [] => by simp [gins]
  | z :: l => by
    unfold gins
    split
    · simp
    · split
      · rw [List.mem_cons, gins_mem O x y l, List.mem_cons]
        constructor
        · rintro (h | h | h) <;> simp [h]
        · rintro (h | h | h) <;> simp [h]
      · rename_i h1 h2
        have e : x = z := O.tri _ _ (by simpa using h1) (by simpa using h2)
        subst e
        simp
theorem gins_up (O : Lin lt) (x : α) : ∀ l : List α, Up lt l → Up lt (gins lt x l)
  | [], _ => List.pairwise_singleton _ _
  | z :: l, h => by
    have h' := List.pairwise_cons.mp h
    unfold gins
    split
    · rename_i h1
      refine List.pairwise_cons.mpr ⟨fun y hy => ?_, h⟩
      rcases List.mem_cons.mp hy with e | hy
      · rw [e]; exact h1
      · exact O.tr _ _ _ h1 (h'.1 y hy)
    · split
      · rename_i h1 h2
        refine List.pairwise_cons.mpr ⟨fun y hy => ?_, gins_up O x l h'.2⟩
        rcases (gins_mem O x y l).mp hy with e | hy
        · rw [e]; exact h2
        · exact h'.1 y hy
      · exact h
theorem gsort_mem (O : Lin lt) (y : α) : ∀ l : List α, y ∈ gsort lt l ↔ y ∈ l
  | [] => Iff.rfl
  | x :: l => by
    show y ∈ gins lt x (gsort lt l) ↔ _
    rw [gins_mem O, gsort_mem O y l, List.mem_cons]
theorem gsort_up (O : Lin lt) : ∀ l : List α, Up lt (gsort lt l)
  | [] => List.Pairwise.nil
  | x :: l => gins_up O x _ (gsort_up O l)
theorem up_same (O : Lin lt) : ∀ {l m : List α}, Up lt l → Up lt m → (∀ x, x ∈ l ↔ x ∈ m) → l = m
  | [], [], _, _, _ => rfl
  | [], y :: m, _, _, h => by have z := (h y).mpr List.mem_cons_self; cases z
  | x :: l, [], _, _, h => by have z := (h x).mp List.mem_cons_self; cases z
  | x :: l, y :: m, hl, hm, h => by
    have a := List.pairwise_cons.mp hl
    have b := List.pairwise_cons.mp hm
    have e : x = y := by
      have h1 := (h x).mp List.mem_cons_self
      have h2 := (h y).mpr List.mem_cons_self
      rcases List.mem_cons.mp h1 with e | h1
      · exact e
      · rcases List.mem_cons.mp h2 with e | h2
        · exact e.symm
        · have z := O.tr _ _ _ (a.1 y h2) (b.1 x h1)
          rw [O.irr] at z; cases z
    subst e
    refine congrArg (x :: ·) (up_same O a.2 b.2 fun z => ?_)
    constructor
    · intro hz
      rcases List.mem_cons.mp ((h z).mp (List.mem_cons_of_mem _ hz)) with e | q
      · subst e; have y := a.1 z hz; rw [O.irr] at y; cases y
      · exact q
    · intro hz
      rcases List.mem_cons.mp ((h z).mpr (List.mem_cons_of_mem _ hz)) with e | q
      · subst e; have y := b.1 z hz; rw [O.irr] at y; cases y
      · exact q
/-- what a sort gives is what gsort gives -/
theorem sorted_is (O : Lin lt) {l m : List α} (h1 : l.Pairwise fun x y => lt y x = false) (h2 : l.Nodup) (h3 : ∀ x, x ∈ l ↔ x ∈ m) : l = gsort lt m := by
  refine up_same O ?_ (gsort_up O m) fun x => (h3 x).trans (gsort_mem O x m).symm
  refine (List.pairwise_and_iff.mpr ⟨h1, h2⟩).imp fun {x y} h => ?_
  cases e : lt x y with
  | true => rfl
  | false => exact absurd (O.tri _ _ e h.1) h.2
theorem hins_perm (x : α) : ∀ l : List α, (hins lt x l).Perm (x :: l)
  | [] => List.Perm.refl _
  | y :: l => by
    unfold hins
    split
    · exact ((hins_perm x l).cons y).trans (List.Perm.swap _ _ _)
    · exact List.Perm.refl _
theorem hsort_perm : ∀ l : List α, (hsort lt l).Perm l
  | [] => List.Perm.refl _
  | x :: l => (hins_perm x _).trans ((hsort_perm l).cons x)
abbrev Wk (lt : α → α → Bool) (l : List α) : Prop := l.Pairwise fun x y => lt y x = false
theorem hins_wk (O : Lin lt) (x : α) : ∀ l : List α, Wk lt l → Wk lt (hins lt x l)
  | [], _ => List.pairwise_singleton _ _
  | y :: l, h => by
    have h' := List.pairwise_cons.mp h
    unfold hins
    split
    · rename_i h1
      refine List.pairwise_cons.mpr ⟨fun z hz => ?_, hins_wk O x l h'.2⟩
      rcases List.mem_cons.mp ((hins_perm x l).mem_iff.mp hz) with e | hz
      · rw [e]; exact O.asym h1
      · exact h'.1 z hz
    · rename_i h1
      have h1 : lt y x = false := by simpa using h1
      refine List.pairwise_cons.mpr ⟨fun z hz => ?_, h⟩
      rcases List.mem_cons.mp hz with e | hz
      · rw [e]; exact h1
      · cases e : lt z x with
        | false => rfl
        | true =>
          have k := h'.1 z hz
          cases e2 : lt y z with
          | true => have q := O.tr _ _ _ e2 e; rw [h1] at q; cases q
          | false => rw [O.tri _ _ k e2] at e; rw [h1] at e; cases e
theorem hsort_wk (O : Lin lt) : ∀ l : List α, Wk lt (hsort lt l)
  | [] => List.Pairwise.nil
  | x :: l => hins_wk O x _ (hsort_wk O l)
theorem wk_perm (O : Lin lt) : ∀ {l m : List α}, Wk lt l → Wk lt m → l.Perm m → l = m
  | [], m, _, _, p => (List.nil_perm.mp p).symm
  | x :: l, m, hl, hm, p => by
    cases m with
    | nil => exact absurd p.length_eq (by simp)
    | cons y m =>
      have a := List.pairwise_cons.mp hl
      have b := List.pairwise_cons.mp hm
      have e : x = y := by
        have h1 := p.mem_iff.mp (List.mem_cons_self : x ∈ x :: l)
        have h2 := p.mem_iff.mpr (List.mem_cons_self : y ∈ y :: m)
        rcases List.mem_cons.mp h1 with e | h1
        · exact e
        · rcases List.mem_cons.mp h2 with e | h2
          · exact e.symm
          · exact O.tri _ _ (b.1 x h1) (a.1 y h2)
      subst e
      exact congrArg (x :: ·) (wk_perm O a.2 b.2 (List.Perm.cons_inv p))
theorem linI : Lin ltI := ⟨fun x => by simp [ltI], fun x y z => by simp only [ltI, decide_eq_true_eq]; omega, fun x y => by simp only [ltI, decide_eq_false_iff_not]; omega⟩
theorem linN : Lin ltN := ⟨fun x => by simp [ltN], fun x y z => by simp only [ltN, decide_eq_true_eq]; omega, fun x y => by simp only [ltN, decide_eq_false_iff_not]; omega⟩
theorem ltT_iff (a b : Int × Nat × Int) : ltT a b = true ↔ a.1 < b.1 ∨ (a.1 = b.1 ∧ (a.2.1 < b.2.1 ∨ (a.2.1 = b.2.1 ∧ a.2.2 < b.2.2))) := by simp [ltT]
theorem ltT_no (a b : Int × Nat × Int) : ltT a b = false ↔ ¬ (a.1 < b.1 ∨ (a.1 = b.1 ∧ (a.2.1 < b.2.1 ∨ (a.2.1 = b.2.1 ∧ a.2.2 < b.2.2)))) := by
  rw [← ltT_iff]; cases ltT a b <;> simp
theorem linT : Lin ltT := by
  refine ⟨fun x => (ltT_no x x).mpr (by omega), fun x y z h1 h2 => ?_, fun x y h1 h2 => ?_⟩
  · have a := (ltT_iff _ _).mp h1
    have b := (ltT_iff _ _).mp h2
    exact (ltT_iff _ _).mpr (by omega)
  · have a := (ltT_no _ _).mp h1
    have b := (ltT_no _ _).mp h2
    obtain ⟨x1, x2, x3⟩ := x
    obtain ⟨y1, y2, y3⟩ := y
    simp only at a b
    have e1 : x1 = y1 := by omega
    have e2 : x2 = y2 := by omega
    have e3 : x3 = y3 := by omega
    rw [e1, e2, e3]
end
end Lw
end
section
set_option Elab.async false
set_option linter.all false
set_option autoImplicit false
set_option maxRecDepth 100000
/-! Dss: sorted(set(..)), list of a text, sorted of a dict, of two tuples. -/
namespace Lw
open PySem PySem.Spec PyProof.Rows L2

/-! ### what the sort is asked -/
section
variable {P : Program} {w : World} {A : Around} {E : Value → Shared → Prop} {s : Shared}
def cpV : Value → Nat
  | .str x _ => x.cps.getD 0 0
  | _ => 0
def ltCp (v u : Value) : Bool := decide (cpV v < cpV u)
abbrev OneCh (v : Value) : Prop := ∃ c t, v = Value.str ⟨#[c]⟩ t
theorem swo_cp : SrtO.Swo ltCp := by
  refine ⟨fun x y h => ?_, fun x y z h1 h2 => ?_⟩
  · have a : cpV x < cpV y := of_decide_eq_true h
    exact decide_eq_false (by omega)
  · have a : ¬ cpV y < cpV x := of_decide_eq_false h1
    have b : ¬ cpV z < cpV y := of_decide_eq_false h2
    exact decide_eq_false (by omega)
theorem strs_of : ∀ {vs : List Value}, (∀ v ∈ vs, OneCh v) → ∃ ss, StrsAre vs ss
  | [], _ => ⟨[], .nil⟩
  | v :: vs, h => by
    obtain ⟨c, t, rfl⟩ := h v List.mem_cons_self
    obtain ⟨ss, r⟩ := strs_of fun u hu => h u (List.mem_cons_of_mem _ hu)
    exact ⟨_, .cons _ t r⟩
theorem cp_sortable {l : Addr} {vs : List Value} (h : ∀ v ∈ vs, OneCh v) (h2 : 2 ≤ vs.length) : SrtO.SortableO P w A s l vs ltCp := by
  intro h' _
  obtain ⟨ss, r⟩ := strs_of h
  refine ⟨oneType', fun Q E hq => ?_, fun p q mp mq => ?_⟩
  · match vs, r, h2 with
    | v1 :: v2 :: rest, r, _ =>
      rw [keyKind_strs r]
      exact wpAny_pure hq
    | [], _, h => exact absurd h (by decide)
    | [v], _, h => exact absurd h (by simp)
  · obtain ⟨a, t, e⟩ := h _ mp
    obtain ⟨b, u, e'⟩ := h _ mq
    show wpAny (model P w) A (keyLt' oneType' p.1 q.1) (fun r s' => s' = { s with heap := h' } ∧ r = ltCp p.1 q.1) (fun _ _ => False) _
    rw [e, e', keyLt'_oneType]
    refine oneLt_str ⟨rfl, ?_⟩
    show decide (([a] : List Nat) < [b]) = decide ((#[a] : Array Nat).getD 0 0 < (#[b] : Array Nat).getD 0 0)
    simp [List.cons_lt_cons_iff]
/-- a triple in the heap -/
def IsTr (h : Heap) (v : Value) (k : Int × Nat × Int) : Prop := ∃ a o t u q n, v = .ref a ∧ h.get? a = some o ∧ o.cls = .type "tuple" ∧ o.data = .seq #[.int k.1 t, .str ⟨#[k.2.1]⟩ u, .int k.2.2 q] n
theorem IsTr.later {h h' : Heap} {v : Value} {k : Int × Nat × Int} (x : IsTr h v k) (kp : ∀ b o, h.get? b = some o → o.cls = .type "tuple" → h'.get? b = some o) : IsTr h' v k := by
  obtain ⟨a, o, t, u, q, n, e, e1, e2, e3⟩ := x
  exact ⟨a, o, t, u, q, n, e, kp a o e1 e2, e2, e3⟩
theorem tr_firsts {h : Heap} {k : Value → Int × Nat × Int} : ∀ {vs : List Value}, (∀ v ∈ vs, IsTr h v (k v)) → ∃ fs, PySem.W.KatTups h vs fs ∧ fs.length = vs.length ∧ ∀ f ∈ fs, ∃ i t, f = Value.int i t
  | [], _ => ⟨[], PySem.W.KatTups.nil, rfl, fun f hf => by cases hf⟩
  | v :: vs, h => by
    obtain ⟨fs, f1, f2, f3⟩ := tr_firsts fun u hu => h u (List.mem_cons_of_mem _ hu)
    obtain ⟨a, o, t, u, q, n, e, e1, e2, e3⟩ := h v List.mem_cons_self
    rw [e]
    exact ⟨_ :: fs, PySem.W.KatTups.cons e1 e2 e3 rfl f1, by rw [List.length_cons, List.length_cons, f2], fun f hf => (List.mem_cons.mp hf).elim (fun z => ⟨_, _, z⟩) (f3 f)⟩
theorem swo_tr (k : Value → Int × Nat × Int) : SrtO.Swo fun v u => ltT (k v) (k u) := by
  refine ⟨fun x y h => linT.asym h, fun x y z h1 h2 => ?_⟩
  have a := (ltT_no _ _).mp h1
  have b := (ltT_no _ _).mp h2
  exact (ltT_no _ _).mpr (by omega)
theorem tr_sortable {l : Addr} {vs : List Value} {k : Value → Int × Nat × Int} (h2 : 2 ≤ vs.length) (h : ∀ v ∈ vs, IsTr s.heap v (k v)) (hl : ∀ o, s.heap.get? l = some o → o.cls ≠ .type "tuple") : SrtO.SortableO P w A s l vs fun v u => ltT (k v) (k u) := by
  intro h' kp
  have hh : ∀ v ∈ vs, IsTr h' v (k v) := fun v hv => (h v hv).later fun b o e c => kp b o (fun z => by subst z; exact hl o e c) e
  obtain ⟨fs, f1, f2, f3⟩ := tr_firsts hh
  refine ⟨tuples' true, fun Q E hq => ?_, fun p q mp mq => ?_⟩
  · refine PySem.W.kat_kind (T := .type "int") f1 (by omega) (fun f hf => ?_) (by rfl) ?_
    · obtain ⟨i, t, rfl⟩ := f3 f hf
      exact PySem.W.Looks.now
    · rw [show (Value.type "int" != Value.type "tuple") = true by first | decide +kernel | rfl | decide]
      exact hq
  · have h1 := hh _ mp
    have h2 := hh _ mq
    show wpAny (model P w) A (keyLt' (tuples' true) p.1 q.1) (fun r s' => s' = { s with heap := h' } ∧ r = ltT (k p.1) (k q.1)) (fun _ _ => False) _
    generalize k p.1 = x at h1 ⊢
    generalize k q.1 = y at h2 ⊢
    obtain ⟨x1, x2, x3⟩ := x
    obtain ⟨y1, y2, y3⟩ := y
    obtain ⟨a, o, t1, t2, t3, n, e, e1, e2, e3⟩ := h1
    obtain ⟨a', o', u1, u2, u3, n', e', e1', e2', e3'⟩ := h2
    rw [e, e']
    have key : ∀ b : Bool, (b = true ↔ ltT (x1, x2, x3) (y1, y2, y3) = true) → b = ltT (x1, x2, x3) (y1, y2, y3) := fun b h => by
      cases b <;> cases z : ltT (x1, x2, x3) (y1, y2, y3) <;> rw [z] at h <;> simp at h ⊢
    refine PySem.W.kat_lt e1 e3 e1' e3' ?_
    show PySem.W.KatLex P w A true (decide (3 < 3)) _ [(.int x1 t1, .int y1 u1), (.str ⟨#[x2]⟩ t2, .str ⟨#[y2]⟩ u2), (.int x3 t3, .int y3 u3)] 0 _
    refine PySem.W.kat_cons (SeqAt.EqAt.int_int x1 t1 y1 u1 P w _ _ (PySem.W.kat_go (fun c1 => ?_) fun c1 => ?_))
    · have c1 : x1 = y1 := by simpa using c1
      refine PySem.W.kat_yes (PySem.W.kat_cons (SeqAt.EqAt.str_str _ t2 _ u2 P w _ _ (PySem.W.kat_go (fun c2 => ?_) fun c2 => ?_)))
      · have c2 : x2 = y2 := by simpa using c2
        refine PySem.W.kat_yes (PySem.W.kat_cons (SeqAt.EqAt.int_int x3 t3 y3 u3 P w _ _ (PySem.W.kat_go (fun c3 => ?_) fun c3 => ?_)))
        · have c3 : x3 = y3 := by simpa using c3
          exact PySem.W.kat_yes (PySem.W.kat_nil ⟨rfl, key _ (by rw [ltT_iff]; simp only [decide_eq_true_eq]; omega)⟩)
        · exact PySem.W.kat_no (PySem.W.kat_one _ _ (PyProof.Rows.lt_int (show _ ∧ _ from ⟨rfl, key _ (by rw [ltT_iff]; simp only [decide_eq_true_eq]; omega)⟩)))
      · have c2 : ¬ x2 = y2 := by simpa using c2
        refine PySem.W.kat_no (PySem.W.kat_one _ _ (PyProof.Rows.lt_str (show _ ∧ _ from ⟨rfl, key _ ?_⟩)))
        rw [ltT_iff]
        show decide (([x2] : List Nat) < [y2]) = true ↔ _
        simp only [decide_eq_true_eq, List.cons_lt_cons_iff, List.not_lt_nil, and_false, or_false]
        omega
    · have c1 : ¬ x1 = y1 := by simpa using c1
      exact PySem.W.kat_no (oneLt_int ⟨rfl, key _ (by rw [ltT_iff]; simp only [decide_eq_true_eq]; omega)⟩)
end

/-! ### the rules -/
section
variable {c : Cz} {X : Cx} {e : Expr} {f : FE} {p p' pos pos' : Pos} {pins : List (Addr × Obj)} {σ : L2.St} {μ : List Addr} {H : Hp} {s : Shared} {st : Sto}
/-- a new list behind a call that kept all -/
theorem new_list {a : Addr} {s' : Shared} {n : Nat} {out : List Value} {vs : List V} {ds : List D} {Q : VK} (I : Inv X pins σ H s) (S : Stor c μ st H) (kp : ∀ b o, s.heap.get? b = some o → s'.heap.get? b = some o) (hg : s'.gens = s.gens) (ho : s'.os = s.os) (hp : s.heap.objs.size ≤ a) (ha : s'.heap.get? a = some (seqObj "list" out.toArray n))
    (hv : Vals vs out) (hl : vs.length ≤ sizeLine) (r : RepL c μ H ds vs) (q : ∀ v H' μ', Ext μ H μ' H' → Stor c μ' (st ++ [.lst ds]) H' → Rep c μ' H' (.loc st.length) v → Q v H') : EP X pins σ Q (.ref a) s' := by
  have hn : H a = none := I.hok.fresh hp
  have J : Inv X pins σ (upd H a (.lst vs)) { s with heap := s'.heap, gens := s'.gens, drawn := s'.drawn, toks := s'.toks } :=
    I.call (ch := []) (Un.laid kp hp hn) (I.hok.laid kp hp ⟨hl, out, n, hv, ha⟩) (by rw [hg]; exact I.bare) (fun _ z => nomatch z)
  have e : s' = { s with heap := s'.heap, gens := s'.gens, drawn := s'.drawn, toks := s'.toks } := by
    cases s'; cases s; cases ho; rfl
  rw [e]
  exact ⟨.ref a, _, J, rfl, q _ _ (μ ++ [a]) (Ext.push hn) (S.push hn ⟨vs, upd_same, r.ext (Ext.push hn)⟩) (Rep.pushed S)⟩
theorem small60 {n : Nat} (h : n < 60) : n + 1 < scanBound := by
  have : scanBound = 4096 := rfl
  omega
/-- the shape of sorted(set(e)) -/
theorem ss_shape {r : D → Sto → Option (D × Sto)} (hm : X.mg "sorted" = none) (hm2 : X.mg "set" = none) (h : QE c X e f) (hg : Gl X "sorted") (hg2 : Gl X "set") (na : starEach [e] X.env = (false, eval e X.env) :: starEach [] X.env)
    (step : ∀ (pins : List (Addr × Obj)) (s : Shared) (σ : L2.St) (H : Hp) (μ : List Addr) (st : Sto) (d : D) (x : V) (u : Value) (z : D) (st' : Sto) (Q : VK), Inv X pins σ H s → Stor c μ st H → Rep c μ H d x → RelV x u → r d st = some (z, st') → (∀ v H' μ', Ext μ H μ' H' → Stor c μ' st' H' → Rep c μ' H' z v → Q v H') →
      wpAny (model X.prog X.w) X.A (call (.type "set") [u]) (fun v s1 => wpAny (model X.prog X.w) X.A (call (.builtin "sorted") [v]) (EP X pins σ Q) X.xe s1) X.xe s) :
    QE c X (.Call (.Name "sorted" p) [.Call (.Name "set" p') [e] [] pos'] [] pos) (fUn r f) := by
  refine ⟨fun pins s σ H Q I hq => ?_⟩
  obtain ⟨ρ, st, μ, R, S, z, st', e1, k⟩ := hq
  obtain ⟨⟨d, st1⟩, e2, e3⟩ := bind_some e1
  refine Call_ (ld_blt I hg hm boot_sorted ?_)
  refine PyProof.Rows.callWith_builtin1 (PyProof.Rows.args_cons ?_ rfl) rfl rfl
  refine Call_ (ld_blt I hg2 hm2 PyProof.Rows.boot_set ?_)
  refine PyProof.Rows.callWith_type1 (PyProof.Rows.args_cons (thn (h.run pins s σ H (fun x H1 => ∃ μ1, Ext μ H μ1 H1 ∧ Stor c μ1 st1 H1 ∧ Rep c μ1 H1 d x) I ⟨ρ, st, μ, R, S, d, st1, e2, fun v H1 μ1 E1 S1 r1 => ⟨μ1, E1, S1, r1⟩⟩) fun v s1 ⟨x, H1, I1, r1, μ1, E1, S1, r2⟩ => PyProof.Rows.args_nil ?_) na) na rfl
  refine thn (step pins s1 σ H1 μ1 st1 d x v z st' Q I1 S1 r2 r1 e3 fun v H' μ' E2 S2 r3 => k v H' μ' (E1.trans E2) S2 r3) fun v s2 hs => ?_
  exact PyProof.Rows.args_nil hs
/-- the keys of a list of numbers -/
theorem ints_keys {ns : List Int} {us : List Value} (r : Vals (ns.map V.int) us) : ∀ (i : Nat) (v : Value), us.toArray[i]? = some v → ∃ k, (ns.map Sum.inl : List Key)[i]? = some k ∧ keyIs k v = true := by
  intro i v h
  have h' : us[i]? = some v := by simpa using h
  have il : i < ns.length := by
    have z := (List.getElem?_eq_some_iff.mp h').1
    have l := r.length
    rw [List.length_map] at l
    omega
  obtain ⟨u, e1, e2⟩ := r.get (i := i) (x := .int ns[i]) (by rw [List.getElem?_map, List.getElem?_eq_getElem il]; rfl)
  rw [h'] at e1
  cases e1
  obtain ⟨t, rfl⟩ := e2
  exact ⟨.inl ns[i], by rw [List.getElem?_map, List.getElem?_eq_getElem il]; rfl, keyIs_int _ _⟩
theorem sk_walks {w : World} {h : Heap} {a : Addr} {L : List Key} {ob : Obj} {es : Array (Int × Value)} {ep : Nat} {t : SetTable} (R : SKAt w h a L ob es ep t) : SetAt h a es ep t := ⟨ob, R.at_, R.ex.1, R.da⟩
theorem out_keys {α : Type} {g : Value → α} {inj : α → Key} {es : List (Int × Value)} {out : List Value} {L : List Key} (hE : ∀ e ∈ es, keyE e = inj (g e.2)) (p1 : out.Perm (es.map (·.2))) (p2 : (es.map keyE).Perm L) : ((out.map g).map inj).Perm L := by
  have z := (p1.map g).map inj
  refine z.trans ?_
  rw [List.map_map, List.map_map]
  refine (List.Perm.of_eq (List.map_congr_left fun e he => ?_)).trans p2
  exact (hE e he).symm
theorem q_ssI (hx : Cok c X) (hm : X.mg "sorted" = none) (hm2 : X.mg "set" = none) (h : QE c X e f) (hg : Gl X "sorted" := by rfl) (hg2 : Gl X "set" := by rfl) (na : starEach [e] X.env = (false, eval e X.env) :: starEach [] X.env := by rfl) :
    QE c X (.Call (.Name "sorted" p) [.Call (.Name "set" p') [e] [] pos'] [] pos) (fUn ssI f) := ss_shape hm hm2 h hg hg2 na fun pins s σ H μ st d x u z st' Q I S rx ru e1 k => by
  unfold ssI at e1
  split at e1
  · split at e1
    · rename_i hn
      obtain ⟨ns, e2, e3⟩ := bind_some e1
      split at e3
      · rename_i hl
        cases e3
        obtain ⟨a, vs, rfl, _, h1, h2⟩ := S.lst hn rx
        rw [intsD_some e2] at h2
        cases RepL.ints_inv h2
        cases (show u = Value.ref a from ru)
        obtain ⟨its, rv, pl, _⟩ := I.list (SqL.of h1)
        have il : its.length = ns.length := by rw [← rv.length, List.length_map]
        have room : (ns.map Sum.inl : List Key).length + 1 < scanBound := by rw [List.length_map]; exact small60 hl
        refine set_list (P := X.prog) (w := X.w) (I.ok.hd hx.calm) pl.isList (growK (ns.map Sum.inl) (ints_keys rv) room) (fun h' e0 _ => ⟨[], sk0 e0, ⟨(fun k hk => by cases hk), (fun k hk => by simp at hk), Nat.le_refl _⟩⟩) fun h' tk Z kp => ?_
        obtain ⟨L, ⟨ob, es, ep, t, R⟩, g⟩ := Z
        have tk' : (ns.map Sum.inl : List Key).take its.toArray.size = ns.map Sum.inl := List.take_of_length_le (by rw [List.length_map, List.size_toArray, il]; exact Nat.le_refl _)
        have gs := g.sub
        have ga := g.all
        rw [tk'] at gs ga
        have I1 : Inv X pins σ H { s with heap := h', toks := tk } := I.kept kp
        have isI : ∀ e ∈ es.toList, ∃ i t, e.2 = Value.int i t ∧ keyE e = .inl i := fun e he => by
          have m : keyE e ∈ L := R.pm.mem_iff.mp (List.mem_map.mpr ⟨e, he, rfl⟩)
          obtain ⟨i, _, ei⟩ := List.mem_map.mp (gs _ m)
          rcases keyIs_shape (R.gk e he).1 with ⟨i', t, e4, e5⟩ | ⟨y, t, e4, _⟩
          · exact ⟨i', t, e5, e4⟩
          · rw [← ei] at e4; cases e4
        have ofP : ∀ vs : List Value, vs.Perm (es.toList.map (·.2)) → ∀ v ∈ vs, ∃ i t, v = Value.int i t := fun vs pm v hv => by
          obtain ⟨e, he, rfl⟩ := List.mem_map.mp (pm.mem_iff.mp hv)
          obtain ⟨i, t, e5, _⟩ := isI e he
          exact ⟨i, t, e5⟩
        refine sorted_from (s := { s with heap := h', toks := tk }) (I1.ok.hd hx.calm) (sk_walks R) R.ft R.sc R.rs R.ld SrtO.swo_int (fun s1 l vs _ _ pm h2 => SrtO.ints_sortable (SrtO.ints_iv (ofP vs pm)) h2) fun s' q n out kp' hg' ho hq hat so po => ?_
        have keys := out_keys (g := SrtO.iv) (inj := Sum.inl) (fun e he => by obtain ⟨i, t, e5, e6⟩ := isI e he; rw [e5, e6]; rfl) po R.pm
        have nd : (out.map SrtO.iv).Nodup := nodup_of_map (keys.nodup_iff.mpr R.un)
        have fin : out.map SrtO.iv = gsort ltI ns := sorted_is linI (List.pairwise_map.mpr so) nd fun y => by
          constructor
          · intro hy
            have m : (Sum.inl y : Key) ∈ L := keys.mem_iff.mp (List.mem_map.mpr ⟨y, hy, rfl⟩)
            obtain ⟨i, hi, ei⟩ := List.mem_map.mp (gs _ m)
            cases ei; exact hi
          · intro hy
            have m := keys.mem_iff.mpr (ga _ (List.mem_map.mpr ⟨y, hy, rfl⟩))
            obtain ⟨i, hi, ei⟩ := List.mem_map.mp m
            cases ei; exact hi
        refine new_list (vs := (gsort ltI ns).map V.int) (ds := (gsort ltI ns).map D.int) I1 S kp' hg' ho hq hat ?_ ?_ (RepL.ints _) k
        · rw [← fin]; exact vals_of_ints (SrtO.ints_iv (ofP out po))
        · rw [List.length_map, ← fin, List.length_map, po.length_eq, List.length_map, Array.length_toList]; exact fits_of_scanBound R.sc
      · cases e3
    · cases e1
  · cases e1
theorem q_ssS (hx : Cok c X) (hm : X.mg "sorted" = none) (hm2 : X.mg "set" = none) (h : QE c X e f) (hg : Gl X "sorted" := by rfl) (hg2 : Gl X "set" := by rfl) (na : starEach [e] X.env = (false, eval e X.env) :: starEach [] X.env := by rfl) :
    QE c X (.Call (.Name "sorted" p) [.Call (.Name "set" p') [e] [] pos'] [] pos) (fUn ssS f) := ss_shape hm hm2 h hg hg2 na fun pins s σ H μ st d x u z st' Q I S rx ru e1 k => by
  unfold ssS at e1
  split at e1
  · rename_i tx
    split at e1
    · rename_i hl
      cases e1
      cases rx
      obtain ⟨tu, rfl⟩ := ru
      have hl' : tx.cps.toList.length < 60 := by rw [Array.length_toList]; exact hl
      have room : (tx.cps.toList.map fun k => (Sum.inr ⟨#[k]⟩ : Key)).length + 1 < scanBound := by rw [List.length_map]; exact small60 hl'
      refine set_text (P := X.prog) (w := X.w) (I.ok.hd hx.calm) (growK (tx.cps.toList.map fun k => (Sum.inr ⟨#[k]⟩ : Key)) (fun i v ⟨k, u, e2, e3⟩ => ⟨.inr ⟨#[k]⟩, by rw [List.getElem?_map, Array.getElem?_toList, e2]; rfl, by rw [e3]; exact keyIs_str _ _⟩) room)
        (fun h' e0 _ => ⟨[], sk0 e0, ⟨(fun k hk => by cases hk), (fun k hk => by simp at hk), Nat.le_refl _⟩⟩) fun h' tk Z kp => ?_
      obtain ⟨L, ⟨ob, es, ep, t, R⟩, g⟩ := Z
      have tk' : (tx.cps.toList.map fun k => (Sum.inr ⟨#[k]⟩ : Key)).take tx.cps.size = tx.cps.toList.map fun k => (Sum.inr ⟨#[k]⟩ : Key) := List.take_of_length_le (by rw [List.length_map, Array.length_toList]; exact Nat.le_refl _)
      have gs := g.sub
      have ga := g.all
      rw [tk'] at gs ga
      have I1 : Inv X pins σ H { s with heap := h', toks := tk } := I.kept kp
      have isI : ∀ e ∈ es.toList, ∃ k t, e.2 = Value.str ⟨#[k]⟩ t ∧ keyE e = .inr ⟨#[k]⟩ := fun e he => by
        have m : keyE e ∈ L := R.pm.mem_iff.mp (List.mem_map.mpr ⟨e, he, rfl⟩)
        obtain ⟨k, _, ek⟩ := List.mem_map.mp (gs _ m)
        rcases keyIs_shape (R.gk e he).1 with ⟨i', t, e4, _⟩ | ⟨y, t, e4, e5⟩
        · rw [← ek] at e4; cases e4
        · rw [← ek] at e4
          cases e4
          exact ⟨k, t, e5, ek.symm⟩
      have ofP : ∀ vs : List Value, vs.Perm (es.toList.map (·.2)) → ∀ v ∈ vs, OneCh v := fun vs pm v hv => by
        obtain ⟨e, he, rfl⟩ := List.mem_map.mp (pm.mem_iff.mp hv)
        obtain ⟨i, t, e5, _⟩ := isI e he
        exact ⟨i, t, e5⟩
      refine sorted_from (s := { s with heap := h', toks := tk }) (I1.ok.hd hx.calm) (sk_walks R) R.ft R.sc R.rs R.ld swo_cp (fun s1 l vs _ _ pm h2 => cp_sortable (ofP vs pm) h2) fun s' q n out kp' hg' ho hq hat so po => ?_
      have keys := out_keys (g := cpV) (inj := fun k => (Sum.inr ⟨#[k]⟩ : Key)) (fun e he => by obtain ⟨i, t, e5, e6⟩ := isI e he; rw [e5, e6]; rfl) po R.pm
      have nd : (out.map cpV).Nodup := nodup_of_map (keys.nodup_iff.mpr R.un)
      have inj : ∀ {a b : Nat}, (Sum.inr ⟨#[a]⟩ : Key) = Sum.inr ⟨#[b]⟩ → a = b := fun h => by cases h; rfl
      have fin : out.map cpV = gsort ltN tx.cps.toList := sorted_is linN (List.pairwise_map.mpr so) nd fun y => by
        constructor
        · intro hy
          have m := keys.mem_iff.mp (List.mem_map.mpr ⟨y, hy, rfl⟩)
          obtain ⟨i, hi, ei⟩ := List.mem_map.mp (gs _ m)
          rw [← inj ei]; exact hi
        · intro hy
          have m := keys.mem_iff.mpr (ga _ (List.mem_map.mpr ⟨y, hy, rfl⟩))
          obtain ⟨i, hi, ei⟩ := List.mem_map.mp m
          rw [← inj ei]; exact hi
      have chs : ∀ vs : List Value, (∀ v ∈ vs, OneCh v) → Vals ((vs.map cpV).map fun k => V.str ⟨#[k]⟩) vs := by
        intro vs
        induction vs with
        | nil => intro _; exact .nil
        | cons v vs ih =>
          intro hv
          obtain ⟨k, t, rfl⟩ := hv v List.mem_cons_self
          exact .cons ⟨t, rfl⟩ (ih fun u hu => hv u (List.mem_cons_of_mem _ hu))
      have rep : ∀ ks : List Nat, RepL c μ H (ks.map chD) (ks.map fun k => V.str ⟨#[k]⟩) := by
        intro ks
        induction ks with
        | nil => exact RepL.nil
        | cons k ks ih => exact RepL.cons rfl ih
      refine new_list (vs := (gsort ltN tx.cps.toList).map fun k => V.str ⟨#[k]⟩) (ds := (gsort ltN tx.cps.toList).map chD) I1 S kp' hg' ho hq hat ?_ ?_ (rep _) k
      · rw [← fin]; exact chs out (ofP out po)
      · rw [List.length_map, ← fin, List.length_map, po.length_eq, List.length_map, Array.length_toList]; exact fits_of_scanBound R.sc
    · cases e1
  · cases e1
/-! ### triples -/
def kT (t : Int × Nat × Int) : List Key := [.inl t.1, .inr ⟨#[t.2.1]⟩, .inl t.2.2]
theorem kT_inj {t u : Int × Nat × Int} (h : kT t = kT u) : t = u := by
  obtain ⟨a, b, d⟩ := t
  obtain ⟨a', b', d'⟩ := u
  unfold kT at h
  injection h with h1 h2
  injection h2 with h2 h3
  injection h3 with h3 _
  cases h1; cases h2; cases h3; rfl
theorem tripsD_some : ∀ {ds : List D} {ts : List (Int × Nat × Int)}, tripsD ds = some ts → ds = ts.map tripD
  | [], _, h => by cases h; rfl
  | .tup [.int a, .str s, .int b] :: r, ts, h => by
    rw [tripsD] at h
    split at h
    · rename_i k hk
      obtain ⟨r', e1, rfl⟩ := Option.map_eq_some_iff.mp h
      rw [List.map_cons, ← tripsD_some e1]
      unfold tripD chD
      rw [← str_one hk]
    · cases h
  | .non :: _, _, h | .bl _ :: _, _, h | .int _ :: _, _, h | .str _ :: _, _, h | .ty _ :: _, _, h | .loc _ :: _, _, h | .rol _ :: _, _, h | .bm _ _ :: _, _, h => by simp [tripsD] at h
  | .tup [] :: _, _, h | .tup [_] :: _, _, h | .tup [_, _] :: _, _, h | .tup (_ :: _ :: _ :: _ :: _) :: _, _, h => by simp [tripsD] at h
  | .tup [.non, _, _] :: _, _, h | .tup [.bl _, _, _] :: _, _, h | .tup [.str _, _, _] :: _, _, h | .tup [.ty _, _, _] :: _, _, h | .tup [.tup _, _, _] :: _, _, h | .tup [.loc _, _, _] :: _, _, h | .tup [.rol _, _, _] :: _, _, h | .tup [.bm _ _, _, _] :: _, _, h => by simp [tripsD] at h
  | .tup [.int _, .non, _] :: _, _, h | .tup [.int _, .bl _, _] :: _, _, h | .tup [.int _, .int _, _] :: _, _, h | .tup [.int _, .ty _, _] :: _, _, h | .tup [.int _, .tup _, _] :: _, _, h | .tup [.int _, .loc _, _] :: _, _, h | .tup [.int _, .rol _, _] :: _, _, h | .tup [.int _, .bm _ _, _] :: _, _, h => by simp [tripsD] at h
  | .tup [.int _, .str _, .non] :: _, _, h | .tup [.int _, .str _, .bl _] :: _, _, h | .tup [.int _, .str _, .str _] :: _, _, h | .tup [.int _, .str _, .ty _] :: _, _, h | .tup [.int _, .str _, .tup _] :: _, _, h | .tup [.int _, .str _, .loc _] :: _, _, h | .tup [.int _, .str _, .rol _] :: _, _, h | .tup [.int _, .str _, .bm _ _] :: _, _, h => by simp [tripsD] at h
/-- the tuples of a list of triples, where they stand -/
theorem trips_rows (I : Inv X pins σ H s) (hx : Cok c X) : ∀ {ts : List (Int × Nat × Int)} {vs : List V} {us : List Value}, RepL c μ H (ts.map tripD) vs → Vals vs us → ∃ as : List Addr, as.length = ts.length ∧ us = as.map Value.ref ∧ vs = as.map V.ref ∧
    ∀ (i : Nat) (a : Addr) (t : Int × Nat × Int), as[i]? = some a → ts[i]? = some t → SqT X.K H a [.int t.1, .str ⟨#[t.2.1]⟩, .int t.2.2]
  | [], _, _, r, rv => by cases r; cases rv; exact ⟨[], rfl, rfl, rfl, fun i a t h => by simp at h⟩
  | t :: ts, _, _, r, rv => by
    obtain ⟨v, vs, rfl, r1, r2⟩ := r
    cases rv with
    | cons h1 h2 =>
      obtain ⟨as, e0, e1, e2, e3⟩ := trips_rows I hx r2 h2
      obtain ⟨a, ws, rfl, q1, q2⟩ := r1
      obtain ⟨w1, r', rfl, q3, q2⟩ := q2
      obtain ⟨w2, r', rfl, q4, q2⟩ := q2
      obtain ⟨w3, r', rfl, q5, q2⟩ := q2
      cases q2; cases q3; cases q4; cases q5
      cases h1
      refine ⟨a :: as, by rw [List.length_cons, List.length_cons, e0], by rw [List.map_cons, e1], by rw [List.map_cons, e2], fun i b t' hb ht => ?_⟩
      cases i with
      | zero =>
        simp at hb ht
        subst hb ht
        exact sqT_K hx q1
      | succ i => exact e3 i b t' (by simpa using hb) (by simpa using ht)
theorem isM_of (I : Inv X pins σ H s) {a : Addr} {t : Int × Nat × Int} (h : SqT X.K H a [.int t.1, .str ⟨#[t.2.1]⟩, .int t.2.2]) : IsM X.prog X.w s.heap (kT t) a := by
  obtain ⟨its, r, ⟨o, ho, hc, n, hd⟩, _⟩ := I.tuple h
  refine ⟨o, its.toArray, n, ho, hc, hd, ?_⟩
  cases r with
  | cons r1 r => cases r with
    | cons r2 r => cases r with
      | cons r3 r =>
        cases r
        obtain ⟨t1, rfl⟩ := r1
        obtain ⟨t2, rfl⟩ := r2
        obtain ⟨t3, rfl⟩ := r3
        exact .cons (keyIs_int _ t1) (.cons (keyIs_str _ t2) (.cons (keyIs_int _ t3) .nil))
theorem isTr_of {P : Program} {w : World} {h : Heap} {a : Addr} {t : Int × Nat × Int} (x : IsM P w h (kT t) a) : IsTr h (.ref a) t := by
  obtain ⟨o, its, n, ho, hc, hd, hi⟩ := x
  have e : ∃ t1 t2 t3, its.toList = [.int t.1 t1, .str ⟨#[t.2.1]⟩ t2, .int t.2.2 t3] := by
    revert hi
    generalize its.toList = l
    intro hi
    cases hi with
    | cons r1 r => cases r with
      | cons r2 r => cases r with
        | cons r3 r =>
          cases r
          rcases keyIs_shape (show keyIs (.inl t.1) _ = true from r1) with ⟨i1, t1, e1, rfl⟩ | ⟨y, t1, e1, _⟩
          · rcases keyIs_shape (show keyIs (.inr ⟨#[t.2.1]⟩) _ = true from r2) with ⟨i2, t2, e2, _⟩ | ⟨y2, t2, e2, rfl⟩
            · cases e2
            · rcases keyIs_shape (show keyIs (.inl t.2.2) _ = true from r3) with ⟨i3, t3, e3, rfl⟩ | ⟨y, t3, e3, _⟩
              · cases e1; cases e2; cases e3
                exact ⟨t1, t2, t3, rfl⟩
              · cases e3
          · cases e1
  obtain ⟨t1, t2, t3, e⟩ := e
  have e' : its = #[.int t.1 t1, .str ⟨#[t.2.1]⟩ t2, .int t.2.2 t3] := by rw [← Array.toArray_toList (xs := its), e]
  exact ⟨a, o, t1, t2, t3, n, rfl, ho, hc, by rw [hd, e']⟩
open Classical in
/-- the triple that stands at an address -/
noncomputable def trAt (P : Program) (w : World) (h : Heap) (v : Value) : Int × Nat × Int := match v with
  | .ref a => if q : ∃ t, IsM P w h (kT t) a then q.choose else (0, 0, 0)
  | _ => (0, 0, 0)
open Classical in
theorem trAt_is {P : Program} {w : World} {h : Heap} {a : Addr} {t : Int × Nat × Int} (x : IsM P w h (kT t) a) : trAt P w h (.ref a) = t := by
  have q : ∃ t, IsM P w h (kT t) a := ⟨t, x⟩
  show (if q : ∃ t, IsM P w h (kT t) a then q.choose else (0, 0, 0)) = t
  rw [dif_pos q]
  exact kT_inj (q.choose_spec.inj x)
theorem q_ssT (hx : Cok c X) (hm : X.mg "sorted" = none) (hm2 : X.mg "set" = none) (h : QE c X e f) (hg : Gl X "sorted" := by rfl) (hg2 : Gl X "set" := by rfl) (na : starEach [e] X.env = (false, eval e X.env) :: starEach [] X.env := by rfl) :
    QE c X (.Call (.Name "sorted" p) [.Call (.Name "set" p') [e] [] pos'] [] pos) (fUn ssT f) := ss_shape hm hm2 h hg hg2 na fun pins s σ H μ st d x u z st' Q I S rx ru e1 k => by
  unfold ssT at e1
  split at e1
  · split at e1
    · rename_i hn
      obtain ⟨ts, e2, e3⟩ := bind_some e1
      split at e3
      · rename_i hl
        cases e3
        obtain ⟨a, vs, rfl, _, h1, h2⟩ := S.lst hn rx
        rw [tripsD_some e2] at h2
        cases (show u = Value.ref a from ru)
        obtain ⟨its, rv, pl, _⟩ := I.list (SqL.of h1)
        obtain ⟨as, a0, a1, a2, a3⟩ := trips_rows I hx h2 rv
        subst a1
        have hM : ∀ r ∈ as.zip (ts.map kT), IsM X.prog X.w s.heap r.2 r.1 := fun r hr => by
          obtain ⟨i, hi, er⟩ := List.getElem_of_mem hr
          have hz : (as.zip (ts.map kT))[i]? = some r := by rw [List.getElem?_eq_getElem hi, er]
          obtain ⟨z1, z2⟩ := List.getElem?_zip_eq_some.mp hz
          rw [List.getElem?_map] at z2
          obtain ⟨t, z3, z4⟩ := Option.map_eq_some_iff.mp z2
          rw [← z4]
          exact isM_of I (a3 i _ t z1 z3)
        have lz : (as.zip (ts.map kT)).length = ts.length := by rw [List.length_zip, List.length_map, a0, Nat.min_self]
        have none0 : s.heap.get? s.heap.objs.size = none := no_obj (Nat.le_refl _)
        have G := growM (P := X.prog) (w := X.w) (A := X.A.in1.in1.in1) (S := s.heap.objs.size) (h0 := s.heap) (as.zip (ts.map kT)) hM (by rw [lz]; omega) (by have := hx.un; simp only [Around.in1_units]; omega) none0
        have G' : Grow X.prog X.w X.A.in1.in1.in1 s.heap.objs.size s.heap (fun i v => (as.map Value.ref).toArray[i]? = some v) _ := ⟨G.keep, fun i v s Q E hv => G.step i v s Q E (by
          have hv' : (as.map Value.ref)[i]? = some v := by simpa using hv
          rw [List.getElem?_map] at hv'
          obtain ⟨b, b1, b2⟩ := Option.map_eq_some_iff.mp hv'
          have il : i < ts.length := by rw [← a0]; exact (List.getElem?_eq_some_iff.mp b1).1
          exact ⟨(b, kT ts[i]), List.getElem?_zip_eq_some.mpr ⟨b1, by rw [List.getElem?_map, List.getElem?_eq_getElem il]; rfl⟩, b2.symm⟩)⟩
        have row : ∀ r ∈ as.zip (ts.map kT), ∃ t, t ∈ ts ∧ r.2 = kT t ∧ SqT X.K H r.1 [.int t.1, .str ⟨#[t.2.1]⟩, .int t.2.2] := fun r hr => by
          obtain ⟨i, hi, er⟩ := List.getElem_of_mem hr
          obtain ⟨z1, z2⟩ := List.getElem?_zip_eq_some.mp (show (as.zip (ts.map kT))[i]? = some r by rw [List.getElem?_eq_getElem hi, er])
          rw [List.getElem?_map] at z2
          obtain ⟨t, z3, z4⟩ := Option.map_eq_some_iff.mp z2
          exact ⟨t, List.mem_of_getElem? z3, z4.symm, a3 i _ t z1 z3⟩
        refine set_list (P := X.prog) (w := X.w) (I.ok.hd hx.calm) pl.isList G' (fun h' e0 kp => ⟨⟨[], _, _, _, mset0 e0, ⟨(fun r hr => by cases hr), (fun r hr => by simp at hr), Nat.le_refl _⟩⟩, kp⟩) fun h' tk Z kp => ?_
        obtain ⟨⟨L, es, ep, t, R, g⟩, _⟩ := Z
        have whole : (as.zip (ts.map kT)).take (as.map Value.ref).toArray.size = as.zip (ts.map kT) := List.take_of_length_le (by rw [lz, List.size_toArray, List.length_map, a0]; exact Nat.le_refl _)
        have gs := g.sub
        have ga := g.all
        rw [whole] at gs ga
        have I1 : Inv X pins σ H { s with heap := h', toks := tk } := I.kept kp
        obtain ⟨ob, go, gx, gd⟩ := R.at_
        have esz := mrows_size R.rw_
        have few := R.fw
        have vals : es.toList.map (·.2) = L.map fun r => Value.ref r.1 := by rw [R.rw_, mrows, List.map_map]; rfl
        -- what stands at an element
        have el : ∀ r ∈ L, ∃ t, t ∈ ts ∧ r.2 = kT t ∧ trAt X.prog X.w h' (.ref r.1) = t ∧ IsTr h' (.ref r.1) t ∧ SqT X.K H r.1 [.int t.1, .str ⟨#[t.2.1]⟩, .int t.2.2] := fun r hr => by
          obtain ⟨t, t1, t2, t3⟩ := row r (gs r hr)
          have z := R.el r hr
          rw [t2] at z
          exact ⟨t, t1, t2, trAt_is z, isTr_of z, t3⟩
        have ofP : ∀ vs : List Value, vs.Perm (es.toList.map (·.2)) → ∀ v ∈ vs, ∃ r ∈ L, v = .ref r.1 := fun vs pm v hv => by
          have m := pm.mem_iff.mp hv
          rw [vals] at m
          obtain ⟨r, hr, e⟩ := List.mem_map.mp m
          exact ⟨r, hr, e.symm⟩
        refine sorted_from (s := { s with heap := h', toks := tk }) (I1.ok.hd hx.calm) ⟨ob, go, gx.1, gd⟩ (MSet.fit (s := { s with heap := h', toks := tk }) R) (by rw [esz]; exact Nat.lt_of_lt_of_le few (by decide)) R.tb.ris R.ld (swo_tr (trAt X.prog X.w h')) (fun s1 l vs kp1 hl1 pm h2 => tr_sortable h2 (fun v hv => ?_) fun o ho => ?_) fun s' q n out kp' hg' ho hq hat so po => ?_
        · obtain ⟨r, hr, rfl⟩ := ofP vs pm v hv
          obtain ⟨t, _, _, t3, t4, _⟩ := el r hr
          rw [t3]
          exact t4.later fun b o e _ => kp1 b o e
        · rw [hl1] at ho
          cases ho
          intro z
          exact absurd (Value.type.inj z) (by decide)
        have fin : out.map (trAt X.prog X.w h') = gsort ltT ts := by
          refine sorted_is linT (List.pairwise_map.mpr so) ?_ fun y => ?_
          · have z := po.map (trAt X.prog X.w h')
            rw [vals, List.map_map] at z
            refine z.nodup_iff.mpr (nodup_of_map (f := kT) ?_)
            rw [List.map_map]
            refine (List.Perm.of_eq (List.map_congr_left fun r hr => ?_)).nodup_iff.mpr R.un
            obtain ⟨t, _, t2, t3, _⟩ := el r hr
            show kT (trAt X.prog X.w h' (.ref r.1)) = r.2
            rw [t3, t2]
          · constructor
            · intro hy
              obtain ⟨v, hv, rfl⟩ := List.mem_map.mp hy
              obtain ⟨r, hr, rfl⟩ := ofP out po v hv
              obtain ⟨t, t1, _, t3, _⟩ := el r hr
              rw [t3]; exact t1
            · intro hy
              obtain ⟨i, hi, ei⟩ := List.getElem_of_mem hy
              have ia : i < as.length := by rw [a0]; exact hi
              have m : (as[i], kT y) ∈ as.zip (ts.map kT) := List.mem_of_getElem? (i := i) (List.getElem?_zip_eq_some.mpr ⟨List.getElem?_eq_getElem ia, by rw [List.getElem?_map, List.getElem?_eq_getElem hi, ei]; rfl⟩)
              obtain ⟨r, hr, er⟩ := List.mem_map.mp (ga _ m)
              obtain ⟨t, _, t2, t3, _⟩ := el r hr
              have e5 : y = t := kT_inj (er.symm.trans t2)
              refine List.mem_map.mpr ⟨.ref r.1, ?_, by rw [t3, e5]⟩
              refine po.mem_iff.mpr ?_
              rw [vals]
              exact List.mem_map.mpr ⟨r, hr, rfl⟩
        have laid : ∀ vs : List Value, (∀ v ∈ vs, ∃ r ∈ L, v = .ref r.1) → ∃ ws, Vals ws vs ∧ RepL c μ H ((vs.map (trAt X.prog X.w h')).map tripD) ws := by
          intro vs
          induction vs with
          | nil => intro _; exact ⟨[], .nil, RepL.nil⟩
          | cons v vs ih =>
            intro hv
            obtain ⟨ws, w1, w2⟩ := ih fun u hu => hv u (List.mem_cons_of_mem _ hu)
            obtain ⟨r, hr, rfl⟩ := hv v List.mem_cons_self
            obtain ⟨t, _, _, t3, _, t5⟩ := el r hr
            rw [hx.K] at t5
            refine ⟨.ref r.1 :: ws, .cons rfl w1, ?_⟩
            rw [List.map_cons, List.map_cons, t3]
            exact RepL.cons ⟨r.1, _, rfl, t5, RepL.cons rfl (RepL.cons rfl (RepL.cons rfl RepL.nil))⟩ w2
        obtain ⟨ws, w1, w2⟩ := laid out (ofP out po)
        rw [fin] at w2
        refine new_list (vs := ws) (ds := (gsort ltT ts).map tripD) I1 S kp' hg' ho hq hat w1 ?_ w2 k
        rw [w1.length, po.length_eq, List.length_map, Array.length_toList, esz]
        exact Nat.le_trans (Nat.le_of_lt few) (by decide)
      · cases e3
    · cases e1
  · cases e1
end
end Lw
end
section
set_option Elab.async false
set_option linter.all false
set_option autoImplicit false
set_option maxRecDepth 100000
/-! Dss2: list of a text, sorted of a dict, of two tuples. -/
namespace Lw
open PySem PySem.Spec PyProof.Rows L2
theorem lex_code {B : Int} : ∀ {ns ms : List Int}, ns.length = ms.length → TS.Bd B ns → TS.Bd B ms → HT.lexLt ns ms = true → TS.code B ns < TS.code B ms
  | [], [], _, _, _, h => by cases h
  | [], _ :: _, hl, _, _, _ => by simp at hl
  | _ :: _, [], hl, _, _, _ => by simp at hl
  | x :: ns, y :: ms, hl, h1, h2, h => by
    have hl' : ns.length = ms.length := by simpa using hl
    rw [HT.lexLt_cons] at h
    by_cases e : x = y
    · rw [if_pos e] at h
      subst e
      exact (TS.code_same hl').mpr (lex_code hl' h1.tail h2.tail h)
    · rw [if_neg e] at h
      exact TS.code_lt hl' h1.tail h2.tail (of_decide_eq_true h)
theorem lex_tri : ∀ {ns ms : List Int}, ns.length = ms.length → HT.lexLt ns ms = true ∨ ns = ms ∨ HT.lexLt ms ns = true
  | [], [], _ => .inr (.inl rfl)
  | [], _ :: _, hl => by simp at hl
  | _ :: _, [], hl => by simp at hl
  | x :: ns, y :: ms, hl => by
    rw [HT.lexLt_cons, HT.lexLt_cons]
    by_cases e : x = y
    · subst e
      rw [if_pos rfl, if_pos rfl]
      rcases lex_tri (ns := ns) (ms := ms) (by simpa using hl) with h | h | h
      · exact .inl h
      · exact .inr (.inl (by rw [h]))
      · exact .inr (.inr h)
    · rw [if_neg e, if_neg (fun z => e z.symm)]
      rcases Int.lt_trichotomy x y with h | h | h
      · exact .inl (decide_eq_true h)
      · exact absurd h e
      · exact .inr (.inr (decide_eq_true h))
section
variable {c : Cz} {X : Cx}
theorem keysI_some : ∀ {kvs : List (Key × D)} {ks : List Int}, keysI kvs = some ks → kvs.map (·.1) = ks.map Sum.inl
  | [], _, h => by cases h; rfl
  | (.inl i, _) :: r, _, h => by
    rw [keysI] at h
    obtain ⟨ks, e, rfl⟩ := Option.map_eq_some_iff.mp h
    rw [List.map_cons, List.map_cons, keysI_some e]
  | (.inr _, _) :: _, _, h => by cases h
theorem o_sortD (hx : Cok c X) : CallR X (.builtin "sorted") (LC c sortD) := CallR.of (call_sortedDI hx.calm) fun xs H Q q => by
  obtain ⟨μ, st, ds, S, rr, z, st', e, k⟩ := q
  unfold sortD at e
  split at e
  · split at e
    · rename_i hn
      obtain ⟨ks, e1, e2⟩ := bind_some e
      split at e2
      · rename_i hl
        cases e2
        obtain ⟨v, rfl, h⟩ := rep1 rr
        obtain ⟨a, ws, rfl, _, h1, h2, _⟩ := S.dA hn h
        refine ⟨a, ws, ks, rfl, Rd.of h1, h2.trans (keysI_some e1), by omega, fun ys p pm pw hp => ?_⟩
        have fin : ys = hsort ltI ks := wk_perm linI (pw.imp fun {x y} h => by simp only [ltI, decide_eq_false_iff_not]; omega) (hsort_wk linI ks) (pm.trans (hsort_perm ks).symm)
        rw [fin]
        exact Res.pushL ⟨_, _, rfl, k⟩ S hp (RepL.ints _)
      · cases e2
    · cases e
  · cases e
theorem o_sortP (hx : Cok c X) : CallR X (.builtin "sorted") (LC c sortP) := by
  intro pins s σ H xs us Q I r q
  obtain ⟨μ, st, ds, S, rr, z, st', e, k⟩ := q
  unfold sortP at e
  split at e
  · split at e
    · rename_i a b hn
      obtain ⟨ns, e1, e2⟩ := bind_some e
      obtain ⟨ms, e3, e4⟩ := bind_some e2
      split at e4
      · rename_i hc
        cases e4
        obtain ⟨hl, h1, b1, b2⟩ := hc
        obtain ⟨v, rfl, h⟩ := rep1 rr
        obtain ⟨l, vs, rfl, _, g1, g2⟩ := S.lst hn h
        obtain ⟨x, r', rfl, x1, g3⟩ := g2
        obtain ⟨y, rfl, y1⟩ := rep1 g3
        have x1' := x1
        have y1' := y1
        obtain ⟨pa, va, rfl, a1, a2⟩ := x1'
        obtain ⟨pb, vb, rfl, a3, a4⟩ := y1'
        rw [intsD_some e1] at a2
        rw [intsD_some e3] at a4
        cases RepL.ints_inv a2
        cases RepL.ints_inv a4
        have tx : TupI X.K H (.ref pa) ns := ⟨pa, rfl, sqT_K hx a1⟩
        have ty : TupI X.K H (.ref pb) ms := ⟨pb, rfl, sqT_K hx a3⟩
        refine cr_sortT (d := ns.length) (B := 100) h1 pins s σ H _ us Q I r ⟨l, _, rfl, SqL.of g1, (by show 2 < 64; decide), fun v hv => ?_, fun ys p pm pw hp => ?_⟩
        · rcases List.mem_cons.mp hv with e | hv
          · subst e; exact ⟨ns, tx, rfl, b1⟩
          · cases List.mem_singleton.mp hv; exact ⟨ms, ty, hl.symm, b2⟩
        · have two : ys = [.ref pa, .ref pb] ∨ ys = [.ref pb, .ref pa] := by
            have ln := pm.length_eq
            match ys, ln with
            | [u, v], _ =>
              have hu := pm.mem_iff.mp (List.mem_cons_self : u ∈ [u, v])
              rcases List.mem_cons.mp hu with e | hu
              · subst e
                have := List.Perm.cons_inv pm
                left; rw [List.perm_singleton.mp this]
              · cases List.mem_singleton.mp hu
                have p2 : [V.ref pb, v].Perm [V.ref pb, V.ref pa] := pm.trans (List.Perm.swap _ _ _)
                have := List.Perm.cons_inv p2
                right; rw [List.perm_singleton.mp this]
            | [], h => simp at h
            | [_], h => simp at h
            | _ :: _ :: _ :: _, h => simp at h
          rcases two with rfl | rfl
          · have le := (List.pairwise_cons.mp pw).1 _ List.mem_cons_self ns ms tx ty
            have nl : ¬ HT.lexLt ms ns = true := fun z => by have := lex_code hl.symm b2 b1 z; omega
            rw [if_neg nl] at k
            exact Res.pushL ⟨_, _, rfl, k⟩ S hp (RepL.cons x1 (RepL.cons y1 RepL.nil))
          · have le := (List.pairwise_cons.mp pw).1 _ List.mem_cons_self ms ns ty tx
            rcases lex_tri hl with z | z | z
            · have := lex_code hl b1 b2 z; omega
            · subst z
              have ab : a = b := by rw [intsD_some e1, intsD_some e3]
              subst ab
              rw [ite_self] at k
              exact Res.pushL ⟨_, _, rfl, k⟩ S hp (RepL.cons y1 (RepL.cons x1 RepL.nil))
            · rw [if_pos z] at k
              exact Res.pushL ⟨_, _, rfl, k⟩ S hp (RepL.cons y1 (RepL.cons x1 RepL.nil))
      · cases e4
    · cases e
  · cases e
theorem o_listS (hx : Cok c X) : CallR X (.type "list") (LC c listS) := by
  intro pins s σ H xs us Q I r q
  obtain ⟨μ, st, ds, S, rr, z, st', e, k⟩ := q
  unfold listS at e
  split at e
  · rename_i x
    split at e
    · rename_i hl
      cases e
      obtain ⟨v, rfl, h⟩ := rep1 rr
      cases h
      obtain ⟨u, rfl, t, rfl⟩ := Vals.one r
      have hl' : x.cps.size < 60 := hl
      refine call_list_str (I.ok.hd hx.calm) x t (fun h' tk acc n kp at_ it => ?_) (Nat.le_trans (Nat.le_of_lt hl') (by decide))
      have I1 : Inv X pins σ H { s with heap := s.heap } := I
      have vals : Vals (x.cps.toList.map fun k => V.str ⟨#[k]⟩) acc.toList := by
        have key : ∀ (l : List Nat) (us : List Value), us.length = l.length → (∀ (i : Nat) v, us[i]? = some v → ∃ k u, l[i]? = some k ∧ v = Value.str ⟨#[k]⟩ u) → Vals (l.map fun k => V.str ⟨#[k]⟩) us := by
          intro l
          induction l with
          | nil => intro us h _; cases us with
            | nil => exact .nil
            | cons _ _ => simp at h
          | cons k l ih =>
            intro us h hv
            cases us with
            | nil => simp at h
            | cons v us =>
              obtain ⟨k', u, e1, e2⟩ := hv 0 v rfl
              simp at e1
              subst e1
              exact .cons ⟨u, e2⟩ (ih us (by simpa using h) fun i w hw => by simpa using hv (i + 1) w (by simpa using hw))
        refine key _ _ (by rw [Array.length_toList, Array.length_toList]; exact it.1) fun i v hv => ?_
        obtain ⟨cp, u, e1, e2⟩ := it.2 i v (by rw [← Array.getElem?_toList]; exact hv)
        exact ⟨cp, u, by rw [Array.getElem?_toList]; exact e1, e2⟩
      have rep : ∀ ks : List Nat, RepL c μ H (ks.map chD) (ks.map fun k => V.str ⟨#[k]⟩) := by
        intro ks
        induction ks with
        | nil => exact RepL.nil
        | cons k ks ih => exact RepL.cons rfl ih
      refine new_list (s' := { s with heap := h', toks := tk }) (out := acc.toList) (n := n) (vs := x.cps.toList.map fun k => V.str ⟨#[k]⟩) (ds := x.cps.toList.map chD) I S kp rfl rfl (Nat.le_refl _) at_ vals ?_ (rep _) k
      rw [List.length_map, Array.length_toList]
      exact Nat.le_trans (Nat.le_of_lt hl') (by decide)
    · cases e
  · cases e
end
end Lw
end
section
set_option Elab.async false
set_option linter.all false
set_option autoImplicit false
set_option maxRecDepth 100000
/-! K74r: what each def of the law's program reads as (printed by gen.py). -/
namespace Lw
open PySem PySem.Spec PyProof.Rows L2
/-- is_alphabet: its names letters letter -/
noncomputable def b_is_alphabet : FS :=
  (sSeq (sIf (fTru (fLc (fIt itS (fVar 0)) (.nm 1) (fNot (fTest (fChain (cmpD leB) (cmpD leB) (fC (.str ("a" : Str))) (fVar 1) (fC (.str ("z" : Str)))))) (fVar 1) [1])) (sRet (fC (.bl false))) sNx)
  (sRet (fOp (cmpD eqB) (fApp listS (fCons (fVar 0) fNil)) (fUn ssS (fVar 0)))))
noncomputable def p_is_alphabet : DF := runF b_is_alphabet 2

/-- __init__: its names self alphabet size first last steps start letter end state -/
noncomputable def b_init : FS :=
  (sSeq (sIf (fNot (fTru (fCall 1 p_is_alphabet (fCons (fVar 1) fNil)))) sNever sNx)
  (sSeq (sIf (fTest (fOp (cmpD ltB) (fVar 2) (fC (.int 0)))) sNever sNx)
  (sSeq (sIf (fTru (fLc (fIt itL (fOp addD (fApp listD (fCons (fVar 3) fNil)) (fApp listD (fCons (fVar 4) fNil)))) (.nm 9) (fNot (fTest (fChain (cmpD leB) (cmpD ltB) (fC (.int 0)) (fVar 9) (fVar 2)))) (fVar 9) [9])) sNever sNx)
  (sSeq (sFor (fIt itL (fVar 5)) (.tp [6, 7, 8]) (sIf (fOr (fNot (fTest (fChain (cmpD leB) (cmpD ltB) (fC (.int 0)) (fVar 6) (fVar 2)))) (fOr (fNot (fTest (fChain (cmpD leB) (cmpD ltB) (fC (.int 0)) (fVar 8) (fVar 2)))) (fOr (fTest (fOp (cmpD neB) (fApp lenD (fCons (fVar 7) fNil)) (fC (.int 1)))) (fTest (fOp (cmpD notInB) (fVar 7) (fVar 1)))))) sNever sNx))
  (sSeq (sFldD "Automaton" "alphabet" (fVar 0) (fVar 1))
  (sSeq (sFldD "Automaton" "size" (fVar 0) (fVar 2))
  (sSeq (sFldD "Automaton" "begins" (fVar 0) (fApp tupleD (fCons (fUn ssI (fVar 3)) fNil)))
  (sSeq (sFldD "Automaton" "ends" (fVar 0) (fApp tupleD (fCons (fUn ssI (fVar 4)) fNil)))
  (sSeq (sFldD "Automaton" "rows" (fVar 0) (fUn ssT (fLc (fIt itL (fVar 5)) (.tp [6, 7, 8]) fYes (fTup (fCons (fVar 6) (fCons (fVar 7) (fCons (fVar 8) fNil)))) [6, 7, 8])))
  (sSeq (sFldD "Automaton" "ways" (fVar 0) fNewT)
  (sFor (fIt itL (fFld ("Automaton" : Str) ("rows" : Str) (fVar 0))) (.tp [6, 7, 8]) (sPut (fFld ("Automaton" : Str) ("ways" : Str) (fVar 0)) (fTup (fCons (fVar 6) (fCons (fVar 7) fNil))) (fOp addD (fGet2 (fFld ("Automaton" : Str) ("ways" : Str) (fVar 0)) (fTup (fCons (fVar 6) (fCons (fVar 7) fNil))) (fTup fNil)) (fTup (fCons (fVar 8) fNil)))))))))))))))
noncomputable def p_init : DF := runF b_init 10

/-- first_states: its names self -/
noncomputable def b_first_states : FS :=
  (sRet (fFld ("Automaton" : Str) ("begins" : Str) (fVar 0)))
noncomputable def p_first_states : DF := runF b_first_states 1

/-- last_states: its names self -/
noncomputable def b_last_states : FS :=
  (sRet (fFld ("Automaton" : Str) ("ends" : Str) (fVar 0)))
noncomputable def p_last_states : DF := runF b_last_states 1

/-- next_of: its names self state letter -/
noncomputable def b_next_of : FS :=
  (sRet (fGet2 (fFld ("Automaton" : Str) ("ways" : Str) (fVar 0)) (fTup (fCons (fVar 1) (fCons (fVar 2) fNil))) (fTup fNil)))
noncomputable def p_next_of : DF := runF b_next_of 3

/-- next_set: its names self states letter found state end -/
noncomputable def b_next_set : FS :=
  (sSeq (sAsg (.nm 3) fNewA)
  (sSeq (sFor (fIt itT (fVar 1)) (.nm 4) (sFor (fIt itT (fMeth "Automaton" "next_of" 3 p_next_of (fVar 0) (fCons (fVar 4) (fCons (fVar 2) fNil)))) (.nm 5) (sPut (fVar 3) (fVar 5) (fC (.bl true)))))
  (sRet (fApp tupleD (fCons (fApp sortD (fCons (fVar 3) fNil)) fNil)))))
noncomputable def p_next_set : DF := runF b_next_set 6

/-- check_word: its names self word letter -/
noncomputable def b_check_word : FS :=
  (sIf (fTru (fLc (fIt itS (fVar 1)) (.nm 2) (fTest (fOp (cmpD notInB) (fVar 2) (fFld ("Automaton" : Str) ("alphabet" : Str) (fVar 0)))) (fVar 2) [2])) sNever sNx)
noncomputable def p_check_word : DF := runF b_check_word 3

/-- has_last: its names self states state -/
noncomputable def b_has_last : FS :=
  (sRet (fOp (cmpD gtB) (fApp lenD (fCons (fLc (fIt itT (fVar 1)) (.nm 2) (fTest (fOp (cmpD inB) (fVar 2) (fFld ("Automaton" : Str) ("ends" : Str) (fVar 0)))) (fVar 2) [2]) fNil)) (fC (.int 0))))
noncomputable def p_has_last : DF := runF b_has_last 3

/-- runs: its names self word found letter state run end -/
noncomputable def b_runs : FS :=
  (sSeq (sDrop (fMeth "Automaton" "check_word" 2 p_check_word (fVar 0) (fCons (fVar 1) fNil)))
  (sSeq (sAsg (.nm 2) (fLc (fIt itT (fFld ("Automaton" : Str) ("begins" : Str) (fVar 0))) (.nm 4) fYes (fTup (fCons (fVar 4) fNil)) [4]))
  (sSeq (sFor (fIt itS (fVar 1)) (.nm 3) (sSeq (sAsg (.nm 2) (fLc2 (fIt itL (fVar 2)) (.nm 5) fYes (fIt itT (fMeth "Automaton" "next_of" 3 p_next_of (fVar 0) (fCons (fOp ixD (fVar 5) (fUn negD (fC (.int 1)))) (fCons (fVar 3) fNil)))) (.nm 6) fYes (fOp addD (fVar 5) (fTup (fCons (fVar 6) fNil))) [5, 6] [6]))
  (sIf (fTest (fOp (cmpD gtB) (fApp lenD (fCons (fVar 2) fNil)) (fC (.int 20000)))) sNever sNx)))
  (sRet (fLc (fIt itL (fVar 2)) (.nm 5) (fTest (fOp (cmpD inB) (fOp ixD (fVar 5) (fUn negD (fC (.int 1)))) (fFld ("Automaton" : Str) ("ends" : Str) (fVar 0)))) (fVar 5) [5])))))
noncomputable def p_runs : DF := runF b_runs 7

/-- by_breadth: its names start letters leads most order numbers steps at letter goal -/
noncomputable def b_by_breadth : FS :=
  (sSeq (sAsg (.nm 4) (fLst (fCons (fVar 0) fNil)))
  (sSeq (sAsg (.nm 5) (fNewT1 (fVar 0) (fC (.int 0))))
  (sSeq (sAsg (.nm 6) (fLst fNil))
  (sSeq (sAsg (.nm 7) (fC (.int 0)))
  (sSeq (sWhile (fTest (fOp (cmpD ltB) (fVar 7) (fApp lenD (fCons (fVar 4) fNil)))) (sSeq (sFor (fIt itS (fVar 1)) (.nm 8) (sSeq (sAsg (.nm 9) (fCallB 2 "next_set" 3 p_next_set (fCons (fOp ixD (fVar 4) (fVar 7)) (fCons (fVar 8) fNil))))
  (sSeq (sIf (fTest (fOp (cmpD notInB) (fVar 9) (fVar 5))) (sSeq (sPut (fVar 5) (fVar 9) (fApp lenD (fCons (fVar 4) fNil)))
  (sSeq (sDrop (fBm "list" appendD (fVar 4) (fCons (fVar 9) fNil)))
  (sIf (fTest (fOp (cmpD gtB) (fApp lenD (fCons (fVar 4) fNil)) (fVar 3))) sNever sNx))) sNx)
  (sDrop (fBm "list" appendD (fVar 6) (fCons (fTup (fCons (fVar 7) (fCons (fVar 8) (fCons (fOp getD' (fVar 5) (fVar 9)) fNil)))) fNil))))))
  (sAug 7 (fC (.int 1)))))
  (sRet (fTup (fCons (fVar 4) (fCons (fVar 6) fNil)))))))))
noncomputable def p_by_breadth : DF := runF b_by_breadth 10

/-- determinized: its names automaton last order steps at -/
noncomputable def b_determinized : FS :=
  (sSeq (sAsg (.tp [2, 3]) (fCall 4 p_by_breadth (fCons (fMeth "Automaton" "first_states" 1 p_first_states (fVar 0) fNil) (fCons (fFld ("Automaton" : Str) ("alphabet" : Str) (fVar 0)) (fCons (fBnd ("Automaton" : Str) ("next_set" : Str) (fVar 0)) (fCons (fC (.int 4000)) fNil))))))
  (sSeq (sAsg (.nm 1) (fLc (fRng (fCons (fApp lenD (fCons (fVar 2) fNil)) fNil)) (.nm 4) (fTru (fMeth "Automaton" "has_last" 2 p_has_last (fVar 0) (fCons (fOp ixD (fVar 2) (fVar 4)) fNil))) (fVar 4) [4]))
  (sRet (fMake "Automaton" 6 p_init (fCons (fFld ("Automaton" : Str) ("alphabet" : Str) (fVar 0)) (fCons (fApp lenD (fCons (fVar 2) fNil)) (fCons (fLst (fCons (fC (.int 0)) fNil)) (fCons (fVar 1) (fCons (fVar 3) fNil)))))))))
noncomputable def p_determinized : DF := runF b_determinized 5

/-- way_back: its names known here word pairs runs letter pair -/
noncomputable def b_way_back : FS :=
  (sSeq (sAsg (.nm 2) (fC (.str ("" : Str))))
  (sSeq (sAsg (.nm 3) (fLst (fCons (fSl (fVar 1) foN (foS (fC (.int 2)))) fNil)))
  (sSeq (sWhile (fTest (fOp (cmpD notNB) (fOp getD' (fVar 0) (fVar 1)) (fC .non))) (sSeq (sAsg (.tp [5, 1]) (fOp getD' (fVar 0) (fVar 1)))
  (sSeq (sAsg (.nm 2) (fOp addD (fVar 5) (fVar 2)))
  (sAsg (.nm 3) (fOp addD (fLst (fCons (fSl (fVar 1) foN (foS (fC (.int 2)))) fNil)) (fVar 3))))))
  (sSeq (sAsg (.nm 4) (fApp sortP (fCons (fLst (fCons (fApp tupleD (fCons (fLc (fIt itL (fVar 3)) (.nm 6) fYes (fOp ixD (fVar 6) (fC (.int 0))) [6]) fNil)) (fCons (fApp tupleD (fCons (fLc (fIt itL (fVar 3)) (.nm 6) fYes (fOp ixD (fVar 6) (fC (.int 1))) [6]) fNil)) fNil))) fNil)))
  (sRet (fTup (fCons (fVar 2) (fCons (fOp ixD (fVar 4) (fC (.int 0))) (fCons (fOp ixD (fVar 4) (fC (.int 1))) fNil)))))))))
noncomputable def p_way_back : DF := runF b_way_back 7

/-- ambiguity_paper: its names automaton known waiting one two letter apart first second goal -/
noncomputable def b_ambiguity_paper : FS :=
  (sSeq (sAsg (.nm 1) fNewT)
  (sSeq (sAsg (.nm 2) (fLst fNil))
  (sSeq (sFor (fIt itT (fMeth "Automaton" "first_states" 1 p_first_states (fVar 0) fNil)) (.nm 3) (sFor (fIt itT (fMeth "Automaton" "first_states" 1 p_first_states (fVar 0) fNil)) (.nm 4) (sIf (fTest (fOp (cmpD leB) (fVar 3) (fVar 4))) (sSeq (sPut (fVar 1) (fTup (fCons (fVar 3) (fCons (fVar 4) (fCons (fOp (cmpD neB) (fVar 3) (fVar 4)) fNil)))) (fC .non))
  (sDrop (fBm "list" appendD (fVar 2) (fCons (fTup (fCons (fVar 3) (fCons (fVar 4) (fCons (fOp (cmpD neB) (fVar 3) (fVar 4)) fNil)))) fNil)))) sNx)))
  (sSeq (sWhile (fTru (fVar 2)) (sSeq (sAsg (.tp [3, 4, 6]) (fBm "list" popD (fVar 2) (fCons (fC (.int 0)) fNil)))
  (sSeq (sIf (fAnd (fTru (fVar 6)) (fAnd (fTest (fOp (cmpD inB) (fVar 3) (fMeth "Automaton" "last_states" 1 p_last_states (fVar 0) fNil))) (fTest (fOp (cmpD inB) (fVar 4) (fMeth "Automaton" "last_states" 1 p_last_states (fVar 0) fNil))))) (sRet (fCall 2 p_way_back (fCons (fVar 1) (fCons (fTup (fCons (fVar 3) (fCons (fVar 4) (fCons (fVar 6) fNil)))) fNil)))) sNx)
  (sFor (fIt itS (fFld ("Automaton" : Str) ("alphabet" : Str) (fVar 0))) (.nm 5) (sFor (fIt itT (fMeth "Automaton" "next_of" 3 p_next_of (fVar 0) (fCons (fVar 3) (fCons (fVar 5) fNil)))) (.nm 7) (sFor (fIt itT (fMeth "Automaton" "next_of" 3 p_next_of (fVar 0) (fCons (fVar 4) (fCons (fVar 5) fNil)))) (.nm 8) (sSeq (sAsg (.nm 9) (fTup (fCons (fVar 7) (fCons (fVar 8) (fCons (fOrV (fVar 6) (fOp (cmpD neB) (fVar 7) (fVar 8))) fNil)))))
  (sIf (fTest (fOp (cmpD notInB) (fVar 9) (fVar 1))) (sSeq (sPut (fVar 1) (fVar 9) (fTup (fCons (fVar 5) (fCons (fTup (fCons (fVar 3) (fCons (fVar 4) (fCons (fVar 6) fNil)))) fNil))))
  (sDrop (fBm "list" appendD (fVar 2) (fCons (fVar 9) fNil)))) sNx))))))))
  (sRet (fC .non))))))
noncomputable def p_ambiguity_paper : DF := runF b_ambiguity_paper 10

/-- judge_ambiguity: its names automaton paper run word one two at letter -/
noncomputable def b_judge_ambiguity : FS :=
  (sSeq (sAsg (.tp [3, 4, 5]) (fVar 1))
  (sSeq (sIf (fOr (fTru (fLc (fIt itS (fVar 3)) (.nm 7) (fTest (fOp (cmpD notInB) (fVar 7) (fFld ("Automaton" : Str) ("alphabet" : Str) (fVar 0)))) (fVar 7) [7])) (fNot (fTest (fOp (cmpD ltB) (fVar 4) (fVar 5))))) (sRet (fC (.bl false))) sNx)
  (sSeq (sFor (fIt itT (fTup (fCons (fVar 4) (fCons (fVar 5) fNil)))) (.nm 2) (sSeq (sIf (fOr (fTest (fOp (cmpD neB) (fApp lenD (fCons (fVar 2) fNil)) (fOp addD (fApp lenD (fCons (fVar 3) fNil)) (fC (.int 1))))) (fTest (fOp (cmpD notInB) (fOp ixD (fVar 2) (fC (.int 0))) (fMeth "Automaton" "first_states" 1 p_first_states (fVar 0) fNil)))) (sRet (fC (.bl false))) sNx)
  (sSeq (sIf (fTest (fOp (cmpD notInB) (fOp ixD (fVar 2) (fUn negD (fC (.int 1)))) (fMeth "Automaton" "last_states" 1 p_last_states (fVar 0) fNil))) (sRet (fC (.bl false))) sNx)
  (sFor (fRng (fCons (fApp lenD (fCons (fVar 3) fNil)) fNil)) (.nm 6) (sIf (fTest (fOp (cmpD notInB) (fOp ixD (fVar 2) (fOp addD (fVar 6) (fC (.int 1)))) (fMeth "Automaton" "next_of" 3 p_next_of (fVar 0) (fCons (fOp ixD (fVar 2) (fVar 6)) (fCons (fOp ixD (fVar 3) (fVar 6)) fNil))))) (sRet (fC (.bl false))) sNx)))))
  (sRet (fC (.bl true))))))
noncomputable def p_judge_ambiguity : DF := runF b_judge_ambiguity 8

/-- _law_deck: its names script cells each deck seed k cell rest at -/
noncomputable def b_law_deck : FS :=
  (sSeq (sAsg (.nm 3) (fLst fNil))
  (sSeq (sAsg (.nm 4) (fOp addD (fC (.int 7)) (fApp lenD (fCons (fVar 0) fNil))))
  (sSeq (sFor (fRng (fCons (fVar 1) fNil)) (.nm 5) (sSeq (sAsg (.nm 6) (fC (.int 0)))
  (sSeq (sIf (fTest (fOp (cmpD ltB) (fVar 5) (fApp lenD (fCons (fVar 0) fNil)))) (sAsg (.nm 6) (fOp ixD (fVar 0) (fVar 5))) sNx)
  (sSeq (sAsg (.nm 7) (fApp absD (fCons (fVar 6) fNil)))
  (sIf (fTest (fOp (cmpD geB) (fVar 7) (fOp powD (fC (.int 10)) (fC (.int 30))))) (sFor (fRng (fCons (fVar 2) fNil)) (.nm 8) (sSeq (sDrop (fBm "list" appendD (fVar 3) (fCons (fOp modD (fApp intD (fCons (fVar 7) fNil)) (fC (.int 1000003))) fNil)))
  (sAsg (.nm 7) (fOp fdivD (fVar 7) (fC (.int 1000003)))))) (sSeq (sAsg (.nm 4) (fOp modD (fApp intD (fCons (fOp addD (fOp addD (fOp addD (fOp mulD (fVar 4) (fC (.int 48271))) (fOp mulD (fC (.int 2)) (fVar 7))) (fApp intD (fCons (fOp (cmpD ltB) (fVar 6) (fC (.int 0))) fNil))) (fVar 5)) fNil)) (fC (.int 2147483647))))
  (sFor (fRng (fCons (fVar 2) fNil)) (.nm 8) (sSeq (sAsg (.nm 4) (fOp modD (fApp intD (fCons (fOp addD (fOp addD (fOp mulD (fVar 4) (fC (.int 69621))) (fVar 8)) (fC (.int 1))) fNil)) (fC (.int 2147483629))))
  (sDrop (fBm "list" appendD (fVar 3) (fCons (fOp modD (fApp intD (fCons (fOp fdivD (fVar 4) (fC (.int 5))) fNil)) (fC (.int 1000003))) fNil)))))))))))
  (sSeq (sDrop (fBm "list" reverseD (fVar 3) fNil))
  (sRet (fVar 3))))))
noncomputable def p_law_deck : DF := runF b_law_deck 9

/-- _law_take: its names deck many -/
noncomputable def b_law_take : FS :=
  (sSeq (sIf (fTest (fOp (cmpD eqB) (fApp lenD (fCons (fVar 0) fNil)) (fC (.int 0)))) (sRet (fC (.int 0))) sNx)
  (sRet (fOp modD (fApp intD (fCons (fBm "list" popD (fVar 0) fNil) fNil)) (fVar 1))))
noncomputable def p_law_take : DF := runF b_law_take 2

/-- _law_automaton: its names deck letters most size first last steps turn -/
noncomputable def b_law_automaton : FS :=
  (sSeq (sAsg (.nm 3) (fOp addD (fC (.int 1)) (fCall 2 p_law_take (fCons (fVar 0) (fCons (fVar 2) fNil)))))
  (sSeq (sAsg (.nm 4) (fUn ssI (fLc (fRng (fCons (fOp addD (fC (.int 1)) (fCall 2 p_law_take (fCons (fVar 0) (fCons (fC (.int 2)) fNil)))) fNil)) (.nm 7) fYes (fCall 2 p_law_take (fCons (fVar 0) (fCons (fVar 3) fNil))) [7])))
  (sSeq (sAsg (.nm 5) (fUn ssI (fLc (fRng (fCons (fCall 2 p_law_take (fCons (fVar 0) (fCons (fC (.int 3)) fNil))) fNil)) (.nm 7) fYes (fCall 2 p_law_take (fCons (fVar 0) (fCons (fVar 3) fNil))) [7])))
  (sSeq (sAsg (.nm 6) (fLst fNil))
  (sSeq (sFor (fRng (fCons (fCall 2 p_law_take (fCons (fVar 0) (fCons (fOp addD (fOp mulD (fC (.int 2)) (fVar 3)) (fC (.int 3))) fNil))) fNil)) (.nm 7) (sDrop (fBm "list" appendD (fVar 6) (fCons (fTup (fCons (fCall 2 p_law_take (fCons (fVar 0) (fCons (fVar 3) fNil))) (fCons (fOp ixD (fVar 1) (fCall 2 p_law_take (fCons (fVar 0) (fCons (fApp lenD (fCons (fVar 1) fNil)) fNil)))) (fCons (fCall 2 p_law_take (fCons (fVar 0) (fCons (fVar 3) fNil))) fNil)))) fNil))))
  (sRet (fTup (fCons (fVar 1) (fCons (fVar 3) (fCons (fVar 4) (fCons (fVar 5) (fCons (fVar 6) fNil))))))))))))
noncomputable def p_law_automaton : DF := runF b_law_automaton 8

/-- _law_made: its names parts letters size first last steps -/
noncomputable def b_law_made : FS :=
  (sSeq (sAsg (.tp [1, 2, 3, 4, 5]) (fVar 0))
  (sRet (fMake "Automaton" 6 p_init (fCons (fVar 1) (fCons (fVar 2) (fCons (fApp listD (fCons (fVar 3) fNil)) (fCons (fApp listD (fCons (fVar 4) fNil)) (fCons (fApp listD (fCons (fVar 5) fNil)) fNil))))))))
noncomputable def p_law_made : DF := runF b_law_made 6

/-- _law_shortest: its names parts pairs one known length after two apart start sign end begin other goal item -/
noncomputable def b_law_shortest : FS :=
  (sSeq (sAsg (.nm 1) (fLst fNil))
  (sSeq (sFor (fIt itL (fOp ixD (fVar 0) (fC (.int 2)))) (.nm 2) (sAsg (.nm 1) (fOp addD (fVar 1) (fLc (fIt itL (fOp ixD (fVar 0) (fC (.int 2)))) (.nm 6) fYes (fTup (fCons (fVar 2) (fCons (fVar 6) (fCons (fOp (cmpD neB) (fVar 2) (fVar 6)) fNil)))) [6]))))
  (sSeq (sAsg (.nm 3) (fApp listD (fCons (fVar 1) fNil)))
  (sSeq (sFor (fRng (fCons (fOp addD (fOp mulD (fOp mulD (fC (.int 2)) (fApp lenD (fCons (fOp ixD (fVar 0) (fC (.int 4))) fNil))) (fApp lenD (fCons (fOp ixD (fVar 0) (fC (.int 4))) fNil))) (fC (.int 40))) fNil)) (.nm 4) (sSeq (sFor (fIt itL (fVar 1)) (.tp [2, 6, 7]) (sIf (fAnd (fTru (fVar 7)) (fAnd (fTest (fOp (cmpD inB) (fVar 2) (fOp ixD (fVar 0) (fC (.int 3))))) (fTest (fOp (cmpD inB) (fVar 6) (fOp ixD (fVar 0) (fC (.int 3))))))) (sRet (fVar 4)) sNx))
  (sSeq (sAsg (.nm 5) (fLst fNil))
  (sSeq (sFor (fIt itL (fVar 1)) (.tp [2, 6, 7]) (sFor (fIt itL (fOp ixD (fVar 0) (fC (.int 4)))) (.tp [8, 9, 10]) (sFor (fIt itL (fOp ixD (fVar 0) (fC (.int 4)))) (.tp [11, 12, 13]) (sIf (fAnd (fTest (fOp (cmpD eqB) (fVar 8) (fVar 2))) (fAnd (fTest (fOp (cmpD eqB) (fVar 11) (fVar 6))) (fTest (fOp (cmpD eqB) (fVar 9) (fVar 12))))) (sSeq (sAsg (.nm 14) (fTup (fCons (fVar 10) (fCons (fVar 13) (fCons (fOrV (fVar 7) (fOp (cmpD neB) (fVar 10) (fVar 13))) fNil)))))
  (sIf (fTest (fOp (cmpD notInB) (fVar 14) (fVar 3))) (sSeq (sDrop (fBm "list" appendD (fVar 3) (fCons (fVar 14) fNil)))
  (sDrop (fBm "list" appendD (fVar 5) (fCons (fVar 14) fNil)))) sNx)) sNx))))
  (sSeq (sAsg (.nm 1) (fVar 5))
  (sIf (fTest (fOp (cmpD eqB) (fApp lenD (fCons (fVar 1) fNil)) (fC (.int 0)))) (sRet (fC .non)) sNx))))))
  (sRet (fC .non))))))
noncomputable def p_law_shortest : DF := runF b_law_shortest 15

/-- _law_is_run: its names parts word run at -/
noncomputable def b_law_is_run : FS :=
  (sSeq (sIf (fOr (fTest (fOp (cmpD neB) (fApp lenD (fCons (fVar 2) fNil)) (fOp addD (fApp lenD (fCons (fVar 1) fNil)) (fC (.int 1))))) (fOr (fTest (fOp (cmpD notInB) (fOp ixD (fVar 2) (fC (.int 0))) (fOp ixD (fVar 0) (fC (.int 2))))) (fTest (fOp (cmpD notInB) (fOp ixD (fVar 2) (fUn negD (fC (.int 1)))) (fOp ixD (fVar 0) (fC (.int 3))))))) (sRet (fC (.bl false))) sNx)
  (sSeq (sFor (fRng (fCons (fApp lenD (fCons (fVar 1) fNil)) fNil)) (.nm 3) (sIf (fTest (fOp (cmpD notInB) (fTup (fCons (fOp ixD (fVar 2) (fVar 3)) (fCons (fOp ixD (fVar 1) (fVar 3)) (fCons (fOp ixD (fVar 2) (fOp addD (fVar 3) (fC (.int 1)))) fNil)))) (fOp ixD (fVar 0) (fC (.int 4))))) (sRet (fC (.bl false))) sNx))
  (sRet (fC (.bl true)))))
noncomputable def p_law_is_run : DF := runF b_law_is_run 4

/-- _law_right: its names parts paper word one two -/
noncomputable def b_law_right : FS :=
  (sSeq (sAsg (.tp [2, 3, 4]) (fVar 1))
  (sRet (fAndV (fOp (cmpD ltB) (fVar 3) (fVar 4)) (fAndV (fCall 3 p_law_is_run (fCons (fVar 0) (fCons (fVar 2) (fCons (fVar 3) fNil)))) (fCall 3 p_law_is_run (fCons (fVar 0) (fCons (fVar 2) (fCons (fVar 4) fNil))))))))
noncomputable def p_law_right : DF := runF b_law_right 5

/-- law: its names script deck turn letters parts automaton due told word many at bent other less one two again -/
noncomputable def b_law : FS :=
  (sSeq (sAsg (.nm 1) (fCall 3 p_law_deck (fCons (fVar 0) (fCons (fC (.int 40)) (fCons (fC (.int 14)) fNil)))))
  (sSeq (sFor (fRng (fCons (fC (.int 3)) fNil)) (.nm 2) (sSeq (sAsg (.nm 3) (fOp ixD (fLst (fCons (fC (.str ("a" : Str))) (fCons (fC (.str ("ab" : Str))) (fCons (fC (.str ("ab" : Str))) fNil)))) (fCall 2 p_law_take (fCons (fVar 1) (fCons (fC (.int 3)) fNil)))))
  (sSeq (sAsg (.nm 4) (fCall 3 p_law_automaton (fCons (fVar 1) (fCons (fVar 3) (fCons (fC (.int 4)) fNil)))))
  (sSeq (sAsg (.nm 5) (fCall 1 p_law_made (fCons (fVar 4) fNil)))
  (sSeq (sAsg (.nm 6) (fCall 1 p_law_shortest (fCons (fVar 4) fNil)))
  (sSeq (sAsg (.nm 7) (fCall 1 p_ambiguity_paper (fCons (fVar 5) fNil)))
  (sSeq (sIf (fTest (fOp (cmpD neB) (fOp (cmpD isNB) (fVar 7) (fC .non)) (fOp (cmpD isNB) (fVar 6) (fC .non)))) (sRet (fC (.bl false))) sNx)
  (sSeq (sIf (fTest (fOp (cmpD notNB) (fVar 7) (fC .non))) (sSeq (sAsg (.tp [8, 14, 15]) (fVar 7))
  (sSeq (sIf (fOr (fTest (fOp (cmpD neB) (fApp lenD (fCons (fVar 8) fNil)) (fVar 6))) (fOr (fNot (fTru (fCall 2 p_law_right (fCons (fVar 4) (fCons (fVar 7) fNil))))) (fTest (fOp (cmpD notNB) (fCall 2 p_judge_ambiguity (fCons (fVar 5) (fCons (fVar 7) fNil))) (fC (.bl true)))))) (sRet (fC (.bl false))) sNx)
  (sSeq (sIf (fTest (fOp (cmpD ltB) (fApp lenD (fCons (fMeth "Automaton" "runs" 2 p_runs (fVar 5) (fCons (fVar 8) fNil)) fNil)) (fC (.int 2)))) (sRet (fC (.bl false))) sNx)
  (sSeq (sAsg (.nm 10) (fCall 2 p_law_take (fCons (fVar 1) (fCons (fApp lenD (fCons (fVar 14) fNil)) fNil))))
  (sSeq (sAsg (.nm 11) (fOp addD (fOp addD (fSl (fVar 14) foN (foS (fVar 10))) (fTup (fCons (fCall 2 p_law_take (fCons (fVar 1) (fCons (fOp ixD (fVar 4) (fC (.int 1))) fNil))) fNil))) (fSl (fVar 14) (foS (fOp addD (fVar 10) (fC (.int 1)))) foN)))
  (sSeq (sFor (fIt itL (fLst (fCons (fTup (fCons (fVar 8) (fCons (fVar 11) (fCons (fVar 15) fNil)))) (fCons (fTup (fCons (fVar 8) (fCons (fVar 15) (fCons (fVar 14) fNil)))) (fCons (fTup (fCons (fOp addD (fVar 8) (fOp ixD (fVar 3) (fC (.int 0)))) (fCons (fVar 14) (fCons (fVar 15) fNil)))) (fCons (fTup (fCons (fVar 8) (fCons (fVar 14) (fCons (fVar 14) fNil)))) fNil)))))) (.nm 12) (sIf (fTest (fOp (cmpD neB) (fCall 2 p_judge_ambiguity (fCons (fVar 5) (fCons (fVar 12) fNil))) (fCall 2 p_law_right (fCons (fVar 4) (fCons (fVar 12) fNil))))) (sRet (fC (.bl false))) sNx))
  (sSeq (sAsg (.nm 13) (fTup (fCons (fSl (fVar 8) (foS (fC (.int 1))) foN) (fCons (fSl (fVar 14) (foS (fC (.int 1))) foN) (fCons (fSl (fVar 15) (foS (fC (.int 1))) foN) fNil)))))
  (sIf (fAnd (fTest (fOp (cmpD gtB) (fApp lenD (fCons (fVar 8) fNil)) (fC (.int 0)))) (fTest (fOp (cmpD neB) (fCall 2 p_judge_ambiguity (fCons (fVar 5) (fCons (fVar 13) fNil))) (fCall 2 p_law_right (fCons (fVar 4) (fCons (fVar 13) fNil)))))) (sRet (fC (.bl false))) sNx)))))))) sNx)
  (sSeq (sIf (fTest (fOp (cmpD notNB) (fCall 1 p_ambiguity_paper (fCons (fCall 1 p_determinized (fCons (fVar 5) fNil)) fNil)) (fC .non))) (sRet (fC (.bl false))) sNx)
  (sSeq (sAsg (.nm 8) (fBm "str" joinD (fC (.str ("" : Str))) (fCons (fLc (fRng (fCons (fCall 2 p_law_take (fCons (fVar 1) (fCons (fC (.int 4)) fNil))) fNil)) (.nm 16) fYes (fOp ixD (fVar 3) (fCall 2 p_law_take (fCons (fVar 1) (fCons (fApp lenD (fCons (fVar 3) fNil)) fNil)))) [16]) fNil)))
  (sSeq (sAsg (.nm 9) (fApp lenD (fCons (fMeth "Automaton" "runs" 2 p_runs (fVar 5) (fCons (fVar 8) fNil)) fNil)))
  (sIf (fAnd (fTest (fOp (cmpD gtB) (fVar 9) (fC (.int 1)))) (fOr (fTest (fOp (cmpD isNB) (fVar 6) (fC .non))) (fTest (fOp (cmpD ltB) (fApp lenD (fCons (fVar 8) fNil)) (fVar 6))))) (sRet (fC (.bl false))) sNx))))))))))))
  (sRet (fC (.bl true)))))
noncomputable def p_law : DF := runF b_law 17

end Lw
end
section
set_option Elab.async false
set_option linter.all false
set_option autoImplicit false
/-! Pwp: reading a reading: what must hold of its answer, loops by what stays. -/
namespace Lw
open PySem
def ok {α : Type} (o : Option α) (Q : α → Prop) : Prop := ∃ a, o = some a ∧ Q a
@[simp] theorem ok_some {α : Type} (a : α) (Q : α → Prop) : ok (some a) Q = Q a := by simp [ok]
@[simp] theorem ok_none {α : Type} (Q : α → Prop) : ok (none : Option α) Q = False := by simp [ok]
@[simp] theorem ok_bind {α β : Type} (o : Option α) (f : α → Option β) (Q : β → Prop) : ok (o.bind f) Q = ok o fun a => ok (f a) Q := by
  cases o <;> simp
@[simp] theorem ok_map {α β : Type} (o : Option α) (f : α → β) (Q : β → Prop) : ok (o.map f) Q = ok o fun a => Q (f a) := by
  cases o <;> simp
theorem ok_mono {α : Type} {o : Option α} {P Q : α → Prop} (h : ok o P) (i : ∀ a, P a → Q a) : ok o Q := h.imp fun a ⟨e, p⟩ => ⟨e, i a p⟩
theorem ok_of {α : Type} {o : Option α} {Q : α → Prop} {a : α} (e : o = some a) (q : Q a) : ok o Q := ⟨a, e, q⟩
theorem ok_eq {α : Type} {o : Option α} {Q : α → Prop} {a : α} (e : o = some a) : ok o Q = Q a := by rw [e, ok_some]
/-- an answer of statements -/
def ou (N : Env' → Sto → Prop) (R : D → Sto → Prop) : Out → Prop
  | .nx ρ st => N ρ st
  | .rt d st => R d st
  | _ => False
@[simp] theorem ou_nx {N : Env' → Sto → Prop} {R : D → Sto → Prop} {ρ : Env'} {st : Sto} : ou N R (.nx ρ st) = N ρ st := rfl
@[simp] theorem ou_rt {N : Env' → Sto → Prop} {R : D → Sto → Prop} {d : D} {st : Sto} : ou N R (.rt d st) = R d st := rfl
theorem ou_mono {N N' : Env' → Sto → Prop} {R R' : D → Sto → Prop} (hn : ∀ ρ st, N ρ st → N' ρ st) (hr : ∀ d st, R d st → R' d st) : ∀ o, ou N R o → ou N' R' o
  | .nx _ _, h => hn _ _ h
  | .rt _ _, h => hr _ _ h
/-- statements: then / back -/
def S (f : FS) (ρ : Env') (st : Sto) (N : Env' → Sto → Prop) (R : D → Sto → Prop) : Prop := ok (f ρ st) (ou N R)
theorem S.mono {f : FS} {ρ : Env'} {st : Sto} {N N' : Env' → Sto → Prop} {R R' : D → Sto → Prop} (h : S f ρ st N R) (hn : ∀ ρ st, N ρ st → N' ρ st) (hr : ∀ d st, R d st → R' d st) : S f ρ st N' R' := ok_mono h (ou_mono hn hr)
theorem S_seq {f g : FS} {ρ : Env'} {st : Sto} {N : Env' → Sto → Prop} {R : D → Sto → Prop} : S (sSeq f g) ρ st N R = S f ρ st (fun ρ' st' => S g ρ' st' N R) R := by
  unfold S sSeq
  rw [ok_bind]
  congr 1
  funext o
  cases o <;> simp [ou]
theorem S_nx {ρ : Env'} {st : Sto} {N : Env' → Sto → Prop} {R : D → Sto → Prop} : S sNx ρ st N R = N ρ st := by simp [S, sNx]
theorem S_ret {f : FE} {ρ : Env'} {st : Sto} {N : Env' → Sto → Prop} {R : D → Sto → Prop} : S (sRet f) ρ st N R = ok (f ρ st) fun p => R p.1 p.2 := by simp [S, sRet]
theorem S_drop {f : FE} {ρ : Env'} {st : Sto} {N : Env' → Sto → Prop} {R : D → Sto → Prop} : S (sDrop f) ρ st N R = ok (f ρ st) fun p => N ρ p.2 := by simp [S, sDrop]
theorem S_if {t : FT} {f g : FS} {ρ : Env'} {st : Sto} {N : Env' → Sto → Prop} {R : D → Sto → Prop} : S (sIf t f g) ρ st N R = ok (t ρ st) fun p => if p.1 = true then S f ρ p.2 N R else S g ρ p.2 N R := by
  unfold S sIf
  rw [ok_bind]
  congr 1
  funext p
  split <;> rfl
theorem S_asg {t : Tgt} {f : FE} {ρ : Env'} {st : Sto} {N : Env' → Sto → Prop} {R : D → Sto → Prop} : S (sAsg t f) ρ st N R = ok (f ρ st) fun p => ok (asg t p.1 ρ) fun ρ' => N ρ' p.2 := by
  simp [S, sAsg]
theorem S_put {fo fi fv : FE} {ρ : Env'} {st : Sto} {N : Env' → Sto → Prop} {R : D → Sto → Prop} : S (sPut fo fi fv) ρ st N R = ok (fv ρ st) fun v => ok (fo ρ v.2) fun o => ok (fi ρ o.2) fun i => ok (putD o.1 i.1 v.1 i.2) fun st' => N ρ st' := by
  simp [S, sPut]
theorem S_fld {cn f : Str} {fo fv : FE} {ρ : Env'} {st : Sto} {N : Env' → Sto → Prop} {R : D → Sto → Prop} : S (sFldD cn f fo fv) ρ st N R = ok (fv ρ st) fun v => ok (fo ρ v.2) fun o => ok (setFld cn f o.1 v.1 o.2) fun st' => N ρ st' := by
  simp [S, sFldD]
theorem S_aug {i : Nat} {f : FE} {ρ : Env'} {st : Sto} {N : Env' → Sto → Prop} {R : D → Sto → Prop} : S (sAug i f) ρ st N R = ok (fVar i ρ st) fun p => ok (f ρ p.2) fun q => ok (addI p.1 q.1) fun z => N (ρ.set i (some z)) q.2 := by
  simp [S, sAug]
theorem S_for {fi : FI} {g : Tgt} {b : FS} {ρ : Env'} {st : Sto} {N : Env' → Sto → Prop} {R : D → Sto → Prop} : S (sFor fi g b) ρ st N R = ok (fi ρ st) fun p => S (loopF p.1 g b p.1.items) ρ p.2 N R := by
  simp [S, sFor]
/-- a def by its block -/
theorem ok_run {b : FS} {n : Nat} {ds : List D} {st : Sto} {Q : D × Sto → Prop} (h : S b (ds.map some ++ List.replicate (n - ds.length) none) st (fun _ st' => Q (.non, st')) (fun d st' => Q (d, st'))) : ok (runF b n ds st) Q := by
  obtain ⟨o, e, h⟩ := h
  unfold runF
  rw [e]
  cases o <;> simp [ou] at h <;> simp [endO] <;> exact h
theorem ok_run' {b : FS} {n : Nat} {ds : List D} {st : Sto} {Q : D × Sto → Prop} (h : ∀ (N : Env' → Sto → Prop) (R : D → Sto → Prop), (∀ ρ st', Q (.non, st') → N ρ st') → (∀ d st', Q (d, st') → R d st') → S b (ds.map some ++ List.replicate (n - ds.length) none) st N R) : ok (runF b n ds st) Q :=
  ok_run (h _ _ (fun _ _ q => q) fun _ _ q => q)
/-- what stays, kept shut -/
theorem shut {α β γ : Type} (I : α → β → γ → Prop) : ∃ J : α → β → γ → Prop, ∀ i ρ s, J i ρ s ↔ I i ρ s := ⟨I, fun _ _ _ => Iff.rfl⟩
theorem shut2 {β γ : Type} (I : β → γ → Prop) : ∃ J : β → γ → Prop, ∀ ρ s, J ρ s ↔ I ρ s := ⟨I, fun _ _ => Iff.rfl⟩
/-- a loop over items: what holds before each -/
theorem loop_ok {it : ItD} {g : Tgt} {b : FS} {R : D → Sto → Prop} (I : Nat → Env' → Sto → Prop) (xs : List D)
    (hg : ∀ i ρ st, I i ρ st → gd it st)
    (step : ∀ i d ρ st, xs[i]? = some d → I i ρ st → ok (asg g d ρ) fun ρ1 => S b ρ1 st (I (i + 1)) R) :
    ∀ (ys : List D) (i : Nat) (ρ : Env') (st : Sto), xs.drop i = ys → i ≤ xs.length → I i ρ st → S (loopF it g b ys) ρ st (I xs.length) R
  | [], i, ρ, st, e, hi, h => by
    have : xs.length ≤ i := by
      have := congrArg List.length e; simp at this; omega
    have : i = xs.length := by omega
    subst this
    unfold S loopF
    rw [if_pos (hg _ _ _ h)]; simpa using h
  | d :: ys, i, ρ, st, e, hi, h => by
    have hx : xs[i]? = some d := by
      have := congrArg List.head? e
      simpa [List.head?_drop] using this
    have hlt : i < xs.length := (List.getElem?_eq_some_iff.mp hx).1
    have hd : xs.drop (i + 1) = ys := by
      have := congrArg List.tail e
      simpa [List.tail_drop] using this
    have := step i d ρ st hx h
    unfold S loopF
    rw [if_pos (hg _ _ _ h), ok_bind]
    refine ok_mono this fun ρ1 s => ?_
    rw [ok_bind]
    refine ok_mono s fun o q => ?_
    cases o with
    | nx ρ2 st2 => exact loop_ok I xs hg step ys (i + 1) ρ2 st2 hd hlt q
    | rt d st2 => simpa using q
    | bk _ _ => exact q.elim
    | ct _ _ => exact q.elim
theorem for_ok {it : ItD} {g : Tgt} {b : FS} {N : Env' → Sto → Prop} {R : D → Sto → Prop} {ρ : Env'} {st : Sto} (I : Nat → Env' → Sto → Prop) 
    (h0 : I 0 ρ st)
    (hg : ∀ i ρ st, I i ρ st → gd it st)
    (step : ∀ i d ρ st, it.items[i]? = some d → I i ρ st → ok (asg g d ρ) fun ρ1 => S b ρ1 st (I (i + 1)) R)
    (fin : ∀ ρ st, I it.items.length ρ st → N ρ st) : S (loopF it g b it.items) ρ st N R :=
  (loop_ok I it.items hg step it.items 0 ρ st (by simp) (Nat.zero_le _) h0).mono fin fun _ _ h => h
/-- while: a number that falls -/
theorem iter_ok {fc : FT} {b : FS} {N : Env' → Sto → Prop} {R : D → Sto → Prop} (I : Nat → Env' → Sto → Prop)
    (step : ∀ n ρ st, I n ρ st → ok (fc ρ st) fun p => if p.1 = true then S b ρ p.2 (fun ρ' st' => ∃ m, m < n ∧ I m ρ' st') R else N ρ p.2) :
    ∀ n ρ st, I n ρ st → ∃ k, ok (iterW fc b k ρ st) (ou N R) := by
  intro n
  induction n using Nat.strongRecOn with
  | _ n ih =>
    intro ρ st h
    obtain ⟨p, e, h1⟩ := step n ρ st h
    by_cases c : p.1 = true
    · rw [if_pos c] at h1
      obtain ⟨o, e2, h2⟩ := h1
      cases o with
      | nx ρ2 st2 =>
        obtain ⟨m, hm, h3⟩ := h2
        obtain ⟨k, hk⟩ := ih m hm ρ2 st2 h3
        refine ⟨k + 1, ?_⟩
        unfold iterW
        rw [e]; simp only [Option.bind_some]; rw [if_pos c, e2]
        exact hk
      | rt d st2 =>
        refine ⟨1, ?_⟩
        unfold iterW
        rw [e]; simp only [Option.bind_some]; rw [if_pos c, e2]
        simpa using h2
      | bk _ _ => exact h2.elim
      | ct _ _ => exact h2.elim
    · rw [if_neg c] at h1
      refine ⟨1, ?_⟩
      unfold iterW
      rw [e]; simp only [Option.bind_some]; rw [if_neg c]
      simpa using h1
theorem while_ok {fc : FT} {b : FS} {N : Env' → Sto → Prop} {R : D → Sto → Prop} {ρ : Env'} {st : Sto} (I : Nat → Env' → Sto → Prop) (n : Nat) (h0 : I n ρ st)
    (step : ∀ n ρ st, I n ρ st → ok (fc ρ st) fun p => if p.1 = true then S b ρ p.2 (fun ρ' st' => ∃ m, m < n ∧ I m ρ' st') R else N ρ p.2) : S (sWhile fc b) ρ st N R := by
  obtain ⟨k, o, e, h⟩ := iter_ok I step n ρ st h0
  exact ⟨o, sWhile_of e, h⟩
/-- a comprehension -/
theorem lcg_ok {it : ItD} {g : Tgt} {ft : FT} {fe : FE} {n : Nat} {ρ : Env'} (I : Nat → Sto → Prop) (xs : List D) {Q : Sto → Prop}
    (hg : ∀ i st, I i st → gd it st)
    (step : ∀ i d st, xs[i]? = some d → I i st → ok (asg g d ρ) fun ρ1 => ok (ft ρ1 st) fun b => if b.1 = true then ok (fe ρ1 b.2) fun y => ok (appendD (.loc n) [y.1] y.2) fun w => I (i + 1) w.2 else I (i + 1) b.2)
    (fin : ∀ st, I xs.length st → Q st) :
    ∀ (ys : List D) (i : Nat) (st : Sto), xs.drop i = ys → i ≤ xs.length → I i st → ok (lcGo it g ft fe n ρ ys st) Q
  | [], i, st, e, hi, h => by
    have : xs.length ≤ i := by
      have := congrArg List.length e; simp at this; omega
    have : i = xs.length := by omega
    subst this
    unfold lcGo
    rw [if_pos (hg _ _ h)]; simpa using fin _ h
  | d :: ys, i, st, e, hi, h => by
    have hx : xs[i]? = some d := by
      have := congrArg List.head? e
      simpa [List.head?_drop] using this
    have hlt : i < xs.length := (List.getElem?_eq_some_iff.mp hx).1
    have hd : xs.drop (i + 1) = ys := by
      have := congrArg List.tail e
      simpa [List.tail_drop] using this
    unfold lcGo
    rw [if_pos (hg _ _ h), ok_bind]
    refine ok_mono (step i d st hx h) fun ρ1 s => ?_
    rw [ok_bind]
    refine ok_mono s fun b q => ?_
    split at q
    · rename_i c
      rw [if_pos c, ok_bind]
      refine ok_mono q fun y q => ?_
      rw [ok_bind]
      exact ok_mono q fun w q => lcg_ok I xs hg step fin ys (i + 1) w.2 hd hlt q
    · rename_i c
      rw [if_neg c]
      exact lcg_ok I xs hg step fin ys (i + 1) b.2 hd hlt q
theorem lc_ok {it : ItD} {g : Tgt} {ft : FT} {fe : FE} {n : Nat} {ρ : Env'} {st : Sto} (I : Nat → Sto → Prop) {Q : Sto → Prop} (h0 : I 0 st)
    (hg : ∀ i st, I i st → gd it st)
    (step : ∀ i d st, it.items[i]? = some d → I i st → ok (asg g d ρ) fun ρ1 => ok (ft ρ1 st) fun b => if b.1 = true then ok (fe ρ1 b.2) fun y => ok (appendD (.loc n) [y.1] y.2) fun w => I (i + 1) w.2 else I (i + 1) b.2)
    (fin : ∀ st, I it.items.length st → Q st) : ok (lcGo it g ft fe n ρ it.items st) Q :=
  lcg_ok I it.items hg step fin it.items 0 st rfl (Nat.zero_le _) h0
theorem fLc_ok {fi : FI} {g : Tgt} {ft : FT} {fe : FE} {vs : List Nat} {ρ : Env'} {st : Sto} {Q : D × Sto → Prop}
    (h : ok (fi ρ st) fun i => ok (lcGo i.1 g ft fe i.2.length (wipeD ρ vs) i.1.items (i.2 ++ [.lst []])) fun st' => Q (.loc i.2.length, st')) : ok (fLc fi g ft fe vs ρ st) Q := by
  unfold fLc
  rw [ok_bind]
  refine ok_mono h fun i q => ?_
  rw [ok_map]
  exact q
/-- a comprehension that only reads -/
theorem lc_pure {it : ItD} {g : Tgt} {ft : FT} {fe : FE} {ρ : Env'} {st : Sto} (c : D → Bool) (f : D → D) (ys : List D) (acc : List D)
    (hg : ∀ s, gd it (st ++ [s]))
    (hs : acc.length + ys.length ≤ 100000)
    (h : ∀ d ∈ ys, ∃ ρ1, asg g d ρ = some ρ1 ∧ ∀ acc, ft ρ1 (st ++ [.lst acc]) = some (c d, st ++ [.lst acc]) ∧ (c d = true → fe ρ1 (st ++ [.lst acc]) = some (f d, st ++ [.lst acc]))) :
    lcGo it g ft fe st.length ρ ys (st ++ [.lst acc]) = some (st ++ [.lst (acc ++ (ys.filter c).map f)]) := by
  induction ys generalizing acc with
  | nil => unfold lcGo; rw [if_pos (hg _)]; simp
  | cons d ys ih =>
    obtain ⟨ρ1, e, h1⟩ := h d (.head _)
    obtain ⟨e2, e3⟩ := h1 acc
    unfold lcGo
    simp only [List.length_cons] at hs
    rw [if_pos (hg _), e, Option.bind_some, e2, Option.bind_some]
    by_cases hc : c d = true
    · rw [if_pos hc, e3 hc, Option.bind_some]
      have ha : appendD (.loc st.length) [f d] (st ++ [.lst acc]) = some (.non, st ++ [.lst (acc ++ [f d])]) := by
        simp [appendD, show acc.length < 100000 by omega]
      rw [ha, Option.bind_some, ih (acc ++ [f d]) (by simp; omega) fun d hd => h d (.tail _ hd)]
      simp [hc]
    · rw [if_neg hc, ih acc (by omega) fun d hd => h d (.tail _ hd)]
      simp [hc]
end Lw
end
section
set_option Elab.async false
set_option linter.all false
set_option autoImplicit false
/-! Pm1: ways in a graph, shortest ones; automata as plain data; pairs of states. -/
namespace Lw
theorem nodup_len {α : Type} [DecidableEq α] : ∀ {l m : List α}, l.Nodup → (∀ x ∈ l, x ∈ m) → l.length ≤ m.length
  | [], _, _, _ => Nat.zero_le _
  | x :: l, m, h, s => by
    have hx := s x (.head _)
    have h2 := List.nodup_cons.mp h
    have := nodup_len (l := l) (m := m.erase x) h2.2 fun y hy => by
      have hne : y ≠ x := fun e => h2.1 (e ▸ hy)
      exact (List.mem_erase_of_ne hne).mpr (s y (.tail _ hy))
    rw [List.length_erase_of_mem hx] at this
    have := List.length_pos_of_mem hx
    simp; omega
section
variable {α : Type} (P : α → Prop) (E : α → α → Prop) (T : α → Prop)
/-- at the end of a way of this many steps -/
inductive Rch : Nat → α → Prop
  | zero {x : α} : P x → Rch 0 x
  | succ {i : Nat} {x y : α} : Rch i x → E x y → Rch (i + 1) y
/-- so many steps from the aim -/
inductive Bck : Nat → α → Prop
  | zero {x : α} : T x → Bck 0 x
  | succ {i : Nat} {x y : α} : E x y → Bck i y → Bck (i + 1) x
def Hits (L : Nat) : Prop := ∃ y, Rch P E L y ∧ T y
variable {P E T}
theorem rch_bck {i e : Nat} {x : α} (r : Rch P E i x) (b : Bck E T e x) : Hits P E T (i + e) := by
  induction b generalizing i with
  | zero t => exact ⟨_, r, t⟩
  | @succ e x y s b ih => 
    have := ih (r.succ s)
    rwa [show i + (e + 1) = i + 1 + e by omega]
theorem rch_mid {i e : Nat} {y : α} (r : Rch P E i y) (b : Bck E T e y) : ∀ j, j ≤ i → ∃ x, Rch P E j x ∧ Bck E T (i + e - j) x := by
  induction r generalizing e with
  | zero p => intro j h; obtain rfl : j = 0 := by omega
              exact ⟨_, .zero p, by simpa using b⟩
  | @succ i x y r s ih =>
    intro j h
    by_cases c : j = i + 1
    · subst c; exact ⟨y, r.succ s, by rw [show i + 1 + e - (i + 1) = e by omega]; exact b⟩
    · have := ih (.succ s b) j (by omega)
      rwa [show i + (e + 1) - j = i + 1 + e - j by omega] at this
/-- a shortest way meets no place twice -/
theorem hits_len [DecidableEq α] {L : Nat} (h : Hits P E T L) (mn : ∀ l, l < L → ¬ Hits P E T l) (S : List α) (hS : ∀ i e x, Rch P E i x → Bck E T e x → x ∈ S) : L + 1 ≤ S.length := by
  obtain ⟨y, r, t⟩ := h
  have key : ∀ j, ∃ x, j ≤ L → Rch P E j x ∧ Bck E T (L - j) x := fun j => by
    by_cases c : j ≤ L
    · obtain ⟨x, h⟩ := rch_mid r (.zero t) j c
      exact ⟨x, fun _ => h⟩
    · exact ⟨y, fun h => absurd h c⟩
  obtain ⟨f, hf⟩ := Classical.axiomOfChoice key
  have inj : ∀ i j, i < j → j ≤ L → f i ≠ f j := fun i j hij hj e => by
    have h1 := (hf i (by omega)).1
    have h2 := (hf j hj).2
    rw [e] at h1
    exact mn _ (by omega) (rch_bck h1 h2)
  have nd : ((List.range (L + 1)).map f).Nodup := by
    rw [List.nodup_iff_pairwise_ne, List.pairwise_map]
    refine List.Pairwise.imp_of_mem ?_ List.pairwise_lt_range
    intro i j hi hj hlt
    exact inj i j hlt (by have := List.mem_range.mp hj; omega)
  have := nodup_len (m := S) nd fun x hx => by
    obtain ⟨j, hj, rfl⟩ := List.mem_map.mp hx
    have h := hf j (by have := List.mem_range.mp hj; omega)
    exact hS _ _ _ h.1 h.2
  simpa using this
theorem bck_hits {e : Nat} {x : α} (b : Bck E T e x) : Hits (· = x) E T e := by
  have := rch_bck (P := (· = x)) (.zero rfl) b
  simpa using this
theorem hits_bck {e : Nat} {x : α} (h : Hits (· = x) E T e) : Bck E T e x := by
  obtain ⟨y, r, t⟩ := h
  obtain ⟨z, hz, b⟩ := rch_mid r (.zero t) 0 (Nat.zero_le _)
  cases hz with | zero p => subst p; simpa using b
/-- one of least length -/
theorem hits_least (h : ∃ l, Hits P E T l) : ∃ l, Hits P E T l ∧ ∀ k, k < l → ¬ Hits P E T k := by
  classical
  obtain ⟨l, hl⟩ := h
  induction l using Nat.strongRecOn with
  | _ l ih =>
    by_cases c : ∃ k, k < l ∧ Hits P E T k
    · obtain ⟨k, h1, h2⟩ := c
      exact ih k h1 h2
    · exact ⟨l, hl, fun k h1 h2 => c ⟨k, h1, h2⟩⟩
end
/-- an automaton as plain data -/
structure Aut where
  al : List Nat
  n : Nat
  bg : List Int
  en : List Int
  rw : List (Int × Nat × Int)
structure Aut.Ok (A : Aut) : Prop where
  bg_nd : A.bg.Nodup
  rw_nd : A.rw.Nodup
  bg_lt : ∀ s ∈ A.bg, 0 ≤ s ∧ s < A.n
  en_lt : ∀ s ∈ A.en, 0 ≤ s ∧ s < A.n
  rw_lt : ∀ t ∈ A.rw, 0 ≤ t.1 ∧ t.1 < A.n ∧ 0 ≤ t.2.2 ∧ t.2.2 < A.n ∧ t.2.1 ∈ A.al
abbrev Nd := Int × Int × Bool
def nx (A : Aut) (s : Int) (k : Nat) : List Int := (A.rw.filter fun t => decide (t.1 = s) && decide (t.2.1 = k)).map (·.2.2)
theorem mem_nx {A : Aut} {s t : Int} {k : Nat} : t ∈ nx A s k ↔ (s, k, t) ∈ A.rw := by
  simp only [nx, List.mem_map, List.mem_filter, Bool.and_eq_true, decide_eq_true_eq]
  constructor
  · rintro ⟨⟨a, b, c⟩, ⟨h, h1, h2⟩, h3⟩
    simp only at h1 h2 h3; subst h1 h2 h3; exact h
  · intro h; exact ⟨(s, k, t), ⟨h, rfl, rfl⟩, rfl⟩
theorem nx_nd {A : Aut} (o : A.Ok) (s : Int) (k : Nat) : (nx A s k).Nodup := by
  unfold nx
  rw [List.nodup_iff_pairwise_ne, List.pairwise_map]
  have h := (List.nodup_iff_pairwise_ne.mp o.rw_nd).filter fun t => decide (t.1 = s) && decide (t.2.1 = k)
  refine List.Pairwise.imp_of_mem ?_ h
  intro a b ha hb hne e
  have ha := (List.mem_filter.mp ha).2
  have hb := (List.mem_filter.mp hb).2
  simp only [Bool.and_eq_true, decide_eq_true_eq] at ha hb
  exact hne (Prod.ext (by rw [ha.1, hb.1]) (Prod.ext (by rw [ha.2, hb.2]) e))
def stN (A : Aut) (x : Nd) : Prop := x.1 ∈ A.bg ∧ x.2.1 ∈ A.bg ∧ x.2.2 = !decide (x.1 = x.2.1)
def stN' (A : Aut) (x : Nd) : Prop := stN A x ∧ x.1 ≤ x.2.1
def go1 (A : Aut) (k : Nat) (x y : Nd) : Prop := (x.1, k, y.1) ∈ A.rw ∧ (x.2.1, k, y.2.1) ∈ A.rw ∧ y.2.2 = (x.2.2 || !decide (y.1 = y.2.1))
def goN (A : Aut) (x y : Nd) : Prop := ∃ k, go1 A k x y
def enN (A : Aut) (x : Nd) : Prop := x.2.2 = true ∧ x.1 ∈ A.en ∧ x.2.1 ∈ A.en
abbrev Amb (A : Aut) : Nat → Prop := Hits (stN A) (goN A) (enN A)
abbrev Amb' (A : Aut) : Nat → Prop := Hits (stN' A) (goN A) (enN A)
theorem deq_comm (a b : Int) : decide (a = b) = decide (b = a) := decide_eq_decide.mpr ⟨Eq.symm, Eq.symm⟩
def swN (x : Nd) : Nd := (x.2.1, x.1, x.2.2)
theorem go1_sw {A : Aut} {k : Nat} {x y : Nd} (h : go1 A k x y) : go1 A k (swN x) (swN y) := by
  obtain ⟨h1, h2, h3⟩ := h
  exact ⟨h2, h1, by show y.2.2 = (x.2.2 || !decide (y.2.1 = y.1)); rw [h3, deq_comm]⟩
theorem rch_sw {A : Aut} {i : Nat} {x : Nd} (h : Rch (stN A) (goN A) i x) : Rch (stN' A) (goN A) i x ∨ Rch (stN' A) (goN A) i (swN x) := by
  induction h with
  | @zero x p =>
    by_cases c : x.1 ≤ x.2.1
    · exact .inl (.zero ⟨p, c⟩)
    · refine .inr (.zero ⟨⟨p.2.1, p.1, ?_⟩, ?_⟩)
      · show x.2.2 = !decide (x.2.1 = x.1)
        rw [p.2.2, deq_comm]
      · show x.2.1 ≤ x.1
        omega
  | @succ i x y r s ih =>
    obtain ⟨k, s⟩ := s
    rcases ih with ih | ih
    · exact .inl (ih.succ ⟨k, s⟩)
    · exact .inr (ih.succ ⟨k, go1_sw s⟩)
theorem rch_un {A : Aut} {i : Nat} {x : Nd} (h : Rch (stN' A) (goN A) i x) : Rch (stN A) (goN A) i x := by
  induction h with
  | zero p => exact .zero p.1
  | succ r s ih => exact ih.succ s
theorem amb_iff {A : Aut} {L : Nat} : Amb' A L ↔ Amb A L := by
  constructor
  · rintro ⟨y, r, t⟩; exact ⟨y, rch_un r, t⟩
  · rintro ⟨y, r, t⟩
    rcases rch_sw r with r | r
    · exact ⟨y, r, t⟩
    · exact ⟨swN y, r, t.1, t.2.2, t.2.1⟩
/-- the states at the ends of the runs of a word -/
def fol (A : Aut) : List Nat → List Int
  | w => w.foldl (fun M k => M.flatMap fun s => nx A s k) A.bg
theorem rch_diag {A : Aut} {i : Nat} {s t : Int} {b : Bool} (h : Rch (stN A) (goN A) i (s, t, b)) (hb : b = false) : s = t := by
  subst hb
  cases h with
  | zero p => have := p.2.2; simp at this; exact this
  | succ r s => obtain ⟨k, s⟩ := s; have := s.2.2; simp at this; exact this.2
theorem fol_self {A : Aut} (w : List Nat) : ∀ (M : List Int) (i : Nat), (∀ s ∈ M, ∃ b, Rch (stN A) (goN A) i (s, s, b)) → ∀ s ∈ w.foldl (fun M k => M.flatMap fun s => nx A s k) M, ∃ b, Rch (stN A) (goN A) (i + w.length) (s, s, b) := by
  induction w with
  | nil => intro M i h; simpa using h
  | cons k w ih =>
    intro M i h
    have := ih (M.flatMap fun s => nx A s k) (i + 1) fun t ht => by
      obtain ⟨s, hs, ht⟩ := List.mem_flatMap.mp ht
      obtain ⟨b, hb⟩ := h s hs
      exact ⟨b || !decide (t = t), hb.succ ⟨k, mem_nx.mp ht, mem_nx.mp ht, rfl⟩⟩
    simpa [show i + 1 + w.length = i + (w.length + 1) by omega] using this
/-- two different runs: their ends are apart -/
theorem fol_pair {A : Aut} (o : A.Ok) (w : List Nat) : ∀ (M : List Int) (i : Nat), (∀ s ∈ M, ∃ b, Rch (stN A) (goN A) i (s, s, b)) → M.Pairwise (fun s t => Rch (stN A) (goN A) i (s, t, true)) →
    (w.foldl (fun M k => M.flatMap fun s => nx A s k) M).Pairwise (fun s t => Rch (stN A) (goN A) (i + w.length) (s, t, true)) := by
  induction w with
  | nil => intro M i _ h; simpa using h
  | cons k w ih =>
    intro M i h h2
    have := ih (M.flatMap fun s => nx A s k) (i + 1) (fun t ht => by
      obtain ⟨s, hs, ht⟩ := List.mem_flatMap.mp ht
      obtain ⟨b, hb⟩ := h s hs
      exact ⟨b || !decide (t = t), hb.succ ⟨k, mem_nx.mp ht, mem_nx.mp ht, rfl⟩⟩) (by
      rw [List.pairwise_flatMap]
      refine ⟨fun s hs => ?_, h2.imp fun {a b} r x hx y hy => Rch.succ (y := (x, y, true)) r ⟨k, mem_nx.mp hx, mem_nx.mp hy, rfl⟩⟩
      obtain ⟨b, hb⟩ := h s hs
      refine List.Pairwise.imp_of_mem ?_ (List.nodup_iff_pairwise_ne.mp (nx_nd o s k))
      intro x y hx hy hne
      exact Rch.succ (y := (x, y, true)) hb ⟨k, mem_nx.mp hx, mem_nx.mp hy, by simp [hne]⟩)
    simpa [show i + 1 + w.length = i + (w.length + 1) by omega] using this
theorem fol_apart {A : Aut} (o : A.Ok) (w : List Nat) : (fol A w).Pairwise fun s t => Rch (stN A) (goN A) w.length (s, t, true) := by
  have := fol_pair o w A.bg 0 (fun s hs => ⟨!decide (s = s), .zero ⟨hs, hs, rfl⟩⟩) (by
    refine List.Pairwise.imp_of_mem ?_ (List.nodup_iff_pairwise_ne.mp o.bg_nd)
    intro x y hx hy hne
    exact Rch.zero (x := (x, y, true)) ⟨hx, hy, by simp [hne]⟩)
  simpa [fol] using this
theorem fol_two {A : Aut} (o : A.Ok) (w : List Nat) (h : 2 ≤ ((fol A w).filter fun s => decide (s ∈ A.en)).length) : Amb A w.length := by
  have p := (fol_apart o w).filter fun s => decide (s ∈ A.en)
  generalize e : (fol A w).filter (fun s => decide (s ∈ A.en)) = l at p h
  match l, p, h, e with
  | s :: t :: r, p, _, e =>
    have hs : s ∈ (fol A w).filter (fun s => decide (s ∈ A.en)) := by rw [e]; exact .head _
    have ht : t ∈ (fol A w).filter (fun s => decide (s ∈ A.en)) := by rw [e]; exact .tail _ (.head _)
    have hs := (List.mem_filter.mp hs).2
    have ht := (List.mem_filter.mp ht).2
    exact ⟨(s, t, true), (List.pairwise_cons.mp p).1 t (.head _), rfl, by simpa using hs, by simpa using ht⟩
end Lw
end
section
set_option Elab.async false
set_option linter.all false
set_option autoImplicit false
/-! Pm2: a shortest word with two runs has few parts of runs. -/
namespace Lw
def go2 (A : Aut) (s t : Int) : Prop := ∃ k, (s, k, t) ∈ A.rw
def Live (A : Aut) (s : Int) : Prop := ∃ e, Bck (go2 A) (· ∈ A.en) e s
noncomputable instance (A : Aut) (s : Int) : Decidable (Live A s) := Classical.propDecidable _
def sts (A : Aut) : List Int := (List.range A.n).map fun i : Nat => (i : Int)
noncomputable def lv (A : Aut) : List Int := (sts A).filter fun s => decide (Live A s)
noncomputable def dv (A : Aut) : List Int := (sts A).filter fun s => !decide (Live A s)
theorem mem_sts {A : Aut} {s : Int} (h : 0 ≤ s ∧ s < A.n) : s ∈ sts A := by
  refine List.mem_map.mpr ⟨s.toNat, List.mem_range.mpr (by omega), by omega⟩
theorem lv_dv (A : Aut) : (lv A).length + (dv A).length = A.n := by
  have h : ∀ (p : Int → Bool) (l : List Int), (l.filter p).length + (l.filter fun s => !p s).length = l.length := fun p l => by
    induction l with
    | nil => rfl
    | cons a l ih => by_cases c : p a = true <;> simp [c] <;> omega
  have := h (fun s => decide (Live A s)) (sts A)
  simpa [lv, dv, sts] using this
theorem live_st {A : Aut} (o : A.Ok) {s : Int} (h : Live A s) : s ∈ lv A := by
  have hs : s ∈ sts A := by
    obtain ⟨e, b⟩ := h
    cases b with
    | zero t => exact mem_sts (o.en_lt _ t)
    | succ g _ => obtain ⟨k, g⟩ := g; have := o.rw_lt _ g; exact mem_sts ⟨this.1, this.2.1⟩
  exact List.mem_filter.mpr ⟨hs, by simpa using h⟩
theorem live_near {A : Aut} (o : A.Ok) {s : Int} (h : Live A s) : ∃ e, e + 1 ≤ (lv A).length ∧ Bck (go2 A) (· ∈ A.en) e s := by
  obtain ⟨e, b⟩ := h
  obtain ⟨e', h1, h2⟩ := hits_least ⟨e, bck_hits b⟩
  exact ⟨e', hits_len h1 h2 (lv A) fun i e x _ b => live_st o ⟨e, b⟩, hits_bck h1⟩
theorem bck_pair {A : Aut} {e : Nat} {s : Int} (b : Bck (go2 A) (· ∈ A.en) e s) : Bck (goN A) (enN A) e (s, s, true) := by
  induction b with
  | zero t => exact .zero ⟨rfl, t, t⟩
  | succ g _ ih => obtain ⟨k, g⟩ := g; exact .succ ⟨k, g, g, by simp⟩ ih
theorem bck_fst {A : Aut} {e : Nat} {x : Nd} (b : Bck (goN A) (enN A) e x) : Bck (go2 A) (· ∈ A.en) e x.1 ∧ Bck (go2 A) (· ∈ A.en) e x.2.1 := by
  induction b with
  | zero t => exact ⟨.zero t.2.1, .zero t.2.2⟩
  | succ g _ ih => obtain ⟨k, g⟩ := g; exact ⟨.succ ⟨k, g.1⟩ ih.1, .succ ⟨k, g.2.1⟩ ih.2⟩
theorem amb_len {A : Aut} (o : A.Ok) {L : Nat} (h : Amb A L) (mn : ∀ l, l < L → ¬ Amb A l) : L + 1 ≤ (lv A).length + (lv A).length * (lv A).length := by
  have := hits_len h mn ((lv A).map (fun s => ((s, s, false) : Nd)) ++ (lv A).flatMap fun s => (lv A).map fun t => ((s, t, true) : Nd)) fun i e x r b => by
    obtain ⟨s, t, f⟩ := x
    have hb := bck_fst b
    have hs := live_st o ⟨e, hb.1⟩
    have ht := live_st o ⟨e, hb.2⟩
    simp only at hs ht
    cases f with
    | false => 
      have := rch_diag r rfl
      subst this
      exact List.mem_append_left _ (List.mem_map.mpr ⟨s, hs, rfl⟩)
    | true => exact List.mem_append_right _ (List.mem_flatMap.mpr ⟨s, hs, List.mem_map.mpr ⟨t, ht, rfl⟩⟩)
  have e : ((lv A).flatMap fun s => (lv A).map fun t => ((s, t, true) : Nd)).length = (lv A).length * (lv A).length := by
    rw [List.length_flatMap]
    generalize lv A = l
    simp only [List.length_map]
    have : ∀ (m : List Int) (n : Nat), (List.map (fun _ => n) m).sum = m.length * n := by
      intro m n
      induction m with
      | nil => simp
      | cons a m ih => simp only [List.map_cons, List.sum_cons, ih, List.length_cons]; rw [Nat.succ_mul]; omega
    exact this l _
  rw [List.length_append, e, List.length_map] at this
  exact this
noncomputable def lc (A : Aut) (M : List Int) : Nat := M.countP fun s => decide (Live A s)
noncomputable def dc (A : Aut) (M : List Int) : Nat := M.countP fun s => !decide (Live A s)
theorem lc_dc (A : Aut) (M : List Int) : M.length = lc A M + dc A M := by
  unfold lc dc
  induction M with
  | nil => rfl
  | cons a M ih => by_cases c : Live A a <;> simp [List.countP_cons, c, ih] <;> omega
theorem sum_le {f : Int → Nat} {M : List Int} {a b : Nat} (A : Aut) (h : ∀ s ∈ M, f s ≤ if Live A s then a else b) : (M.map f).sum ≤ a * lc A M + b * dc A M := by
  induction M with
  | nil => simp
  | cons s M ih =>
    have h1 := h s (.head _)
    have h2 := ih fun s hs => h s (.tail _ hs)
    unfold lc dc at h2 ⊢
    by_cases c : Live A s
    · rw [if_pos c] at h1
      simp only [List.map_cons, List.sum_cons, List.countP_cons, c, decide_true, if_pos, Bool.not_true]
      simp only [Bool.false_eq_true, if_false, Nat.add_zero, if_true]
      rw [Nat.mul_add]; omega
    · rw [if_neg c] at h1
      simp only [List.map_cons, List.sum_cons, List.countP_cons, c, decide_false, Bool.not_false]
      simp only [Bool.false_eq_true, if_false, Nat.add_zero, if_true]
      rw [Nat.mul_add b]; omega
theorem lc_nx {A : Aut} (o : A.Ok) (s : Int) (k : Nat) : lc A (nx A s k) ≤ if Live A s then (lv A).length else 0 := by
  unfold lc
  rw [List.countP_eq_length_filter]
  by_cases c : Live A s
  · rw [if_pos c]
    refine nodup_len ((nx_nd o s k).filter _) fun x hx => live_st o ?_
    have := (List.mem_filter.mp hx).2
    simpa using this
  · rw [if_neg c]
    have : (nx A s k).filter (fun s => decide (Live A s)) = [] := by
      rw [List.filter_eq_nil_iff]
      intro t ht hl
      obtain ⟨e, b⟩ : Live A t := by simpa using hl
      exact c ⟨e + 1, .succ ⟨k, mem_nx.mp ht⟩ b⟩
    rw [this]; simp
theorem dc_nx {A : Aut} (o : A.Ok) (s : Int) (k : Nat) : dc A (nx A s k) ≤ (dv A).length := by
  unfold dc
  rw [List.countP_eq_length_filter]
  refine nodup_len ((nx_nd o s k).filter _) fun x hx => ?_
  have h := List.mem_filter.mp hx
  have := o.rw_lt _ (mem_nx.mp h.1)
  exact List.mem_filter.mpr ⟨mem_sts ⟨this.2.2.1, this.2.2.2.1⟩, h.2⟩
theorem fol_snoc {A : Aut} (w : List Nat) (k : Nat) : fol A (w ++ [k]) = (fol A w).flatMap fun s => nx A s k := by simp [fol]
theorem lc_snoc {A : Aut} (o : A.Ok) (w : List Nat) (k : Nat) : lc A (fol A (w ++ [k])) ≤ (lv A).length * lc A (fol A w) := by
  rw [fol_snoc]
  have := sum_le (f := fun s => lc A (nx A s k)) (M := fol A w) (a := (lv A).length) (b := 0) A fun s _ => lc_nx o s k
  unfold lc at this ⊢
  rw [List.countP_flatMap]
  have e : ((fun s => List.countP (fun s => decide (Live A s)) (nx A s k))) = (List.countP (fun s => decide (Live A s)) ∘ fun s => nx A s k) := rfl
  rw [e] at this
  omega
theorem dc_snoc {A : Aut} (o : A.Ok) (w : List Nat) (k : Nat) : dc A (fol A (w ++ [k])) ≤ (dv A).length * (lc A (fol A w) + dc A (fol A w)) := by
  rw [fol_snoc]
  have := sum_le (f := fun s => dc A (nx A s k)) (M := fol A w) (a := (dv A).length) (b := (dv A).length) A fun s _ => by
    have := dc_nx o s k
    split <;> exact this
  have e : dc A ((fol A w).flatMap fun s => nx A s k) = ((fol A w).map fun s => dc A (nx A s k)).sum := by
    unfold dc
    rw [List.countP_flatMap]; rfl
  rw [e, Nat.mul_add]
  exact this
/-- runs that may still come to a last state are in different states, but for the last steps -/
theorem lc_few {A : Aut} (o : A.Ok) {L : Nat} (mn : ∀ l, l < L → ¬ Amb A l) (w : List Nat) (h : w.length + (lv A).length ≤ L) : lc A (fol A w) ≤ (lv A).length := by
  unfold lc
  rw [List.countP_eq_length_filter]
  refine nodup_len ?_ fun x hx => live_st o (by have := (List.mem_filter.mp hx).2; simpa using this)
  rw [List.nodup_iff_pairwise_ne]
  refine List.Pairwise.imp_of_mem ?_ ((fol_apart o w).filter _)
  intro a b ha hb r e
  subst e
  have hl : Live A a := by have := (List.mem_filter.mp ha).2; simpa using this
  obtain ⟨e, he, bk⟩ := live_near o hl
  exact mn (w.length + e) (by omega) (rch_bck r (bck_pair bk))
theorem lc_all {A : Aut} (o : A.Ok) {L : Nat} (mn : ∀ l, l < L → ¬ Amb A l) (hb : A.bg.length ≤ 2) (hc : (lv A).length ≤ 4) (h1 : 1 ≤ (lv A).length) (w : List Nat) (h : w.length ≤ L) :
    lc A (fol A w) ≤ 4 * (lv A).length ^ (w.length + (lv A).length - L) := by
  generalize e : w.length = i
  induction i generalizing w with
  | zero =>
    obtain rfl : w = [] := List.length_eq_zero_iff.mp e
    have h2 := lc_dc A (fol A [])
    have h3 : (fol A []).length ≤ 2 := by simpa [fol] using hb
    have h4 : 1 ≤ (lv A).length ^ (0 + (lv A).length - L) := Nat.one_le_pow _ _ h1
    omega
  | succ i ih =>
    obtain ⟨v, k, rfl⟩ : ∃ v k, w = v ++ [k] := ⟨w.dropLast, w.getLast (by intro h; subst h; simp at e), (List.dropLast_concat_getLast _).symm⟩
    have ev : v.length = i := by simpa using e
    by_cases c : i + 1 + (lv A).length ≤ L
    · have := lc_few o mn (v ++ [k]) (by simp; omega)
      have h4 : 1 ≤ (lv A).length ^ (i + 1 + (lv A).length - L) := Nat.one_le_pow _ _ h1
      omega
    · have h5 := ih v (by simp at h; omega) ev
      have h6 := lc_snoc o v k
      rw [show i + 1 + (lv A).length - L = (i + (lv A).length - L) + 1 by omega, Nat.pow_succ]
      calc lc A (fol A (v ++ [k])) ≤ (lv A).length * lc A (fol A v) := h6
        _ ≤ (lv A).length * (4 * (lv A).length ^ (i + (lv A).length - L)) := Nat.mul_le_mul_left _ h5
        _ = 4 * ((lv A).length ^ (i + (lv A).length - L) * (lv A).length) := by rw [Nat.mul_left_comm, Nat.mul_comm ((lv A).length)]
theorem all_four {A : Aut} (o : A.Ok) (hn : A.n ≤ 4) (hb : A.bg.length ≤ 2) (w : List Nat) : (fol A w).length ≤ 2 * 4 ^ w.length := by
  generalize e : w.length = i
  induction i generalizing w with
  | zero =>
    obtain rfl : w = [] := List.length_eq_zero_iff.mp e
    simpa [fol] using hb
  | succ i ih =>
    obtain ⟨v, k, rfl⟩ : ∃ v k, w = v ++ [k] := ⟨w.dropLast, w.getLast (by intro h; subst h; simp at e), (List.dropLast_concat_getLast _).symm⟩
    have h := ih v (by simpa using e)
    have h1 := lc_snoc o v k
    have h2 := dc_snoc o v k
    have h3 := lc_dc A (fol A (v ++ [k]))
    have h4 := lc_dc A (fol A v)
    have h5 := lv_dv A
    have h6 : (lv A).length * lc A (fol A v) ≤ (lv A).length * (fol A v).length := Nat.mul_le_mul_left _ (by omega)
    have h7 : (dv A).length * (lc A (fol A v) + dc A (fol A v)) = (dv A).length * (fol A v).length := by rw [h4]
    have h8 : (fol A (v ++ [k])).length ≤ A.n * (fol A v).length := by
      rw [← h5, Nat.add_mul]; omega
    have h9 : A.n * (fol A v).length ≤ 4 * (2 * 4 ^ i) := Nat.mul_le_mul hn h
    rw [Nat.pow_succ]; omega
theorem few_runs {A : Aut} (o : A.Ok) (hn : A.n ≤ 4) (hb : A.bg.length ≤ 2) {L : Nat} (ha : Amb A L) (mn : ∀ l, l < L → ¬ Amb A l) (w : List Nat) (h : w.length ≤ L) : (fol A w).length ≤ 20000 := by
  have hL := amb_len o ha mn
  have hq := lv_dv A
  have h1 : 1 ≤ (lv A).length := by
    rcases Nat.eq_zero_or_pos (lv A).length with c | c
    · rw [c] at hL; omega
    · exact c
  have hl := lc_all o mn hb (by omega) h1
  have hT := lc_dc A (fol A w)
  by_cases c2 : (lv A).length ≤ 2
  · have : (lv A).length * (lv A).length ≤ 2 * 2 := Nat.mul_le_mul c2 c2
    have h4 := all_four o hn hb w
    have : (4 : Nat) ^ w.length ≤ 4 ^ 5 := Nat.pow_le_pow_right (by decide) (by omega)
    omega
  · by_cases c3 : (dv A).length = 0
    · have hd : dc A (fol A w) = 0 := by
        unfold dc
        rw [List.countP_eq_zero]
        intro s hs hq
        have : s ∈ sts A := by
          rcases List.eq_nil_or_concat w with e | ⟨v, k, e⟩
          · subst e; exact mem_sts (o.bg_lt _ (by simpa [fol] using hs))
          · rw [e, List.concat_eq_append, fol_snoc] at hs
            obtain ⟨t, _, ht⟩ := List.mem_flatMap.mp hs
            have := o.rw_lt _ (mem_nx.mp ht)
            exact mem_sts ⟨this.2.2.1, this.2.2.2.1⟩
        have h5 : s ∈ dv A := List.mem_filter.mpr ⟨this, hq⟩
        rw [List.length_eq_zero_iff.mp c3] at h5
        simp at h5
      have h5 := hl w h
      have h6 : (lv A).length ^ (w.length + (lv A).length - L) ≤ 4 ^ 4 := Nat.le_trans (Nat.pow_le_pow_left (by omega : (lv A).length ≤ 4) _) (Nat.pow_le_pow_right (by decide) (by omega))
      omega
    · have e3 : (lv A).length = 3 := by omega
      have d1 : (dv A).length = 1 := by omega
      rw [e3] at hl hL
      have key : ∀ (i : Nat) (v : List Nat), v.length = i → i ≤ L → dc A (fol A v) ≤ 2 + 108 * i := fun i => by
        induction i with
        | zero =>
          intro v hv _
          obtain rfl : v = [] := List.length_eq_zero_iff.mp hv
          have h2 := lc_dc A (fol A [])
          have h3 : (fol A []).length ≤ 2 := by simpa [fol] using hb
          omega
        | succ i ih =>
          intro v hv hi
          obtain ⟨u, k, rfl⟩ : ∃ u k, v = u ++ [k] := ⟨v.dropLast, v.getLast (by intro h; subst h; simp at hv), (List.dropLast_concat_getLast _).symm⟩
          have hu : u.length = i := by simpa using hv
          have h5 := ih u hu (by omega)
          have h6 := dc_snoc o u k
          have h7 := hl u (by omega)
          have h8 : (3 : Nat) ^ (u.length + 3 - L) ≤ 3 ^ 3 := Nat.pow_le_pow_right (by decide) (by omega)
          rw [d1] at h6
          omega
      have h5 := key w.length w rfl h
      have h7 := hl w h
      have h8 : (3 : Nat) ^ (w.length + 3 - L) ≤ 3 ^ 3 := Nat.pow_le_pow_right (by decide) (by omega)
      omega
end Lw
end
section
set_option Elab.async false
set_option linter.all false
set_option autoImplicit false
/-! Pm3: distances; the pairs of states are few. -/
namespace Lw
section
variable {α : Type} {P : α → Prop} {E : α → α → Prop}
/-- so many steps, and not fewer -/
def Dist (P : α → Prop) (E : α → α → Prop) (i : Nat) (x : α) : Prop := Rch P E i x ∧ ∀ j, j < i → ¬ Rch P E j x
theorem dist_uniq {i j : Nat} {x : α} (h : Dist P E i x) (g : Dist P E j x) : i = j := by
  rcases Nat.lt_trichotomy i j with c | c | c
  · exact absurd h.1 (g.2 i c)
  · exact c
  · exact absurd g.1 (h.2 j c)
theorem dist_of {i : Nat} {x : α} (h : Rch P E i x) : ∃ j, j ≤ i ∧ Dist P E j x := by
  obtain ⟨l, ⟨y, h1, rfl⟩, h2⟩ := hits_least (T := (· = x)) ⟨i, x, h, rfl⟩
  have d : Dist P E l y := ⟨h1, fun j hj hr => h2 j hj ⟨y, hr, rfl⟩⟩
  refine ⟨l, ?_, d⟩
  by_cases c : l ≤ i
  · exact c
  · exact absurd h (d.2 i (by omega))
theorem dist_pred {i : Nat} {y : α} (h : Dist P E (i + 1) y) : ∃ x, Dist P E i x ∧ E x y := by
  obtain ⟨h1, h2⟩ := h
  cases h1 with
  | @succ _ x _ r s =>
    refine ⟨x, ⟨r, fun j hj hr => h2 (j + 1) (by omega) (hr.succ s)⟩, s⟩
theorem dist_mid {i : Nat} {x : α} (h : Dist P E i x) : ∀ j, j ≤ i → ∃ y, Dist P E j y := by
  induction i generalizing x with
  | zero => intro j hj; obtain rfl : j = 0 := by omega
            exact ⟨x, h⟩
  | succ i ih =>
    intro j hj
    by_cases c : j = i + 1
    · subst c; exact ⟨x, h⟩
    · obtain ⟨y, hy, _⟩ := dist_pred h
      exact ih hy j (by omega)
theorem dist_len [DecidableEq α] {i : Nat} {x : α} (h : Dist P E i x) (S : List α) (hS : ∀ j y, Rch P E j y → y ∈ S) : i + 1 ≤ S.length :=
  hits_len (T := (· = x)) ⟨x, h.1, rfl⟩ (fun l hl ⟨y, r, e⟩ => h.2 l hl (e ▸ r)) S fun i e y r _ => hS i y r
/-- a step from a place: not nearer than told -/
theorem dist_step {i : Nat} {x y : α} (h : Rch P E i x) (e : E x y) (n : ∀ j, j ≤ i → ¬ Rch P E j y) : Dist P E (i + 1) y := ⟨h.succ e, fun j hj => n j (by omega)⟩
theorem no_hits {T : α → Prop} {i : Nat} (h1 : ∀ j x, j ≤ i → Dist P E j x → ¬ T x) (h2 : ∀ x, ¬ Dist P E (i + 1) x) (l : Nat) : ¬ Hits P E T l := by
  rintro ⟨y, r, t⟩
  obtain ⟨j, _, d⟩ := dist_of r
  by_cases c : j ≤ i
  · exact h1 j y c d t
  · obtain ⟨z, hz⟩ := dist_mid d (i + 1) (by omega)
    exact h2 z hz
theorem no_less {T : α → Prop} {i : Nat} (h1 : ∀ j x, j < i → Dist P E j x → ¬ T x) (l : Nat) (hl : l < i) : ¬ Hits P E T l := by
  rintro ⟨y, r, t⟩
  obtain ⟨j, hj, d⟩ := dist_of r
  exact h1 j y (by omega) d t
end
def nodes (A : Aut) : List Nd := (sts A).flatMap fun s => (sts A).flatMap fun t => [(s, t, true), (s, t, false)]
theorem mem_nodes {A : Aut} {x : Nd} (h1 : 0 ≤ x.1 ∧ x.1 < A.n) (h2 : 0 ≤ x.2.1 ∧ x.2.1 < A.n) : x ∈ nodes A := by
  obtain ⟨s, t, b⟩ := x
  refine List.mem_flatMap.mpr ⟨s, mem_sts h1, List.mem_flatMap.mpr ⟨t, mem_sts h2, ?_⟩⟩
  cases b <;> simp
theorem sum_const (m : List Int) (n : Nat) : (List.map (fun _ => n) m).sum = m.length * n := by
  induction m with
  | nil => simp
  | cons a m ih => simp [ih, Nat.succ_mul]; omega
theorem nodes_len (A : Aut) : (nodes A).length = A.n * (A.n * 2) := by
  unfold nodes
  rw [List.length_flatMap]
  have : ∀ s : Int, ((sts A).flatMap fun t => [((s, t, true) : Nd), (s, t, false)]).length = A.n * 2 := fun s => by
    rw [List.length_flatMap]
    have := sum_const (sts A) 2
    simp only [List.length_cons, List.length_nil] 
    rw [this]; simp [sts]
  simp only [this]
  rw [sum_const]; simp [sts]
theorem rch_in {A : Aut} (o : A.Ok) {i : Nat} {x : Nd} (h : Rch (stN A) (goN A) i x) : (0 ≤ x.1 ∧ x.1 < A.n) ∧ (0 ≤ x.2.1 ∧ x.2.1 < A.n) := by
  cases h with
  | zero p => exact ⟨o.bg_lt _ p.1, o.bg_lt _ p.2.1⟩
  | succ r s =>
    obtain ⟨k, s1, s2, _⟩ := s
    have h1 := o.rw_lt _ s1
    have h2 := o.rw_lt _ s2
    exact ⟨⟨h1.2.2.1, h1.2.2.2.1⟩, ⟨h2.2.2.1, h2.2.2.2.1⟩⟩
theorem rch_nodes {A : Aut} (o : A.Ok) {i : Nat} {x : Nd} (h : Rch (stN A) (goN A) i x) : x ∈ nodes A := mem_nodes (rch_in o h).1 (rch_in o h).2
theorem rch_nodes' {A : Aut} (o : A.Ok) {i : Nat} {x : Nd} (h : Rch (stN' A) (goN A) i x) : x ∈ nodes A := rch_nodes o (rch_un h)
theorem amb_congr {A B : Aut} (h1 : ∀ s, s ∈ A.bg ↔ s ∈ B.bg) (h2 : ∀ s, s ∈ A.en ↔ s ∈ B.en) (h3 : ∀ t, t ∈ A.rw ↔ t ∈ B.rw) (L : Nat) : Amb A L ↔ Amb B L := by
  have e1 : stN A = stN B := by funext x; simp only [stN, h1]
  have e2 : goN A = goN B := by funext x y; simp only [goN, go1, h3]
  have e3 : enN A = enN B := by funext x; simp only [enN, h2]
  simp only [Amb, e1, e2, e3]
end Lw
end
section
set_option Elab.async false
set_option linter.all false
set_option autoImplicit false
/-! Pd1: automata in the store; the small defs. -/
namespace Lw
open PySem PySem.Spec PyProof.Rows L2
structure Fr (X : List Nat) (st st' : Sto) : Prop where
  le : st.length ≤ st'.length
  at_ : ∀ i, i < st.length → i ∉ X → st'[i]? = st[i]?
theorem Fr.refl {X : List Nat} {st : Sto} : Fr X st st := ⟨Nat.le_refl _, fun _ _ _ => rfl⟩
theorem Fr.trans {X : List Nat} {a b c : Sto} (h : Fr X a b) (g : Fr X b c) : Fr X a c := ⟨Nat.le_trans h.le g.le, fun i hi hx => (g.at_ i (Nat.lt_of_lt_of_le hi h.le) hx).trans (h.at_ i hi hx)⟩
theorem Fr.app {X : List Nat} {st : Sto} (l : Sto) : Fr X st (st ++ l) := ⟨by simp, fun i hi _ => List.getElem?_append_left hi⟩
theorem Fr.set {X : List Nat} {a b : Sto} (h : Fr X a b) {n : Nat} (hn : a.length ≤ n ∨ n ∈ X) (m : MO) : Fr X a (b.set n m) := by
  refine ⟨by simpa using h.le, fun i hi hx => ?_⟩
  rw [List.getElem?_set_ne, h.at_ i hi hx]
  rintro rfl
  rcases hn with hn | hn
  · omega
  · exact hx hn
theorem Fr.wk {X Y : List Nat} {a b : Sto} (h : Fr X a b) (s : ∀ x ∈ X, x ∈ Y) : Fr Y a b := ⟨h.le, fun i hi hx => h.at_ i hi fun g => hx (s _ g)⟩
theorem Fr.get {X : List Nat} {a b : Sto} (h : Fr X a b) {n : Nat} {m : MO} (e : a[n]? = some m) (hx : n ∉ X) : b[n]? = some m := by
  rw [h.at_ n (List.getElem?_eq_some_iff.mp e).1 hx, e]
abbrev CA : Str := "Automaton"
def intsT (l : List Int) : D := .tup (l.map .int)
def alS (A : Aut) : Str := ⟨A.al.toArray⟩
def fldA (A : Aut) (r w : Nat) : List (Str × D) := [("alphabet", .str (alS A)), ("size", .int A.n), ("begins", intsT A.bg), ("ends", intsT A.en), ("rows", .loc r), ("ways", .loc w)]
theorem fl_al (A : Aut) (r w : Nat) : (fldA A r w).lookup ("alphabet" : Str) = some (.str (alS A)) := rfl
theorem fl_bg (A : Aut) (r w : Nat) : (fldA A r w).lookup ("begins" : Str) = some (intsT A.bg) := rfl
theorem fl_en (A : Aut) (r w : Nat) : (fldA A r w).lookup ("ends" : Str) = some (intsT A.en) := rfl
theorem fl_wy (A : Aut) (r w : Nat) : (fldA A r w).lookup ("ways" : Str) = some (.loc w) := rfl
theorem fl_1 (A : Aut) (r w : Nat) : (fldA A r w).lookup ("first_states" : Str) = none := rfl
theorem fl_2 (A : Aut) (r w : Nat) : (fldA A r w).lookup ("last_states" : Str) = none := rfl
theorem fl_3 (A : Aut) (r w : Nat) : (fldA A r w).lookup ("next_of" : Str) = none := rfl
theorem fl_4 (A : Aut) (r w : Nat) : (fldA A r w).lookup ("next_set" : Str) = none := rfl
theorem fl_5 (A : Aut) (r w : Nat) : (fldA A r w).lookup ("check_word" : Str) = none := rfl
theorem fl_6 (A : Aut) (r w : Nat) : (fldA A r w).lookup ("has_last" : Str) = none := rfl
theorem fl_7 (A : Aut) (r w : Nat) : (fldA A r w).lookup ("runs" : Str) = none := rfl
def wyA (A : Aut) (kvs : List (NestedKey × D)) : Prop := ∀ (s : Int) (k : Nat), gT kvs (.tup [.num s, .text ⟨#[k]⟩]) = if nx A s k = [] then none else some (intsT (nx A s k))
structure AtA' (st : Sto) (a : Nat) (A : Aut) (r w : Nat) (kvs : List (NestedKey × D)) : Prop where
  ob : st[a]? = some (.ins CA (fldA A r w))
  wy : st[w]? = some (.dT kvs)
  gt : wyA A kvs
def AtA (st : Sto) (a : Nat) (A : Aut) : Prop := ∃ r w kvs, AtA' st a A r w kvs
theorem AtA.fr {st st' : Sto} {a : Nat} {A : Aut} (h : AtA st a A) (f : Fr [] st st') : AtA st' a A := by
  obtain ⟨r, w, kvs, h⟩ := h
  exact ⟨r, w, kvs, f.get h.ob (by simp), f.get h.wy (by simp), h.gt⟩
theorem AtA.fr1 {st st' : Sto} {a d : Nat} {A : Aut} {xs : List D} (h : AtA st a A) (f : Fr [d] st st') (hd : st[d]? = some (.lst xs)) : AtA st' a A := by
  obtain ⟨r, w, kvs, h⟩ := h
  refine ⟨r, w, kvs, f.get h.ob ?_, f.get h.wy ?_, h.gt⟩
  · intro e
    simp at e; subst e
    rw [h.ob] at hd; cases hd
  · intro e
    simp at e; subst e
    rw [h.wy] at hd; cases hd
theorem AtA.ins {st : Sto} {a : Nat} {A : Aut} (h : AtA st a A) : ∃ r w, st[a]? = some (.ins CA (fldA A r w)) := by
  obtain ⟨r, w, kvs, h⟩ := h
  exact ⟨r, w, h.ob⟩
/-! ### the small defs -/
theorem first_of {st : Sto} {a : Nat} {A : Aut} (h : AtA st a A) : p_first_states [.loc a] st = some (intsT A.bg, st) := by
  obtain ⟨r, w, h⟩ := h.ins
  simp [p_first_states, runF, b_first_states, sRet, fFld, fVar, h, fl_bg, endO, CA]
theorem last_of {st : Sto} {a : Nat} {A : Aut} (h : AtA st a A) : p_last_states [.loc a] st = some (intsT A.en, st) := by
  obtain ⟨r, w, h⟩ := h.ins
  simp [p_last_states, runF, b_last_states, sRet, fFld, fVar, h, fl_en, endO, CA]
theorem kd2 (s : Int) (k : Nat) : keyT (.tup [.int s, chD k]) = some (.tup [.num s, .text ⟨#[k]⟩]) := by
  simp [keyT, keyD, keysD, chD, NestedKey.depth, NestedKey.depthAll]
theorem next_of_at {st : Sto} {a : Nat} {A : Aut} (h : AtA st a A) (s : Int) (k : Nat) : p_next_of [.loc a, .int s, chD k] st = some (intsT (nx A s k), st) := by
  obtain ⟨r, w, kvs, h⟩ := h
  have e : ((gT kvs (.tup [.num s, .text ⟨#[k]⟩])).getD (.tup [])) = intsT (nx A s k) := by
    rw [h.gt]
    split
    · rename_i c; rw [c]; rfl
    · rfl
  simp [p_next_of, runF, b_next_of, sRet, fGet2, fFld, fVar, h.ob, fl_wy, endO, CA, isDT, h.wy, fTup, fApp, fCons, fNil, tupD, getOrD, kd2, e]
/-- a method of an automaton -/
theorem meth_at {st : Sto} {a : Nat} {A : Aut} {m : Str} {n : Nat} {p : DF} {fo : FE} {ga : FA} {ρ : Env'} (h : AtA st a A) (ho : fo ρ st = some (.loc a, st)) (hm : ∀ r w, (fldA A r w).lookup m = none) :
    fMeth "Automaton" m n p fo ga ρ st = (ga ρ st).bind fun q => if q.1.length + 1 = n then p (.loc a :: q.1) q.2 else none := by
  obtain ⟨r, w, h⟩ := h.ins
  have := hm r w
  simp [fMeth, ho, insOf, h, CA, this]
theorem ints_map (l : List Int) : intsD (l.map .int) = some l := by
  induction l with
  | nil => rfl
  | cons a l ih => simp [intsD, ih]
theorem in_ints (s : Int) (l : List Int) (st : Sto) : inB (.int s) (intsT l) st = some (decide (s ∈ l)) := by
  simp [inB, intsT, ints_map]
theorem in_al (k : Nat) (A : Aut) (st : Sto) : inB (chD k) (.str (alS A)) st = some (decide (k ∈ A.al)) := by
  simp [inB, chD, alS]
end Lw
end
section
set_option Elab.async false
set_option linter.all false
set_option autoImplicit false
/-! Pd2: the deck. -/
namespace Lw
open PySem PySem.Spec PyProof.Rows L2
def Dk (st : Sto) (d : Nat) : Prop := ∃ ns : List Int, st[d]? = some (.lst (ns.map .int))
theorem Dk.fr {st st' : Sto} {d : Nat} (h : Dk st d) (f : Fr [] st st') : Dk st' d := h.imp fun ns e => f.get e (by simp)
theorem rng_it {lo : Int} {n i : Nat} {d : D} (h : (ItD.rng lo n).items[i]? = some d) : i < n ∧ d = .int (lo + i) := by
  simp only [ItD.items, List.getElem?_map] at h
  by_cases c : i < n
  · rw [List.getElem?_range c] at h
    simp at h
    exact ⟨c, h.symm⟩
  · rw [List.getElem?_eq_none (by simpa using c)] at h
    simp at h
theorem rng_it0 {n i : Nat} {d : D} (h : (ItD.rng 0 n).items[i]? = some d) : i < n ∧ d = .int i := by
  obtain ⟨a, b⟩ := rng_it h
  exact ⟨a, by rw [b, Int.zero_add]⟩
theorem rng1_at (j : Int) (st : Sto) (h : 0 ≤ j ∧ j < 1000000) : rng1 [.int j] st = some (.rng 0 j.toNat, st) := if_pos ⟨by omega, by omega⟩
theorem atI_nat {α : Type} (xs : List α) (i : Nat) (h : i < xs.length) : atI xs (i : Int) = some xs[i] := by
  have : ixN xs.length (i : Int) = some i := by simp [ixN, h]
  simp [atI, this, h]
theorem rng_len {lo : Int} {n : Nat} : (ItD.rng lo n).items.length = n := by simp [ItD.items]
theorem take_ok {st : Sto} {d : Nat} {m : Int} (h : Dk st d) (hm : 0 < m) : ok (p_law_take [.loc d, .int m] st) fun p => ∃ v, p.1 = .int v ∧ 0 ≤ v ∧ v < m ∧ Fr [d] st p.2 ∧ p.2.length = st.length ∧ Dk p.2 d := by
  obtain ⟨ns, h⟩ := h
  refine ok_run ?_
  by_cases c : ns = []
  · subst c
    simp only [List.map_nil] at h
    simp [b_law_take, S_seq, S_nx, S_ret, S_drop, S_if, S_asg, S_put, S_fld, S_aug, S_for, fVar, fC, fOp, fUn, bool1, fTest, fChain, fAnd, fOr, fNot, fAndV, fOrV, fTru, fNil, fCons, fTup, fLst, fApp, fRng, fIt, foN, foS, int1, fSl, fBm, fCall, asg, sets, cmpD, tupD, lstD, ok_bind, ok_map, ok_some, ok_none, List.getElem?_cons_zero, List.getElem?_cons_succ, List.set_cons_zero, List.set_cons_succ, Option.bind_some, Option.map_some, wipeD, List.length_cons, List.length_nil, Nat.reduceAdd, if_true, List.getElem?_nil, rng1, lenD, h, eqB]
    exact ⟨hm, .refl, [], h⟩
  · have hl : (ns.map D.int).length - 1 < (ns.map D.int).length := by
      have := List.length_pos_iff.mpr c; simp; omega
    have hq : ns.length - 1 < ns.length := by simpa using hl
    have hz : ¬ ((ns.length : Int) = 0) := by have := List.length_pos_iff.mpr c; omega
    have e2 : (ns.map D.int).dropLast = ns.dropLast.map D.int := by rw [List.map_dropLast]
    simp [b_law_take, S_seq, S_nx, S_ret, S_drop, S_if, S_asg, S_put, S_fld, S_aug, S_for, fVar, fC, fOp, fUn, bool1, fTest, fChain, fAnd, fOr, fNot, fAndV, fOrV, fTru, fNil, fCons, fTup, fLst, fApp, fRng, fIt, foN, foS, int1, fSl, fBm, fCall, asg, sets, cmpD, tupD, lstD, ok_bind, ok_map, ok_some, ok_none, List.getElem?_cons_zero, List.getElem?_cons_succ, List.set_cons_zero, List.set_cons_succ, Option.bind_some, Option.map_some, wipeD, List.length_cons, List.length_nil, Nat.reduceAdd, if_true, List.getElem?_nil, rng1, lenD, h, eqB, hz, c, isTy, popD, List.getElem?_eq_getElem hq, intD, modD, hm]
    refine ⟨Int.emod_nonneg _ (by omega), Int.emod_lt_of_pos _ hm, (Fr.refl).set (.inr (by simp)) _, ns.dropLast, ?_⟩
    rw [← e2, List.getElem?_set_self (List.getElem?_eq_some_iff.mp h).1]
theorem deck_in {st : Sto} {a b c l x6 x8 : Option D} {i : Nat} {ms : List Int} {seed rest : Int} (body : FS) (N : Env' → Sto → Prop) (R : D → Sto → Prop) (hm : ms.length = 14 * i) (hi : i < 40)
    (hN : ∀ (seed rest : Int) (x8 : Option D) (ms : List Int), ms.length = 14 * (i + 1) → N [a, b, c, some (.loc st.length), some (.int seed), l, x6, some (.int rest), x8] (st ++ [.lst (ms.map .int)]))
    (hb : ∀ (N : Env' → Sto → Prop) (j : Nat) (seed rest : Int) (ms' : List Int), ms'.length < 100000 →
      (∀ (seed rest v : Int) (x8 : Option D), N [a, b, c, some (.loc st.length), some (.int seed), l, x6, some (.int rest), x8] (st ++ [.lst ((ms' ++ [v]).map .int)])) →
      S body [a, b, c, some (.loc st.length), some (.int seed), l, x6, some (.int rest), some (.int j)] (st ++ [.lst (ms'.map .int)]) N R) :
    S (loopF (.rng 0 14) (.nm 8) body (ItD.rng 0 14).items) [a, b, c, some (.loc st.length), some (.int seed), l, x6, some (.int rest), x8] (st ++ [.lst (ms.map .int)]) N R := by
  refine for_ok (fun j ρ s => ∃ (seed rest : Int) (x8 : Option D) (ms : List Int), ρ = [a, b, c, some (.loc st.length), some (.int seed), l, x6, some (.int rest), x8] ∧ ms.length = 14 * i + j ∧ s = st ++ [.lst (ms.map .int)]) ⟨seed, rest, x8, ms, rfl, by omega, rfl⟩ (fun _ _ _ _ => trivial) ?_ ?_
  · rintro j d ρ s hd ⟨seed, rest, x8, ms', rfl, hl, rfl⟩
    obtain ⟨hj, rfl⟩ := rng_it0 hd
    simp only [asg, ok_some, List.set_cons_succ, List.set_cons_zero]
    exact hb _ j seed rest ms' (by omega) fun seed rest v x8 => ⟨seed, rest, x8, _, rfl, by simp; omega, rfl⟩
  · rintro ρ s ⟨seed, rest, x8, ms', rfl, hl, rfl⟩
    rw [rng_len] at hl
    exact hN seed rest x8 ms' (by omega)
theorem deck_ok {st : Sto} {ns : List Int} : ok (p_law_deck [.rol ns, .int 40, .int 14] st) fun p => p.1 = .loc st.length ∧ Fr [] st p.2 ∧ Dk p.2 st.length := by
  refine ok_run' fun N R hN hR => ?_
  obtain ⟨I, hI⟩ := shut fun (i : Nat) (ρ : Env') (s : Sto) => ∃ (seed : Int) (ms : List Int) (x5 x6 x7 x8 : Option D), ρ = [some (.rol ns), some (.int 40), some (.int 14), some (.loc st.length), some (.int seed), x5, x6, x7, x8] ∧ ms.length = 14 * i ∧ s = st ++ [.lst (ms.map .int)]
  simp [b_law_deck, S_seq, S_nx, S_ret, S_drop, S_if, S_asg, S_put, S_fld, S_aug, S_for, fVar, fC, fOp, fUn, bool1, fTest, fChain, fAnd, fOr, fNot, fAndV, fOrV, fTru, fNil, fCons, fTup, fLst, fApp, fRng, fIt, foN, foS, int1, fSl, fBm, fCall, asg, sets, cmpD, tupD, lstD, ok_bind, ok_map, ok_some, ok_none, List.getElem?_cons_zero, List.getElem?_cons_succ, List.set_cons_zero, List.set_cons_succ, Option.bind_some, Option.map_some, wipeD, List.length_cons, List.length_nil, Nat.reduceAdd, if_true, List.getElem?_nil, rng1, lenD, addD]
  refine for_ok I ((hI _ _ _).mpr ⟨_, [], none, none, none, none, rfl, rfl, rfl⟩) (fun _ _ _ _ => trivial) ?_ ?_
  · intro i d ρ s hd h
    obtain ⟨seed, ms, x5, x6, x7, x8, rfl, hl, rfl⟩ := (hI _ _ _).mp h
    obtain ⟨hi, rfl⟩ := rng_it0 hd
    have hi : i < 40 := by simpa using hi
    have hI' := fun ρ s => (hI (i + 1) ρ s).mpr
    generalize hJ : I (i + 1) = J at hI' ⊢
    have main : ∀ cell : Int, S (sSeq (sAsg (.nm 7) (fApp absD (fCons (fVar 6) fNil)))
  (sIf (fTest (fOp (cmpD geB) (fVar 7) (fOp powD (fC (.int 10)) (fC (.int 30))))) (sFor (fRng (fCons (fVar 2) fNil)) (.nm 8) (sSeq (sDrop (fBm "list" appendD (fVar 3) (fCons (fOp modD (fApp intD (fCons (fVar 7) fNil)) (fC (.int 1000003))) fNil)))
  (sAsg (.nm 7) (fOp fdivD (fVar 7) (fC (.int 1000003)))))) (sSeq (sAsg (.nm 4) (fOp modD (fApp intD (fCons (fOp addD (fOp addD (fOp addD (fOp mulD (fVar 4) (fC (.int 48271))) (fOp mulD (fC (.int 2)) (fVar 7))) (fApp intD (fCons (fOp (cmpD ltB) (fVar 6) (fC (.int 0))) fNil))) (fVar 5)) fNil)) (fC (.int 2147483647))))
  (sFor (fRng (fCons (fVar 2) fNil)) (.nm 8) (sSeq (sAsg (.nm 4) (fOp modD (fApp intD (fCons (fOp addD (fOp addD (fOp mulD (fVar 4) (fC (.int 69621))) (fVar 8)) (fC (.int 1))) fNil)) (fC (.int 2147483629))))
  (sDrop (fBm "list" appendD (fVar 3) (fCons (fOp modD (fApp intD (fCons (fOp fdivD (fVar 4) (fC (.int 5))) fNil)) (fC (.int 1000003))) fNil))))))))
        [some (.rol ns), some (.int 40), some (.int 14), some (.loc st.length), some (.int seed), some (.int i), some (.int cell), x7, x8] (st ++ [.lst (ms.map .int)]) J R := by
      intro cell
      have hz : ∀ (seed rest : Int) (x8 : Option D) (ms : List Int), ms.length = 14 * (i + 1) → J [some (.rol ns), some (.int 40), some (.int 14), some (.loc st.length), some (.int seed), some (.int i), some (.int cell), some (.int rest), x8] (st ++ [.lst (ms.map .int)]) :=
        fun seed rest x8 ms hl => hI' _ _ ⟨seed, ms, _, _, _, x8, rfl, hl, rfl⟩
      simp only [S_seq, S_nx, S_ret, S_drop, S_if, S_asg, S_put, S_fld, S_aug, S_for, fVar, fC, fOp, fUn, bool1, fTest, fChain, fAnd, fOr, fNot, fAndV, fOrV, fTru, fNil, fCons, fTup, fLst, fApp, fRng, fIt, foN, foS, int1, fSl, fBm, fCall, asg, sets, cmpD, tupD, lstD, ok_bind, ok_map, ok_some, ok_none, List.getElem?_cons_zero, List.getElem?_cons_succ, List.set_cons_zero, List.set_cons_succ, Option.bind_some, Option.map_some, wipeD, List.length_cons, List.length_nil, Nat.reduceAdd, if_true, List.getElem?_nil, rng1, absD, powD, geB]
      generalize (if cell < 0 then -cell else cell) = rest
      have h10 : (0 : Int) ≤ 30 ∧ (30 : Int) ≤ 1000000 ∧ Int.natAbs 10 < 2 ^ 64 := by decide
      simp only [if_pos h10, ok_some, decide_eq_true_eq]
      split
      · simp only [show (14 : Int).toNat = 14 from rfl, show (-2 ^ 62 ≤ (14 : Int) ∧ (14 : Int) < 2 ^ 62) = True from by decide, if_true, ok_some]
        refine deck_in _ _ _ hl hi hz fun N j seed rest ms' hl h => ?_
        simp [S_seq, S_nx, S_ret, S_drop, S_if, S_asg, S_put, S_fld, S_aug, S_for, fVar, fC, fOp, fUn, bool1, fTest, fChain, fAnd, fOr, fNot, fAndV, fOrV, fTru, fNil, fCons, fTup, fLst, fApp, fRng, fIt, foN, foS, int1, fSl, fBm, fCall, asg, sets, cmpD, tupD, lstD, ok_bind, ok_map, ok_some, ok_none, List.getElem?_cons_zero, List.getElem?_cons_succ, List.set_cons_zero, List.set_cons_succ, Option.bind_some, Option.map_some, wipeD, List.length_cons, List.length_nil, Nat.reduceAdd, if_true, List.getElem?_nil, rng1, isTy, intD, modD, appendD, fdivD, hl]
        simpa using h _ _ _ _
      · simp [S_seq, S_nx, S_ret, S_drop, S_if, S_asg, S_put, S_fld, S_aug, S_for, fVar, fC, fOp, fUn, bool1, fTest, fChain, fAnd, fOr, fNot, fAndV, fOrV, fTru, fNil, fCons, fTup, fLst, fApp, fRng, fIt, foN, foS, int1, fSl, fBm, fCall, asg, sets, cmpD, tupD, lstD, ok_bind, ok_map, ok_some, ok_none, List.getElem?_cons_zero, List.getElem?_cons_succ, List.set_cons_zero, List.set_cons_succ, Option.bind_some, Option.map_some, wipeD, List.length_cons, List.length_nil, Nat.reduceAdd, if_true, List.getElem?_nil, rng1, mulD, addD, ltB, intD, modD]
        refine deck_in _ _ _ hl hi hz fun N j seed rest ms' hl h => ?_
        simp [S_seq, S_nx, S_ret, S_drop, S_if, S_asg, S_put, S_fld, S_aug, S_for, fVar, fC, fOp, fUn, bool1, fTest, fChain, fAnd, fOr, fNot, fAndV, fOrV, fTru, fNil, fCons, fTup, fLst, fApp, fRng, fIt, foN, foS, int1, fSl, fBm, fCall, asg, sets, cmpD, tupD, lstD, ok_bind, ok_map, ok_some, ok_none, List.getElem?_cons_zero, List.getElem?_cons_succ, List.set_cons_zero, List.set_cons_succ, Option.bind_some, Option.map_some, wipeD, List.length_cons, List.length_nil, Nat.reduceAdd, if_true, List.getElem?_nil, rng1, isTy, intD, modD, appendD, fdivD, mulD, addD, hl]
        simpa using h _ _ _ _
    simp only [asg, ok_some, List.set_cons_succ, List.set_cons_zero]
    rw [S_seq, S_asg]
    simp only [fVar, fC, fOp, fUn, bool1, fTest, fChain, fAnd, fOr, fNot, fAndV, fOrV, fTru, fNil, fCons, fTup, fLst, fApp, fRng, fIt, foN, foS, int1, fSl, fBm, fCall, asg, sets, cmpD, tupD, lstD, ok_bind, ok_map, ok_some, ok_none, List.getElem?_cons_zero, List.getElem?_cons_succ, List.set_cons_zero, List.set_cons_succ, Option.bind_some, Option.map_some, wipeD, List.length_cons, List.length_nil, Nat.reduceAdd, if_true, List.getElem?_nil, rng1]
    rw [S_seq, S_if]
    simp only [fVar, fC, fOp, fUn, bool1, fTest, fChain, fAnd, fOr, fNot, fAndV, fOrV, fTru, fNil, fCons, fTup, fLst, fApp, fRng, fIt, foN, foS, int1, fSl, fBm, fCall, asg, sets, cmpD, tupD, lstD, ok_bind, ok_map, ok_some, ok_none, List.getElem?_cons_zero, List.getElem?_cons_succ, List.set_cons_zero, List.set_cons_succ, Option.bind_some, Option.map_some, wipeD, List.length_cons, List.length_nil, Nat.reduceAdd, if_true, List.getElem?_nil, rng1, lenD, ltB, decide_eq_true_eq]
    split
    · rename_i hlt
      have hlt : i < ns.length := by omega
      have e : atI ns (i : Int) = some ns[i] := atI_nat ns i hlt
      rw [S_asg]
      simp only [fVar, fC, fOp, fUn, bool1, fTest, fChain, fAnd, fOr, fNot, fAndV, fOrV, fTru, fNil, fCons, fTup, fLst, fApp, fRng, fIt, foN, foS, int1, fSl, fBm, fCall, asg, sets, cmpD, tupD, lstD, ok_bind, ok_map, ok_some, ok_none, List.getElem?_cons_zero, List.getElem?_cons_succ, List.set_cons_zero, List.set_cons_succ, Option.bind_some, Option.map_some, wipeD, List.length_cons, List.length_nil, Nat.reduceAdd, if_true, List.getElem?_nil, rng1, ixD, e]
      exact main _
    · simp only [S_nx]
      exact main 0
  · intro ρ s h
    obtain ⟨seed, ms, x5, x6, x7, x8, rfl, hl, rfl⟩ := (hI _ _ _).mp h
    simp [S_seq, S_nx, S_ret, S_drop, S_if, S_asg, S_put, S_fld, S_aug, S_for, fVar, fC, fOp, fUn, bool1, fTest, fChain, fAnd, fOr, fNot, fAndV, fOrV, fTru, fNil, fCons, fTup, fLst, fApp, fRng, fIt, foN, foS, int1, fSl, fBm, fCall, asg, sets, cmpD, tupD, lstD, ok_bind, ok_map, ok_some, ok_none, List.getElem?_cons_zero, List.getElem?_cons_succ, List.set_cons_zero, List.set_cons_succ, Option.bind_some, Option.map_some, wipeD, List.length_cons, List.length_nil, Nat.reduceAdd, if_true, List.getElem?_nil, rng1, isTy, reverseD]
    exact hR _ _ ⟨rfl, .app _, ms.reverse, by simp⟩
end Lw
end
section
set_option Elab.async false
set_option linter.all false
set_option autoImplicit false
/-! Pd3: drawn automata. -/
namespace Lw
open PySem PySem.Spec PyProof.Rows L2
theorem up_nd {α : Type} {lt : α → α → Bool} (O : Lin lt) {l : List α} (h : Up lt l) : l.Nodup := by
  rw [List.nodup_iff_pairwise_ne]
  refine h.imp fun {a b} h e => ?_
  subst e
  rw [O.irr] at h; cases h
theorem gsort_len {α : Type} [DecidableEq α] {lt : α → α → Bool} (O : Lin lt) (l : List α) : (gsort lt l).length ≤ l.length := nodup_len (up_nd O (gsort_up O l)) fun x hx => (gsort_mem O x l).mp hx
structure PtOk (al : List Nat) (n : Nat) (fi la : List Int) (tr : List (Int × Nat × Int)) : Prop where
  n1 : 1 ≤ n
  n4 : n ≤ 4
  fu : Up ltI fi
  f2 : fi.length ≤ 2
  fr : ∀ s ∈ fi, 0 ≤ s ∧ s < n
  lu : Up ltI la
  lr : ∀ s ∈ la, 0 ≤ s ∧ s < n
  l2 : la.length ≤ 2
  tl : tr.length ≤ 10
  tr_ : ∀ t ∈ tr, 0 ≤ t.1 ∧ t.1 < n ∧ 0 ≤ t.2.2 ∧ t.2.2 < n ∧ t.2.1 ∈ al
structure AtP (st : Sto) (fi la : List Int) (tr : List (Int × Nat × Int)) (f l s : Nat) : Prop where
  f : st[f]? = some (.lst (fi.map .int))
  l : st[l]? = some (.lst (la.map .int))
  s : st[s]? = some (.lst (tr.map tripD))
def ptsD (al : List Nat) (n : Nat) (f l s : Nat) : D := .tup [.str ⟨al.toArray⟩, .int n, .loc f, .loc l, .loc s]
theorem Dk.lt {st : Sto} {d : Nat} (h : Dk st d) : d < st.length := by obtain ⟨ns, h⟩ := h; exact (List.getElem?_eq_some_iff.mp h).1
theorem draws {ρ : Env'} {st : Sto} {d k : Nat} {size : Int} (hk : k ≤ 100) (e0 : ρ[0]? = some (some (.loc d))) (e3 : ρ[3]? = some (some (.int size))) (hd : Dk st d) (hs : 0 < size) :
    ok (lcGo (.rng 0 k) (.nm 7) fYes (fCall 2 p_law_take (fCons (fVar 0) (fCons (fVar 3) fNil))) st.length ρ (ItD.rng 0 k).items (st ++ [.lst []])) fun s =>
      ∃ ms : List Int, s[st.length]? = some (.lst (ms.map .int)) ∧ ms.length = k ∧ (∀ v ∈ ms, 0 ≤ v ∧ v < size) ∧ Fr [d] st s ∧ Dk s d := by
  have dl := hd.lt
  refine lc_ok (fun i s => ∃ ms : List Int, s[st.length]? = some (.lst (ms.map .int)) ∧ ms.length = i ∧ (∀ v ∈ ms, 0 ≤ v ∧ v < size) ∧ Fr [d] st s ∧ Dk s d) ⟨[], by simp, rfl, by simp, .app _, hd.fr (.app _)⟩ (fun _ _ _ => trivial) ?_ ?_
  · rintro i x s hx ⟨ms, h1, h2, h3, h4, h5⟩
    obtain ⟨hi, rfl⟩ := rng_it0 hx
    have g0 : (ρ.set 7 (some (.int i)))[0]? = some (some (.loc d)) := by rw [List.getElem?_set_ne (by decide), e0]
    have g3 : (ρ.set 7 (some (.int i)))[3]? = some (some (.int size)) := by rw [List.getElem?_set_ne (by decide), e3]
    simp only [asg, ok_some, fYes, if_true, fCall, fCons, fVar, fNil, g0, g3, ok_bind, ok_map, Option.bind_some, Option.map_some, List.length_cons, List.length_nil, Nat.reduceAdd]
    refine ok_mono (take_ok h5 hs) ?_
    rintro ⟨_, s1⟩ ⟨v, rfl, v0, v1, f1, l1, d1⟩
    have h6 : s1[st.length]? = some (.lst (ms.map .int)) := f1.get h1 (by simp; omega)
    have h7 : ms.length < 100000 := by omega
    simp only [appendD, h6, List.length_map, if_pos h7, ok_some]
    refine ⟨ms ++ [v], ?_, by simp [h2], ?_, ?_, ?_⟩
    · rw [List.getElem?_set_self (List.getElem?_eq_some_iff.mp h6).1]; simp
    · intro u hu
      rcases List.mem_append.mp hu with hu | hu
      · exact h3 u hu
      · simp at hu; subst hu; exact ⟨v0, v1⟩
    · exact (h4.trans f1).set (.inl (Nat.le_refl _)) _
    · obtain ⟨ns, hn⟩ := d1
      exact ⟨ns, by rw [List.getElem?_set_ne (by omega), hn]⟩
  · rintro s ⟨ms, h1, h2, h3⟩
    rw [rng_len] at h2
    exact ⟨ms, h1, h2, h3⟩
theorem Dk.app {st : Sto} {d : Nat} (h : Dk st d) (l : Sto) : Dk (st ++ l) d := h.fr (.app l)
theorem draw_set {ga : FA} {ρ : Env'} {st : Sto} {d k1 : Nat} {size : Int} (hk : k1 ≤ 50) (e0 : ρ[0]? = some (some (.loc d))) (e3 : ρ[3]? = some (some (.int size))) (hs : 0 < size)
    (hg : ok (ga ρ st) fun q => ∃ k : Int, q.1 = [.int k] ∧ 0 ≤ k ∧ k ≤ k1 ∧ Fr [d] st q.2 ∧ Dk q.2 d) :
    ok (fUn ssI (fLc (fRng ga) (.nm 7) fYes (fCall 2 p_law_take (fCons (fVar 0) (fCons (fVar 3) fNil))) [7]) ρ st) fun p => ∃ l fi, p.1 = .loc l ∧ p.2[l]? = some (.lst (fi.map .int)) ∧ st.length ≤ l ∧ Up ltI fi ∧ fi.length ≤ k1 ∧ (∀ s ∈ fi, 0 ≤ s ∧ s < size) ∧ Fr [d] st p.2 ∧ Dk p.2 d := by
  rw [fUn, ok_bind]
  refine ok_mono (P := fun p => ∃ l, ∃ ms : List Int, p.1 = .loc l ∧ p.2[l]? = some (.lst (ms.map .int)) ∧ ms.length ≤ k1 ∧ (∀ v ∈ ms, 0 ≤ v ∧ v < size) ∧ Fr [d] st p.2 ∧ Dk p.2 d) (fLc_ok ?_) ?_
  · rw [fRng, ok_bind]
    refine ok_mono hg ?_
    rintro ⟨_, s1⟩ ⟨k, rfl, k0, k2, f1, d1⟩
    simp only [rng1_at k _ ⟨k0, by omega⟩, ok_some]
    have g0 : (wipeD ρ [7])[0]? = some (some (.loc d)) := by rw [wipeD, wipeD, List.getElem?_set_ne (by decide), e0]
    have g3 : (wipeD ρ [7])[3]? = some (some (.int size)) := by rw [wipeD, wipeD, List.getElem?_set_ne (by decide), e3]
    refine ok_mono (draws (k := k.toNat) (by omega) g0 g3 d1 hs) ?_
    rintro s2 ⟨ms, h1, h2, h3, h4, h5⟩
    exact ⟨s1.length, ms, rfl, h1, by omega, h3, f1.trans h4, h5⟩
  · rintro ⟨_, s2⟩ ⟨l, ms, rfl, h1, h2, h3, h4, h5⟩
    have h6 : ms.length < 60 := by omega
    simp only at h1 h4 h5
    simp only [ssI, h1, ints_map, Option.bind_some, if_pos h6, ok_some]
    refine ⟨s2.length, gsort ltI ms, rfl, by simp, h4.le, gsort_up linI ms, Nat.le_trans (gsort_len linI ms) h2, fun s hs => h3 s ((gsort_mem linI s ms).mp hs), h4.trans (.app _), h5.app _⟩
theorem auto_ok {st : Sto} {d : Nat} {al : List Nat} (hd : Dk st d) (ha : 1 ≤ al.length ∧ al.length ≤ 50) : ok (p_law_automaton [.loc d, .str ⟨al.toArray⟩, .int 4] st) fun p =>
    ∃ n fi la tr f l s, p.1 = ptsD al n f l s ∧ PtOk al n fi la tr ∧ AtP p.2 fi la tr f l s ∧ Fr [d] st p.2 ∧ Dk p.2 d ∧ st.length ≤ f ∧ st.length ≤ l ∧ st.length ≤ s := by
  have dl := hd.lt
  refine ok_run' fun N R hN hR => ?_
  simp only [b_law_automaton, List.map_cons, List.map_nil, List.length_cons, List.length_nil, List.replicate, List.cons_append, List.nil_append, Nat.reduceAdd, Nat.reduceSub]
  rw [S_seq, S_asg]
  simp only [fVar, fC, fOp, fUn, bool1, fTest, fChain, fAnd, fOr, fNot, fAndV, fOrV, fTru, fNil, fCons, fTup, fLst, fApp, fRng, fIt, foN, foS, int1, fSl, fBm, fCall, asg, sets, cmpD, tupD, lstD, ok_bind, ok_map, ok_some, ok_none, List.getElem?_cons_zero, List.getElem?_cons_succ, List.set_cons_zero, List.set_cons_succ, Option.bind_some, Option.map_some, wipeD, List.length_cons, List.length_nil, Nat.reduceAdd, if_true, List.getElem?_nil]
  refine ok_mono (take_ok hd (by decide)) ?_
  rintro ⟨_, s1⟩ ⟨v, rfl, v0, v1, f1, l1, d1⟩
  simp only [addD, ok_some]
  obtain ⟨n, hn⟩ : ∃ n : Nat, (1 : Int) + v = n := ⟨(1 + v).toNat, by omega⟩
  rw [hn, S_seq, S_asg]
  have n1 : 1 ≤ n := by omega
  have n4 : n ≤ 4 := by omega
  -- first
  refine ok_mono (draw_set (k1 := 2) (d := d) (size := n) (by decide) rfl rfl (by omega) ?_) ?_
  · simp only [fVar, fC, fOp, fUn, bool1, fTest, fChain, fAnd, fOr, fNot, fAndV, fOrV, fTru, fNil, fCons, fTup, fLst, fApp, fRng, fIt, foN, foS, int1, fSl, fBm, fCall, asg, sets, cmpD, tupD, lstD, ok_bind, ok_map, ok_some, ok_none, List.getElem?_cons_zero, List.getElem?_cons_succ, List.set_cons_zero, List.set_cons_succ, Option.bind_some, Option.map_some, wipeD, List.length_cons, List.length_nil, Nat.reduceAdd, if_true, List.getElem?_nil]
    refine ok_mono (take_ok d1 (by decide)) ?_
    rintro ⟨_, s2⟩ ⟨v, rfl, v0, v1, f2, l2, d2⟩
    simp only [addD, ok_some]
    exact ⟨1 + v, rfl, by omega, by omega, f2, d2⟩
  rintro ⟨_, s2⟩ ⟨f, fi, rfl, h1, h2, h3, h4, h5, f2, d2⟩
  simp only [asg, ok_some, List.set_cons_succ, List.set_cons_zero]
  rw [S_seq, S_asg]
  refine ok_mono (draw_set (k1 := 2) (d := d) (size := n) (by decide) rfl rfl (by omega) ?_) ?_
  · simp only [fVar, fC, fOp, fUn, bool1, fTest, fChain, fAnd, fOr, fNot, fAndV, fOrV, fTru, fNil, fCons, fTup, fLst, fApp, fRng, fIt, foN, foS, int1, fSl, fBm, fCall, asg, sets, cmpD, tupD, lstD, ok_bind, ok_map, ok_some, ok_none, List.getElem?_cons_zero, List.getElem?_cons_succ, List.set_cons_zero, List.set_cons_succ, Option.bind_some, Option.map_some, wipeD, List.length_cons, List.length_nil, Nat.reduceAdd, if_true, List.getElem?_nil]
    refine ok_mono (take_ok d2 (by decide)) ?_
    rintro ⟨_, s2⟩ ⟨v, rfl, v0, v1, f2, l2, d2⟩
    exact ⟨v, rfl, by omega, by omega, f2, d2⟩
  rintro ⟨_, s3⟩ ⟨l, la, rfl, q1, q2, q3, q4, q5, f3, d3⟩
  simp only [asg, ok_some, List.set_cons_succ, List.set_cons_zero] at *
  rw [S_seq, S_asg]
  simp only [fVar, fC, fOp, fUn, bool1, fTest, fChain, fAnd, fOr, fNot, fAndV, fOrV, fTru, fNil, fCons, fTup, fLst, fApp, fRng, fIt, foN, foS, int1, fSl, fBm, fCall, asg, sets, cmpD, tupD, lstD, ok_bind, ok_map, ok_some, ok_none, List.getElem?_cons_zero, List.getElem?_cons_succ, List.set_cons_zero, List.set_cons_succ, Option.bind_some, Option.map_some, wipeD, List.length_cons, List.length_nil, Nat.reduceAdd, if_true, List.getElem?_nil]
  simp only [Nat.zero_le, if_true, ok_some]
  rw [S_seq, S_for]
  simp only [fVar, fC, fOp, fUn, bool1, fTest, fChain, fAnd, fOr, fNot, fAndV, fOrV, fTru, fNil, fCons, fTup, fLst, fApp, fRng, fIt, foN, foS, int1, fSl, fBm, fCall, asg, sets, cmpD, tupD, lstD, ok_bind, ok_map, ok_some, ok_none, List.getElem?_cons_zero, List.getElem?_cons_succ, List.set_cons_zero, List.set_cons_succ, Option.bind_some, Option.map_some, wipeD, List.length_cons, List.length_nil, Nat.reduceAdd, if_true, List.getElem?_nil, mulD, addD, if_pos (show (-(2 ^ 64) < (2 : Int) ∧ (2 : Int) < 2 ^ 64) ∨ (-(2 ^ 64) < (n : Int) ∧ (n : Int) < 2 ^ 64) from .inl (by decide))]
  refine ok_mono (take_ok (d3.app _) (by omega)) ?_
  rintro ⟨_, s4⟩ ⟨k, rfl, k0, k1, f4, l4, d4⟩
  simp only [rng1_at k _ ⟨k0, by omega⟩, ok_some]
  have z2 := f1.le
  have z3 := f2.le
  have z4 := f3.le
  have hfl : f < s2.length := (List.getElem?_eq_some_iff.mp h1).1
  have hll : l < s3.length := (List.getElem?_eq_some_iff.mp q1).1
  have hf : s4[f]? = some (.lst (fi.map .int)) := (((f3.trans (.app _)).trans f4)).get h1 (by simp; omega)
  have hl : s4[l]? = some (.lst (la.map .int)) := ((Fr.app _).trans f4).get q1 (by simp; omega)
  have hs0 : s4[s3.length]? = some (.lst []) := f4.get (by simp) (by have := f1.le; have := f2.le; have := f3.le; simp; omega)
  have z1 : Fr [d] st s4 := f1.trans (f2.trans (f3.trans ((Fr.app _).trans f4)))
  refine for_ok (fun i ρ s => ∃ (tr : List (Int × Nat × Int)) (x : Option D), ρ = [some (.loc d), some (.str ⟨al.toArray⟩), some (.int 4), some (.int n), some (.loc f), some (.loc l), some (.loc s3.length), x] ∧ tr.length = i ∧
    (∀ t ∈ tr, 0 ≤ t.1 ∧ t.1 < n ∧ 0 ≤ t.2.2 ∧ t.2.2 < n ∧ t.2.1 ∈ al) ∧ AtP s fi la tr f l s3.length ∧ Fr [d] st s ∧ Dk s d) ⟨[], none, rfl, rfl, by simp, ⟨hf, hl, hs0⟩, z1, d4⟩ (fun _ _ _ _ => trivial) ?_ ?_
  · rintro i x ρ s hx ⟨tr, x7, rfl, t1, t2, t3, t4, t5⟩
    obtain ⟨hi, rfl⟩ := rng_it0 hx
    simp only [asg, ok_some, List.set_cons_succ, List.set_cons_zero]
    rw [S_drop]
    have hty : isTy "list" (.loc s3.length) s = true := by simp [isTy, t3.s]
    simp only [fVar, fC, fOp, fUn, bool1, fTest, fChain, fAnd, fOr, fNot, fAndV, fOrV, fTru, fNil, fCons, fTup, fLst, fApp, fRng, fIt, foN, foS, int1, fSl, fBm, fCall, asg, sets, cmpD, tupD, lstD, ok_bind, ok_map, ok_some, ok_none, List.getElem?_cons_zero, List.getElem?_cons_succ, List.set_cons_zero, List.set_cons_succ, Option.bind_some, Option.map_some, wipeD, List.length_cons, List.length_nil, Nat.reduceAdd, if_true, List.getElem?_nil, hty, if_true]
    refine ok_mono (take_ok t5 (by omega)) ?_
    rintro ⟨_, u1⟩ ⟨a, rfl, a0, a1, g1, _, e1⟩
    have hal : lenD [.str ⟨al.toArray⟩] u1 = some (.int al.length, u1) := by
      have : Str.length ⟨al.toArray⟩ = al.length := by simp [Str.length]
      simp [lenD, this]; omega
    simp only [hal, ok_some]
    refine ok_mono (take_ok e1 (by omega)) ?_
    rintro ⟨_, u2⟩ ⟨b, rfl, b0, b1, g2, _, e2⟩
    obtain ⟨b, rfl⟩ : ∃ m : Nat, b = m := ⟨b.toNat, by omega⟩
    have hb : b < al.length := by omega
    have hix : ixD (.str ⟨al.toArray⟩) (.int b) u2 = some (chD al[b], u2) := by
      have : Str.length ⟨al.toArray⟩ = al.length := by simp [Str.length]
      have : Str.length ⟨al.toArray⟩ ≤ 100000 := by omega
      simp [ixD, this, atI_nat al b hb, chD]
    simp only [hix, ok_some]
    refine ok_mono (take_ok e2 (by omega)) ?_
    rintro ⟨_, u3⟩ ⟨c, rfl, c0, c1, g3, _, e3⟩
    have g : Fr [d] s u3 := g1.trans (g2.trans g3)
    have hz : u3[s3.length]? = some (.lst (tr.map tripD)) := g.get t3.s (by simp; omega)
    have hq : tr.length < 100000 := by omega
    simp only [show 0 + 1 + 1 + 1 ≤ 100000 by decide, Nat.reduceLeDiff, if_true, ok_some, appendD, hz, List.length_map, if_pos hq]
    refine ⟨tr ++ [(a, al[b], c)], some (.int i), rfl, by simp [t1], ?_, ?_, (t4.trans g).set (.inl (by omega)) _, ?_⟩
    · intro t ht
      rcases List.mem_append.mp ht with ht | ht
      · exact t2 t ht
      · simp at ht; subst ht; exact ⟨a0, a1, c0, c1, List.getElem_mem hb⟩
    · refine ⟨?_, ?_, ?_⟩
      · rw [List.getElem?_set_ne (by omega)]; exact g.get t3.f (by simp; omega)
      · rw [List.getElem?_set_ne (by omega)]; exact g.get t3.l (by simp; omega)
      · rw [List.getElem?_set_self (List.getElem?_eq_some_iff.mp hz).1]; simp [tripD]
    · obtain ⟨ns, hn⟩ := e3
      exact ⟨ns, by rw [List.getElem?_set_ne (by omega), hn]⟩
  · rintro ρ s ⟨tr, x7, rfl, t1, t2, t3, t4, t5⟩
    rw [S_ret]
    simp only [fVar, fC, fOp, fUn, bool1, fTest, fChain, fAnd, fOr, fNot, fAndV, fOrV, fTru, fNil, fCons, fTup, fLst, fApp, fRng, fIt, foN, foS, int1, fSl, fBm, fCall, asg, sets, cmpD, tupD, lstD, ok_bind, ok_map, ok_some, ok_none, List.getElem?_cons_zero, List.getElem?_cons_succ, List.set_cons_zero, List.set_cons_succ, Option.bind_some, Option.map_some, wipeD, List.length_cons, List.length_nil, Nat.reduceAdd, if_true, List.getElem?_nil]
    simp only [Nat.reduceLeDiff, if_true, ok_some]
    rw [rng_len] at t1
    exact hR _ _ ⟨n, fi, la, tr, f, l, s3.length, rfl, ⟨n1, n4, h3, h4, h5, q3, q5, q4, by omega, t2⟩, t3, t4, t5, by omega, by omega, by omega⟩
end Lw
end
section
set_option Elab.async false
set_option linter.all false
set_option autoImplicit false
/-! Pd0: in, for lists of plain things. -/
namespace Lw
open PySem PySem.Spec PyProof.Rows L2
def okD (d : D) : Prop := (pyD d).canLay0 = true ∧ (pyD d).depth ≤ 3
theorem okDs : ∀ {xs : List D}, (∀ x ∈ xs, okD x) → PyData.canLayAll0 (pyDs xs) = true ∧ PyData.depthAll (pyDs xs) ≤ 3
  | [], _ => ⟨by simp [pyDs, PyData.canLayAll0], by simp [pyDs, PyData.depthAll]⟩
  | x :: xs, h => by
    obtain ⟨h1, h2⟩ := h x (.head _)
    obtain ⟨h3, h4⟩ := okDs (xs := xs) fun y hy => h y (.tail _ hy)
    exact ⟨by simp [pyDs, PyData.canLayAll0, h1, h3], by simp [pyDs, PyData.depthAll]; omega⟩
theorem shapedD {d : D} (h : okD d) : SeqAt.shaped (pyD d) = true := by
  have := h.2
  simp [SeqAt.shaped, h.1]; omega
theorem shapedL {xs : List D} (h : ∀ x ∈ xs, okD x) : SeqAt.shaped (.list (pyDs xs)) = true := by
  obtain ⟨h1, h2⟩ := okDs h
  simp [SeqAt.shaped, PyData.canLay0, PyData.depth, h1]; omega
theorem any_eqv {α : Type} [DecidableEq α] {inj : α → D} (hi : ∀ a b, PyData.eqv (pyD (inj a)) (pyD (inj b)) = decide (a = b)) (a : α) : ∀ xs : List α, ((pyDs (xs.map inj)).any fun z => PyData.eqv z (pyD (inj a))) = decide (a ∈ xs)
  | [] => by simp [pyDs]
  | x :: xs => by
    simp only [List.map_cons, pyDs, List.any_cons, hi, any_eqv hi a xs]
    by_cases h : x = a
    · simp [h]
    · have : ¬ a = x := fun e => h e.symm
      simp [h, this]
theorem in_list {α : Type} [DecidableEq α] {inj : α → D} (hi : ∀ a b, PyData.eqv (pyD (inj a)) (pyD (inj b)) = decide (a = b)) {st : Sto} {n : Nat} {xs : List α} {a : α} (h : st[n]? = some (.lst (xs.map inj))) (ha : okD (inj a)) (hx : ∀ x ∈ xs, okD (inj x)) :
    inB (inj a) (.loc n) st = some (decide (a ∈ xs)) := by
  have h2 : ∀ x ∈ xs.map inj, okD x := fun x hx' => by
    obtain ⟨y, hy, rfl⟩ := List.mem_map.mp hx'
    exact hx y hy
  simp only [inB, h, shapedD ha, shapedL h2, and_self, if_true, any_eqv hi]
theorem okI (i : Int) : okD (.int i) := ⟨by simp [pyD, PyData.canLay0], by simp [pyD, PyData.depth]⟩
theorem eqvI (a b : Int) : PyData.eqv (pyD (.int a)) (pyD (.int b)) = decide (a = b) := by
  simp only [pyD, PyData.eqv]; rfl
theorem in_intsL {st : Sto} {n : Nat} {xs : List Int} {a : Int} (h : st[n]? = some (.lst (xs.map .int))) : inB (.int a) (.loc n) st = some (decide (a ∈ xs)) :=
  in_list (inj := D.int) eqvI h (okI a) fun x _ => okI x
theorem okCh {k : Nat} (h : k < 200) : okD (chD k) := by
  refine ⟨?_, by simp [chD, pyD, PyData.depth]⟩
  simp [chD, pyD, PyData.canLay0, PyData.strOk]
  omega
theorem okTr {t : Int × Nat × Int} (h : t.2.1 < 200) : okD (tripD t) := by
  have := okCh h
  refine ⟨?_, ?_⟩
  · simp [tripD, pyD, pyDs, PyData.canLay0, PyData.canLayAll0]
    exact this.1
  · simp [tripD, pyD, pyDs, PyData.depth, PyData.depthAll, chD]
theorem eqvTr (a b : Int × Nat × Int) : PyData.eqv (pyD (tripD a)) (pyD (tripD b)) = decide (a = b) := by
  obtain ⟨a, k, c⟩ := a
  obtain ⟨a', k', c'⟩ := b
  simp only [tripD, chD, pyD, pyDs, PyData.eqv, PyData.eqvAll]
  rw [Bool.eq_iff_iff]
  simp
def ndD (x : Nd) : D := .tup [.int x.1, .int x.2.1, .bl x.2.2]
theorem okNd (x : Nd) : okD (ndD x) := ⟨by simp [ndD, pyD, pyDs, PyData.canLay0, PyData.canLayAll0], by simp [ndD, pyD, pyDs, PyData.depth, PyData.depthAll]⟩
theorem eqvNd (a b : Nd) : PyData.eqv (pyD (ndD a)) (pyD (ndD b)) = decide (a = b) := by
  obtain ⟨a, k, c⟩ := a
  obtain ⟨a', k', c'⟩ := b
  simp only [ndD, pyD, pyDs, PyData.eqv, PyData.eqvAll]
  rw [Bool.eq_iff_iff]
  simp
end Lw
end
section
set_option Elab.async false
set_option linter.all false
set_option autoImplicit false
/-! Pd4: automata are made. -/
namespace Lw
open PySem PySem.Spec PyProof.Rows L2
abbrev AlOk (al : List Nat) : Prop := al = [97] ∨ al = [97, 98]
theorem str_items (al : List Nat) : (ItD.str ⟨al.toArray⟩).items = al.map chD := by simp [ItD.items, chD]
theorem AlOk.rng {al : List Nat} (h : AlOk al) {k : Nat} (hk : k ∈ al) : k = 97 ∨ k = 98 := by
  rcases h with rfl | rfl <;> simp at hk <;> omega
theorem isal_ok {al : List Nat} (h : AlOk al) (st : Sto) : ok (p_is_alphabet [.str ⟨al.toArray⟩] st) fun p => p.1 = .bl true ∧ Fr [] st p.2 := by
  refine ok_run' fun N R hN hR => ?_
  simp only [b_is_alphabet, List.map_cons, List.map_nil, List.length_cons, List.length_nil, List.replicate, List.cons_append, List.nil_append, Nat.reduceAdd, Nat.reduceSub]
  rw [S_seq, S_if]
  simp only [fTru, ok_bind]
  refine ok_mono (P := fun p => p = (.loc st.length, st ++ [MO.lst []])) (fLc_ok ?_) ?_
  · simp only [fVar, fC, fOp, fUn, bool1, fTest, fChain, fAnd, fOr, fNot, fAndV, fOrV, fTru, fNil, fCons, fTup, fLst, fApp, fRng, fIt, foN, foS, int1, fSl, fBm, fCall, asg, sets, cmpD, tupD, lstD, ok_bind, ok_map, ok_some, ok_none, List.getElem?_cons_zero, List.getElem?_cons_succ, List.set_cons_zero, List.set_cons_succ, Option.bind_some, Option.map_some, wipeD, List.length_cons, List.length_nil, Nat.reduceAdd, if_true, List.getElem?_nil, itS]
    have := lc_pure (it := .str ⟨al.toArray⟩) (g := .nm 1) (ft := fNot (fTest (fChain (cmpD leB) (cmpD leB) (fC (.str ("a" : Str))) (fVar 1) (fC (.str ("z" : Str)))))) (fe := fVar 1) (ρ := [some (.str ⟨al.toArray⟩), none]) (st := st) (fun _ => false) id (ItD.str ⟨al.toArray⟩).items [] (fun _ => trivial) (by rcases h with rfl | rfl <;> simp [ItD.items]) (fun d hd => by
      rw [str_items] at hd
      obtain ⟨k, hk, rfl⟩ := List.mem_map.mp hd
      refine ⟨_, rfl, fun acc => ⟨?_, fun c => by cases c⟩⟩
      rcases h.rng hk with rfl | rfl <;> rfl)
    exact ⟨_, this, by simp⟩
  · rintro _ rfl
    simp only [truD, List.getElem?_concat_length, ok_some, List.isEmpty_nil, Bool.not_true, Bool.false_eq_true, if_false, S_nx]
    rw [S_ret]
    have e1 : listS [.str ⟨al.toArray⟩] (st ++ [MO.lst []]) = some (.loc (st ++ [MO.lst []]).length, st ++ [MO.lst []] ++ [MO.lst (al.map chD)]) := by
      rcases h with rfl | rfl <;> simp [listS, Str.length]
    have e2 : ssS (.str ⟨al.toArray⟩) (st ++ [MO.lst []] ++ [MO.lst (al.map chD)]) = some (.loc (st ++ [MO.lst []] ++ [MO.lst (al.map chD)]).length, st ++ [MO.lst []] ++ [MO.lst (al.map chD)] ++ [MO.lst (al.map chD)]) := by
      rcases h with rfl | rfl <;> simp [ssS, Str.length, gsort, gins, ltN]
    simp only [fVar, fC, fOp, fUn, bool1, fTest, fChain, fAnd, fOr, fNot, fAndV, fOrV, fTru, fNil, fCons, fTup, fLst, fApp, fRng, fIt, foN, foS, int1, fSl, fBm, fCall, asg, sets, cmpD, tupD, lstD, ok_bind, ok_map, ok_some, ok_none, List.getElem?_cons_zero, List.getElem?_cons_succ, List.set_cons_zero, List.set_cons_succ, Option.bind_some, Option.map_some, wipeD, List.length_cons, List.length_nil, Nat.reduceAdd, if_true, List.getElem?_nil, e1, e2]
    have hq : ∀ x ∈ al.map chD, okD x := fun x hx => by
      obtain ⟨k, hk, rfl⟩ := List.mem_map.mp hx
      exact okCh (by have := h.rng hk; omega)
    have e3 : eqB (.loc (st ++ [MO.lst []]).length) (.loc (st ++ [MO.lst []] ++ [MO.lst (al.map chD)]).length) (st ++ [MO.lst []] ++ [MO.lst (al.map chD)] ++ [MO.lst (al.map chD)]) = some true := by
      have g1 : (st ++ [MO.lst []] ++ [MO.lst (al.map chD)] ++ [MO.lst (al.map chD)])[(st ++ [MO.lst []]).length]? = some (.lst (al.map chD)) := by
        rw [List.getElem?_append_left (by simp), List.getElem?_concat_length]
      have g2 : (st ++ [MO.lst []] ++ [MO.lst (al.map chD)] ++ [MO.lst (al.map chD)])[(st ++ [MO.lst []] ++ [MO.lst (al.map chD)]).length]? = some (.lst (al.map chD)) := by
        rw [List.getElem?_concat_length]
      simp only [eqB, g1, g2]
      rw [if_pos ⟨shapedL hq, shapedL hq⟩]
      rcases h with rfl | rfl <;> simp [pyDs, chD, pyD, PyData.eqv, PyData.eqvAll]
    rw [e3]
    simp only [Option.map_some, ok_some]
    exact hR _ _ ⟨rfl, ((Fr.app _).trans (.app _)).trans (.app _)⟩
end Lw
end
section
set_option Elab.async false
set_option linter.all false
set_option autoImplicit false
/-! Pd5: an automaton is made. -/
namespace Lw
open PySem PySem.Spec PyProof.Rows L2
theorem gT_map {α : Type} (kvs : List (NestedKey × α)) (k : NestedKey) (v : α) (k' : NestedKey) : gT (kvs.map fun kv => if kv.1 = k then (kv.1, v) else kv) k' = if k' = k ∧ (gT kvs k).isSome = true then some v else gT kvs k' := by
  induction kvs with
  | nil => simp [gT]
  | cons p r ih =>
    rw [List.map_cons, gT_cons, ih, gT_cons, gT_cons]
    by_cases h1 : p.1 = k
    · by_cases h2 : k' = k
      · simp [h1, h2]
      · have : ¬ k = k' := fun e => h2 e.symm
        simp [h1, h2, this]
    · by_cases h2 : k' = k
      · subst h2
        simp [h1]
      · simp [h1, h2]
theorem gT_app {α : Type} (kvs : List (NestedKey × α)) (k : NestedKey) (v : α) (k' : NestedKey) : gT (kvs ++ [(k, v)]) k' = (gT kvs k').or (if k = k' then some v else none) := by
  induction kvs with
  | nil => rw [List.nil_append, gT_cons]; simp [gT]
  | cons p r ih =>
    rw [List.cons_append, gT_cons, ih, gT_cons]
    by_cases h1 : p.1 = k' <;> simp [h1]
theorem gT_pT {α : Type} (kvs : List (NestedKey × α)) (k : NestedKey) (v : α) (k' : NestedKey) : gT (pT kvs k v) k' = if k' = k then some v else gT kvs k' := by
  unfold pT
  by_cases h : (gT kvs k).isSome = true
  · rw [if_pos h, gT_map]
    simp [h]
  · rw [if_neg h, gT_app]
    by_cases h2 : k' = k
    · subst h2
      have : gT kvs k' = none := by simpa using h
      simp [this]
    · have : ¬ k = k' := fun e => h2 e.symm
      simp [h2, this]
theorem pT_len {α : Type} (kvs : List (NestedKey × α)) (k : NestedKey) (v : α) : (pT kvs k v).length ≤ kvs.length + 1 := by
  unfold pT; split <;> simp
theorem lenCh (k : Nat) (st : Sto) : lenD [chD k] st = some (.int 1, st) := by
  have : Str.length ⟨#[k]⟩ = 1 := rfl
  simp [lenD, chD, this]
theorem putG1 (v : D) : putG ("alphabet" : Str) v [] = ([("alphabet", v)] : List (Str × D)) := rfl
theorem putG2 (a v : D) : putG ("size" : Str) v [("alphabet", a)] = ([("alphabet", a), ("size", v)] : List (Str × D)) := rfl
theorem putG3 (a b v : D) : putG ("begins" : Str) v [("alphabet", a), ("size", b)] = ([("alphabet", a), ("size", b), ("begins", v)] : List (Str × D)) := rfl
theorem putG4 (a b c v : D) : putG ("ends" : Str) v [("alphabet", a), ("size", b), ("begins", c)] = ([("alphabet", a), ("size", b), ("begins", c), ("ends", v)] : List (Str × D)) := rfl
theorem putG5 (a b c d v : D) : putG ("rows" : Str) v [("alphabet", a), ("size", b), ("begins", c), ("ends", d)] = ([("alphabet", a), ("size", b), ("begins", c), ("ends", d), ("rows", v)] : List (Str × D)) := rfl
theorem putG6 (a b c d e v : D) : putG ("ways" : Str) v [("alphabet", a), ("size", b), ("begins", c), ("ends", d), ("rows", e)] = ([("alphabet", a), ("size", b), ("begins", c), ("ends", d), ("rows", e), ("ways", v)] : List (Str × D)) := rfl
def autOf (al : List Nat) (n : Nat) (fi la : List Int) (tr : List (Int × Nat × Int)) : Aut := ⟨al, n, gsort ltI fi, gsort ltI la, gsort ltT tr⟩
/-- what an automaton may be made of -/
structure MkOk (al : List Nat) (n : Nat) (fi la : List Int) (tr : List (Int × Nat × Int)) : Prop where
  alo : AlOk al
  fl : fi.length < 60
  ll : la.length < 60
  tl : tr.length < 60
  fr : ∀ s ∈ fi, 0 ≤ s ∧ s < n
  lr : ∀ s ∈ la, 0 ≤ s ∧ s < n
  tr_ : ∀ t ∈ tr, 0 ≤ t.1 ∧ t.1 < n ∧ 0 ≤ t.2.2 ∧ t.2.2 < n ∧ t.2.1 ∈ al
theorem MkOk.aut {al : List Nat} {n : Nat} {fi la : List Int} {tr : List (Int × Nat × Int)} (h : MkOk al n fi la tr) : (autOf al n fi la tr).Ok :=
  ⟨up_nd linI (gsort_up linI fi), up_nd linT (gsort_up linT tr), fun s hs => h.fr s ((gsort_mem linI s fi).mp hs), fun s hs => h.lr s ((gsort_mem linI s la).mp hs), fun t ht => h.tr_ t ((gsort_mem linT t tr).mp ht)⟩
theorem trips_map : ∀ (tr : List (Int × Nat × Int)), tripsD (tr.map tripD) = some tr
  | [] => rfl
  | (a, k, b) :: r => by simp [tripsD, tripD, chD, trips_map r]
theorem kd2' (s : Int) (k : Nat) : keyT (.tup [.int s, .str ⟨#[k]⟩]) = some (.tup [.num s, .text ⟨#[k]⟩]) := kd2 s k
/-- the dict of ways after some rows -/
def wyR (rows : List (Int × Nat × Int)) (kvs : List (NestedKey × D)) : Prop := wyA ⟨[], 0, [], [], rows⟩ kvs
theorem wyR_step {rows : List (Int × Nat × Int)} {kvs : List (NestedKey × D)} (h : wyR rows kvs) (a : Int) (k : Nat) (b : Int) :
    ∃ l : List Int, (gT kvs (.tup [.num a, .text ⟨#[k]⟩])).getD (.tup []) = .tup (l.map .int) ∧ l.length ≤ rows.length ∧ wyR (rows ++ [(a, k, b)]) (pT kvs (.tup [.num a, .text ⟨#[k]⟩]) (.tup ((l ++ [b]).map .int))) := by
  refine ⟨nx ⟨[], 0, [], [], rows⟩ a k, ?_, ?_, ?_⟩
  · rw [h a k]
    split
    · rename_i c; rw [c]; rfl
    · rfl
  · unfold nx
    rw [List.length_map]
    exact List.length_filter_le _ _
  · intro s c
    rw [gT_pT]
    by_cases e : s = a ∧ c = k
    · obtain ⟨rfl, rfl⟩ := e
      simp [nx, intsT]
    · have : ¬ (NestedKey.tup [.num s, .text ⟨#[c]⟩] = .tup [.num a, .text ⟨#[k]⟩]) := by
        intro q; simp at q; exact e q
      rw [if_neg this, h s c]
      have : nx ⟨[], 0, [], [], rows ++ [(a, k, b)]⟩ s c = nx ⟨[], 0, [], [], rows⟩ s c := by
        have : (decide (a = s) && decide (k = c)) = false := by
          rw [Bool.and_eq_false_iff]; simp only [decide_eq_false_iff_not]
          by_cases h1 : a = s
          · exact .inr fun h2 => e ⟨h1.symm, h2.symm⟩
          · exact .inl h1
        simp [nx, this]
      rw [this]
theorem fld_ok {fv : FE} {ρ : Env'} {st : Sto} {N : Env' → Sto → Prop} {R : D → Sto → Prop} {f : Str} {fs : List (Str × D)} {a : Nat} (h0 : ρ[0]? = some (some (.loc a))) (hl : fs.length < 1000)
    (h : ok (fv ρ st) fun v => v.2[a]? = some (.ins CA fs) ∧ (∀ u, u = v.2.set a (.ins CA (putG f v.1 fs)) → Fr [a] v.2 u → u[a]? = some (.ins CA (putG f v.1 fs)) → N ρ u)) : S (sFldD "Automaton" f (fVar 0) fv) ρ st N R := by
  rw [S_fld]
  refine ok_mono h ?_
  rintro ⟨v, u⟩ ⟨h1, h2⟩
  simp only at h1 h2
  simp only [fVar, h0, ok_some, setFld, h1]
  rw [if_pos ⟨trivial, hl⟩, ok_some]
  exact h2 _ rfl ((Fr.refl).set (.inr (by simp)) _) (List.getElem?_set_self (List.getElem?_eq_some_iff.mp h1).1)
theorem init_ok {st : Sto} {a f l s n : Nat} {al : List Nat} {fi la : List Int} {tr : List (Int × Nat × Int)} (h : MkOk al n fi la tr) (ha : st[a]? = some (.ins CA [])) (hp : AtP st fi la tr f l s) :
    ok (p_init [.loc a, .str ⟨al.toArray⟩, .int n, .loc f, .loc l, .loc s] st) fun p => p.1 = .non ∧ AtA p.2 a (autOf al n fi la tr) ∧ Fr [a] st p.2 := by
  have alt : a < st.length := (List.getElem?_eq_some_iff.mp ha).1
  refine ok_run' fun N R hN hR => ?_
  simp only [b_init, List.map_cons, List.map_nil, List.length_cons, List.length_nil, List.replicate, List.cons_append, List.nil_append, Nat.reduceAdd, Nat.reduceSub]
  rw [S_seq, S_if]
  simp only [fVar, fC, fOp, fUn, bool1, fTest, fChain, fAnd, fOr, fNot, fAndV, fOrV, fTru, fNil, fCons, fTup, fLst, fApp, fRng, fIt, foN, foS, int1, fSl, fBm, fCall, asg, sets, cmpD, tupD, lstD, ok_bind, ok_map, ok_some, ok_none, List.getElem?_cons_zero, List.getElem?_cons_succ, List.set_cons_zero, List.set_cons_succ, Option.bind_some, Option.map_some, wipeD, List.length_cons, List.length_nil, Nat.reduceAdd, if_true, List.getElem?_nil]
  refine ok_mono (isal_ok h.alo st) ?_
  rintro ⟨_, s1⟩ ⟨rfl, f1⟩
  simp only [truD, ok_some, Bool.not_true, Bool.false_eq_true, if_false, S_nx] at f1 ⊢
  rw [S_seq, S_if]
  have hn : ¬ ((n : Int) < 0) := by omega
  simp only [fVar, fC, fOp, fUn, bool1, fTest, fChain, fAnd, fOr, fNot, fAndV, fOrV, fTru, fNil, fCons, fTup, fLst, fApp, fRng, fIt, foN, foS, int1, fSl, fBm, fCall, asg, sets, cmpD, tupD, lstD, ok_bind, ok_map, ok_some, ok_none, List.getElem?_cons_zero, List.getElem?_cons_succ, List.set_cons_zero, List.set_cons_succ, Option.bind_some, Option.map_some, wipeD, List.length_cons, List.length_nil, Nat.reduceAdd, if_true, List.getElem?_nil, ltB, decide_eq_true_eq, if_neg hn, S_nx]
  rw [S_seq, S_if]
  simp only [fTru, ok_bind]
  refine ok_mono (P := fun p => ∃ m, p.1 = .loc m ∧ p.2[m]? = some (.lst []) ∧ Fr [] s1 p.2) (fLc_ok ?_) ?_
  · have e1 : listD [.loc f] s1 = some (.loc s1.length, s1 ++ [MO.lst (fi.map D.int)]) := by simp [listD, f1.get hp.f]
    have e2 : listD [.loc l] (s1 ++ [MO.lst (fi.map D.int)]) = some (.loc (s1.length + 1), s1 ++ [MO.lst (fi.map D.int)] ++ [MO.lst (la.map D.int)]) := by
      have : (s1 ++ [MO.lst (fi.map D.int)])[l]? = some (.lst (la.map D.int)) := (Fr.app (X := []) _).get (f1.get hp.l (by simp)) (by simp)
      simp [listD, this]
    have e3 : addD (.loc s1.length) (.loc (s1.length + 1)) (s1 ++ [MO.lst (fi.map D.int)] ++ [MO.lst (la.map D.int)]) = some (.loc (s1.length + 2), s1 ++ [MO.lst (fi.map D.int)] ++ [MO.lst (la.map D.int)] ++ [MO.lst ((fi ++ la).map D.int)]) := by
      have h1 := h.fl
      have h2 := h.ll
      have h3 : fi.length + la.length ≤ 100000 := by omega
      simp [addD, h3]
    generalize hS : s1 ++ [MO.lst (fi.map D.int)] ++ [MO.lst (la.map D.int)] ++ [MO.lst ((fi ++ la).map D.int)] = S3 at e3
    have g3 : S3[s1.length + 2]? = some (.lst ((fi ++ la).map D.int)) := by rw [← hS]; simp
    have fS : Fr [] s1 S3 := by rw [← hS]; exact ((Fr.app _).trans (.app _)).trans (.app _)
    simp only [fVar, fC, fOp, fUn, bool1, fTest, fChain, fAnd, fOr, fNot, fAndV, fOrV, fTru, fNil, fCons, fTup, fLst, fApp, fRng, fIt, foN, foS, int1, fSl, fBm, fCall, asg, sets, cmpD, tupD, lstD, ok_bind, ok_map, ok_some, ok_none, List.getElem?_cons_zero, List.getElem?_cons_succ, List.set_cons_zero, List.set_cons_succ, Option.bind_some, Option.map_some, wipeD, List.length_cons, List.length_nil, Nat.reduceAdd, if_true, List.getElem?_nil, e1, e2, e3, itL, g3]
    refine ok_of (lc_pure (st := S3) (fun _ => false) id _ [] (fun m => ?_) ?_ fun d hd => ?_) ?_
    · exact (Fr.app (X := []) _).get g3 (by simp)
    · have h1 := h.fl
      have h2 := h.ll
      simp [ItD.items]; omega
    · simp only [ItD.items] at hd
      obtain ⟨v, hv, rfl⟩ := List.mem_map.mp hd
      have hv : 0 ≤ v ∧ v < n := (List.mem_append.mp hv).elim (h.fr v) (h.lr v)
      refine ⟨_, rfl, fun acc => ⟨?_, fun c => by cases c⟩⟩
      simp only [fVar, fC, fOp, fUn, bool1, fTest, fChain, fAnd, fOr, fNot, fAndV, fOrV, fTru, fNil, fCons, fTup, fLst, fApp, fRng, fIt, foN, foS, int1, fSl, fBm, fCall, asg, sets, cmpD, tupD, lstD, ok_bind, ok_map, ok_some, ok_none, List.getElem?_cons_zero, List.getElem?_cons_succ, List.set_cons_zero, List.set_cons_succ, Option.bind_some, Option.map_some, wipeD, List.length_cons, List.length_nil, Nat.reduceAdd, if_true, List.getElem?_nil, leB, ltB, hv.1, hv.2, decide_true, Bool.not_true]
    · exact ⟨S3.length, rfl, by simp, fS.trans (.app _)⟩
  · rintro ⟨_, s2⟩ ⟨m, rfl, g2, f2⟩
    simp only at g2 f2
    simp only [truD, g2, ok_some, List.isEmpty_nil, Bool.not_true, Bool.false_eq_true, if_false, S_nx]
    rw [S_seq, S_for]
    have f02 := f1.trans f2
    have hs2 := f02.get hp.s (by simp)
    simp only [fVar, fC, fOp, fUn, bool1, fTest, fChain, fAnd, fOr, fNot, fAndV, fOrV, fTru, fNil, fCons, fTup, fLst, fApp, fRng, fIt, foN, foS, int1, fSl, fBm, fCall, asg, sets, cmpD, tupD, lstD, ok_bind, ok_map, ok_some, ok_none, List.getElem?_cons_zero, List.getElem?_cons_succ, List.set_cons_zero, List.set_cons_succ, Option.bind_some, Option.map_some, wipeD, List.length_cons, List.length_nil, Nat.reduceAdd, if_true, List.getElem?_nil, itL, hs2]
    refine for_ok (fun i ρ s' => ∃ x6 x7 x8 : Option D, ρ = [some (.loc a), some (.str ⟨al.toArray⟩), some (.int n), some (.loc f), some (.loc l), some (.loc s), x6, x7, x8, none] ∧ s' = s2) ⟨none, none, none, rfl, rfl⟩ (fun i ρ s' h => by obtain ⟨_, _, _, _, rfl⟩ := h; exact hs2) ?_ ?_
    · rintro i d ρ s' hd ⟨x6, x7, x8, rfl, rfl⟩
      simp only [ItD.items, List.getElem?_map] at hd
      obtain ⟨t, ht, rfl⟩ := Option.map_eq_some_iff.mp hd
      have hm := h.tr_ t (List.mem_of_getElem? ht)
      have ha : inB (chD t.2.1) (.str ⟨al.toArray⟩) s' = some true := by
        have := in_al t.2.1 ⟨al, n, [], [], []⟩ s'
        simp only [alS] at this
        rw [this]; simp [hm.2.2.2.2]
      rw [tripD, asg]
      simp only [List.length_cons, List.length_nil, if_true, sets, List.set_cons_succ, List.set_cons_zero, ok_some]
      rw [S_if]
      simp only [fVar, fC, fOp, fUn, bool1, fTest, fChain, fAnd, fOr, fNot, fAndV, fOrV, fTru, fNil, fCons, fTup, fLst, fApp, fRng, fIt, foN, foS, int1, fSl, fBm, fCall, asg, sets, cmpD, tupD, lstD, ok_bind, ok_map, ok_some, ok_none, List.getElem?_cons_zero, List.getElem?_cons_succ, List.set_cons_zero, List.set_cons_succ, Option.bind_some, Option.map_some, wipeD, List.length_cons, List.length_nil, Nat.reduceAdd, if_true, List.getElem?_nil, leB, ltB, hm.1, hm.2.1, hm.2.2.1, hm.2.2.2.1, decide_true, Bool.not_true, Bool.false_eq_true, if_false, lenCh, neB, notInB, ha]
      rw [S_nx]
      exact ⟨_, _, _, rfl, rfl⟩
    rintro ρ s' ⟨x6, x7, x8, rfl, rfl⟩
    -- the fields
    have ga : s'[a]? = some (.ins CA []) := f02.get ha (by simp)
    have la' : a < s'.length := (List.getElem?_eq_some_iff.mp ga).1
    have gf := f02.get hp.f (by simp)
    have gl := f02.get hp.l (by simp)
    have nf : f ∉ [a] := by simp; rintro rfl; rw [ga] at gf; cases gf
    have nl : l ∉ [a] := by simp; rintro rfl; rw [ga] at gl; cases gl
    have ns : s ∉ [a] := by simp; rintro rfl; rw [ga] at hs2; cases hs2
    rw [S_seq]
    refine fld_ok (fs := []) rfl (by simp) ?_
    simp only [fVar, fC, fOp, fUn, bool1, fTest, fChain, fAnd, fOr, fNot, fAndV, fOrV, fTru, fNil, fCons, fTup, fLst, fApp, fRng, fIt, foN, foS, int1, fSl, fBm, fCall, asg, sets, cmpD, tupD, lstD, ok_bind, ok_map, ok_some, ok_none, List.getElem?_cons_zero, List.getElem?_cons_succ, List.set_cons_zero, List.set_cons_succ, Option.bind_some, Option.map_some, wipeD, List.length_cons, List.length_nil, Nat.reduceAdd, if_true, List.getElem?_nil]
    refine ⟨ga, fun u1 _ k1 g1 => ?_⟩
    rw [putG1] at g1
    rw [S_seq]
    refine fld_ok (fs := [("alphabet", .str ⟨al.toArray⟩)]) rfl (by simp) ?_
    simp only [fVar, fC, fOp, fUn, bool1, fTest, fChain, fAnd, fOr, fNot, fAndV, fOrV, fTru, fNil, fCons, fTup, fLst, fApp, fRng, fIt, foN, foS, int1, fSl, fBm, fCall, asg, sets, cmpD, tupD, lstD, ok_bind, ok_map, ok_some, ok_none, List.getElem?_cons_zero, List.getElem?_cons_succ, List.set_cons_zero, List.set_cons_succ, Option.bind_some, Option.map_some, wipeD, List.length_cons, List.length_nil, Nat.reduceAdd, if_true, List.getElem?_nil]
    refine ⟨g1, fun u2 _ k2 g2 => ?_⟩
    rw [putG2] at g2
    have k12 := k1.trans k2
    have e1 : ssI (.loc f) u2 = some (.loc u2.length, u2 ++ [.lst ((gsort ltI fi).map .int)]) := by
      simp [ssI, k12.get gf nf, ints_map, h.fl]
    rw [S_seq]
    refine fld_ok (fs := [("alphabet", .str ⟨al.toArray⟩), ("size", .int n)]) rfl (by simp) ?_
    simp only [fVar, fC, fOp, fUn, bool1, fTest, fChain, fAnd, fOr, fNot, fAndV, fOrV, fTru, fNil, fCons, fTup, fLst, fApp, fRng, fIt, foN, foS, int1, fSl, fBm, fCall, asg, sets, cmpD, tupD, lstD, ok_bind, ok_map, ok_some, ok_none, List.getElem?_cons_zero, List.getElem?_cons_succ, List.set_cons_zero, List.set_cons_succ, Option.bind_some, Option.map_some, wipeD, List.length_cons, List.length_nil, Nat.reduceAdd, if_true, List.getElem?_nil, e1, tupleD, List.getElem?_concat_length]
    refine ⟨(Fr.app (X := []) _).get g2 (by simp), fun u3 _ k3 g3 => ?_⟩
    rw [putG3] at g3
    have k23 := (k12.trans (.app _)).trans k3
    have e2 : ssI (.loc l) u3 = some (.loc u3.length, u3 ++ [.lst ((gsort ltI la).map .int)]) := by
      simp [ssI, k23.get gl nl, ints_map, h.ll]
    rw [S_seq]
    refine fld_ok (fs := [("alphabet", .str ⟨al.toArray⟩), ("size", .int n), ("begins", intsT (gsort ltI fi))]) rfl (by simp) ?_
    simp only [fVar, fC, fOp, fUn, bool1, fTest, fChain, fAnd, fOr, fNot, fAndV, fOrV, fTru, fNil, fCons, fTup, fLst, fApp, fRng, fIt, foN, foS, int1, fSl, fBm, fCall, asg, sets, cmpD, tupD, lstD, ok_bind, ok_map, ok_some, ok_none, List.getElem?_cons_zero, List.getElem?_cons_succ, List.set_cons_zero, List.set_cons_succ, Option.bind_some, Option.map_some, wipeD, List.length_cons, List.length_nil, Nat.reduceAdd, if_true, List.getElem?_nil, e2, tupleD, List.getElem?_concat_length]
    refine ⟨(Fr.app (X := []) _).get g3 (by simp), fun u4 _ k4 g4 => ?_⟩
    rw [putG4] at g4
    have k34 := (k23.trans (.app _)).trans k4
    have hs4 := k34.get hs2 ns
    rw [S_seq]
    refine fld_ok (fs := [("alphabet", .str ⟨al.toArray⟩), ("size", .int n), ("begins", intsT (gsort ltI fi)), ("ends", intsT (gsort ltI la))]) rfl (by simp) ?_
    rw [fUn, ok_bind]
    refine ok_mono (P := fun p => p = (.loc u4.length, u4 ++ [MO.lst (tr.map tripD)])) (fLc_ok ?_) ?_
    · simp only [fVar, fC, fOp, fUn, bool1, fTest, fChain, fAnd, fOr, fNot, fAndV, fOrV, fTru, fNil, fCons, fTup, fLst, fApp, fRng, fIt, foN, foS, int1, fSl, fBm, fCall, asg, sets, cmpD, tupD, lstD, ok_bind, ok_map, ok_some, ok_none, List.getElem?_cons_zero, List.getElem?_cons_succ, List.set_cons_zero, List.set_cons_succ, Option.bind_some, Option.map_some, wipeD, List.length_cons, List.length_nil, Nat.reduceAdd, if_true, List.getElem?_nil, itL, hs4]
      refine ok_of (lc_pure (st := u4) (fun _ => true) id _ [] (fun m => ?_) ?_ fun d hd => ?_) ?_
      · exact (Fr.app (X := []) _).get hs4 (by simp)
      · have := h.tl
        simp [ItD.items]; omega
      · simp only [ItD.items] at hd
        obtain ⟨t, ht, rfl⟩ := List.mem_map.mp hd
        refine ⟨_, rfl, fun acc => ⟨rfl, fun c => ?_⟩⟩
        simp only [fVar, fC, fOp, fUn, bool1, fTest, fChain, fAnd, fOr, fNot, fAndV, fOrV, fTru, fNil, fCons, fTup, fLst, fApp, fRng, fIt, foN, foS, int1, fSl, fBm, fCall, asg, sets, cmpD, tupD, lstD, ok_bind, ok_map, ok_some, ok_none, List.getElem?_cons_zero, List.getElem?_cons_succ, List.set_cons_zero, List.set_cons_succ, Option.bind_some, Option.map_some, wipeD, List.length_cons, List.length_nil, Nat.reduceAdd, if_true, List.getElem?_nil]
        rfl
      · simp [ItD.items]
    rintro _ rfl
    have e3 : ssT (.loc u4.length) (u4 ++ [MO.lst (tr.map tripD)]) = some (.loc (u4.length + 1), u4 ++ [MO.lst (tr.map tripD)] ++ [MO.lst ((gsort ltT tr).map tripD)]) := by
      simp [ssT, trips_map, h.tl]
    rw [e3, ok_some]
    refine ⟨((Fr.app (X := []) _).trans (.app _)).get g4 (by simp), fun u5 e5 k5 g5 => ?_⟩
    rw [putG5] at g5
    have alt4 : a < u4.length := (List.getElem?_eq_some_iff.mp g4).1
    have r5 : u5[u4.length + 1]? = some (.lst ((gsort ltT tr).map tripD)) := k5.get (by simp) (by simp; omega)
    rw [S_seq]
    refine fld_ok (fs := [("alphabet", .str ⟨al.toArray⟩), ("size", .int n), ("begins", intsT (gsort ltI fi)), ("ends", intsT (gsort ltI la)), ("rows", .loc (u4.length + 1))]) rfl (by simp) ?_
    simp only [fNewT, ok_some]
    refine ⟨(Fr.app (X := []) _).get g5 (by simp), fun u6 e6 k6 g6 => ?_⟩
    rw [putG6] at g6
    have alt5 : a < u5.length := (List.getElem?_eq_some_iff.mp g5).1
    have r6 : u6[u4.length + 1]? = some (.lst ((gsort ltT tr).map tripD)) := ((Fr.app _).trans k6).get r5 (by simp; omega)
    have w6 : u6[u5.length]? = some (.dT []) := k6.get (by simp) (by simp; omega)
    have kk : Fr [a] st u6 := (f02.wk (by simp)).trans (((k34.trans ((Fr.app _).trans (.app _))).trans k5).trans ((Fr.app _).trans k6))
    have w45 : u4.length + 1 < u5.length := (List.getElem?_eq_some_iff.mp r5).1
    have stl : st.length ≤ u5.length := ((f02.wk (by simp)).trans ((k34.trans ((Fr.app _).trans (.app _))).trans k5)).le
    rw [S_for]
    simp only [fVar, fC, fOp, fUn, bool1, fTest, fChain, fAnd, fOr, fNot, fAndV, fOrV, fTru, fNil, fCons, fTup, fLst, fApp, fRng, fIt, foN, foS, int1, fSl, fBm, fCall, asg, sets, cmpD, tupD, lstD, ok_bind, ok_map, ok_some, ok_none, List.getElem?_cons_zero, List.getElem?_cons_succ, List.set_cons_zero, List.set_cons_succ, Option.bind_some, Option.map_some, wipeD, List.length_cons, List.length_nil, Nat.reduceAdd, if_true, List.getElem?_nil, fFld, g6, if_true, show (List.lookup ("rows" : Str) ([("alphabet", .str ⟨al.toArray⟩), ("size", .int n), ("begins", intsT (gsort ltI fi)), ("ends", intsT (gsort ltI la)), ("rows", .loc (u4.length + 1)), ("ways", .loc u5.length)] : List (Str × D))) = some (.loc (u4.length + 1)) from rfl, itL, r6]
    refine for_ok (fun i ρ s' => ∃ (x6 x7 x8 : Option D) (kvs : List (NestedKey × D)), ρ = [some (.loc a), some (.str ⟨al.toArray⟩), some (.int n), some (.loc f), some (.loc l), some (.loc s), x6, x7, x8, none] ∧
      s'[a]? = some (.ins CA (fldA (autOf al n fi la tr) (u4.length + 1) u5.length)) ∧ s'[u4.length + 1]? = some (.lst ((gsort ltT tr).map tripD)) ∧ s'[u5.length]? = some (.dT kvs) ∧ kvs.length ≤ i ∧ wyR ((gsort ltT tr).take i) kvs ∧ Fr [a] st s') ⟨_, _, _, [], rfl, g6, r6, w6, Nat.le_refl _, fun s k => by simp [gT, nx], kk⟩ (fun i ρ s' h => by obtain ⟨_, _, _, _, _, _, h, _⟩ := h; exact h) ?_ ?_
    · rintro i d ρ s' hd ⟨x6, x7, x8, kvs, rfl, q1, q2, q3, q4, q5, q6⟩
      simp only [ItD.items, List.getElem?_map] at hd
      obtain ⟨t, ht, rfl⟩ := Option.map_eq_some_iff.mp hd
      obtain ⟨b, k, e⟩ := t
      obtain ⟨ws, w1, w2, w3⟩ := wyR_step q5 b k e
      rw [tripD, asg]
      simp only [List.length_cons, List.length_nil, if_true, sets, List.set_cons_succ, List.set_cons_zero, ok_some]
      rw [S_put]
      have hw : (ws.map D.int).length + 1 ≤ 100000 := by
        have h1 := gsort_len linT tr
        have h2 := h.tl
        have h3 : ((gsort ltT tr).take i).length ≤ (gsort ltT tr).length := by rw [List.length_take]; exact Nat.min_le_right _ _
        simp; omega
      have hi : i < (gsort ltT tr).length := (List.getElem?_eq_some_iff.mp ht).1
      have hk : kvs.length < 100000 := by
        have h1 := gsort_len linT tr
        have h2 := h.tl
        omega
      have et : (gsort ltT tr).take (i + 1) = (gsort ltT tr).take i ++ [(b, k, e)] := by
        rw [List.take_add_one, ht]; rfl
      simp only [fVar, fC, fOp, fUn, bool1, fTest, fChain, fAnd, fOr, fNot, fAndV, fOrV, fTru, fNil, fCons, fTup, fLst, fApp, fRng, fIt, foN, foS, int1, fSl, fBm, fCall, asg, sets, cmpD, tupD, lstD, ok_bind, ok_map, ok_some, ok_none, List.getElem?_cons_zero, List.getElem?_cons_succ, List.set_cons_zero, List.set_cons_succ, Option.bind_some, Option.map_some, wipeD, List.length_cons, List.length_nil, Nat.reduceAdd, if_true, List.getElem?_nil, fGet2, fFld, q1, if_true, fl_wy, isDT, q3, getOrD, kd2, w1, Nat.zero_le, Nat.reduceLeDiff, addD, hw, putD, hk]
      refine ⟨_, _, _, pT kvs (.tup [.num b, .text ⟨#[k]⟩]) (.tup (ws.map D.int ++ [D.int e])), rfl, ?_, ?_, ?_, ?_, ?_, q6.set (.inl stl) _⟩
      · rw [List.getElem?_set_ne (by omega), q1]
      · rw [List.getElem?_set_ne (by omega), q2]
      · rw [List.getElem?_set_self (List.getElem?_eq_some_iff.mp q3).1]
      · have := pT_len kvs (.tup [.num b, .text ⟨#[k]⟩]) (.tup (ws.map D.int ++ [D.int e]))
        omega
      · rw [et]
        simpa using w3
    · rintro ρ s' ⟨x6, x7, x8, kvs, rfl, q1, q2, q3, q4, q5, q6⟩
      refine hN _ _ ⟨rfl, ⟨_, _, kvs, q1, q3, ?_⟩, q6⟩
      simp only [ItD.items, List.length_map, List.take_length] at q5
      exact q5
end Lw
end
section
set_option Elab.async false
set_option linter.all false
set_option autoImplicit false
/-! Pd6: made ones, sets of next states. -/
namespace Lw
open PySem PySem.Spec PyProof.Rows L2
theorem Fr.drop1 {st s t : Sto} {a : Nat} (h : Fr [] st s) (g : Fr [a] s t) (ha : st.length ≤ a) : Fr [] st t :=
  ⟨Nat.le_trans h.le g.le, fun i hi _ => (g.at_ i (Nat.lt_of_lt_of_le hi h.le) (by simp; omega)).trans (h.at_ i hi (by simp))⟩
theorem AtP.fr {st st' : Sto} {fi la : List Int} {tr : List (Int × Nat × Int)} {f l s : Nat} (h : AtP st fi la tr f l s) (g : Fr [] st st') : AtP st' fi la tr f l s := ⟨g.get h.f (by simp), g.get h.l (by simp), g.get h.s (by simp)⟩
theorem make_ok {ρ : Env'} {ga : FA} {st : Sto} {Q : D × Sto → Prop} (h : ok (ga ρ st) fun q => ∃ al n fi la tr f l s, q.1 = [.str ⟨al.toArray⟩, .int (n : Nat), .loc f, .loc l, .loc s] ∧ MkOk al n fi la tr ∧ AtP q.2 fi la tr f l s ∧
      ∀ u, Fr [] q.2 u → AtA u q.2.length (autOf al n fi la tr) → Q (.loc q.2.length, u)) : ok (fMake "Automaton" 6 p_init ga ρ st) Q := by
  unfold fMake
  rw [ok_bind]
  refine ok_mono h ?_
  rintro ⟨_, s1⟩ ⟨al, n, fi, la, tr, f, l, s, rfl, hm, hp, hQ⟩
  simp only at hp hQ
  simp only [List.length_cons, List.length_nil, Nat.reduceAdd, if_true, ok_bind]
  refine ok_mono (init_ok (a := s1.length) hm (by simp) (hp.fr (.app _))) ?_
  rintro ⟨_, s2⟩ ⟨rfl, h1, h2⟩
  simp only [thenNon, ok_some]
  exact hQ _ (Fr.drop1 (.app _) h2 (Nat.le_refl _)) h1
theorem PtOk.mkOk {al : List Nat} {n : Nat} {fi la : List Int} {tr : List (Int × Nat × Int)} (h : PtOk al n fi la tr) (ha : AlOk al) : MkOk al n fi la tr :=
  ⟨ha, by have := h.f2; omega, by have := h.l2; omega, by have := h.tl; omega, h.fr, h.lr, h.tr_⟩
theorem made_ok {st : Sto} {al : List Nat} {n : Nat} {fi la : List Int} {tr : List (Int × Nat × Int)} {f l s : Nat} (h : MkOk al n fi la tr) (hp : AtP st fi la tr f l s) :
    ok (p_law_made [ptsD al n f l s] st) fun p => ∃ a, p.1 = .loc a ∧ st.length ≤ a ∧ AtA p.2 a (autOf al n fi la tr) ∧ Fr [] st p.2 := by
  refine ok_run' fun N R hN hR => ?_
  simp only [b_law_made, ptsD, List.map_cons, List.map_nil, List.length_cons, List.length_nil, List.replicate, List.cons_append, List.nil_append, Nat.reduceAdd, Nat.reduceSub]
  rw [S_seq, S_asg]
  simp only [fVar, fC, fOp, fUn, bool1, fTest, fChain, fAnd, fOr, fNot, fAndV, fOrV, fTru, fNil, fCons, fTup, fLst, fApp, fRng, fIt, foN, foS, int1, fSl, fBm, fCall, asg, sets, cmpD, tupD, lstD, ok_bind, ok_map, ok_some, ok_none, List.getElem?_cons_zero, List.getElem?_cons_succ, List.set_cons_zero, List.set_cons_succ, Option.bind_some, Option.map_some, wipeD, List.length_cons, List.length_nil, Nat.reduceAdd, if_true, List.getElem?_nil]
  rw [S_ret]
  refine make_ok ?_
  have e1 : listD [.loc f] st = some (.loc st.length, st ++ [MO.lst (fi.map D.int)]) := by simp [listD, hp.f]
  have hp1 : AtP (st ++ [MO.lst (fi.map D.int)]) fi la tr f l s := hp.fr (.app _)
  have e2 : listD [.loc l] (st ++ [MO.lst (fi.map D.int)]) = some (.loc (st ++ [MO.lst (fi.map D.int)]).length, st ++ [MO.lst (fi.map D.int)] ++ [MO.lst (la.map D.int)]) := by simp only [listD, hp1.l]
  have hp2 := hp1.fr (.app [MO.lst (la.map D.int)])
  have e3 : listD [.loc s] (st ++ [MO.lst (fi.map D.int)] ++ [MO.lst (la.map D.int)]) = some (.loc (st ++ [MO.lst (fi.map D.int)] ++ [MO.lst (la.map D.int)]).length, st ++ [MO.lst (fi.map D.int)] ++ [MO.lst (la.map D.int)] ++ [MO.lst (tr.map tripD)]) := by simp only [listD, hp2.s]
  simp only [fVar, fC, fOp, fUn, bool1, fTest, fChain, fAnd, fOr, fNot, fAndV, fOrV, fTru, fNil, fCons, fTup, fLst, fApp, fRng, fIt, foN, foS, int1, fSl, fBm, fCall, asg, sets, cmpD, tupD, lstD, ok_bind, ok_map, ok_some, ok_none, List.getElem?_cons_zero, List.getElem?_cons_succ, List.set_cons_zero, List.set_cons_succ, Option.bind_some, Option.map_some, wipeD, List.length_cons, List.length_nil, Nat.reduceAdd, if_true, List.getElem?_nil, e1, e2, e3]
  refine ⟨al, n, fi, la, tr, _, _, _, rfl, h, ⟨?_, ?_, ?_⟩, fun u fu hu => ?_⟩
  · rw [List.getElem?_append_left (by simp), List.getElem?_append_left (by simp), List.getElem?_concat_length]
  · rw [List.getElem?_append_left (by simp), List.getElem?_concat_length]
  · rw [List.getElem?_concat_length]
  · exact hR _ _ ⟨_, rfl, by simp, hu, ((Fr.app _).trans ((Fr.app _).trans (.app _))).trans fu⟩
/-! ### next sets -/
theorem keysI_map : ∀ (l : List Int), keysI (l.map fun i => ((Sum.inl i : Key), D.bl true)) = some l
  | [] => rfl
  | i :: l => by simp [keysI, keysI_map l]
theorem pA_map (l : List Int) (e : Int) : pA (l.map fun i => ((Sum.inl i : Key), D.bl true)) (.inl e) (.bl true) = (if e ∈ l then l else l ++ [e]).map fun i => ((Sum.inl i : Key), D.bl true) := by
  have h : ((l.map fun i => ((Sum.inl i : Key), D.bl true)).any fun kv => decide (kv.1 = .inl e)) = decide (e ∈ l) := by
    rw [Bool.eq_iff_iff]; simp
  unfold pA
  rw [h]
  by_cases c : e ∈ l
  · simp only [c, decide_true, if_true, List.map_map]
    apply List.map_congr_left
    intro x _
    simp only [Function.comp]
    split <;> rfl
  · simp [c]
def nxSet (A : Aut) (M : List Int) (k : Nat) : List Int := gsort ltI (M.flatMap fun s => nx A s k)
theorem hsort_is {l m : List Int} (h : l.Nodup) (e : ∀ x, x ∈ l ↔ x ∈ m) : hsort ltI l = gsort ltI m := by
  refine sorted_is linI ?_ ?_ ?_
  · exact (hsort_wk linI l).imp fun h => h
  · exact (hsort_perm l).nodup_iff.mpr h
  · intro x; rw [(hsort_perm l).mem_iff]; exact e x
theorem nset_ok {st : Sto} {a : Nat} {A : Aut} (h : AtA st a A) (o : A.Ok) (hn : A.n < 60) (M : List Int) (k : Nat) : ok (p_next_set [.loc a, intsT M, chD k] st) fun p => p.1 = intsT (nxSet A M k) ∧ Fr [] st p.2 := by
  refine ok_run' fun N R hN hR => ?_
  simp only [b_next_set, List.map_cons, List.map_nil, List.length_cons, List.length_nil, List.replicate, List.cons_append, List.nil_append, Nat.reduceAdd, Nat.reduceSub]
  rw [S_seq, S_asg]
  simp only [fNewA, fVar, fC, fOp, fUn, bool1, fTest, fChain, fAnd, fOr, fNot, fAndV, fOrV, fTru, fNil, fCons, fTup, fLst, fApp, fRng, fIt, foN, foS, int1, fSl, fBm, fCall, asg, sets, cmpD, tupD, lstD, ok_bind, ok_map, ok_some, ok_none, List.getElem?_cons_zero, List.getElem?_cons_succ, List.set_cons_zero, List.set_cons_succ, Option.bind_some, Option.map_some, wipeD, List.length_cons, List.length_nil, Nat.reduceAdd, if_true, List.getElem?_nil]
  rw [S_seq, S_for]
  simp only [fVar, fC, fOp, fUn, bool1, fTest, fChain, fAnd, fOr, fNot, fAndV, fOrV, fTru, fNil, fCons, fTup, fLst, fApp, fRng, fIt, foN, foS, int1, fSl, fBm, fCall, asg, sets, cmpD, tupD, lstD, ok_bind, ok_map, ok_some, ok_none, List.getElem?_cons_zero, List.getElem?_cons_succ, List.set_cons_zero, List.set_cons_succ, Option.bind_some, Option.map_some, wipeD, List.length_cons, List.length_nil, Nat.reduceAdd, if_true, List.getElem?_nil, intsT, itT]
  refine for_ok (fun i ρ s => ∃ (l : List Int) (x4 x5 : Option D), ρ = [some (.loc a), some (intsT M), some (chD k), some (.loc st.length), x4, x5] ∧ s[st.length]? = some (.dA (l.map fun i => ((Sum.inl i : Key), D.bl true))) ∧ l.Nodup ∧ (∀ x, x ∈ l ↔ x ∈ (M.take i).flatMap fun s => nx A s k) ∧ Fr [] st s)
    ⟨[], none, none, rfl, by simp, .nil, by simp, .app _⟩ (fun _ _ _ _ => trivial) ?_ ?_
  · rintro i d ρ s hd ⟨l, x4, x5, rfl, h1, h2, h3, h4⟩
    simp only [ItD.items, List.getElem?_map] at hd
    obtain ⟨t, ht, rfl⟩ := Option.map_eq_some_iff.mp hd
    have et : M.take (i + 1) = M.take i ++ [t] := by rw [List.take_add_one, ht]; rfl
    simp only [asg, ok_some, List.set_cons_succ, List.set_cons_zero]
    rw [S_for]
    have hA := h.fr h4
    rw [fIt, ok_bind, meth_at (fo := fVar 0) (a := a) (A := A) hA rfl (fl_3 A)]
    simp only [fVar, fC, fOp, fUn, bool1, fTest, fChain, fAnd, fOr, fNot, fAndV, fOrV, fTru, fNil, fCons, fTup, fLst, fApp, fRng, fIt, foN, foS, int1, fSl, fBm, fCall, asg, sets, cmpD, tupD, lstD, ok_bind, ok_map, ok_some, ok_none, List.getElem?_cons_zero, List.getElem?_cons_succ, List.set_cons_zero, List.set_cons_succ, Option.bind_some, Option.map_some, wipeD, List.length_cons, List.length_nil, Nat.reduceAdd, if_true, List.getElem?_nil, next_of_at hA, intsT, itT]
    refine for_ok (fun j ρ s => ∃ (l : List Int) (x4 x5 : Option D), ρ = [some (.loc a), some (intsT M), some (chD k), some (.loc st.length), x4, x5] ∧ s[st.length]? = some (.dA (l.map fun i => ((Sum.inl i : Key), D.bl true))) ∧ l.Nodup ∧ (∀ x, x ∈ l ↔ x ∈ (M.take i).flatMap (fun s => nx A s k) ∨ x ∈ (nx A t k).take j) ∧ Fr [] st s)
      ⟨l, _, x5, rfl, h1, h2, by simpa using h3, h4⟩ (fun _ _ _ _ => trivial) ?_ ?_
    · rintro j d ρ s hd ⟨l, x4, x5, rfl, h1, h2, h3, h4⟩
      simp only [ItD.items, List.getElem?_map] at hd
      obtain ⟨e, he, rfl⟩ := Option.map_eq_some_iff.mp hd
      have ee : (nx A t k).take (j + 1) = (nx A t k).take j ++ [e] := by rw [List.take_add_one, he]; rfl
      simp only [asg, ok_some, List.set_cons_succ, List.set_cons_zero]
      rw [S_put]
      have hl : l.length < 100000 := by
        have : l.length ≤ (sts A).length := nodup_len h2 fun x hx => by
          have hx : ∃ s, x ∈ nx A s k := by
            rcases (h3 x).mp hx with hx | hx
            · obtain ⟨s, _, hs⟩ := List.mem_flatMap.mp hx
              exact ⟨s, hs⟩
            · exact ⟨t, List.mem_of_mem_take hx⟩
          obtain ⟨s, hs⟩ := hx
          have := o.rw_lt _ (mem_nx.mp hs)
          exact mem_sts ⟨this.2.2.1, this.2.2.2.1⟩
        simp [sts] at this; omega
      simp only [fVar, fC, fOp, fUn, bool1, fTest, fChain, fAnd, fOr, fNot, fAndV, fOrV, fTru, fNil, fCons, fTup, fLst, fApp, fRng, fIt, foN, foS, int1, fSl, fBm, fCall, asg, sets, cmpD, tupD, lstD, ok_bind, ok_map, ok_some, ok_none, List.getElem?_cons_zero, List.getElem?_cons_succ, List.set_cons_zero, List.set_cons_succ, Option.bind_some, Option.map_some, wipeD, List.length_cons, List.length_nil, Nat.reduceAdd, if_true, List.getElem?_nil, putD, h1, keyA, List.length_map, hl, pA_map]
      refine ⟨if e ∈ l then l else l ++ [e], _, _, rfl, ?_, ?_, fun x => ?_, h4.set (.inl (Nat.le_refl _)) _⟩
      · rw [List.getElem?_set_self (List.getElem?_eq_some_iff.mp h1).1]
      · split
        · exact h2
        · rename_i c
          exact List.nodup_append.mpr ⟨h2, by simp, fun x hx y hy => by simp at hy; subst hy; exact fun q => c (q ▸ hx)⟩
      · rw [ee]
        have := h3 x
        by_cases c : e ∈ l
        · rw [if_pos c, this]
          have := (h3 e).mp c
          simp only [List.mem_append, List.mem_singleton]
          constructor
          · rintro (h | h)
            · exact .inl h
            · exact .inr (.inl h)
          · rintro (h | h | rfl)
            · exact .inl h
            · exact .inr h
            · exact this
        · rw [if_neg c]
          simp only [List.mem_append, List.mem_singleton, this, or_assoc]
    · rintro ρ s ⟨l, x4, x5, rfl, h1, h2, h3, h4⟩
      refine ⟨l, x4, x5, rfl, h1, h2, fun x => ?_, h4⟩
      rw [h3, et, List.flatMap_append]
      simp only [ItD.items, List.length_map, List.take_length]
      simp
  · rintro ρ s ⟨l, x4, x5, rfl, h1, h2, h3, h4⟩
    simp only [ItD.items, List.length_map, List.take_length] at h3
    rw [S_ret]
    have hl : l.length < 60 := by
      have : l.length ≤ (sts A).length := nodup_len h2 fun x hx => by
        obtain ⟨s, _, hs⟩ := List.mem_flatMap.mp ((h3 x).mp hx)
        have := o.rw_lt _ (mem_nx.mp hs)
        exact mem_sts ⟨this.2.2.1, this.2.2.2.1⟩
      simp [sts] at this; omega
    simp only [fVar, fC, fOp, fUn, bool1, fTest, fChain, fAnd, fOr, fNot, fAndV, fOrV, fTru, fNil, fCons, fTup, fLst, fApp, fRng, fIt, foN, foS, int1, fSl, fBm, fCall, asg, sets, cmpD, tupD, lstD, ok_bind, ok_map, ok_some, ok_none, List.getElem?_cons_zero, List.getElem?_cons_succ, List.set_cons_zero, List.set_cons_succ, Option.bind_some, Option.map_some, wipeD, List.length_cons, List.length_nil, Nat.reduceAdd, if_true, List.getElem?_nil, sortD, h1, keysI_map, if_pos hl, tupleD, List.getElem?_concat_length]
    refine hR _ _ ⟨?_, h4.trans (.app _)⟩
    simp only [intsT, nxSet]
    rw [hsort_is h2 h3]
end Lw
end
section
set_option Elab.async false
set_option linter.all false
set_option autoImplicit false
/-! Pd7: by breadth. -/
namespace Lw
open PySem PySem.Spec PyProof.Rows L2
def keyM (M : List Int) : NestedKey := .tup (M.map .num)
theorem keyM_inj {M N : List Int} (h : keyM M = keyM N) : M = N := by
  simp only [keyM, NestedKey.tup.injEq] at h
  exact List.map_inj_right (fun x y e => by injection e) |>.mp h
theorem keysM : ∀ M : List Int, keysD (M.map .int) = some (M.map .num)
  | [] => rfl
  | i :: M => by simp [keysD, keyD, keysM M]
theorem depthM : ∀ M : List Int, NestedKey.depthAll (M.map .num) = 0
  | [] => by simp [NestedKey.depthAll]
  | i :: M => by simp [NestedKey.depthAll, NestedKey.depth, depthM M]
theorem keyT_M (M : List Int) : keyT (intsT M) = some (keyM M) := by
  simp [keyT, intsT, keyD, keysM, keyM, NestedKey.depth, depthM]
structure BB (A : Aut) (os : List (List Int)) (kvs : List (NestedKey × D)) : Prop where
  nd : os.Nodup
  up : ∀ M ∈ os, Up ltI M ∧ ∀ s ∈ M, 0 ≤ s ∧ s < A.n
  g1 : ∀ (j : Nat) (M : List Int), os[j]? = some M → gT kvs (keyM M) = some (.int j)
  g2 : ∀ M, M ∉ os → gT kvs (keyM M) = none
  kl : kvs.length ≤ os.length
def code (M : List Int) : Bool × Bool × Bool × Bool := (decide (0 ∈ M), decide (1 ∈ M), decide (2 ∈ M), decide (3 ∈ M))
def codes : List (Bool × Bool × Bool × Bool) := [true, false].flatMap fun a => [true, false].flatMap fun b => [true, false].flatMap fun c => [true, false].map fun d => (a, b, c, d)
theorem BB.few {A : Aut} {os : List (List Int)} {kvs : List (NestedKey × D)} (h : BB A os kvs) (hn : A.n ≤ 4) : os.length ≤ 16 := by
  have nd : (os.map code).Nodup := by
    rw [List.nodup_iff_pairwise_ne, List.pairwise_map]
    refine List.Pairwise.imp_of_mem ?_ (List.nodup_iff_pairwise_ne.mp h.nd)
    intro M N hM hN hne e
    refine hne (up_same linI (h.up M hM).1 (h.up N hN).1 fun x => ?_)
    simp only [code, Prod.mk.injEq, decide_eq_decide] at e
    have key : ∀ K ∈ os, x ∈ K → x = 0 ∨ x = 1 ∨ x = 2 ∨ x = 3 := fun K hK hx => by
      have := (h.up K hK).2 x hx; omega
    constructor
    · intro hx
      rcases key M hM hx with rfl | rfl | rfl | rfl
      · exact e.1.mp hx
      · exact e.2.1.mp hx
      · exact e.2.2.1.mp hx
      · exact e.2.2.2.mp hx
    · intro hx
      rcases key N hN hx with rfl | rfl | rfl | rfl
      · exact e.1.mpr hx
      · exact e.2.1.mpr hx
      · exact e.2.2.1.mpr hx
      · exact e.2.2.2.mpr hx
  have := nodup_len (m := codes) nd fun x _ => by
    obtain ⟨a, b, c, d⟩ := x
    cases a <;> cases b <;> cases c <;> cases d <;> decide
  simpa [codes] using this
theorem BB.add {A : Aut} {os : List (List Int)} {kvs : List (NestedKey × D)} (h : BB A os kvs) {M : List Int} (hM : M ∉ os) (hu : Up ltI M ∧ ∀ s ∈ M, 0 ≤ s ∧ s < A.n) : BB A (os ++ [M]) (pT kvs (keyM M) (.int os.length)) := by
  refine ⟨?_, ?_, ?_, ?_, ?_⟩
  · exact List.nodup_append.mpr ⟨h.nd, by simp, fun x hx y hy => by simp at hy; subst hy; exact fun q => hM (q ▸ hx)⟩
  · intro K hK
    rcases List.mem_append.mp hK with hK | hK
    · exact h.up K hK
    · simp at hK; subst hK; exact hu
  · intro j K hj
    rw [gT_pT]
    by_cases c : j < os.length
    · rw [List.getElem?_append_left c] at hj
      have : K ≠ M := fun e => hM (e ▸ List.mem_of_getElem? hj)
      rw [if_neg fun e => this (keyM_inj e)]
      exact h.g1 j K hj
    · have hj2 : j = os.length := by
        have := (List.getElem?_eq_some_iff.mp hj).1
        simp at this; omega
      subst hj2
      simp at hj
      subst hj
      simp
  · intro K hK
    rw [gT_pT]
    have : K ≠ M := fun e => hK (by simp [e])
    rw [if_neg fun e => this (keyM_inj e)]
    exact h.g2 K fun q => hK (by simp [q])
  · have := pT_len kvs (keyM M) (.int os.length)
    have := h.kl
    simp; omega
theorem nxSet_ok {A : Aut} (o : A.Ok) (M : List Int) (k : Nat) : Up ltI (nxSet A M k) ∧ ∀ s ∈ nxSet A M k, 0 ≤ s ∧ s < A.n := by
  refine ⟨gsort_up linI _, fun s hs => ?_⟩
  obtain ⟨t, _, ht⟩ := List.mem_flatMap.mp ((gsort_mem linI s _).mp hs)
  have := o.rw_lt _ (mem_nx.mp ht)
  exact ⟨this.2.2.1, this.2.2.2.1⟩
/-- the steps so far: one for each state and letter -/
structure SS (al : List Nat) (n i : Nat) (tr : List (Int × Nat × Int)) : Prop where
  one : tr.Pairwise fun t u => ¬ (t.1 = u.1 ∧ t.2.1 = u.2.1)
  in_ : ∀ t ∈ tr, 0 ≤ t.1 ∧ t.1 < i ∧ t.2.1 ∈ al ∧ 0 ≤ t.2.2 ∧ t.2.2 < n
  len : tr.length = i * al.length
structure SJ (al : List Nat) (n i j : Nat) (tr : List (Int × Nat × Int)) : Prop where
  one : tr.Pairwise fun t u => ¬ (t.1 = u.1 ∧ t.2.1 = u.2.1)
  in_ : ∀ t ∈ tr, 0 ≤ t.1 ∧ (t.1 < i ∨ (t.1 = i ∧ t.2.1 ∈ al.take j)) ∧ t.2.1 ∈ al ∧ 0 ≤ t.2.2 ∧ t.2.2 < n
  len : tr.length = i * al.length + j
theorem SJ.wk {al : List Nat} {n m i j : Nat} {tr : List (Int × Nat × Int)} (h : SJ al n i j tr) (hm : n ≤ m) : SJ al m i j tr := ⟨h.one, fun t ht => by have := h.in_ t ht; refine ⟨this.1, this.2.1, this.2.2.1, this.2.2.2.1, by omega⟩, h.len⟩
theorem SJ.add {al : List Nat} {n i j : Nat} {tr : List (Int × Nat × Int)} (h : SJ al n i j tr) (hd : al.Nodup) {k b : Nat} (hk : al[j]? = some k) (hb : b < n) : SJ al n i (j + 1) (tr ++ [((i : Int), k, (b : Int))]) := by
  have ht : al.take (j + 1) = al.take j ++ [k] := by rw [List.take_add_one, hk]; rfl
  have hnk : k ∉ al.take j := by
    have h1 : (al.take (j + 1)).Nodup := (List.take_sublist _ _).nodup hd
    rw [ht, List.nodup_append] at h1
    exact fun q => h1.2.2 k q k (by simp) rfl
  refine ⟨?_, ?_, ?_⟩
  · rw [List.pairwise_append]
    refine ⟨h.one, by simp, fun t ht u hu => ?_⟩
    simp at hu; subst hu
    rintro ⟨h1, h2⟩
    simp only at h1 h2
    have := (h.in_ t ht).2.1
    rcases this with q | q
    · omega
    · exact hnk (h2 ▸ q.2)
  · intro t htm
    rcases List.mem_append.mp htm with q | q
    · have := h.in_ t q
      refine ⟨this.1, ?_, this.2.2⟩
      rcases this.2.1 with w | w
      · exact .inl w
      · exact .inr ⟨w.1, by rw [ht]; exact List.mem_append_left _ w.2⟩
    · simp at q; subst q
      exact ⟨by simp, .inr ⟨rfl, by rw [ht]; simp⟩, List.mem_of_getElem? hk, by simp, by simpa using hb⟩
  · simp [h.len]; omega
theorem SS.to {al : List Nat} {n i : Nat} {tr : List (Int × Nat × Int)} (h : SS al n i tr) : SJ al n i 0 tr := ⟨h.one, fun t ht => by have := h.in_ t ht; exact ⟨this.1, .inl this.2.1, this.2.2⟩, by rw [h.len]; omega⟩
theorem SJ.to {al : List Nat} {n i : Nat} {tr : List (Int × Nat × Int)} (h : SJ al n i al.length tr) : SS al n (i + 1) tr := ⟨h.one, fun t ht => by have := h.in_ t ht; exact ⟨this.1, by omega, this.2.2⟩, by rw [h.len, Nat.succ_mul]⟩
end Lw
end
section
set_option Elab.async false
set_option linter.all false
set_option autoImplicit false
/-! Pd8: by_breadth. -/
namespace Lw
open PySem PySem.Spec PyProof.Rows L2
theorem AlOk.nd {al : List Nat} (h : AlOk al) : al.Nodup := by rcases h with rfl | rfl <;> decide
theorem AlOk.len {al : List Nat} (h : AlOk al) : 1 ≤ al.length ∧ al.length ≤ 2 := by rcases h with rfl | rfl <;> decide
theorem al_items (A : Aut) : (ItD.str (alS A)).items = A.al.map chD := str_items A.al
theorem up_len {A : Aut} {M : List Int} (h : Up ltI M ∧ ∀ s ∈ M, 0 ≤ s ∧ s < A.n) : M.length ≤ A.n := by
  have := nodup_len (m := sts A) (up_nd linI h.1) fun x hx => mem_sts (h.2 x hx)
  simpa [sts] using this
structure BSt (A : Aut) (st s : Sto) (os : List (List Int)) (tr : List (Int × Nat × Int)) (o nu sp : Nat) : Prop where
  o_ : s[o]? = some (.lst (os.map intsT))
  n_ : ∃ kvs, s[nu]? = some (.dT kvs) ∧ BB A os kvs
  s_ : s[sp]? = some (.lst (tr.map tripD))
  f_ : Fr [] st s
theorem breadth_ok {st : Sto} {a : Nat} {A : Aut} (h : AtA st a A) (ok_ : A.Ok) (hn : A.n ≤ 4) (hb : Up ltI A.bg) (hal : AlOk A.al) :
    ok (p_by_breadth [intsT A.bg, .str (alS A), .bm a "next_set", .int 4000] st) fun p => ∃ (o sp : Nat) (os : List (List Int)) (tr : List (Int × Nat × Int)), p.1 = .tup [.loc o, .loc sp] ∧ p.2[o]? = some (.lst (os.map intsT)) ∧ p.2[sp]? = some (.lst (tr.map tripD)) ∧
      os.length ≤ 16 ∧ (1 ≤ os.length ∧ ∀ M ∈ os, M.length ≤ 4) ∧ SS A.al os.length os.length tr ∧ Fr [] st p.2 := by
  refine ok_run' fun N R hN hR => ?_
  simp only [b_by_breadth, List.map_cons, List.map_nil, List.length_cons, List.length_nil, List.replicate, List.cons_append, List.nil_append, Nat.reduceAdd, Nat.reduceSub]
  rw [S_seq, S_asg]
  simp only [fVar, fC, fOp, fUn, bool1, fTest, fChain, fAnd, fOr, fNot, fAndV, fOrV, fTru, fNil, fCons, fTup, fLst, fApp, fRng, fIt, foN, foS, int1, fSl, fBm, fCall, asg, sets, cmpD, tupD, lstD, ok_bind, ok_map, ok_some, ok_none, List.getElem?_cons_zero, List.getElem?_cons_succ, List.set_cons_zero, List.set_cons_succ, Option.bind_some, Option.map_some, wipeD, List.length_cons, List.length_nil, Nat.reduceAdd, if_true, List.getElem?_nil, Nat.reduceLeDiff]
  generalize hs1 : st ++ [MO.lst [intsT A.bg]] = s1
  have f1 : Fr [] st s1 := by rw [← hs1]; exact .app _
  have g1 : s1[st.length]? = some (.lst [intsT A.bg]) := by rw [← hs1]; simp
  have l1 : s1.length = st.length + 1 := by rw [← hs1]; simp
  rw [S_seq, S_asg]
  have nn : isNewT s1.length (s1 ++ [.dT []]) = true := by simp [isNewT]
  simp only [fNewT1, fVar, fC, fOp, fUn, bool1, fTest, fChain, fAnd, fOr, fNot, fAndV, fOrV, fTru, fNil, fCons, fTup, fLst, fApp, fRng, fIt, foN, foS, int1, fSl, fBm, fCall, asg, sets, cmpD, tupD, lstD, ok_bind, ok_map, ok_some, ok_none, List.getElem?_cons_zero, List.getElem?_cons_succ, List.set_cons_zero, List.set_cons_succ, Option.bind_some, Option.map_some, wipeD, List.length_cons, List.length_nil, Nat.reduceAdd, if_true, List.getElem?_nil, nn, keyT_M]
  generalize hs2 : (s1 ++ [MO.dT []]).set s1.length (.dT [(keyM A.bg, .int 0)]) = s2
  have f2 : Fr [] s1 s2 := by rw [← hs2]; exact (Fr.app _).set (.inl (Nat.le_refl _)) _
  have g2 : s2[s1.length]? = some (.dT [(keyM A.bg, .int 0)]) := by rw [← hs2]; simp
  have l2 : s2.length = st.length + 2 := by rw [← hs2]; simp [l1]
  rw [S_seq, S_asg]
  simp only [fVar, fC, fOp, fUn, bool1, fTest, fChain, fAnd, fOr, fNot, fAndV, fOrV, fTru, fNil, fCons, fTup, fLst, fApp, fRng, fIt, foN, foS, int1, fSl, fBm, fCall, asg, sets, cmpD, tupD, lstD, ok_bind, ok_map, ok_some, ok_none, List.getElem?_cons_zero, List.getElem?_cons_succ, List.set_cons_zero, List.set_cons_succ, Option.bind_some, Option.map_some, wipeD, List.length_cons, List.length_nil, Nat.reduceAdd, if_true, List.getElem?_nil, Nat.zero_le]
  rw [S_seq, S_asg]
  simp only [fVar, fC, fOp, fUn, bool1, fTest, fChain, fAnd, fOr, fNot, fAndV, fOrV, fTru, fNil, fCons, fTup, fLst, fApp, fRng, fIt, foN, foS, int1, fSl, fBm, fCall, asg, sets, cmpD, tupD, lstD, ok_bind, ok_map, ok_some, ok_none, List.getElem?_cons_zero, List.getElem?_cons_succ, List.set_cons_zero, List.set_cons_succ, Option.bind_some, Option.map_some, wipeD, List.length_cons, List.length_nil, Nat.reduceAdd, if_true, List.getElem?_nil]
  have bb0 : BB A [A.bg] [(keyM A.bg, .int 0)] := by
    have := BB.add (A := A) (os := []) (kvs := []) ⟨.nil, by simp, by simp, by simp [gT], by simp⟩ (M := A.bg) (by simp) ⟨hb, ok_.bg_lt⟩
    simpa [pT, gT] using this
  have b0 : BSt A st (s2 ++ [MO.lst []]) [A.bg] [] st.length (st.length + 1) (st.length + 2) :=
    ⟨(Fr.app (X := []) _).get (f2.get g1 (by simp)) (by simp), ⟨_, (Fr.app (X := []) _).get (l1 ▸ g2) (by simp), bb0⟩, by rw [← l2]; simp, f1.trans (f2.trans (.app _))⟩
  obtain ⟨I, hI⟩ := shut fun (m : Nat) (ρ : Env') (s : Sto) => ∃ (i : Nat) (os : List (List Int)) (tr : List (Int × Nat × Int)) (x8 x9 : Option D),
    ρ = [some (intsT A.bg), some (.str (alS A)), some (.bm a "next_set"), some (.int 4000), some (.loc st.length), some (.loc (st.length + 1)), some (.loc (st.length + 2)), some (.int i), x8, x9] ∧
    BSt A st s os tr st.length (st.length + 1) (st.length + 2) ∧ SS A.al os.length i tr ∧ i ≤ os.length ∧ m + i = 16 ∧ 1 ≤ os.length
  rw [S_seq, l1, l2]
  refine while_ok I 16 ((hI _ _ _).mpr ⟨0, [A.bg], [], none, none, rfl, b0, ⟨.nil, by simp, by simp⟩, by simp, rfl, by simp⟩) ?_
  intro m ρ s hi
  obtain ⟨i, os, tr, x8, x9, rfl, hB, hS, hio, hm, h1o⟩ := (hI _ _ _).mp hi
  obtain ⟨kvs, hk, hbb⟩ := hB.n_
  have few := hbb.few hn
  simp only [fVar, fC, fOp, fUn, bool1, fTest, fChain, fAnd, fOr, fNot, fAndV, fOrV, fTru, fNil, fCons, fTup, fLst, fApp, fRng, fIt, foN, foS, int1, fSl, fBm, fCall, asg, sets, cmpD, tupD, lstD, ok_bind, ok_map, ok_some, ok_none, List.getElem?_cons_zero, List.getElem?_cons_succ, List.set_cons_zero, List.set_cons_succ, Option.bind_some, Option.map_some, wipeD, List.length_cons, List.length_nil, Nat.reduceAdd, if_true, List.getElem?_nil, lenD, hB.o_, List.length_map, ltB, decide_eq_true_eq]
  split
  · rename_i c
    have c : i < os.length := by omega
    obtain ⟨M, hM⟩ : ∃ M, os[i]? = some M := ⟨_, List.getElem?_eq_getElem c⟩
    rw [S_seq, S_for]
    simp only [fVar, fC, fOp, fUn, bool1, fTest, fChain, fAnd, fOr, fNot, fAndV, fOrV, fTru, fNil, fCons, fTup, fLst, fApp, fRng, fIt, foN, foS, int1, fSl, fBm, fCall, asg, sets, cmpD, tupD, lstD, ok_bind, ok_map, ok_some, ok_none, List.getElem?_cons_zero, List.getElem?_cons_succ, List.set_cons_zero, List.set_cons_succ, Option.bind_some, Option.map_some, wipeD, List.length_cons, List.length_nil, Nat.reduceAdd, if_true, List.getElem?_nil, itS]
    obtain ⟨J, hJ⟩ := shut fun (j : Nat) (ρ : Env') (s : Sto) => ∃ (os : List (List Int)) (tr : List (Int × Nat × Int)) (x8 x9 : Option D),
      ρ = [some (intsT A.bg), some (.str (alS A)), some (.bm a "next_set"), some (.int 4000), some (.loc st.length), some (.loc (st.length + 1)), some (.loc (st.length + 2)), some (.int i), x8, x9] ∧
      BSt A st s os tr st.length (st.length + 1) (st.length + 2) ∧ SJ A.al os.length i j tr ∧ i < os.length ∧ os[i]? = some M
    refine for_ok J ((hJ _ _ _).mpr ⟨os, tr, x8, x9, rfl, hB, hS.to, c, hM⟩) (fun _ _ _ _ => trivial) ?_ ?_
    · intro j d ρ s hd hj
      obtain ⟨os, tr, x8, x9, rfl, hB, hS, hio, hM⟩ := (hJ _ _ _).mp hj
      rw [al_items, List.getElem?_map] at hd
      obtain ⟨k, hk, rfl⟩ := Option.map_eq_some_iff.mp hd
      have hjl : j < A.al.length := (List.getElem?_eq_some_iff.mp hk).1
      simp only [asg, ok_some, List.set_cons_succ, List.set_cons_zero]
      have hJ' := fun ρ s => (hJ (j + 1) ρ s).mpr
      generalize J (j + 1) = J1 at hJ' ⊢
      rw [S_seq, S_asg]
      have hix : ixD (.loc st.length) (.int i) s = some (intsT M, s) := by
        simp only [ixD, hB.o_]
        rw [atI_nat _ i (by simpa using hio)]
        have := (List.getElem?_eq_some_iff.mp hM).2
        simp [this]
      simp only [fCallB, bmOf, fVar, fC, fOp, fUn, bool1, fTest, fChain, fAnd, fOr, fNot, fAndV, fOrV, fTru, fNil, fCons, fTup, fLst, fApp, fRng, fIt, foN, foS, int1, fSl, fBm, fCall, asg, sets, cmpD, tupD, lstD, ok_bind, ok_map, ok_some, ok_none, List.getElem?_cons_zero, List.getElem?_cons_succ, List.set_cons_zero, List.set_cons_succ, Option.bind_some, Option.map_some, wipeD, List.length_cons, List.length_nil, Nat.reduceAdd, if_true, List.getElem?_nil, hix]
      refine ok_mono (nset_ok (h.fr hB.f_) ok_ (by omega) M k) ?_
      rintro ⟨_, s3⟩ ⟨rfl, f3⟩
      simp only at f3
      obtain ⟨kvs, hkv, hbb⟩ := hB.n_
      have few := hbb.few hn
      have k3 := f3.get hkv (by simp)
      have o3 := f3.get hB.o_ (by simp)
      have s3' := f3.get hB.s_ (by simp)
      have ff := hB.f_.trans f3
      have hlen : tr.length ≤ 40 := by
        have h1 := hS.len
        have h2 := hal.len.2
        have h3 : i * A.al.length ≤ 16 * 2 := Nat.mul_le_mul (by omega) h2
        omega
      -- the end of the body
      have fin : ∀ (u : Sto) (os' : List (List Int)) (kvs' : List (NestedKey × D)) (b : Nat), BB A os' kvs' → u[st.length]? = some (.lst (os'.map intsT)) → u[st.length + 1]? = some (.dT kvs') → u[st.length + 2]? = some (.lst (tr.map tripD)) → Fr [] st u →
          gT kvs' (keyM (nxSet A M k)) = some (.int b) → b < os'.length → os.length ≤ os'.length → os'[i]? = some M →
          S (sDrop (fBm "list" appendD (fVar 6) (fCons (fTup (fCons (fVar 7) (fCons (fVar 8) (fCons (fOp getD' (fVar 5) (fVar 9)) fNil)))) fNil)))
            [some (intsT A.bg), some (.str (alS A)), some (.bm a "next_set"), some (.int 4000), some (.loc st.length), some (.loc (st.length + 1)), some (.loc (st.length + 2)), some (.int i), some (chD k), some (intsT (nxSet A M k))] u J1 R := by
        intro u os' kvs' b hbb' uo uk us fu hg hb' hle hM'
        rw [S_drop]
        have hty : isTy "list" (.loc (st.length + 2)) u = true := by simp [isTy, us]
        have hq : tr.length < 100000 := by omega
        simp only [fVar, fC, fOp, fUn, bool1, fTest, fChain, fAnd, fOr, fNot, fAndV, fOrV, fTru, fNil, fCons, fTup, fLst, fApp, fRng, fIt, foN, foS, int1, fSl, fBm, fCall, asg, sets, cmpD, tupD, lstD, ok_bind, ok_map, ok_some, ok_none, List.getElem?_cons_zero, List.getElem?_cons_succ, List.set_cons_zero, List.set_cons_succ, Option.bind_some, Option.map_some, wipeD, List.length_cons, List.length_nil, Nat.reduceAdd, if_true, List.getElem?_nil, hty, getD', uk, keyT_M, hg, Nat.reduceLeDiff, appendD, us, List.length_map, hq]
        refine hJ' _ _ ⟨os', tr ++ [((i : Int), k, (b : Int))], _, _, rfl, ⟨?_, ⟨kvs', ?_, hbb'⟩, ?_, fu.set (.inl (by omega)) _⟩, (hS.wk hle).add hal.nd hk hb', by omega, hM'⟩
        · rw [List.getElem?_set_ne (by omega), uo]
        · rw [List.getElem?_set_ne (by omega), uk]
        · rw [List.getElem?_set_self (List.getElem?_eq_some_iff.mp us).1]; simp [tripD]
      rw [S_seq, S_if]
      simp only [fVar, fC, fOp, fUn, bool1, fTest, fChain, fAnd, fOr, fNot, fAndV, fOrV, fTru, fNil, fCons, fTup, fLst, fApp, fRng, fIt, foN, foS, int1, fSl, fBm, fCall, asg, sets, cmpD, tupD, lstD, ok_bind, ok_map, ok_some, ok_none, List.getElem?_cons_zero, List.getElem?_cons_succ, List.set_cons_zero, List.set_cons_succ, Option.bind_some, Option.map_some, wipeD, List.length_cons, List.length_nil, Nat.reduceAdd, if_true, List.getElem?_nil, notInB, inB, k3, keyT_M]
      by_cases hin : nxSet A M k ∈ os
      · obtain ⟨b, hb'⟩ := List.getElem?_of_mem hin
        have hg := hbb.g1 b _ hb'
        simp only [hg, Option.isSome_some, Bool.not_true, Bool.false_eq_true, if_false, S_nx]
        exact fin s3 os kvs b hbb o3 k3 s3' ff hg (List.getElem?_eq_some_iff.mp hb').1 (Nat.le_refl _) hM
      · have hg := hbb.g2 _ hin
        simp only [hg, Option.isSome_none, Bool.not_false, if_true]
        have hkl : kvs.length < 100000 := by have := hbb.kl; omega
        have hbb2 := hbb.add hin (nxSet_ok ok_ M k)
        have few2 := hbb2.few hn
        rw [S_seq, S_put]
        simp only [fVar, fC, fOp, fUn, bool1, fTest, fChain, fAnd, fOr, fNot, fAndV, fOrV, fTru, fNil, fCons, fTup, fLst, fApp, fRng, fIt, foN, foS, int1, fSl, fBm, fCall, asg, sets, cmpD, tupD, lstD, ok_bind, ok_map, ok_some, ok_none, List.getElem?_cons_zero, List.getElem?_cons_succ, List.set_cons_zero, List.set_cons_succ, Option.bind_some, Option.map_some, wipeD, List.length_cons, List.length_nil, Nat.reduceAdd, if_true, List.getElem?_nil, lenD, o3, List.length_map, putD, k3, keyT_M, hkl]
        rw [S_seq, S_drop]
        have o4 : (s3.set (st.length + 1) (.dT (pT kvs (keyM (nxSet A M k)) (.int os.length))))[st.length]? = some (.lst (os.map intsT)) := by rw [List.getElem?_set_ne (by omega), o3]
        have hty : isTy "list" (.loc st.length) (s3.set (st.length + 1) (.dT (pT kvs (keyM (nxSet A M k)) (.int os.length)))) = true := by simp [isTy, o4]
        have hq : os.length < 100000 := by omega
        simp only [fVar, fC, fOp, fUn, bool1, fTest, fChain, fAnd, fOr, fNot, fAndV, fOrV, fTru, fNil, fCons, fTup, fLst, fApp, fRng, fIt, foN, foS, int1, fSl, fBm, fCall, asg, sets, cmpD, tupD, lstD, ok_bind, ok_map, ok_some, ok_none, List.getElem?_cons_zero, List.getElem?_cons_succ, List.set_cons_zero, List.set_cons_succ, Option.bind_some, Option.map_some, wipeD, List.length_cons, List.length_nil, Nat.reduceAdd, if_true, List.getElem?_nil, hty, appendD, o4, List.length_map, hq]
        rw [S_if]
        have o5 : ((s3.set (st.length + 1) (.dT (pT kvs (keyM (nxSet A M k)) (.int os.length)))).set st.length (.lst (os.map intsT ++ [intsT (nxSet A M k)])))[st.length]? = some (.lst ((os ++ [nxSet A M k]).map intsT)) := by
          rw [List.getElem?_set_self (List.getElem?_eq_some_iff.mp o4).1]; simp
        have hgt : ¬ ((4000 : Int) < ((os ++ [nxSet A M k]).length : Nat)) := by omega
        simp only [fVar, fC, fOp, fUn, bool1, fTest, fChain, fAnd, fOr, fNot, fAndV, fOrV, fTru, fNil, fCons, fTup, fLst, fApp, fRng, fIt, foN, foS, int1, fSl, fBm, fCall, asg, sets, cmpD, tupD, lstD, ok_bind, ok_map, ok_some, ok_none, List.getElem?_cons_zero, List.getElem?_cons_succ, List.set_cons_zero, List.set_cons_succ, Option.bind_some, Option.map_some, wipeD, List.length_cons, List.length_nil, Nat.reduceAdd, if_true, List.getElem?_nil, lenD, o5, gtB, List.length_map, decide_eq_true_eq, if_neg hgt, S_nx]
        refine fin _ (os ++ [nxSet A M k]) _ os.length hbb2 o5 ?_ ?_ ((ff.set (.inl (by omega)) _).set (.inl (Nat.le_refl _)) _) (by rw [gT_pT, if_pos rfl]) (by simp) (by simp) (by rw [List.getElem?_append_left hio, hM])
        · rw [List.getElem?_set_ne (by omega), List.getElem?_set_self (List.getElem?_eq_some_iff.mp k3).1]
        · rw [List.getElem?_set_ne (by omega), List.getElem?_set_ne (by omega), s3']
    · intro ρ s hj
      obtain ⟨os, tr, x8, x9, rfl, hB, hS, hio, hM⟩ := (hJ _ _ _).mp hj
      rw [al_items, List.length_map] at hS
      obtain ⟨kvs, hkv, hbb⟩ := hB.n_
      have few := hbb.few hn
      rw [S_aug]
      simp only [fVar, fC, fOp, fUn, bool1, fTest, fChain, fAnd, fOr, fNot, fAndV, fOrV, fTru, fNil, fCons, fTup, fLst, fApp, fRng, fIt, foN, foS, int1, fSl, fBm, fCall, asg, sets, cmpD, tupD, lstD, ok_bind, ok_map, ok_some, ok_none, List.getElem?_cons_zero, List.getElem?_cons_succ, List.set_cons_zero, List.set_cons_succ, Option.bind_some, Option.map_some, wipeD, List.length_cons, List.length_nil, Nat.reduceAdd, if_true, List.getElem?_nil, addI]
      exact ⟨m - 1, by omega, (hI _ _ _).mpr ⟨i + 1, os, tr, x8, x9, by simp, hB, hS.to, by omega, by omega, by omega⟩⟩
  · rename_i c
    have e : i = os.length := by omega
    subst e
    rw [S_ret]
    simp only [fVar, fC, fOp, fUn, bool1, fTest, fChain, fAnd, fOr, fNot, fAndV, fOrV, fTru, fNil, fCons, fTup, fLst, fApp, fRng, fIt, foN, foS, int1, fSl, fBm, fCall, asg, sets, cmpD, tupD, lstD, ok_bind, ok_map, ok_some, ok_none, List.getElem?_cons_zero, List.getElem?_cons_succ, List.set_cons_zero, List.set_cons_succ, Option.bind_some, Option.map_some, wipeD, List.length_cons, List.length_nil, Nat.reduceAdd, if_true, List.getElem?_nil, Nat.reduceLeDiff]
    exact hR _ _ ⟨_, _, os, tr, rfl, hB.o_, hB.s_, few, ⟨h1o, fun M hM => Nat.le_trans (up_len (hbb.up M hM)) hn⟩, hS, hB.f_⟩
end Lw
end
section
set_option Elab.async false
set_option linter.all false
set_option autoImplicit false
/-! Pd9: determinized. -/
namespace Lw
open PySem PySem.Spec PyProof.Rows L2
theorem haslast_ok {st : Sto} {a : Nat} {A : Aut} (h : AtA st a A) (M : List Int) (hM : M.length ≤ 1000) : ok (p_has_last [.loc a, intsT M] st) fun p => ∃ b, p.1 = .bl b ∧ Fr [] st p.2 := by
  refine ok_run' fun N R hN hR => ?_
  simp only [b_has_last, List.map_cons, List.map_nil, List.length_cons, List.length_nil, List.replicate, List.cons_append, List.nil_append, Nat.reduceAdd, Nat.reduceSub]
  rw [S_ret]
  simp only [fVar, fC, fOp, fUn, bool1, fTest, fChain, fAnd, fOr, fNot, fAndV, fOrV, fTru, fNil, fCons, fTup, fLst, fApp, fRng, fIt, foN, foS, int1, fSl, fBm, fCall, asg, sets, cmpD, tupD, lstD, ok_bind, ok_map, ok_some, ok_none, List.getElem?_cons_zero, List.getElem?_cons_succ, List.set_cons_zero, List.set_cons_succ, Option.bind_some, Option.map_some, wipeD, List.length_cons, List.length_nil, Nat.reduceAdd, if_true, List.getElem?_nil]
  refine ok_mono (P := fun p => ∃ m xs, p.1 = .loc m ∧ p.2[m]? = some (.lst xs) ∧ Fr [] st p.2) (fLc_ok ?_) ?_
  · simp only [fVar, fC, fOp, fUn, bool1, fTest, fChain, fAnd, fOr, fNot, fAndV, fOrV, fTru, fNil, fCons, fTup, fLst, fApp, fRng, fIt, foN, foS, int1, fSl, fBm, fCall, asg, sets, cmpD, tupD, lstD, ok_bind, ok_map, ok_some, ok_none, List.getElem?_cons_zero, List.getElem?_cons_succ, List.set_cons_zero, List.set_cons_succ, Option.bind_some, Option.map_some, wipeD, List.length_cons, List.length_nil, Nat.reduceAdd, if_true, List.getElem?_nil, itT, intsT]
    refine ok_of (lc_pure (st := st) (fun d => match d with | .int i => decide (i ∈ A.en) | _ => false) id _ [] (fun m => trivial) ?_ fun d hd => ?_) ?_
    · simp [ItD.items]; omega
    · simp only [ItD.items] at hd
      obtain ⟨t, ht, rfl⟩ := List.mem_map.mp hd
      refine ⟨_, rfl, fun acc => ⟨?_, fun c => rfl⟩⟩
      have hA := h.fr (.app [MO.lst acc])
      obtain ⟨r, w, hi⟩ := hA.ins
      simp only [fVar, fC, fOp, fUn, bool1, fTest, fChain, fAnd, fOr, fNot, fAndV, fOrV, fTru, fNil, fCons, fTup, fLst, fApp, fRng, fIt, foN, foS, int1, fSl, fBm, fCall, asg, sets, cmpD, tupD, lstD, ok_bind, ok_map, ok_some, ok_none, List.getElem?_cons_zero, List.getElem?_cons_succ, List.set_cons_zero, List.set_cons_succ, Option.bind_some, Option.map_some, wipeD, List.length_cons, List.length_nil, Nat.reduceAdd, if_true, List.getElem?_nil, fFld, hi, fl_en, in_ints]
    · exact ⟨_, _, rfl, List.getElem?_concat_length, .app _⟩
  · rintro ⟨_, s1⟩ ⟨m, xs, rfl, h1, h2⟩
    simp only at h1 h2
    simp only [lenD, h1, ok_some, gtB, Option.map_some]
    exact hR _ _ ⟨_, rfl, h2⟩
theorem det_no {al : List Nat} {n : Nat} {la : List Int} {tr : List (Int × Nat × Int)} (h : tr.Pairwise fun t u => ¬ (t.1 = u.1 ∧ t.2.1 = u.2.1)) (L : Nat) : ¬ Amb (autOf al n [0] la tr) L := by
  have fn : ∀ t ∈ tr, ∀ u ∈ tr, t.1 = u.1 → t.2.1 = u.2.1 → t = u := by
    intro t ht u hu e1 e2
    induction tr with
    | nil => cases ht
    | cons x r ih =>
      obtain ⟨h1, h2⟩ := List.pairwise_cons.mp h
      rcases List.mem_cons.mp ht with ht1 | ht1
      · rcases List.mem_cons.mp hu with hu1 | hu1
        · rw [ht1, hu1]
        · exact absurd ⟨ht1 ▸ e1, ht1 ▸ e2⟩ (h1 u hu1)
      · rcases List.mem_cons.mp hu with hu1 | hu1
        · exact absurd ⟨hu1 ▸ e1.symm, hu1 ▸ e2.symm⟩ (h1 t ht1)
        · exact ih h2 ht1 hu1
  have key : ∀ i x, Rch (stN (autOf al n [0] la tr)) (goN (autOf al n [0] la tr)) i x → x.1 = x.2.1 ∧ x.2.2 = false := by
    intro i x r
    induction r with
    | zero p =>
      obtain ⟨p1, p2, p3⟩ := p
      have p1 := (gsort_mem linI _ _).mp p1
      have p2 := (gsort_mem linI _ _).mp p2
      simp at p1 p2
      exact ⟨by rw [p1, p2], by rw [p3, p1, p2]; simp⟩
    | @succ i x y r s ih =>
      obtain ⟨k, s1, s2, s3⟩ := s
      have s1 := (gsort_mem linT _ _).mp s1
      have s2 := (gsort_mem linT _ _).mp s2
      have := fn _ s1 _ s2 ih.1 rfl
      simp only [Prod.mk.injEq] at this
      exact ⟨this.2.2, by rw [s3, ih.2, this.2.2]; simp⟩
  rintro ⟨y, r, t⟩
  have := (key _ _ r).2
  rw [t.1] at this
  cases this
theorem det_ok {st : Sto} {a : Nat} {A : Aut} (h : AtA st a A) (ok_ : A.Ok) (hn : A.n ≤ 4) (hb : Up ltI A.bg) (hal : AlOk A.al) :
    ok (p_determinized [.loc a] st) fun p => ∃ b B, p.1 = .loc b ∧ AtA p.2 b B ∧ B.Ok ∧ B.n ≤ 16 ∧ AlOk B.al ∧ (∀ L, ¬ Amb B L) ∧ Fr [] st p.2 := by
  refine ok_run' fun N R hN hR => ?_
  simp only [b_determinized, List.map_cons, List.map_nil, List.length_cons, List.length_nil, List.replicate, List.cons_append, List.nil_append, Nat.reduceAdd, Nat.reduceSub]
  obtain ⟨r, w, hi⟩ := h.ins
  rw [S_seq, S_asg]
  have e1 : fMeth "Automaton" "first_states" 1 p_first_states (fVar 0) fNil [some (.loc a), none, none, none, none] st = some (intsT A.bg, st) := by
    rw [meth_at (fo := fVar 0) h rfl (fl_1 A)]
    simp only [fNil, Option.bind_some, List.length_nil, Nat.reduceAdd, if_true, first_of h]
  have e2 : fBnd "Automaton" "next_set" (fVar 0) [some (.loc a), none, none, none, none] st = some (.bm a "next_set", st) := by
    simp [fBnd, fVar, insOf, hi, CA, fl_4]
  simp only [fVar, fC, fOp, fUn, bool1, fTest, fChain, fAnd, fOr, fNot, fAndV, fOrV, fTru, fNil, fCons, fTup, fLst, fApp, fRng, fIt, foN, foS, int1, fSl, fBm, fCall, asg, sets, cmpD, tupD, lstD, ok_bind, ok_map, ok_some, ok_none, List.getElem?_cons_zero, List.getElem?_cons_succ, List.set_cons_zero, List.set_cons_succ, Option.bind_some, Option.map_some, wipeD, List.length_cons, List.length_nil, Nat.reduceAdd, if_true, List.getElem?_nil, e1, e2, fFld, hi, fl_al]
  refine ok_mono (breadth_ok h ok_ hn hb hal) ?_
  rintro ⟨_, s1⟩ ⟨o, sp, os, tr, rfl, h1, h2, h3, ⟨h40, h4⟩, h5, f1⟩
  simp only at h1 h2 f1
  simp only [fVar, fC, fOp, fUn, bool1, fTest, fChain, fAnd, fOr, fNot, fAndV, fOrV, fTru, fNil, fCons, fTup, fLst, fApp, fRng, fIt, foN, foS, int1, fSl, fBm, fCall, asg, sets, cmpD, tupD, lstD, ok_bind, ok_map, ok_some, ok_none, List.getElem?_cons_zero, List.getElem?_cons_succ, List.set_cons_zero, List.set_cons_succ, Option.bind_some, Option.map_some, wipeD, List.length_cons, List.length_nil, Nat.reduceAdd, if_true, List.getElem?_nil]
  rw [S_seq, S_asg]
  refine ok_mono (P := fun p => ∃ (m : Nat) (la : List Int), p.1 = .loc m ∧ p.2[m]? = some (.lst (la.map .int)) ∧ la.length ≤ 16 ∧ (∀ s ∈ la, 0 ≤ s ∧ s < os.length) ∧ Fr [] s1 p.2) (fLc_ok ?_) ?_
  · have e3 : lenD [.loc o] s1 = some (.int os.length, s1) := by simp [lenD, h1]
    rw [fRng, ok_bind]
    refine ok_of (a := ([.int os.length], s1)) (by simp [fCons, fApp, fVar, fNil, e3]) ?_
    rw [rng1_at _ _ ⟨by omega, by omega⟩, ok_some]
    refine lc_ok (fun i s => ∃ la : List Int, s[s1.length]? = some (.lst (la.map .int)) ∧ la.length ≤ i ∧ (∀ s ∈ la, 0 ≤ s ∧ s < os.length) ∧ Fr [] s1 s) ⟨[], by simp, by simp, by simp, .app _⟩ (fun _ _ _ => trivial) ?_ ?_
    · rintro i d s hd ⟨la, q1, q2, q3, q4⟩
      obtain ⟨hi', rfl⟩ := rng_it0 hd
      have hi' : i < os.length := by simpa using hi'
      have ff := f1.trans q4
      have hA := h.fr ff
      simp only [asg, ok_some, List.set_cons_succ, List.set_cons_zero, wipeD]
      rw [fTru, ok_bind, meth_at (fo := fVar 0) hA rfl (fl_6 A)]
      have hix : ixD (.loc o) (.int i) s = some (intsT os[i], s) := by
        simp only [ixD, q4.get h1 (by simp)]
        rw [atI_nat _ i (by simpa using hi')]
        simp
      simp only [fVar, fC, fOp, fUn, bool1, fTest, fChain, fAnd, fOr, fNot, fAndV, fOrV, fTru, fNil, fCons, fTup, fLst, fApp, fRng, fIt, foN, foS, int1, fSl, fBm, fCall, asg, sets, cmpD, tupD, lstD, ok_bind, ok_map, ok_some, ok_none, List.getElem?_cons_zero, List.getElem?_cons_succ, List.set_cons_zero, List.set_cons_succ, Option.bind_some, Option.map_some, wipeD, List.length_cons, List.length_nil, Nat.reduceAdd, if_true, List.getElem?_nil, hix]
      refine ok_mono (haslast_ok hA os[i] (by have := h4 _ (List.getElem_mem hi'); omega)) ?_
      rintro ⟨_, s'⟩ ⟨b, rfl, f'⟩
      simp only at f'
      simp only [truD, ok_some]
      have q1' := f'.get q1 (by simp)
      cases b
      · simp only [Bool.false_eq_true, if_false]
        exact ⟨la, q1', by omega, q3, q4.trans f'⟩
      · have hq : la.length < 100000 := by omega
        simp only [if_true, appendD, q1', List.length_map, hq, ok_some]
        refine ⟨la ++ [(i : Int)], ?_, by simp; omega, ?_, (q4.trans f').set (.inl (Nat.le_refl _)) _⟩
        · rw [List.getElem?_set_self (List.getElem?_eq_some_iff.mp q1').1]; simp
        · intro x hx
          rcases List.mem_append.mp hx with hx | hx
          · exact q3 x hx
          · simp at hx; subst hx; omega
    · rintro s ⟨la, q1, q2, q3, q4⟩
      rw [rng_len] at q2
      exact ⟨_, la, rfl, q1, by simp at q2; omega, q3, q4⟩
  rintro ⟨_, s2⟩ ⟨m, la, rfl, q1, q2, q3, f2⟩
  simp only at q1 f2
  simp only [asg, ok_some, List.set_cons_succ, List.set_cons_zero]
  rw [S_ret]
  refine make_ok ?_
  have ff := f1.trans f2
  have hA := h.fr ff
  obtain ⟨r, w, hi⟩ := hA.ins
  simp only [fVar, fC, fOp, fUn, bool1, fTest, fChain, fAnd, fOr, fNot, fAndV, fOrV, fTru, fNil, fCons, fTup, fLst, fApp, fRng, fIt, foN, foS, int1, fSl, fBm, fCall, asg, sets, cmpD, tupD, lstD, ok_bind, ok_map, ok_some, ok_none, List.getElem?_cons_zero, List.getElem?_cons_succ, List.set_cons_zero, List.set_cons_succ, Option.bind_some, Option.map_some, wipeD, List.length_cons, List.length_nil, Nat.reduceAdd, if_true, List.getElem?_nil, fFld, hi, fl_al, lenD, f2.get h1 (by simp), List.length_map, Nat.reduceLeDiff]
  have ht : tr.length < 60 := by
    have h6 := h5.len
    have h7 := hal.len.2
    have h8 : os.length * A.al.length ≤ 16 * 2 := Nat.mul_le_mul h3 h7
    omega
  have mk : MkOk A.al os.length [0] la tr := ⟨hal, by simp, by omega, ht, by simp; omega, q3, fun t ht => by have := h5.in_ t ht; exact ⟨this.1, this.2.1, this.2.2.2.1, this.2.2.2.2, this.2.2.1⟩⟩
  refine ⟨A.al, os.length, [0], la, tr, s2.length, m, sp, rfl, mk, ⟨by simp, (Fr.app (X := []) _).get q1 (by simp), (Fr.app (X := []) _).get (f2.get h2 (by simp)) (by simp)⟩, fun u fu hu => ?_⟩
  exact hR _ _ ⟨_, _, rfl, hu, mk.aut, h3, hal, det_no h5.one, ff.trans ((Fr.app _).trans fu)⟩
end Lw
end
section
set_option Elab.async false
set_option linter.all false
set_option autoImplicit false
/-! Pda: runs are judged. -/
namespace Lw
open PySem PySem.Spec PyProof.Rows L2
def wordD (w : List Nat) : D := .str ⟨w.toArray⟩
def Way (rw : List (Int × Nat × Int)) (w : List Nat) (r : List Int) : Prop := ∀ i k s t, w[i]? = some k → r[i]? = some s → r[i + 1]? = some t → (s, k, t) ∈ rw
structure RunP (bg en : List Int) (rw : List (Int × Nat × Int)) (w : List Nat) (r : List Int) : Prop where
  len : r.length = w.length + 1
  b : ∃ s, r[0]? = some s ∧ s ∈ bg
  e : ∃ s, r[w.length]? = some s ∧ s ∈ en
  way : Way rw w r
theorem lenW {w : List Nat} (h : w.length ≤ 1000) (st : Sto) : lenD [wordD w] st = some (.int w.length, st) := by
  have : Str.length ⟨w.toArray⟩ = w.length := by simp [Str.length]
  simp [lenD, wordD, this]; omega
theorem lenI (r : List Int) (st : Sto) : lenD [intsT r] st = some (.int r.length, st) := by simp [lenD, intsT]
theorem ixW {w : List Nat} (h : w.length ≤ 1000) {i k : Nat} (e : w[i]? = some k) (st : Sto) : ixD (wordD w) (.int i) st = some (chD k, st) := by
  have h1 : Str.length ⟨w.toArray⟩ = w.length := by simp [Str.length]
  have h2 : Str.length ⟨w.toArray⟩ ≤ 100000 := by omega
  obtain ⟨hi, e⟩ := List.getElem?_eq_some_iff.mp e
  simp [ixD, wordD, h2, atI_nat w i hi, chD, e]
theorem ixI {r : List Int} {i : Nat} {s : Int} (e : r[i]? = some s) (st : Sto) : ixD (intsT r) (.int i) st = some (.int s, st) := by
  obtain ⟨hi, e⟩ := List.getElem?_eq_some_iff.mp e
  simp only [ixD, intsT]
  rw [atI_nat _ i (by simpa using hi)]
  simp [e]
theorem ixI0 {r : List Int} {s : Int} (e : r[0]? = some s) (st : Sto) : ixD (intsT r) (.int 0) st = some (.int s, st) := ixI (i := 0) e st
theorem ixIl {r : List Int} {n : Nat} {s : Int} (hl : r.length = n + 1) (e : r[n]? = some s) (st : Sto) : ixD (intsT r) (.int (-1)) st = some (.int s, st) := by
  obtain ⟨hi, e⟩ := List.getElem?_eq_some_iff.mp e
  have h1 : ixN (r.map D.int).length (-1) = some n := by
    simp only [List.length_map, ixN, hl]
    rw [if_neg (by decide), if_pos (by omega)]
    congr 1; omega
  simp only [ixD, intsT, atI, h1, Option.bind_some]
  simp [hi, e]
theorem isrun_ok {st : Sto} {al : List Nat} {n f l s : Nat} {fi la : List Int} {tr : List (Int × Nat × Int)} {w : List Nat} {r : List Int} (hp : AtP st fi la tr f l s) (ht : ∀ t ∈ tr, t.2.1 < 200) (hw : w.length ≤ 1000) (hk : ∀ k ∈ w, k < 200) :
    ok (p_law_is_run [ptsD al n f l s, wordD w, intsT r] st) fun p => ∃ b : Bool, p.1 = .bl b ∧ p.2 = st ∧ (b = true ↔ RunP fi la tr w r) := by
  refine ok_run' fun N R hN hR => ?_
  simp only [b_law_is_run, List.map_cons, List.map_nil, List.length_cons, List.length_nil, List.replicate, List.cons_append, List.nil_append, Nat.reduceAdd, Nat.reduceSub]
  have no : ¬ RunP fi la tr w r → R (.bl false) st := fun h => hR _ _ ⟨false, rfl, rfl, by simpa using h⟩
  have i2 : ∀ u, ixD (ptsD al n f l s) (.int 2) u = some (.loc f, u) := fun u => rfl
  have i3 : ∀ u, ixD (ptsD al n f l s) (.int 3) u = some (.loc l, u) := fun u => rfl
  have i4 : ∀ u, ixD (ptsD al n f l s) (.int 4) u = some (.loc s, u) := fun u => rfl
  rw [S_seq, S_if]
  simp only [fVar, fC, fOp, fUn, bool1, fTest, fChain, fAnd, fOr, fNot, fAndV, fOrV, fTru, fNil, fCons, fTup, fLst, fApp, fRng, fIt, foN, foS, int1, fSl, fBm, fCall, asg, sets, cmpD, tupD, lstD, ok_bind, ok_map, ok_some, ok_none, List.getElem?_cons_zero, List.getElem?_cons_succ, List.set_cons_zero, List.set_cons_succ, Option.bind_some, Option.map_some, wipeD, List.length_cons, List.length_nil, Nat.reduceAdd, if_true, List.getElem?_nil, lenW hw, lenI, addD, neB]
  by_cases c : r.length = w.length + 1
  · have c' : (r.length : Int) = (w.length : Int) + 1 := by omega
    obtain ⟨a, ha⟩ : ∃ a, r[0]? = some a := ⟨_, List.getElem?_eq_getElem (by omega)⟩
    obtain ⟨z, hz⟩ : ∃ z, r[w.length]? = some z := ⟨_, List.getElem?_eq_getElem (by omega)⟩
    simp only [fVar, fC, fOp, fUn, bool1, fTest, fChain, fAnd, fOr, fNot, fAndV, fOrV, fTru, fNil, fCons, fTup, fLst, fApp, fRng, fIt, foN, foS, int1, fSl, fBm, fCall, asg, sets, cmpD, tupD, lstD, ok_bind, ok_map, ok_some, ok_none, List.getElem?_cons_zero, List.getElem?_cons_succ, List.set_cons_zero, List.set_cons_succ, Option.bind_some, Option.map_some, wipeD, List.length_cons, List.length_nil, Nat.reduceAdd, if_true, List.getElem?_nil, c', decide_true, Bool.not_true, Bool.false_eq_true, if_false, ixI0 ha, i2, notInB, in_intsL hp.f, negD, ixIl c hz, i3, in_intsL hp.l, Option.map_some]
    by_cases ca : a ∈ fi
    · by_cases cz : z ∈ la
      · simp only [fVar, fC, fOp, fUn, bool1, fTest, fChain, fAnd, fOr, fNot, fAndV, fOrV, fTru, fNil, fCons, fTup, fLst, fApp, fRng, fIt, foN, foS, int1, fSl, fBm, fCall, asg, sets, cmpD, tupD, lstD, ok_bind, ok_map, ok_some, ok_none, List.getElem?_cons_zero, List.getElem?_cons_succ, List.set_cons_zero, List.set_cons_succ, Option.bind_some, Option.map_some, wipeD, List.length_cons, List.length_nil, Nat.reduceAdd, if_true, List.getElem?_nil, ca, cz, decide_true, Bool.not_true, Bool.false_eq_true, if_false, ok_some, S_nx]
        rw [S_seq, S_for, fRng, ok_bind]
        refine ok_of (a := ([.int w.length], st)) (by simp [fCons, fApp, fVar, fNil, lenW hw]) ?_
        rw [rng1_at _ _ ⟨by omega, by omega⟩, ok_some]
        refine for_ok (fun i ρ u => ∃ x3 : Option D, ρ = [some (ptsD al n f l s), some (wordD w), some (intsT r), x3] ∧ u = st ∧ ∀ j k s t, j < i → w[j]? = some k → r[j]? = some s → r[j + 1]? = some t → (s, k, t) ∈ tr) ⟨none, rfl, rfl, by intro _ _ _ _ h; omega⟩ (fun _ _ _ _ => trivial) ?_ ?_
        · rintro i d ρ u hd ⟨x3, rfl, rfl, hq⟩
          obtain ⟨hi, rfl⟩ := rng_it0 hd
          have hi : i < w.length := by simpa using hi
          obtain ⟨k, ek⟩ : ∃ k, w[i]? = some k := ⟨_, List.getElem?_eq_getElem hi⟩
          obtain ⟨x, ex⟩ : ∃ k, r[i]? = some k := ⟨_, List.getElem?_eq_getElem (by omega)⟩
          obtain ⟨y, ey⟩ : ∃ k, r[i + 1]? = some k := ⟨_, List.getElem?_eq_getElem (by omega)⟩
          have ey' : ixD (intsT r) (.int ((i : Int) + 1)) u = some (.int y, u) := ixI (i := i + 1) ey u
          have em : inB (.tup [.int x, chD k, .int y]) (.loc s) u = some (decide ((x, k, y) ∈ tr)) := (in_list (inj := tripD) (a := (x, k, y)) eqvTr hp.s (okTr (hk k (List.mem_of_getElem? ek))) fun t h => okTr (ht t h)).trans (congrArg some (decide_eq_decide.mpr Iff.rfl))
          simp only [asg, ok_some, List.set_cons_succ, List.set_cons_zero]
          rw [S_if]
          simp only [fVar, fC, fOp, fUn, bool1, fTest, fChain, fAnd, fOr, fNot, fAndV, fOrV, fTru, fNil, fCons, fTup, fLst, fApp, fRng, fIt, foN, foS, int1, fSl, fBm, fCall, asg, sets, cmpD, tupD, lstD, ok_bind, ok_map, ok_some, ok_none, List.getElem?_cons_zero, List.getElem?_cons_succ, List.set_cons_zero, List.set_cons_succ, Option.bind_some, Option.map_some, wipeD, List.length_cons, List.length_nil, Nat.reduceAdd, if_true, List.getElem?_nil, ixI ex, ixW hw ek, addD, ey', Nat.reduceLeDiff, i4, notInB, em]
          by_cases cm : (x, k, y) ∈ tr
          · simp only [fVar, fC, fOp, fUn, bool1, fTest, fChain, fAnd, fOr, fNot, fAndV, fOrV, fTru, fNil, fCons, fTup, fLst, fApp, fRng, fIt, foN, foS, int1, fSl, fBm, fCall, asg, sets, cmpD, tupD, lstD, ok_bind, ok_map, ok_some, ok_none, List.getElem?_cons_zero, List.getElem?_cons_succ, List.set_cons_zero, List.set_cons_succ, Option.bind_some, Option.map_some, wipeD, List.length_cons, List.length_nil, Nat.reduceAdd, if_true, List.getElem?_nil, cm, decide_true, Bool.not_true, Bool.false_eq_true, if_false, S_nx]
            refine ⟨_, rfl, by trivial, fun j k' s' t' hj e1 e2 e3 => ?_⟩
            by_cases cj : j < i
            · exact hq j k' s' t' cj e1 e2 e3
            · obtain rfl : j = i := by omega
              rw [ek] at e1; rw [ex] at e2; rw [ey] at e3
              cases e1; cases e2; cases e3
              exact cm
          · simp only [fVar, fC, fOp, fUn, bool1, fTest, fChain, fAnd, fOr, fNot, fAndV, fOrV, fTru, fNil, fCons, fTup, fLst, fApp, fRng, fIt, foN, foS, int1, fSl, fBm, fCall, asg, sets, cmpD, tupD, lstD, ok_bind, ok_map, ok_some, ok_none, List.getElem?_cons_zero, List.getElem?_cons_succ, List.set_cons_zero, List.set_cons_succ, Option.bind_some, Option.map_some, wipeD, List.length_cons, List.length_nil, Nat.reduceAdd, if_true, List.getElem?_nil, cm, decide_false, Bool.not_false, if_true]
            rw [S_ret]
            simp only [fVar, fC, fOp, fUn, bool1, fTest, fChain, fAnd, fOr, fNot, fAndV, fOrV, fTru, fNil, fCons, fTup, fLst, fApp, fRng, fIt, foN, foS, int1, fSl, fBm, fCall, asg, sets, cmpD, tupD, lstD, ok_bind, ok_map, ok_some, ok_none, List.getElem?_cons_zero, List.getElem?_cons_succ, List.set_cons_zero, List.set_cons_succ, Option.bind_some, Option.map_some, wipeD, List.length_cons, List.length_nil, Nat.reduceAdd, if_true, List.getElem?_nil]
            exact no fun h => cm (h.way i k x y ek ex ey)
        · rintro ρ u ⟨x3, rfl, rfl, hq⟩
          rw [S_ret]
          simp only [fVar, fC, fOp, fUn, bool1, fTest, fChain, fAnd, fOr, fNot, fAndV, fOrV, fTru, fNil, fCons, fTup, fLst, fApp, fRng, fIt, foN, foS, int1, fSl, fBm, fCall, asg, sets, cmpD, tupD, lstD, ok_bind, ok_map, ok_some, ok_none, List.getElem?_cons_zero, List.getElem?_cons_succ, List.set_cons_zero, List.set_cons_succ, Option.bind_some, Option.map_some, wipeD, List.length_cons, List.length_nil, Nat.reduceAdd, if_true, List.getElem?_nil]
          refine hR _ _ ⟨true, rfl, rfl, fun _ => ⟨c, ⟨a, ha, ca⟩, ⟨z, hz, cz⟩, fun i k s t e1 e2 e3 => hq i k s t ?_ e1 e2 e3⟩, fun _ => rfl⟩
          rw [rng_len]
          have := (List.getElem?_eq_some_iff.mp e1).1
          simpa using this
      · simp only [fVar, fC, fOp, fUn, bool1, fTest, fChain, fAnd, fOr, fNot, fAndV, fOrV, fTru, fNil, fCons, fTup, fLst, fApp, fRng, fIt, foN, foS, int1, fSl, fBm, fCall, asg, sets, cmpD, tupD, lstD, ok_bind, ok_map, ok_some, ok_none, List.getElem?_cons_zero, List.getElem?_cons_succ, List.set_cons_zero, List.set_cons_succ, Option.bind_some, Option.map_some, wipeD, List.length_cons, List.length_nil, Nat.reduceAdd, if_true, List.getElem?_nil, ca, cz, decide_true, decide_false, Bool.not_true, Bool.not_false, Bool.false_eq_true, if_false, if_true, ok_some]
        rw [S_ret]
        simp only [fVar, fC, fOp, fUn, bool1, fTest, fChain, fAnd, fOr, fNot, fAndV, fOrV, fTru, fNil, fCons, fTup, fLst, fApp, fRng, fIt, foN, foS, int1, fSl, fBm, fCall, asg, sets, cmpD, tupD, lstD, ok_bind, ok_map, ok_some, ok_none, List.getElem?_cons_zero, List.getElem?_cons_succ, List.set_cons_zero, List.set_cons_succ, Option.bind_some, Option.map_some, wipeD, List.length_cons, List.length_nil, Nat.reduceAdd, if_true, List.getElem?_nil]
        exact no fun h => by obtain ⟨q, h1, h2⟩ := h.e; rw [hz] at h1; cases h1; exact cz h2
    · simp only [fVar, fC, fOp, fUn, bool1, fTest, fChain, fAnd, fOr, fNot, fAndV, fOrV, fTru, fNil, fCons, fTup, fLst, fApp, fRng, fIt, foN, foS, int1, fSl, fBm, fCall, asg, sets, cmpD, tupD, lstD, ok_bind, ok_map, ok_some, ok_none, List.getElem?_cons_zero, List.getElem?_cons_succ, List.set_cons_zero, List.set_cons_succ, Option.bind_some, Option.map_some, wipeD, List.length_cons, List.length_nil, Nat.reduceAdd, if_true, List.getElem?_nil, ca, decide_false, Bool.not_false, if_true, ok_some]
      rw [S_ret]
      simp only [fVar, fC, fOp, fUn, bool1, fTest, fChain, fAnd, fOr, fNot, fAndV, fOrV, fTru, fNil, fCons, fTup, fLst, fApp, fRng, fIt, foN, foS, int1, fSl, fBm, fCall, asg, sets, cmpD, tupD, lstD, ok_bind, ok_map, ok_some, ok_none, List.getElem?_cons_zero, List.getElem?_cons_succ, List.set_cons_zero, List.set_cons_succ, Option.bind_some, Option.map_some, wipeD, List.length_cons, List.length_nil, Nat.reduceAdd, if_true, List.getElem?_nil]
      exact no fun h => by obtain ⟨q, h1, h2⟩ := h.b; rw [ha] at h1; cases h1; exact ca h2
  · have c' : ¬ (r.length : Int) = (w.length : Int) + 1 := by omega
    simp only [c', decide_false, Bool.not_false, if_true, ok_some]
    rw [S_ret]
    simp only [fVar, fC, fOp, fUn, bool1, fTest, fChain, fAnd, fOr, fNot, fAndV, fOrV, fTru, fNil, fCons, fTup, fLst, fApp, fRng, fIt, foN, foS, int1, fSl, fBm, fCall, asg, sets, cmpD, tupD, lstD, ok_bind, ok_map, ok_some, ok_none, List.getElem?_cons_zero, List.getElem?_cons_succ, List.set_cons_zero, List.set_cons_succ, Option.bind_some, Option.map_some, wipeD, List.length_cons, List.length_nil, Nat.reduceAdd, if_true, List.getElem?_nil]
    exact no fun h => c h.len
end Lw
end
section
set_option Elab.async false
set_option linter.all false
set_option autoImplicit false
/-! Pdb: law_right, judge_ambiguity. -/
namespace Lw
open PySem PySem.Spec PyProof.Rows L2
def papD (w : List Nat) (r q : List Int) : D := .tup [wordD w, intsT r, intsT q]
theorem ltB_ints (r q : List Int) (st : Sto) : ltB (intsT r) (intsT q) st = some (HT.lexLt r q) := by simp [ltB, intsT, ints_map]
def Good (bg en : List Int) (rw : List (Int × Nat × Int)) (w : List Nat) (r q : List Int) : Prop := HT.lexLt r q = true ∧ RunP bg en rw w r ∧ RunP bg en rw w q
theorem right_ok {st : Sto} {al : List Nat} {n f l s : Nat} {fi la : List Int} {tr : List (Int × Nat × Int)} {w : List Nat} {r q : List Int} (hp : AtP st fi la tr f l s) (ht : ∀ t ∈ tr, t.2.1 < 200) (hw : w.length ≤ 1000) (hk : ∀ k ∈ w, k < 200) :
    ok (p_law_right [ptsD al n f l s, papD w r q] st) fun p => ∃ b : Bool, p.1 = .bl b ∧ p.2 = st ∧ (b = true ↔ Good fi la tr w r q) := by
  refine ok_run' fun N R hN hR => ?_
  simp only [b_law_right, papD, List.map_cons, List.map_nil, List.length_cons, List.length_nil, List.replicate, List.cons_append, List.nil_append, Nat.reduceAdd, Nat.reduceSub]
  rw [S_seq, S_asg]
  simp only [fVar, fC, fOp, fUn, bool1, fTest, fChain, fAnd, fOr, fNot, fAndV, fOrV, fTru, fNil, fCons, fTup, fLst, fApp, fRng, fIt, foN, foS, int1, fSl, fBm, fCall, asg, sets, cmpD, tupD, lstD, ok_bind, ok_map, ok_some, ok_none, List.getElem?_cons_zero, List.getElem?_cons_succ, List.set_cons_zero, List.set_cons_succ, Option.bind_some, Option.map_some, wipeD, List.length_cons, List.length_nil, Nat.reduceAdd, if_true, List.getElem?_nil]
  rw [S_ret, fAndV]
  simp only [fVar, fC, fOp, fUn, bool1, fTest, fChain, fAnd, fOr, fNot, fAndV, fOrV, fTru, fNil, fCons, fTup, fLst, fApp, fRng, fIt, foN, foS, int1, fSl, fBm, fCall, asg, sets, cmpD, tupD, lstD, ok_bind, ok_map, ok_some, ok_none, List.getElem?_cons_zero, List.getElem?_cons_succ, List.set_cons_zero, List.set_cons_succ, Option.bind_some, Option.map_some, wipeD, List.length_cons, List.length_nil, Nat.reduceAdd, if_true, List.getElem?_nil, ltB_ints]
  cases c : HT.lexLt r q
  · simp only [Bool.false_eq_true, if_false, ok_some]
    exact hR _ _ ⟨false, rfl, rfl, by simp [Good, c]⟩
  · simp only [fAndV, fVar, fC, fOp, fUn, bool1, fTest, fChain, fAnd, fOr, fNot, fAndV, fOrV, fTru, fNil, fCons, fTup, fLst, fApp, fRng, fIt, foN, foS, int1, fSl, fBm, fCall, asg, sets, cmpD, tupD, lstD, ok_bind, ok_map, ok_some, ok_none, List.getElem?_cons_zero, List.getElem?_cons_succ, List.set_cons_zero, List.set_cons_succ, Option.bind_some, Option.map_some, wipeD, List.length_cons, List.length_nil, Nat.reduceAdd, if_true, List.getElem?_nil]
    refine ok_mono (isrun_ok hp ht hw hk) ?_
    rintro ⟨_, _⟩ ⟨b, rfl, rfl, hb⟩
    simp only [fVar, fC, fOp, fUn, bool1, fTest, fChain, fAnd, fOr, fNot, fAndV, fOrV, fTru, fNil, fCons, fTup, fLst, fApp, fRng, fIt, foN, foS, int1, fSl, fBm, fCall, asg, sets, cmpD, tupD, lstD, ok_bind, ok_map, ok_some, ok_none, List.getElem?_cons_zero, List.getElem?_cons_succ, List.set_cons_zero, List.set_cons_succ, Option.bind_some, Option.map_some, wipeD, List.length_cons, List.length_nil, Nat.reduceAdd, if_true, List.getElem?_nil]
    cases b
    · simp only [Bool.false_eq_true, if_false, ok_some]
      exact hR _ _ ⟨false, rfl, rfl, by simp [Good] ; intro _ h; exact absurd (hb.mpr h) (by simp)⟩
    · simp only [if_true]
      refine ok_mono (isrun_ok hp ht hw hk) ?_
      rintro ⟨_, _⟩ ⟨b', rfl, rfl, hb'⟩
      exact hR _ _ ⟨b', rfl, rfl, by rw [hb', Good, c]; simp; exact fun _ => hb.mp rfl⟩
end Lw
end
section
set_option Elab.async false
set_option linter.all false
set_option autoImplicit false
/-! Pdc: judge_ambiguity. -/
namespace Lw
open PySem PySem.Spec PyProof.Rows L2
theorem mfirst {st : Sto} {a : Nat} {A : Aut} {ρ : Env'} {i : Nat} (h : AtA st a A) (e : fVar i ρ st = some (.loc a, st)) : fMeth "Automaton" "first_states" 1 p_first_states (fVar i) fNil ρ st = some (intsT A.bg, st) := by
  rw [meth_at h e (fl_1 A)]
  simp only [fNil, Option.bind_some, List.length_nil, Nat.reduceAdd, if_true, first_of h]
theorem mlast {st : Sto} {a : Nat} {A : Aut} {ρ : Env'} {i : Nat} (h : AtA st a A) (e : fVar i ρ st = some (.loc a, st)) : fMeth "Automaton" "last_states" 1 p_last_states (fVar i) fNil ρ st = some (intsT A.en, st) := by
  rw [meth_at h e (fl_2 A)]
  simp only [fNil, Option.bind_some, List.length_nil, Nat.reduceAdd, if_true, last_of h]
theorem mnext {st : Sto} {a : Nat} {A : Aut} {ρ : Env'} {i : Nat} {f g : FE} {s : Int} {k : Nat} (h : AtA st a A) (e : fVar i ρ st = some (.loc a, st)) (ef : f ρ st = some (.int s, st)) (eg : g ρ st = some (chD k, st)) : fMeth "Automaton" "next_of" 3 p_next_of (fVar i) (fCons f (fCons g fNil)) ρ st = some (intsT (nx A s k), st) := by
  rw [meth_at h e (fl_3 A)]
  simp only [fNil, fCons, ef, eg, Option.bind_some, Option.map_some, List.length_cons, List.length_nil, Nat.reduceAdd, if_true, next_of_at h]
theorem judge_ok {st : Sto} {a : Nat} {A : Aut} {w : List Nat} {r q : List Int} (hA : AtA st a A) (hw : w.length ≤ 1000) (hk : ∀ k ∈ w, k ∈ A.al) :
    ok (p_judge_ambiguity [.loc a, papD w r q] st) fun p => ∃ b : Bool, p.1 = .bl b ∧ Fr [] st p.2 ∧ (b = true ↔ Good A.bg A.en A.rw w r q) := by
  refine ok_run' fun N R hN hR => ?_
  simp only [b_judge_ambiguity, papD, List.map_cons, List.map_nil, List.length_cons, List.length_nil, List.replicate, List.cons_append, List.nil_append, Nat.reduceAdd, Nat.reduceSub]
  have no : ∀ s, Fr [] st s → ¬ Good A.bg A.en A.rw w r q → R (.bl false) s := fun s f h => hR _ _ ⟨false, rfl, f, by simpa using h⟩
  rw [S_seq, S_asg]
  simp only [fVar, fC, fOp, fUn, bool1, fTest, fChain, fAnd, fOr, fNot, fAndV, fOrV, fTru, fNil, fCons, fTup, fLst, fApp, fRng, fIt, foN, foS, int1, fSl, fBm, fCall, asg, sets, cmpD, tupD, lstD, ok_bind, ok_map, ok_some, ok_none, List.getElem?_cons_zero, List.getElem?_cons_succ, List.set_cons_zero, List.set_cons_succ, Option.bind_some, Option.map_some, wipeD, List.length_cons, List.length_nil, Nat.reduceAdd, if_true, List.getElem?_nil]
  rw [S_seq, S_if, fOr, ok_bind, fTru, ok_bind]
  refine ok_mono (P := fun p => p = (.loc st.length, st ++ [MO.lst []])) (fLc_ok ?_) ?_
  · rw [fIt, ok_bind]
    refine ok_of (a := (wordD w, st)) rfl ?_
    simp only [wordD, itS, ok_some]
    refine ok_of (lc_pure (st := st) (fun _ => false) id _ [] (fun m => trivial) ?_ fun d hd => ?_) ?_
    · rw [str_items]; simp; omega
    · rw [str_items] at hd
      obtain ⟨k, hkw, rfl⟩ := List.mem_map.mp hd
      refine ⟨_, rfl, fun acc => ⟨?_, fun c => by cases c⟩⟩
      obtain ⟨r, v, hi⟩ := (hA.fr (.app [MO.lst acc])).ins
      simp only [fVar, fC, fOp, fUn, bool1, fTest, fChain, fAnd, fOr, fNot, fAndV, fOrV, fTru, fNil, fCons, fTup, fLst, fApp, fRng, fIt, foN, foS, int1, fSl, fBm, fCall, asg, sets, cmpD, tupD, lstD, ok_bind, ok_map, ok_some, ok_none, List.getElem?_cons_zero, List.getElem?_cons_succ, List.set_cons_zero, List.set_cons_succ, Option.bind_some, Option.map_some, wipeD, List.length_cons, List.length_nil, Nat.reduceAdd, if_true, List.getElem?_nil, fFld, hi, fl_al, notInB, in_al, hk k hkw, decide_true, Bool.not_true]
    · simp
  rintro _ rfl
  have f1 : Fr [] st (st ++ [MO.lst []]) := .app _
  have g1 : (st ++ [MO.lst []])[st.length]? = some (.lst []) := by simp
  generalize st ++ [MO.lst []] = s1 at f1 g1 ⊢
  simp only [truD, g1, ok_some, List.isEmpty_nil, Bool.not_true, Bool.false_eq_true, if_false, fNot, fVar, fC, fOp, fUn, bool1, fTest, fChain, fAnd, fOr, fNot, fAndV, fOrV, fTru, fNil, fCons, fTup, fLst, fApp, fRng, fIt, foN, foS, int1, fSl, fBm, fCall, asg, sets, cmpD, tupD, lstD, ok_bind, ok_map, ok_some, ok_none, List.getElem?_cons_zero, List.getElem?_cons_succ, List.set_cons_zero, List.set_cons_succ, Option.bind_some, Option.map_some, wipeD, List.length_cons, List.length_nil, Nat.reduceAdd, if_true, List.getElem?_nil, ltB_ints]
  cases c : HT.lexLt r q
  · simp only [Bool.not_false, if_true]
    rw [S_ret]
    simp only [fVar, fC, fOp, fUn, bool1, fTest, fChain, fAnd, fOr, fNot, fAndV, fOrV, fTru, fNil, fCons, fTup, fLst, fApp, fRng, fIt, foN, foS, int1, fSl, fBm, fCall, asg, sets, cmpD, tupD, lstD, ok_bind, ok_map, ok_some, ok_none, List.getElem?_cons_zero, List.getElem?_cons_succ, List.set_cons_zero, List.set_cons_succ, Option.bind_some, Option.map_some, wipeD, List.length_cons, List.length_nil, Nat.reduceAdd, if_true, List.getElem?_nil]
    exact no _ f1 fun h => by rw [h.1] at c; cases c
  simp only [Bool.not_true, Bool.false_eq_true, if_false, S_nx]
  rw [S_seq, S_for]
  simp only [fVar, fC, fOp, fUn, bool1, fTest, fChain, fAnd, fOr, fNot, fAndV, fOrV, fTru, fNil, fCons, fTup, fLst, fApp, fRng, fIt, foN, foS, int1, fSl, fBm, fCall, asg, sets, cmpD, tupD, lstD, ok_bind, ok_map, ok_some, ok_none, List.getElem?_cons_zero, List.getElem?_cons_succ, List.set_cons_zero, List.set_cons_succ, Option.bind_some, Option.map_some, wipeD, List.length_cons, List.length_nil, Nat.reduceAdd, if_true, List.getElem?_nil, Nat.reduceLeDiff, itT]
  have hA1 := hA.fr f1
  refine for_ok (fun i ρ s => ∃ x2 x6 : Option D, ρ = [some (.loc a), some (papD w r q), x2, some (wordD w), some (intsT r), some (intsT q), x6, none] ∧ s = s1 ∧ (1 ≤ i → RunP A.bg A.en A.rw w r) ∧ (2 ≤ i → RunP A.bg A.en A.rw w q)) ⟨none, none, rfl, rfl, by omega, by omega⟩ (fun _ _ _ _ => trivial) ?_ ?_
  · rintro i d ρ s hd ⟨x2, x6, rfl, rfl, h1, h2⟩
    have key : ∀ (z : List Int) (J : Env' → Sto → Prop), (¬ RunP A.bg A.en A.rw w z → R (.bl false) s) → (RunP A.bg A.en A.rw w z → ∀ x6, J [some (.loc a), some (papD w r q), some (intsT z), some (wordD w), some (intsT r), some (intsT q), x6, none] s) →
        S (sSeq (sIf (fOr (fTest (fOp (cmpD neB) (fApp lenD (fCons (fVar 2) fNil)) (fOp addD (fApp lenD (fCons (fVar 3) fNil)) (fC (.int 1))))) (fTest (fOp (cmpD notInB) (fOp ixD (fVar 2) (fC (.int 0))) (fMeth "Automaton" "first_states" 1 p_first_states (fVar 0) fNil)))) (sRet (fC (.bl false))) sNx)
  (sSeq (sIf (fTest (fOp (cmpD notInB) (fOp ixD (fVar 2) (fUn negD (fC (.int 1)))) (fMeth "Automaton" "last_states" 1 p_last_states (fVar 0) fNil))) (sRet (fC (.bl false))) sNx)
  (sFor (fRng (fCons (fApp lenD (fCons (fVar 3) fNil)) fNil)) (.nm 6) (sIf (fTest (fOp (cmpD notInB) (fOp ixD (fVar 2) (fOp addD (fVar 6) (fC (.int 1)))) (fMeth "Automaton" "next_of" 3 p_next_of (fVar 0) (fCons (fOp ixD (fVar 2) (fVar 6)) (fCons (fOp ixD (fVar 3) (fVar 6)) fNil))))) (sRet (fC (.bl false))) sNx))))
          [some (.loc a), some (papD w r q), some (intsT z), some (wordD w), some (intsT r), some (intsT q), x6, none] s J R := by
      intro z J hno hJ
      rw [S_seq, S_if, fOr, ok_bind]
      simp only [fVar, fC, fOp, fUn, bool1, fTest, fChain, fAnd, fOr, fNot, fAndV, fOrV, fTru, fNil, fCons, fTup, fLst, fApp, fRng, fIt, foN, foS, int1, fSl, fBm, fCall, asg, sets, cmpD, tupD, lstD, ok_bind, ok_map, ok_some, ok_none, List.getElem?_cons_zero, List.getElem?_cons_succ, List.set_cons_zero, List.set_cons_succ, Option.bind_some, Option.map_some, wipeD, List.length_cons, List.length_nil, Nat.reduceAdd, if_true, List.getElem?_nil, lenI, lenW hw, addD, neB]
      by_cases cz : z.length = w.length + 1
      · have c' : (z.length : Int) = (w.length : Int) + 1 := by omega
        obtain ⟨x, hx⟩ : ∃ x, z[0]? = some x := ⟨_, List.getElem?_eq_getElem (by omega)⟩
        obtain ⟨y, hy⟩ : ∃ y, z[w.length]? = some y := ⟨_, List.getElem?_eq_getElem (by omega)⟩
        have e1 := mfirst (ρ := [some (.loc a), some (papD w r q), some (intsT z), some (wordD w), some (intsT r), some (intsT q), x6, none]) (i := 0) hA1 rfl
        have e2 := mlast (ρ := [some (.loc a), some (papD w r q), some (intsT z), some (wordD w), some (intsT r), some (intsT q), x6, none]) (i := 0) hA1 rfl
        simp only [fVar, fC, fOp, fUn, bool1, fTest, fChain, fAnd, fOr, fNot, fAndV, fOrV, fTru, fNil, fCons, fTup, fLst, fApp, fRng, fIt, foN, foS, int1, fSl, fBm, fCall, asg, sets, cmpD, tupD, lstD, ok_bind, ok_map, ok_some, ok_none, List.getElem?_cons_zero, List.getElem?_cons_succ, List.set_cons_zero, List.set_cons_succ, Option.bind_some, Option.map_some, wipeD, List.length_cons, List.length_nil, Nat.reduceAdd, if_true, List.getElem?_nil, c', decide_true, Bool.not_true, Bool.false_eq_true, if_false, ixI0 hx, e1, notInB, in_ints]
        by_cases cx : x ∈ A.bg
        · simp only [fVar, fC, fOp, fUn, bool1, fTest, fChain, fAnd, fOr, fNot, fAndV, fOrV, fTru, fNil, fCons, fTup, fLst, fApp, fRng, fIt, foN, foS, int1, fSl, fBm, fCall, asg, sets, cmpD, tupD, lstD, ok_bind, ok_map, ok_some, ok_none, List.getElem?_cons_zero, List.getElem?_cons_succ, List.set_cons_zero, List.set_cons_succ, Option.bind_some, Option.map_some, wipeD, List.length_cons, List.length_nil, Nat.reduceAdd, if_true, List.getElem?_nil, cx, decide_true, Bool.not_true, Bool.false_eq_true, if_false, S_nx]
          rw [S_seq, S_if]
          simp only [fVar, fC, fOp, fUn, bool1, fTest, fChain, fAnd, fOr, fNot, fAndV, fOrV, fTru, fNil, fCons, fTup, fLst, fApp, fRng, fIt, foN, foS, int1, fSl, fBm, fCall, asg, sets, cmpD, tupD, lstD, ok_bind, ok_map, ok_some, ok_none, List.getElem?_cons_zero, List.getElem?_cons_succ, List.set_cons_zero, List.set_cons_succ, Option.bind_some, Option.map_some, wipeD, List.length_cons, List.length_nil, Nat.reduceAdd, if_true, List.getElem?_nil, negD, ixIl cz hy, e2, in_ints, notInB]
          by_cases cy : y ∈ A.en
          · simp only [fVar, fC, fOp, fUn, bool1, fTest, fChain, fAnd, fOr, fNot, fAndV, fOrV, fTru, fNil, fCons, fTup, fLst, fApp, fRng, fIt, foN, foS, int1, fSl, fBm, fCall, asg, sets, cmpD, tupD, lstD, ok_bind, ok_map, ok_some, ok_none, List.getElem?_cons_zero, List.getElem?_cons_succ, List.set_cons_zero, List.set_cons_succ, Option.bind_some, Option.map_some, wipeD, List.length_cons, List.length_nil, Nat.reduceAdd, if_true, List.getElem?_nil, cy, decide_true, Bool.not_true, Bool.false_eq_true, if_false, S_nx]
            rw [S_for, fRng, ok_bind]
            refine ok_of (a := ([.int w.length], s)) (by simp [fCons, fApp, fVar, fNil, lenW hw]) ?_
            rw [rng1_at _ _ ⟨by omega, by omega⟩, ok_some]
            refine for_ok (fun i ρ u => ∃ x6 : Option D, ρ = [some (.loc a), some (papD w r q), some (intsT z), some (wordD w), some (intsT r), some (intsT q), x6, none] ∧ u = s ∧ ∀ j k s t, j < i → w[j]? = some k → z[j]? = some s → z[j + 1]? = some t → (s, k, t) ∈ A.rw) ⟨x6, rfl, rfl, by intro _ _ _ _ h; omega⟩ (fun _ _ _ _ => trivial) ?_ ?_
            · rintro i d ρ u hd ⟨x3, rfl, rfl, hq⟩
              obtain ⟨hi, rfl⟩ := rng_it0 hd
              have hi : i < w.length := by simpa using hi
              obtain ⟨k, ek⟩ : ∃ k, w[i]? = some k := ⟨_, List.getElem?_eq_getElem hi⟩
              obtain ⟨v, ex⟩ : ∃ k, z[i]? = some k := ⟨_, List.getElem?_eq_getElem (by omega)⟩
              obtain ⟨v', ey⟩ : ∃ k, z[i + 1]? = some k := ⟨_, List.getElem?_eq_getElem (by omega)⟩
              have ey' : ixD (intsT z) (.int ((i : Int) + 1)) u = some (.int v', u) := ixI (i := i + 1) ey u
              simp only [asg, ok_some, List.set_cons_succ, List.set_cons_zero]
              rw [S_if]
              have e3 := mnext (ρ := [some (.loc a), some (papD w r q), some (intsT z), some (wordD w), some (intsT r), some (intsT q), some (.int i), none]) (i := 0) (f := fOp ixD (fVar 2) (fVar 6)) (g := fOp ixD (fVar 3) (fVar 6)) (s := v) (k := k) hA1 rfl (by simp only [fVar, fC, fOp, fUn, bool1, fTest, fChain, fAnd, fOr, fNot, fAndV, fOrV, fTru, fNil, fCons, fTup, fLst, fApp, fRng, fIt, foN, foS, int1, fSl, fBm, fCall, asg, sets, cmpD, tupD, lstD, ok_bind, ok_map, ok_some, ok_none, List.getElem?_cons_zero, List.getElem?_cons_succ, List.set_cons_zero, List.set_cons_succ, Option.bind_some, Option.map_some, wipeD, List.length_cons, List.length_nil, Nat.reduceAdd, if_true, List.getElem?_nil, ixI ex]) (by simp only [fVar, fC, fOp, fUn, bool1, fTest, fChain, fAnd, fOr, fNot, fAndV, fOrV, fTru, fNil, fCons, fTup, fLst, fApp, fRng, fIt, foN, foS, int1, fSl, fBm, fCall, asg, sets, cmpD, tupD, lstD, ok_bind, ok_map, ok_some, ok_none, List.getElem?_cons_zero, List.getElem?_cons_succ, List.set_cons_zero, List.set_cons_succ, Option.bind_some, Option.map_some, wipeD, List.length_cons, List.length_nil, Nat.reduceAdd, if_true, List.getElem?_nil, ixW hw ek])
              simp only [fVar, fC, fOp, fUn, bool1, fTest, fChain, fAnd, fOr, fNot, fAndV, fOrV, fTru, fNil, fCons, fTup, fLst, fApp, fRng, fIt, foN, foS, int1, fSl, fBm, fCall, asg, sets, cmpD, tupD, lstD, ok_bind, ok_map, ok_some, ok_none, List.getElem?_cons_zero, List.getElem?_cons_succ, List.set_cons_zero, List.set_cons_succ, Option.bind_some, Option.map_some, wipeD, List.length_cons, List.length_nil, Nat.reduceAdd, if_true, List.getElem?_nil, ey', e3, addD, notInB, in_ints, mem_nx]
              by_cases cm : (v, k, v') ∈ A.rw
              · simp only [fVar, fC, fOp, fUn, bool1, fTest, fChain, fAnd, fOr, fNot, fAndV, fOrV, fTru, fNil, fCons, fTup, fLst, fApp, fRng, fIt, foN, foS, int1, fSl, fBm, fCall, asg, sets, cmpD, tupD, lstD, ok_bind, ok_map, ok_some, ok_none, List.getElem?_cons_zero, List.getElem?_cons_succ, List.set_cons_zero, List.set_cons_succ, Option.bind_some, Option.map_some, wipeD, List.length_cons, List.length_nil, Nat.reduceAdd, if_true, List.getElem?_nil, cm, decide_true, Bool.not_true, Bool.false_eq_true, if_false, S_nx]
                refine ⟨_, rfl, by trivial, fun j k' s' t' hj q1 q2 q3 => ?_⟩
                by_cases cj : j < i
                · exact hq j k' s' t' cj q1 q2 q3
                · obtain rfl : j = i := by omega
                  rw [ek] at q1; rw [ex] at q2; rw [ey] at q3
                  cases q1; cases q2; cases q3
                  exact cm
              · simp only [fVar, fC, fOp, fUn, bool1, fTest, fChain, fAnd, fOr, fNot, fAndV, fOrV, fTru, fNil, fCons, fTup, fLst, fApp, fRng, fIt, foN, foS, int1, fSl, fBm, fCall, asg, sets, cmpD, tupD, lstD, ok_bind, ok_map, ok_some, ok_none, List.getElem?_cons_zero, List.getElem?_cons_succ, List.set_cons_zero, List.set_cons_succ, Option.bind_some, Option.map_some, wipeD, List.length_cons, List.length_nil, Nat.reduceAdd, if_true, List.getElem?_nil, cm, decide_false, Bool.not_false, if_true]
                rw [S_ret]
                simp only [fVar, fC, fOp, fUn, bool1, fTest, fChain, fAnd, fOr, fNot, fAndV, fOrV, fTru, fNil, fCons, fTup, fLst, fApp, fRng, fIt, foN, foS, int1, fSl, fBm, fCall, asg, sets, cmpD, tupD, lstD, ok_bind, ok_map, ok_some, ok_none, List.getElem?_cons_zero, List.getElem?_cons_succ, List.set_cons_zero, List.set_cons_succ, Option.bind_some, Option.map_some, wipeD, List.length_cons, List.length_nil, Nat.reduceAdd, if_true, List.getElem?_nil]
                exact hno fun h => cm (h.way i k v v' ek ex ey)
            · rintro ρ u ⟨x3, rfl, rfl, hq⟩
              refine hJ ⟨cz, ⟨x, hx, cx⟩, ⟨y, hy, cy⟩, fun i k s t e1 e2 e3 => hq i k s t ?_ e1 e2 e3⟩ _
              rw [rng_len]
              have := (List.getElem?_eq_some_iff.mp e1).1
              simpa using this
          · simp only [fVar, fC, fOp, fUn, bool1, fTest, fChain, fAnd, fOr, fNot, fAndV, fOrV, fTru, fNil, fCons, fTup, fLst, fApp, fRng, fIt, foN, foS, int1, fSl, fBm, fCall, asg, sets, cmpD, tupD, lstD, ok_bind, ok_map, ok_some, ok_none, List.getElem?_cons_zero, List.getElem?_cons_succ, List.set_cons_zero, List.set_cons_succ, Option.bind_some, Option.map_some, wipeD, List.length_cons, List.length_nil, Nat.reduceAdd, if_true, List.getElem?_nil, cy, decide_false, Bool.not_false, if_true]
            rw [S_ret]
            simp only [fVar, fC, fOp, fUn, bool1, fTest, fChain, fAnd, fOr, fNot, fAndV, fOrV, fTru, fNil, fCons, fTup, fLst, fApp, fRng, fIt, foN, foS, int1, fSl, fBm, fCall, asg, sets, cmpD, tupD, lstD, ok_bind, ok_map, ok_some, ok_none, List.getElem?_cons_zero, List.getElem?_cons_succ, List.set_cons_zero, List.set_cons_succ, Option.bind_some, Option.map_some, wipeD, List.length_cons, List.length_nil, Nat.reduceAdd, if_true, List.getElem?_nil]
            exact hno fun h => by obtain ⟨q, h1, h2⟩ := h.e; rw [hy] at h1; cases h1; exact cy h2
        · simp only [fVar, fC, fOp, fUn, bool1, fTest, fChain, fAnd, fOr, fNot, fAndV, fOrV, fTru, fNil, fCons, fTup, fLst, fApp, fRng, fIt, foN, foS, int1, fSl, fBm, fCall, asg, sets, cmpD, tupD, lstD, ok_bind, ok_map, ok_some, ok_none, List.getElem?_cons_zero, List.getElem?_cons_succ, List.set_cons_zero, List.set_cons_succ, Option.bind_some, Option.map_some, wipeD, List.length_cons, List.length_nil, Nat.reduceAdd, if_true, List.getElem?_nil, cx, decide_false, Bool.not_false, if_true]
          rw [S_ret]
          simp only [fVar, fC, fOp, fUn, bool1, fTest, fChain, fAnd, fOr, fNot, fAndV, fOrV, fTru, fNil, fCons, fTup, fLst, fApp, fRng, fIt, foN, foS, int1, fSl, fBm, fCall, asg, sets, cmpD, tupD, lstD, ok_bind, ok_map, ok_some, ok_none, List.getElem?_cons_zero, List.getElem?_cons_succ, List.set_cons_zero, List.set_cons_succ, Option.bind_some, Option.map_some, wipeD, List.length_cons, List.length_nil, Nat.reduceAdd, if_true, List.getElem?_nil]
          exact hno fun h => by obtain ⟨q, h1, h2⟩ := h.b; rw [hx] at h1; cases h1; exact cx h2
      · have c' : ¬ (z.length : Int) = (w.length : Int) + 1 := by omega
        simp only [fVar, fC, fOp, fUn, bool1, fTest, fChain, fAnd, fOr, fNot, fAndV, fOrV, fTru, fNil, fCons, fTup, fLst, fApp, fRng, fIt, foN, foS, int1, fSl, fBm, fCall, asg, sets, cmpD, tupD, lstD, ok_bind, ok_map, ok_some, ok_none, List.getElem?_cons_zero, List.getElem?_cons_succ, List.set_cons_zero, List.set_cons_succ, Option.bind_some, Option.map_some, wipeD, List.length_cons, List.length_nil, Nat.reduceAdd, if_true, List.getElem?_nil, c', decide_false, Bool.not_false, if_true]
        rw [S_ret]
        simp only [fVar, fC, fOp, fUn, bool1, fTest, fChain, fAnd, fOr, fNot, fAndV, fOrV, fTru, fNil, fCons, fTup, fLst, fApp, fRng, fIt, foN, foS, int1, fSl, fBm, fCall, asg, sets, cmpD, tupD, lstD, ok_bind, ok_map, ok_some, ok_none, List.getElem?_cons_zero, List.getElem?_cons_succ, List.set_cons_zero, List.set_cons_succ, Option.bind_some, Option.map_some, wipeD, List.length_cons, List.length_nil, Nat.reduceAdd, if_true, List.getElem?_nil]
        exact hno fun h => cz h.len
    have hi : i = 0 ∨ i = 1 := by
      have := (List.getElem?_eq_some_iff.mp hd).1
      simp [ItD.items] at this; omega
    rcases hi with rfl | rfl
    · simp [ItD.items] at hd; subst hd
      simp only [asg, ok_some, List.set_cons_succ, List.set_cons_zero]
      exact key r _ (fun h => no _ f1 fun g => h g.2.1) fun h x6 => ⟨_, x6, rfl, rfl, fun _ => h, by omega⟩
    · simp [ItD.items] at hd; subst hd
      simp only [asg, ok_some, List.set_cons_succ, List.set_cons_zero]
      exact key q _ (fun h => no _ f1 fun g => h g.2.2) fun h x6 => ⟨_, x6, rfl, rfl, fun _ => h1 (by omega), fun _ => h⟩
  · rintro ρ s ⟨x2, x6, rfl, rfl, h1, h2⟩
    rw [S_ret]
    simp only [fVar, fC, fOp, fUn, bool1, fTest, fChain, fAnd, fOr, fNot, fAndV, fOrV, fTru, fNil, fCons, fTup, fLst, fApp, fRng, fIt, foN, foS, int1, fSl, fBm, fCall, asg, sets, cmpD, tupD, lstD, ok_bind, ok_map, ok_some, ok_none, List.getElem?_cons_zero, List.getElem?_cons_succ, List.set_cons_zero, List.set_cons_succ, Option.bind_some, Option.map_some, wipeD, List.length_cons, List.length_nil, Nat.reduceAdd, if_true, List.getElem?_nil]
    exact hR _ _ ⟨true, rfl, f1, fun _ => ⟨c, h1 (by simp [ItD.items]), h2 (by simp [ItD.items])⟩, fun _ => rfl⟩
end Lw
end
section
set_option Elab.async false
set_option linter.all false
set_option autoImplicit false
/-! Pdd: runs. -/
namespace Lw
open PySem PySem.Spec PyProof.Rows L2
theorem filt_true {α : Type} (l : List α) : l.filter (fun _ => true) = l := List.filter_eq_self.mpr fun _ _ => rfl
theorem lc2_pure {it : ItD} {g : Tgt} {ft : FT} {fi1 : FI} {g1 : Tgt} {ft1 : FT} {fe : FE} {vs1 : List Nat} {ρ : Env'} {st : Sto} (its : D → List D) (f : D → D → D) (ys : List D) (acc : List D)
    (hg : ∀ s, gd it (st ++ [s]))
    (hs : acc.length + (ys.flatMap fun d => (its d).map (f d)).length ≤ 100000)
    (h : ∀ d ∈ ys, ∃ ρ1, asg g d ρ = some ρ1 ∧ ∀ acc, ft ρ1 (st ++ [.lst acc]) = some (true, st ++ [.lst acc]) ∧ fi1 ρ1 (st ++ [.lst acc]) = some (.tup (its d), st ++ [.lst acc]) ∧
      ∀ e ∈ its d, ∃ ρ2, asg g1 e (wipeD ρ1 vs1) = some ρ2 ∧ ∀ acc, ft1 ρ2 (st ++ [.lst acc]) = some (true, st ++ [.lst acc]) ∧ fe ρ2 (st ++ [.lst acc]) = some (f d e, st ++ [.lst acc])) :
    lc2Go it g ft fi1 g1 ft1 fe vs1 st.length ρ ys (st ++ [.lst acc]) = some (st ++ [.lst (acc ++ ys.flatMap fun d => (its d).map (f d))]) := by
  induction ys generalizing acc with
  | nil => unfold lc2Go; rw [if_pos (hg _)]; simp
  | cons d ys ih =>
    obtain ⟨ρ1, e, h1⟩ := h d (.head _)
    obtain ⟨e2, e3, e4⟩ := h1 acc
    unfold lc2Go
    rw [List.flatMap_cons, List.length_append] at hs
    rw [if_pos (hg _), e, Option.bind_some, e2, Option.bind_some, if_pos rfl, e3, Option.bind_some]
    have := lc_pure (it := .tup (its d)) (g := g1) (ft := ft1) (fe := fe) (ρ := wipeD ρ1 vs1) (st := st) (fun _ => true) (f d) (its d) acc (fun _ => trivial) (by rw [List.length_map] at hs; omega) fun e he => by
      obtain ⟨ρ2, q1, q2⟩ := e4 e he
      exact ⟨ρ2, q1, fun acc => ⟨(q2 acc).1, fun _ => (q2 acc).2⟩⟩
    rw [show (ItD.tup (its d)).items = its d from rfl, this, Option.bind_some, filt_true, ih _ (by rw [List.length_append]; omega) fun d hd => h d (.tail _ hd)]
    simp
theorem checkw_ok {st : Sto} {a : Nat} {A : Aut} {w : List Nat} (hA : AtA st a A) (hw : w.length ≤ 1000) (hk : ∀ k ∈ w, k ∈ A.al) : ok (p_check_word [.loc a, wordD w] st) fun p => p.1 = .non ∧ Fr [] st p.2 := by
  refine ok_run' fun N R hN hR => ?_
  simp only [b_check_word, List.map_cons, List.map_nil, List.length_cons, List.length_nil, List.replicate, List.cons_append, List.nil_append, Nat.reduceAdd, Nat.reduceSub]
  rw [S_if, fTru, ok_bind]
  refine ok_mono (P := fun p => p = (.loc st.length, st ++ [MO.lst []])) (fLc_ok ?_) ?_
  · rw [fIt, ok_bind]
    refine ok_of (a := (wordD w, st)) rfl ?_
    simp only [wordD, itS, ok_some]
    refine ok_of (lc_pure (st := st) (fun _ => false) id _ [] (fun m => trivial) ?_ fun d hd => ?_) ?_
    · rw [str_items]; simp; omega
    · rw [str_items] at hd
      obtain ⟨k, hkw, rfl⟩ := List.mem_map.mp hd
      refine ⟨_, rfl, fun acc => ⟨?_, fun c => by cases c⟩⟩
      obtain ⟨r, v, hi⟩ := (hA.fr (.app [MO.lst acc])).ins
      simp only [fVar, fC, fOp, fUn, bool1, fTest, fChain, fAnd, fOr, fNot, fAndV, fOrV, fTru, fNil, fCons, fTup, fLst, fApp, fRng, fIt, foN, foS, int1, fSl, fBm, fCall, asg, sets, cmpD, tupD, lstD, ok_bind, ok_map, ok_some, ok_none, List.getElem?_cons_zero, List.getElem?_cons_succ, List.set_cons_zero, List.set_cons_succ, Option.bind_some, Option.map_some, wipeD, List.length_cons, List.length_nil, Nat.reduceAdd, if_true, List.getElem?_nil, fFld, hi, fl_al, notInB, in_al, hk k hkw, decide_true, Bool.not_true]
    · simp
  rintro _ rfl
  simp only [truD, List.getElem?_concat_length, ok_some, List.isEmpty_nil, Bool.not_true, Bool.false_eq_true, if_false, S_nx]
  exact hN _ _ ⟨rfl, .app _⟩
def lastI (r : List Int) : Int := r.getLastD 0
/-- the parts of runs for the first letters -/
structure FR (A : Aut) (w : List Nat) (i : Nat) (F : List (List Int)) : Prop where
  ends : F.map lastI = fol A (w.take i)
  len : ∀ r ∈ F, r.length = i + 1
  all : ∀ r, r.length = i + 1 → (∃ s, r[0]? = some s ∧ s ∈ A.bg) → Way A.rw (w.take i) r → r ∈ F
theorem FR.zero {A : Aut} {w : List Nat} : FR A w 0 (A.bg.map fun s => [s]) := by
  refine ⟨?_, ?_, ?_⟩
  · simp [fol, lastI, Function.comp_def]
  · intro r hr
    obtain ⟨s, _, rfl⟩ := List.mem_map.mp hr
    rfl
  · rintro r hl ⟨s, h1, h2⟩ _
    match r, hl, h1 with
    | [x], _, h1 => simp at h1; subst h1; exact List.mem_map.mpr ⟨x, h2, rfl⟩
theorem FR.step {A : Aut} {w : List Nat} {i : Nat} {F : List (List Int)} (h : FR A w i F) {k : Nat} (hk : w[i]? = some k) : FR A w (i + 1) (F.flatMap fun r => (nx A (lastI r) k).map fun t => r ++ [t]) := by
  have ht : w.take (i + 1) = w.take i ++ [k] := by rw [List.take_add_one, hk]; rfl
  have hi : i < w.length := (List.getElem?_eq_some_iff.mp hk).1
  refine ⟨?_, ?_, ?_⟩
  · rw [ht, fol_snoc, ← h.ends, List.map_flatMap, List.flatMap_map]
    congr 1; funext r
    rw [List.map_map]
    simp [Function.comp_def, lastI]
  · intro r hr
    obtain ⟨q, hq, hr⟩ := List.mem_flatMap.mp hr
    obtain ⟨t, _, rfl⟩ := List.mem_map.mp hr
    simp [h.len q hq]
  · rintro r hl hb hw
    obtain ⟨q, t, rfl⟩ : ∃ q t, r = q ++ [t] := ⟨r.dropLast, r.getLast (by intro h; subst h; simp at hl), (List.dropLast_concat_getLast _).symm⟩
    have hq : q.length = i + 1 := by simpa using hl
    have hb' : ∃ s, q[0]? = some s ∧ s ∈ A.bg := by
      obtain ⟨s, h1, h2⟩ := hb
      exact ⟨s, by rwa [List.getElem?_append_left (by omega)] at h1, h2⟩
    have hw' : Way A.rw (w.take i) q := by
      intro j k' s u e1 e2 e3
      have hj : j < i := by
        have := (List.getElem?_eq_some_iff.mp e1).1
        simp at this; omega
      refine hw j k' s u ?_ ?_ ?_
      · rw [ht, List.getElem?_append_left (by simp; omega)]; exact e1
      · rw [List.getElem?_append_left (by omega)]; exact e2
      · rw [List.getElem?_append_left (by omega)]; exact e3
    have hF := h.all q hq hb' hw'
    refine List.mem_flatMap.mpr ⟨q, hF, List.mem_map.mpr ⟨t, ?_, rfl⟩⟩
    rw [mem_nx]
    have el : q[i]? = some (lastI q) := by
      rw [lastI, List.getLastD_eq_getLast?, List.getLast?_eq_getElem?, hq]
      simp [List.getElem?_eq_getElem (show i < q.length by omega)]
    refine hw i k (lastI q) t ?_ ?_ ?_
    · rw [ht, List.getElem?_append_right (by simp; omega)]
      simp [Nat.min_eq_left (Nat.le_of_lt hi)]
    · rw [List.getElem?_append_left (by omega)]; exact el
    · rw [List.getElem?_append_right (by omega)]; simp [hq]
theorem lastI_get {r : List Int} {n : Nat} (hl : r.length = n + 1) : r[n]? = some (lastI r) := by
  rw [lastI, List.getLastD_eq_getLast?, List.getLast?_eq_getElem?, hl]
  simp [List.getElem?_eq_getElem (show n < r.length by omega)]
theorem ixLast {r : List Int} {n : Nat} (hl : r.length = n + 1) (st : Sto) : ixD (intsT r) (.int (-1)) st = some (.int (lastI r), st) := ixIl hl (lastI_get hl) st
theorem fLc2_ok {fi : FI} {g : Tgt} {ft : FT} {fi1 : FI} {g1 : Tgt} {ft1 : FT} {fe : FE} {vs vs1 : List Nat} {ρ : Env'} {st : Sto} {Q : D × Sto → Prop}
    (h : ok (fi ρ st) fun i => ok (lc2Go i.1 g ft fi1 g1 ft1 fe vs1 i.2.length (wipeD ρ vs) i.1.items (i.2 ++ [.lst []])) fun st' => Q (.loc i.2.length, st')) : ok (fLc2 fi g ft fi1 g1 ft1 fe vs vs1 ρ st) Q := by
  unfold fLc2
  rw [ok_bind]
  refine ok_mono h fun i q => ?_
  rw [ok_map]
  exact q
theorem runs_ok {st : Sto} {a : Nat} {A : Aut} {w : List Nat} (hA : AtA st a A) (hw : w.length ≤ 1000) (hk : ∀ k ∈ w, k ∈ A.al) (hm : ∀ i, i ≤ w.length → (fol A (w.take i)).length ≤ 20000) :
    ok (p_runs [.loc a, wordD w] st) fun p => ∃ n F, p.1 = .loc n ∧ p.2[n]? = some (.lst ((F.filter fun r => decide (lastI r ∈ A.en)).map intsT)) ∧ FR A w w.length F ∧ Fr [] st p.2 := by
  refine ok_run' fun N R hN hR => ?_
  simp only [b_runs, List.map_cons, List.map_nil, List.length_cons, List.length_nil, List.replicate, List.cons_append, List.nil_append, Nat.reduceAdd, Nat.reduceSub]
  rw [S_seq, S_drop, meth_at (fo := fVar 0) hA rfl (fl_5 A)]
  simp only [fVar, fC, fOp, fUn, bool1, fTest, fChain, fAnd, fOr, fNot, fAndV, fOrV, fTru, fNil, fCons, fTup, fLst, fApp, fRng, fIt, foN, foS, int1, fSl, fBm, fCall, asg, sets, cmpD, tupD, lstD, ok_bind, ok_map, ok_some, ok_none, List.getElem?_cons_zero, List.getElem?_cons_succ, List.set_cons_zero, List.set_cons_succ, Option.bind_some, Option.map_some, wipeD, List.length_cons, List.length_nil, Nat.reduceAdd, if_true, List.getElem?_nil]
  refine ok_mono (checkw_ok hA hw hk) ?_
  rintro ⟨_, s1⟩ ⟨rfl, f1⟩
  simp only at f1 ⊢
  have hA1 := hA.fr f1
  have FL : ∀ {i : Nat} {F : List (List Int)}, FR A w i F → i ≤ w.length → F.length ≤ 20000 := fun {i F} h hi => by
    have := congrArg List.length h.ends
    rw [List.length_map] at this
    rw [this]; exact hm i hi
  rw [S_seq, S_asg]
  refine ok_mono (P := fun p => ∃ m, p.1 = .loc m ∧ p.2[m]? = some (.lst ((A.bg.map fun s => [s]).map intsT)) ∧ Fr [] st p.2) (fLc_ok ?_) ?_
  · obtain ⟨r, v, hi⟩ := hA1.ins
    simp only [fVar, fC, fOp, fUn, bool1, fTest, fChain, fAnd, fOr, fNot, fAndV, fOrV, fTru, fNil, fCons, fTup, fLst, fApp, fRng, fIt, foN, foS, int1, fSl, fBm, fCall, asg, sets, cmpD, tupD, lstD, ok_bind, ok_map, ok_some, ok_none, List.getElem?_cons_zero, List.getElem?_cons_succ, List.set_cons_zero, List.set_cons_succ, Option.bind_some, Option.map_some, wipeD, List.length_cons, List.length_nil, Nat.reduceAdd, if_true, List.getElem?_nil, fFld, hi, fl_bg, itT, intsT]
    refine ok_of (lc_pure (st := s1) (fun _ => true) (fun d => .tup [d]) _ [] (fun m => trivial) ?_ fun d hd => ⟨_, rfl, fun acc => ⟨rfl, fun _ => ?_⟩⟩) ?_
    · have := FL FR.zero (Nat.zero_le _)
      simp [ItD.items] at this ⊢; omega
    · simp only [fVar, fC, fOp, fUn, bool1, fTest, fChain, fAnd, fOr, fNot, fAndV, fOrV, fTru, fNil, fCons, fTup, fLst, fApp, fRng, fIt, foN, foS, int1, fSl, fBm, fCall, asg, sets, cmpD, tupD, lstD, ok_bind, ok_map, ok_some, ok_none, List.getElem?_cons_zero, List.getElem?_cons_succ, List.set_cons_zero, List.set_cons_succ, Option.bind_some, Option.map_some, wipeD, List.length_cons, List.length_nil, Nat.reduceAdd, if_true, List.getElem?_nil, Nat.reduceLeDiff]
    · refine ⟨s1.length, rfl, ?_, f1.trans (.app _)⟩
      simp [ItD.items, intsT, Function.comp_def, filt_true]
  rintro ⟨_, s2⟩ ⟨m, rfl, h2, f2⟩
  simp only at h2 f2
  simp only [asg, ok_some, List.set_cons_succ, List.set_cons_zero]
  rw [S_seq, S_for]
  simp only [fVar, fC, fOp, fUn, bool1, fTest, fChain, fAnd, fOr, fNot, fAndV, fOrV, fTru, fNil, fCons, fTup, fLst, fApp, fRng, fIt, foN, foS, int1, fSl, fBm, fCall, asg, sets, cmpD, tupD, lstD, ok_bind, ok_map, ok_some, ok_none, List.getElem?_cons_zero, List.getElem?_cons_succ, List.set_cons_zero, List.set_cons_succ, Option.bind_some, Option.map_some, wipeD, List.length_cons, List.length_nil, Nat.reduceAdd, if_true, List.getElem?_nil, wordD, itS]
  refine for_ok (fun i ρ s => ∃ (m : Nat) (x3 : Option D) (F : List (List Int)), ρ = [some (.loc a), some (wordD w), some (.loc m), x3, none, none, none] ∧ s[m]? = some (.lst (F.map intsT)) ∧ FR A w i F ∧ Fr [] st s) ⟨m, none, _, rfl, h2, .zero, f2⟩ (fun _ _ _ _ => trivial) ?_ ?_
  · rintro i d ρ s hd ⟨m, x3, F, rfl, hF, hR', fs⟩
    rw [str_items, List.getElem?_map] at hd
    obtain ⟨k, hk', rfl⟩ := Option.map_eq_some_iff.mp hd
    have hi : i < w.length := (List.getElem?_eq_some_iff.mp hk').1
    simp only [asg, ok_some, List.set_cons_succ, List.set_cons_zero]
    have hR2 := hR'.step hk'
    have hl2 := FL hR2 hi
    rw [S_seq, S_asg]
    refine ok_mono (P := fun p => p.1 = .loc s.length ∧ p.2 = s ++ [.lst ((F.flatMap fun r => (nx A (lastI r) k).map fun t => r ++ [t]).map intsT)]) (fLc2_ok ?_) ?_
    · simp only [fVar, fC, fOp, fUn, bool1, fTest, fChain, fAnd, fOr, fNot, fAndV, fOrV, fTru, fNil, fCons, fTup, fLst, fApp, fRng, fIt, foN, foS, int1, fSl, fBm, fCall, asg, sets, cmpD, tupD, lstD, ok_bind, ok_map, ok_some, ok_none, List.getElem?_cons_zero, List.getElem?_cons_succ, List.set_cons_zero, List.set_cons_succ, Option.bind_some, Option.map_some, wipeD, List.length_cons, List.length_nil, Nat.reduceAdd, if_true, List.getElem?_nil, itL, hF]
      have e := lc2_pure (it := .loc m (F.map intsT)) (g := .nm 5) (ft := fYes) (fi1 := fIt itT (fMeth "Automaton" "next_of" 3 p_next_of (fVar 0) (fCons (fOp ixD (fVar 5) (fUn negD (fC (.int 1)))) (fCons (fVar 3) fNil)))) (g1 := .nm 6) (ft1 := fYes) (fe := fOp addD (fVar 5) (fTup (fCons (fVar 6) fNil))) (vs1 := [6])
        (ρ := [some (.loc a), some (wordD w), some (.loc m), some (chD k), none, none, none]) (st := s)
        (fun d => match d with | .tup xs => (nx A (lastI ((intsD xs).getD [])) k).map .int | _ => []) (fun d e => match d with | .tup xs => .tup (xs ++ [e]) | _ => .non) (F.map intsT) [] ?_ ?_ ?_
      · refine ok_of e ⟨by trivial, ?_⟩
        congr 2
        simp only [List.nil_append, List.flatMap_map, List.map_flatMap, intsT, ints_map, Option.getD_some, List.map_map, Function.comp_def, List.map_append, List.map_cons, List.map_nil]
      · intro x
        show (s ++ [x])[m]? = _
        exact (Fr.app (X := []) [x]).get hF (by simp)
      · have e2 : ((F.map intsT).flatMap fun d => ((match d with | .tup xs => (nx A (lastI ((intsD xs).getD [])) k).map .int | _ => []) : List D).map ((fun d e => match d with | .tup xs => .tup (xs ++ [e]) | _ => .non : D → D → D) d)) = (F.flatMap fun r => (nx A (lastI r) k).map fun t => r ++ [t]).map intsT := by
          simp only [List.flatMap_map, List.map_flatMap, intsT, ints_map, Option.getD_some, List.map_map, Function.comp_def, List.map_append, List.map_cons, List.map_nil]
        rw [e2, List.length_map, List.length_nil]; omega
      · intro d hd
        obtain ⟨r, hr, rfl⟩ := List.mem_map.mp hd
        have hrl := hR'.len r hr
        refine ⟨_, rfl, fun acc => ⟨rfl, ?_, fun e he => ?_⟩⟩
        · have hA2 := (hA.fr fs).fr (.app [MO.lst acc])
          have e3 := mnext (ρ := [some (.loc a), some (wordD w), some (.loc m), some (chD k), none, some (intsT r), none]) (i := 0) (f := fOp ixD (fVar 5) (fUn negD (fC (.int 1)))) (g := fVar 3) (s := lastI r) (k := k) hA2 rfl (by simp only [fVar, fC, fOp, fUn, bool1, fTest, fChain, fAnd, fOr, fNot, fAndV, fOrV, fTru, fNil, fCons, fTup, fLst, fApp, fRng, fIt, foN, foS, int1, fSl, fBm, fCall, asg, sets, cmpD, tupD, lstD, ok_bind, ok_map, ok_some, ok_none, List.getElem?_cons_zero, List.getElem?_cons_succ, List.set_cons_zero, List.set_cons_succ, Option.bind_some, Option.map_some, wipeD, List.length_cons, List.length_nil, Nat.reduceAdd, if_true, List.getElem?_nil, negD, ixLast hrl]) (by simp only [fVar, fC, fOp, fUn, bool1, fTest, fChain, fAnd, fOr, fNot, fAndV, fOrV, fTru, fNil, fCons, fTup, fLst, fApp, fRng, fIt, foN, foS, int1, fSl, fBm, fCall, asg, sets, cmpD, tupD, lstD, ok_bind, ok_map, ok_some, ok_none, List.getElem?_cons_zero, List.getElem?_cons_succ, List.set_cons_zero, List.set_cons_succ, Option.bind_some, Option.map_some, wipeD, List.length_cons, List.length_nil, Nat.reduceAdd, if_true, List.getElem?_nil])
          simp only [List.set_cons_succ, List.set_cons_zero]
          rw [fIt, e3]
          simp only [intsT, itT, ints_map, Option.getD_some, Option.bind_some]
        · obtain ⟨t, ht, rfl⟩ := List.mem_map.mp he
          refine ⟨_, rfl, fun acc => ⟨rfl, ?_⟩⟩
          have : (r.map D.int).length + 1 ≤ 100000 := by simp; omega
          simp only [fVar, fC, fOp, fUn, bool1, fTest, fChain, fAnd, fOr, fNot, fAndV, fOrV, fTru, fNil, fCons, fTup, fLst, fApp, fRng, fIt, foN, foS, int1, fSl, fBm, fCall, asg, sets, cmpD, tupD, lstD, ok_bind, ok_map, ok_some, ok_none, List.getElem?_cons_zero, List.getElem?_cons_succ, List.set_cons_zero, List.set_cons_succ, Option.bind_some, Option.map_some, wipeD, List.length_cons, List.length_nil, Nat.reduceAdd, if_true, List.getElem?_nil, intsT, Nat.reduceLeDiff, addD, this]
    rintro ⟨_, s3⟩ ⟨rfl, rfl⟩
    simp only [asg, ok_some, List.set_cons_succ, List.set_cons_zero]
    rw [S_if]
    have hg : ¬ ((20000 : Int) < ((F.flatMap fun r => (nx A (lastI r) k).map fun t => r ++ [t]).length : Int)) := by omega
    simp only [fVar, fC, fOp, fUn, bool1, fTest, fChain, fAnd, fOr, fNot, fAndV, fOrV, fTru, fNil, fCons, fTup, fLst, fApp, fRng, fIt, foN, foS, int1, fSl, fBm, fCall, asg, sets, cmpD, tupD, lstD, ok_bind, ok_map, ok_some, ok_none, List.getElem?_cons_zero, List.getElem?_cons_succ, List.set_cons_zero, List.set_cons_succ, Option.bind_some, Option.map_some, wipeD, List.length_cons, List.length_nil, Nat.reduceAdd, if_true, List.getElem?_nil, lenD, List.getElem?_concat_length, List.length_map, gtB, hg, decide_false, Bool.false_eq_true, if_false, S_nx]
    exact ⟨_, _, _, rfl, by simp, hR2, fs.trans (.app _)⟩
  · rintro ρ s ⟨m, x3, F, rfl, hF, hR', fs⟩
    have hl : (ItD.str ⟨w.toArray⟩).items.length = w.length := by rw [str_items, List.length_map]
    rw [hl] at hR'
    have hl2 := FL hR' (Nat.le_refl _)
    rw [S_ret]
    refine fLc_ok ?_
    simp only [fVar, fC, fOp, fUn, bool1, fTest, fChain, fAnd, fOr, fNot, fAndV, fOrV, fTru, fNil, fCons, fTup, fLst, fApp, fRng, fIt, foN, foS, int1, fSl, fBm, fCall, asg, sets, cmpD, tupD, lstD, ok_bind, ok_map, ok_some, ok_none, List.getElem?_cons_zero, List.getElem?_cons_succ, List.set_cons_zero, List.set_cons_succ, Option.bind_some, Option.map_some, wipeD, List.length_cons, List.length_nil, Nat.reduceAdd, if_true, List.getElem?_nil, itL, hF]
    have e := lc_pure (it := .loc m (F.map intsT)) (g := .nm 5) (ft := fTest (fOp (cmpD inB) (fOp ixD (fVar 5) (fUn negD (fC (.int 1)))) (fFld "Automaton" "ends" (fVar 0)))) (fe := fVar 5) (ρ := [some (.loc a), some (wordD w), some (.loc m), x3, none, none, none]) (st := s)
      (fun d => match d with | .tup xs => decide (lastI ((intsD xs).getD []) ∈ A.en) | _ => false) id (F.map intsT) [] ?_ ?_ ?_
    · refine ok_of e (hR _ _ ⟨s.length, F, rfl, ?_, hR', fs.trans (.app _)⟩)
      rw [List.getElem?_concat_length, List.nil_append, List.map_id, List.filter_map]
      congr 3
      refine List.filter_congr fun r _ => ?_
      simp only [Function.comp_def, intsT, ints_map, Option.getD_some]
    · intro x
      show (s ++ [x])[m]? = _
      exact (Fr.app (X := []) [x]).get hF (by simp)
    · simp; omega
    · intro d hd
      obtain ⟨r, hr, rfl⟩ := List.mem_map.mp hd
      have hrl := hR'.len r hr
      refine ⟨_, rfl, fun acc => ⟨?_, fun _ => rfl⟩⟩
      have hA2 := (hA.fr fs).fr (.app [MO.lst acc])
      obtain ⟨r', v, hi⟩ := hA2.ins
      simp only [fVar, fC, fOp, fUn, bool1, fTest, fChain, fAnd, fOr, fNot, fAndV, fOrV, fTru, fNil, fCons, fTup, fLst, fApp, fRng, fIt, foN, foS, int1, fSl, fBm, fCall, asg, sets, cmpD, tupD, lstD, ok_bind, ok_map, ok_some, ok_none, List.getElem?_cons_zero, List.getElem?_cons_succ, List.set_cons_zero, List.set_cons_succ, Option.bind_some, Option.map_some, wipeD, List.length_cons, List.length_nil, Nat.reduceAdd, if_true, List.getElem?_nil, negD, ixLast hrl, fFld, hi, fl_en, in_ints]
      simp only [intsT, ints_map, Option.getD_some]
end Lw
end
section
set_option Elab.async false
set_option linter.all false
set_option autoImplicit false
/-! Pde: the way back. -/
namespace Lw
open PySem PySem.Spec PyProof.Rows L2
def keyN (x : Nd) : NestedKey := .tup [.num x.1, .num x.2.1, .num (if x.2.2 = true then 1 else 0)]
theorem keyN_inj {x y : Nd} (h : keyN x = keyN y) : x = y := by
  obtain ⟨a, b, c⟩ := x
  obtain ⟨a', b', c'⟩ := y
  simp only [keyN, NestedKey.tup.injEq, List.cons.injEq, NestedKey.num.injEq, and_true] at h
  obtain ⟨rfl, rfl, h⟩ := h
  cases c <;> cases c' <;> simp at h <;> rfl
theorem keyT_N (x : Nd) : keyT (ndD x) = some (keyN x) := by
  simp [keyT, ndD, keyD, keysD, keyN, NestedKey.depth, NestedKey.depthAll]
abbrev DN (A : Aut) := Dist (stN' A) (goN A)
/-- what the dict tells of a known pair -/
def En (A : Aut) (kvs : List (NestedKey × D)) (y : Nd) (v : D) : Prop :=
  (v = .non ∧ stN' A y) ∨ ∃ k x i, v = .tup [chD k, ndD x] ∧ go1 A k x y ∧ (gT kvs (keyN x)).isSome = true ∧ DN A i x ∧ DN A (i + 1) y
theorem Way.cons {rw_ : List (Int × Nat × Int)} {w : List Nat} {r : List Int} {s t : Int} {k : Nat} (h : Way rw_ w r) (e : r[0]? = some t) (m : (s, k, t) ∈ rw_) : Way rw_ (k :: w) (s :: r) := by
  intro i k' s' t' h1 h2 h3
  cases i with
  | zero =>
    simp only [List.getElem?_cons_zero, Option.some.injEq] at h1 h2
    simp only [Nat.zero_add, List.getElem?_cons_succ] at h3
    rw [e] at h3; cases h3; subst h1; subst h2; exact m
  | succ i => exact h i k' s' t' (by simpa using h1) (by simpa using h2) (by simpa using h3)
structure Wy (A : Aut) (y x : Nd) (w : List Nat) (ps : List (Int × Int)) : Prop where
  len : ps.length = w.length + 1
  hd : ps[0]? = some (x.1, x.2.1)
  la : ps[w.length]? = some (y.1, y.2.1)
  w1 : Way A.rw w (ps.map (·.1))
  w2 : Way A.rw w (ps.map (·.2))
  ap : x.2.2 = true ∨ ps.map (·.1) ≠ ps.map (·.2)
  rg : ∀ p ∈ ps, (0 ≤ p.1 ∧ p.1 < A.n) ∧ (0 ≤ p.2 ∧ p.2 < A.n)
theorem Wy.zero {A : Aut} (o : A.Ok) {y : Nd} (h : enN A y) : Wy A y y [] [(y.1, y.2.1)] :=
  ⟨rfl, rfl, rfl, by intro i k s t h; simp at h, by intro i k s t h; simp at h, .inl h.1, by simp; exact ⟨o.en_lt _ h.2.1, o.en_lt _ h.2.2⟩⟩
theorem Wy.step {A : Aut} (o : A.Ok) {y x z : Nd} {w : List Nat} {ps : List (Int × Int)} {k : Nat} (h : Wy A y x w ps) (g : go1 A k z x) : Wy A y z (k :: w) ((z.1, z.2.1) :: ps) := by
  obtain ⟨g1, g2, g3⟩ := g
  refine ⟨by simp [h.len], rfl, by simpa using h.la, ?_, ?_, ?_, ?_⟩
  · rw [List.map_cons]
    exact h.w1.cons (by rw [List.getElem?_map, h.hd]; rfl) g1
  · rw [List.map_cons]
    exact h.w2.cons (by rw [List.getElem?_map, h.hd]; rfl) g2
  · rcases h.ap with e | e
    · rw [g3] at e
      rcases Bool.or_eq_true_iff.mp e with e | e
      · exact .inl e
      · refine .inr fun q => ?_
        simp only [List.map_cons, List.cons.injEq] at q
        have q := congrArg (·[0]?) q.2
        simp only [List.getElem?_map, h.hd, Option.map_some, Option.some.injEq] at q
        simp [q] at e
    · exact .inr fun q => by simp only [List.map_cons, List.cons.injEq] at q; exact e q.2
  · intro p hp
    rcases List.mem_cons.mp hp with rfl | hp
    · have h1 := o.rw_lt _ g1
      have h2 := o.rw_lt _ g2
      exact ⟨⟨h1.1, h1.2.1⟩, ⟨h2.1, h2.2.1⟩⟩
    · exact h.rg p hp
theorem Wy.runs {A : Aut} {y x : Nd} {w : List Nat} {ps : List (Int × Int)} (h : Wy A y x w ps) (s : stN' A x) (e : enN A y) : RunP A.bg A.en A.rw w (ps.map (·.1)) ∧ RunP A.bg A.en A.rw w (ps.map (·.2)) ∧ ps.map (·.1) ≠ ps.map (·.2) := by
  refine ⟨⟨by simp [h.len], ⟨x.1, by rw [List.getElem?_map, h.hd]; rfl, s.1.1⟩, ⟨y.1, by rw [List.getElem?_map, h.la]; rfl, e.2.1⟩, h.w1⟩,
    ⟨by simp [h.len], ⟨x.2.1, by rw [List.getElem?_map, h.hd]; rfl, s.1.2.1⟩, ⟨y.2.1, by rw [List.getElem?_map, h.la]; rfl, e.2.2⟩, h.w2⟩, ?_⟩
  rcases h.ap with c | c
  · intro q
    have q := congrArg (·[0]?) q
    simp only [List.getElem?_map, h.hd, Option.map_some, Option.some.injEq] at q
    rw [s.1.2.2, q] at c
    simp at c
  · exact c
theorem lex_irr : ∀ r : List Int, HT.lexLt r r = false
  | [] => rfl
  | x :: r => by rw [HT.lexLt_cons, if_pos rfl, lex_irr r]
theorem lex_or : ∀ {r q : List Int}, r.length = q.length → r ≠ q → HT.lexLt q r = false → HT.lexLt r q = true
  | [], [], _, h, _ => absurd rfl h
  | x :: r, y :: q, hl, hn, h => by
    rw [HT.lexLt_cons] at h ⊢
    by_cases c : x = y
    · subst c
      rw [if_pos rfl] at h ⊢
      exact lex_or (by simpa using hl) (fun e => hn (by rw [e])) h
    · rw [if_neg fun e => c e.symm] at h
      rw [if_neg c]
      simp at h ⊢; omega
theorem wordD_cons (k : Nat) (w : List Nat) (h : w.length + 1 ≤ 100000) (st : Sto) : addD (chD k) (wordD w) st = some (wordD (k :: w), st) := by
  have h1 : Str.length ⟨#[k]⟩ = 1 := rfl
  have h2 : Str.length ⟨w.toArray⟩ = w.length := by simp [Str.length]
  have h3 : (⟨#[k]⟩ : Str) ++ (⟨w.toArray⟩ : Str) = ⟨(k :: w).toArray⟩ := by
    show (⟨#[k] ++ w.toArray⟩ : Str) = _
    simp
  simp only [addD, chD, wordD, h1, h2, h3]
  rw [if_pos (by omega)]
theorem cut2 (x : Nd) (st : Sto) : slD (ndD x) none (some 2) st = some (.tup [.int x.1, .int x.2.1], st) := rfl
theorem En.mono {A : Aut} {kvs kvs' : List (NestedKey × D)} {y : Nd} {v : D} (h : En A kvs y v) (i : ∀ x, (gT kvs (keyN x)).isSome = true → (gT kvs' (keyN x)).isSome = true) : En A kvs' y v := by
  rcases h with h | ⟨k, x, j, h1, h2, h3, h4⟩
  · exact .inl h
  · exact .inr ⟨k, x, j, h1, h2, i x h3, h4⟩
def prD (p : Int × Int) : D := .tup [.int p.1, .int p.2]
theorem back_ok {st : Sto} {kn L : Nat} {A : Aut} {kvs : List (NestedKey × D)} {y : Nd} (hk : st[kn]? = some (.dT kvs)) (K : ∀ y v, gT kvs (keyN y) = some v → En A kvs y v) (o : A.Ok) (hn : A.n ≤ 16)
    (hy : (gT kvs (keyN y)).isSome = true) (hd : DN A L y) (he : enN A y) : ok (p_way_back [.loc kn, ndD y] st) fun p => ∃ w r q, p.1 = papD w r q ∧ w.length = L ∧ Good A.bg A.en A.rw w r q ∧ Fr [] st p.2 := by
  have hL : L ≤ 512 := by
    have h1 := dist_len hd (nodes A) fun j y r => rch_nodes' o r
    rw [nodes_len] at h1
    have : A.n * (A.n * 2) ≤ 16 * (16 * 2) := Nat.mul_le_mul hn (Nat.mul_le_mul hn (Nat.le_refl _))
    omega
  refine ok_run' fun N R hN hR => ?_
  simp only [b_way_back, List.map_cons, List.map_nil, List.length_cons, List.length_nil, List.replicate, List.cons_append, List.nil_append, Nat.reduceAdd, Nat.reduceSub]
  rw [S_seq, S_asg]
  simp only [fVar, fC, fOp, fUn, bool1, fTest, fChain, fAnd, fOr, fNot, fAndV, fOrV, fTru, fNil, fCons, fTup, fLst, fApp, fRng, fIt, foN, foS, int1, fSl, fBm, fCall, asg, sets, cmpD, tupD, lstD, ok_bind, ok_map, ok_some, ok_none, List.getElem?_cons_zero, List.getElem?_cons_succ, List.set_cons_zero, List.set_cons_succ, Option.bind_some, Option.map_some, wipeD, List.length_cons, List.length_nil, Nat.reduceAdd, if_true, List.getElem?_nil]
  rw [S_seq, S_asg]
  simp only [fVar, fC, fOp, fUn, bool1, fTest, fChain, fAnd, fOr, fNot, fAndV, fOrV, fTru, fNil, fCons, fTup, fLst, fApp, fRng, fIt, foN, foS, int1, fSl, fBm, fCall, asg, sets, cmpD, tupD, lstD, ok_bind, ok_map, ok_some, ok_none, List.getElem?_cons_zero, List.getElem?_cons_succ, List.set_cons_zero, List.set_cons_succ, Option.bind_some, Option.map_some, wipeD, List.length_cons, List.length_nil, Nat.reduceAdd, if_true, List.getElem?_nil, cut2, Nat.reduceLeDiff]
  rw [S_seq]
  obtain ⟨I, hI⟩ := shut fun (n : Nat) (ρ : Env') (s : Sto) => ∃ (x : Nd) (w : List Nat) (ps : List (Int × Int)) (m : Nat) (x5 : Option D),
    ρ = [some (.loc kn), some (ndD x), some (wordD w), some (.loc m), none, x5, none] ∧ s[m]? = some (.lst (ps.map prD)) ∧ Fr [] st s ∧ DN A n x ∧ (gT kvs (keyN x)).isSome = true ∧ w.length + n = L ∧ Wy A y x w ps
  refine while_ok I L ((hI _ _ _).mpr ⟨y, [], [(y.1, y.2.1)], st.length, none, rfl, by simp [prD], .app _, hd, hy, by simp, .zero o he⟩) ?_
  intro n ρ s hi
  obtain ⟨x, w, ps, m, x5, rfl, hm, fs, hx, hv, hw, hW⟩ := (hI _ _ _).mp hi
  obtain ⟨v, hv'⟩ := Option.isSome_iff_exists.mp hv
  have hkn : ∀ s', Fr [] st s' → getD' (.loc kn) (ndD x) s' = some (v, s') := fun s' f' => by
    simp only [getD', f'.get hk (by simp), keyT_N, Option.bind_some, hv', Option.map_some]
  simp only [fVar, fC, fOp, fUn, bool1, fTest, fChain, fAnd, fOr, fNot, fAndV, fOrV, fTru, fNil, fCons, fTup, fLst, fApp, fRng, fIt, foN, foS, int1, fSl, fBm, fCall, asg, sets, cmpD, tupD, lstD, ok_bind, ok_map, ok_some, ok_none, List.getElem?_cons_zero, List.getElem?_cons_succ, List.set_cons_zero, List.set_cons_succ, Option.bind_some, Option.map_some, wipeD, List.length_cons, List.length_nil, Nat.reduceAdd, if_true, List.getElem?_nil, hkn s fs]
  rcases K x v hv' with ⟨rfl, hs⟩ | ⟨k, z, i, rfl, hg, hz, d1, d2⟩
  · simp only [notNB, Option.map_some, ok_some, Bool.false_eq_true, if_false]
    have n0 : n = 0 := dist_uniq hx ⟨.zero hs, by intro j hj; omega⟩
    subst n0
    obtain ⟨r1, r2, r3⟩ := hW.runs hs he
    have hpl := hW.len
    rw [S_seq, S_asg]
    simp only [fApp, fLst, fCons, fNil, ok_bind, ok_map]
    refine ok_mono (P := fun p => p.1 = .loc s.length ∧ p.2 = s ++ [.lst ((ps.map (·.1)).map .int)]) (fLc_ok ?_) ?_
    · simp only [fVar, fC, fOp, fUn, bool1, fTest, fChain, fAnd, fOr, fNot, fAndV, fOrV, fTru, fNil, fCons, fTup, fLst, fApp, fRng, fIt, foN, foS, int1, fSl, fBm, fCall, asg, sets, cmpD, tupD, lstD, ok_bind, ok_map, ok_some, ok_none, List.getElem?_cons_zero, List.getElem?_cons_succ, List.set_cons_zero, List.set_cons_succ, Option.bind_some, Option.map_some, wipeD, List.length_cons, List.length_nil, Nat.reduceAdd, if_true, List.getElem?_nil, itL, hm]
      refine ok_of (lc_pure (st := s) (fun _ => true) (fun d => match d with | .tup [.int a, .int b] => .int a | _ => .non) (ps.map prD) [] ?_ ?_ ?_) ⟨by trivial, ?_⟩
      · intro u
        show (s ++ [u])[m]? = _
        exact (Fr.app (X := []) [u]).get hm (by simp)
      · simp; omega
      · intro d hd
        obtain ⟨p, hp, rfl⟩ := List.mem_map.mp hd
        exact ⟨_, rfl, fun acc => ⟨rfl, fun _ => rfl⟩⟩
      · simp [prD, Function.comp_def, filt_true]
    rintro ⟨_, s1⟩ ⟨rfl, rfl⟩
    have hm1 : (s ++ [.lst ((ps.map (·.1)).map .int)])[m]? = some (.lst (ps.map prD)) := (Fr.app (X := []) _).get hm (by simp)
    simp only [fVar, fC, fOp, fUn, bool1, fTest, fChain, fAnd, fOr, fNot, fAndV, fOrV, fTru, fNil, fCons, fTup, fLst, fApp, fRng, fIt, foN, foS, int1, fSl, fBm, fCall, asg, sets, cmpD, tupD, lstD, ok_bind, ok_map, ok_some, ok_none, List.getElem?_cons_zero, List.getElem?_cons_succ, List.set_cons_zero, List.set_cons_succ, Option.bind_some, Option.map_some, wipeD, List.length_cons, List.length_nil, Nat.reduceAdd, if_true, List.getElem?_nil, tupleD, List.getElem?_concat_length]
    generalize hs1 : s ++ [.lst ((ps.map (·.1)).map .int)] = s1 at hm1 ⊢
    have f1 : Fr [] s s1 := hs1 ▸ .app _
    refine ok_mono (P := fun p => p.1 = .loc s1.length ∧ p.2 = s1 ++ [.lst ((ps.map (·.2)).map .int)]) (fLc_ok ?_) ?_
    · simp only [fVar, fC, fOp, fUn, bool1, fTest, fChain, fAnd, fOr, fNot, fAndV, fOrV, fTru, fNil, fCons, fTup, fLst, fApp, fRng, fIt, foN, foS, int1, fSl, fBm, fCall, asg, sets, cmpD, tupD, lstD, ok_bind, ok_map, ok_some, ok_none, List.getElem?_cons_zero, List.getElem?_cons_succ, List.set_cons_zero, List.set_cons_succ, Option.bind_some, Option.map_some, wipeD, List.length_cons, List.length_nil, Nat.reduceAdd, if_true, List.getElem?_nil, itL, hm1]
      refine ok_of (lc_pure (st := s1) (fun _ => true) (fun d => match d with | .tup [.int a, .int b] => .int b | _ => .non) (ps.map prD) [] ?_ ?_ ?_) ⟨by trivial, ?_⟩
      · intro u
        show (s1 ++ [u])[m]? = _
        exact (Fr.app (X := []) [u]).get hm1 (by simp)
      · simp; omega
      · intro d hd
        obtain ⟨p, hp, rfl⟩ := List.mem_map.mp hd
        exact ⟨_, rfl, fun acc => ⟨rfl, fun _ => rfl⟩⟩
      · simp [prD, Function.comp_def, filt_true]
    rintro ⟨_, s2⟩ ⟨rfl, rfl⟩
    have h7 : (ps.map (·.1)).length = (ps.map (·.2)).length ∧ 1 ≤ (ps.map (·.1)).length ∧ (∀ x ∈ ps.map (·.1), 0 ≤ x ∧ x < 100) ∧ (∀ x ∈ ps.map (·.2), 0 ≤ x ∧ x < 100) := by
      refine ⟨by simp, by simp; omega, fun x hx => ?_, fun x hx => ?_⟩
      · obtain ⟨p, hp, rfl⟩ := List.mem_map.mp hx
        have := (hW.rg p hp).1; omega
      · obtain ⟨p, hp, rfl⟩ := List.mem_map.mp hx
        have := (hW.rg p hp).2; omega
    simp only [fVar, fC, fOp, fUn, bool1, fTest, fChain, fAnd, fOr, fNot, fAndV, fOrV, fTru, fNil, fCons, fTup, fLst, fApp, fRng, fIt, foN, foS, int1, fSl, fBm, fCall, asg, sets, cmpD, tupD, lstD, ok_bind, ok_map, ok_some, ok_none, List.getElem?_cons_zero, List.getElem?_cons_succ, List.set_cons_zero, List.set_cons_succ, Option.bind_some, Option.map_some, wipeD, List.length_cons, List.length_nil, Nat.reduceAdd, if_true, List.getElem?_nil, tupleD, List.getElem?_concat_length, Nat.reduceLeDiff, sortP, ints_map, if_pos h7]
    have fin : Fr [] st ((s1 ++ [.lst ((ps.map (·.2)).map .int)]) ++ [MO.lst [D.tup ((ps.map (·.1)).map .int), D.tup ((ps.map (·.2)).map .int)]]) := fs.trans (f1.trans ((Fr.app _).trans (.app _)))
    generalize (s1 ++ [.lst ((ps.map (·.2)).map .int)]) ++ [MO.lst [D.tup ((ps.map (·.1)).map .int), D.tup ((ps.map (·.2)).map .int)]] = s3 at fin ⊢
    rw [S_ret]
    have h8 : ∀ (a b : D), ixD (.loc s3.length) (.int 0) (s3 ++ [.lst [a, b]]) = some (a, s3 ++ [.lst [a, b]]) := fun a b => by
      simp [ixD, atI, ixN]
    have h9 : ∀ (a b : D), ixD (.loc s3.length) (.int 1) (s3 ++ [.lst [a, b]]) = some (b, s3 ++ [.lst [a, b]]) := fun a b => by
      simp [ixD, atI, ixN]
    cases c : HT.lexLt (ps.map (·.2)) (ps.map (·.1))
    · simp only [fVar, fC, fOp, fUn, bool1, fTest, fChain, fAnd, fOr, fNot, fAndV, fOrV, fTru, fNil, fCons, fTup, fLst, fApp, fRng, fIt, foN, foS, int1, fSl, fBm, fCall, asg, sets, cmpD, tupD, lstD, ok_bind, ok_map, ok_some, ok_none, List.getElem?_cons_zero, List.getElem?_cons_succ, List.set_cons_zero, List.set_cons_succ, Option.bind_some, Option.map_some, wipeD, List.length_cons, List.length_nil, Nat.reduceAdd, if_true, List.getElem?_nil, Bool.false_eq_true, if_false, h8, h9, Nat.reduceLeDiff]
      exact hR _ _ ⟨w, _, _, rfl, by omega, ⟨lex_or (by simp) r3 c, r1, r2⟩, fin.trans (.app _)⟩
    · simp only [fVar, fC, fOp, fUn, bool1, fTest, fChain, fAnd, fOr, fNot, fAndV, fOrV, fTru, fNil, fCons, fTup, fLst, fApp, fRng, fIt, foN, foS, int1, fSl, fBm, fCall, asg, sets, cmpD, tupD, lstD, ok_bind, ok_map, ok_some, ok_none, List.getElem?_cons_zero, List.getElem?_cons_succ, List.set_cons_zero, List.set_cons_succ, Option.bind_some, Option.map_some, wipeD, List.length_cons, List.length_nil, Nat.reduceAdd, if_true, List.getElem?_nil, h8, h9, Nat.reduceLeDiff]
      exact hR _ _ ⟨w, _, _, rfl, by omega, ⟨c, r2, r1⟩, fin.trans (.app _)⟩
  · have hn1 : n = i + 1 := dist_uniq hx d2
    subst hn1
    simp only [notNB, Option.map_some, ok_some, if_true]
    rw [S_seq, S_asg]
    simp only [fVar, fC, fOp, fUn, bool1, fTest, fChain, fAnd, fOr, fNot, fAndV, fOrV, fTru, fNil, fCons, fTup, fLst, fApp, fRng, fIt, foN, foS, int1, fSl, fBm, fCall, asg, sets, cmpD, tupD, lstD, ok_bind, ok_map, ok_some, ok_none, List.getElem?_cons_zero, List.getElem?_cons_succ, List.set_cons_zero, List.set_cons_succ, Option.bind_some, Option.map_some, wipeD, List.length_cons, List.length_nil, Nat.reduceAdd, if_true, List.getElem?_nil, hkn s fs]
    rw [S_seq, S_asg]
    simp only [fVar, fC, fOp, fUn, bool1, fTest, fChain, fAnd, fOr, fNot, fAndV, fOrV, fTru, fNil, fCons, fTup, fLst, fApp, fRng, fIt, foN, foS, int1, fSl, fBm, fCall, asg, sets, cmpD, tupD, lstD, ok_bind, ok_map, ok_some, ok_none, List.getElem?_cons_zero, List.getElem?_cons_succ, List.set_cons_zero, List.set_cons_succ, Option.bind_some, Option.map_some, wipeD, List.length_cons, List.length_nil, Nat.reduceAdd, if_true, List.getElem?_nil, wordD_cons k w (by omega)]
    rw [S_asg]
    have hm1 : (s ++ [.lst [prD (z.1, z.2.1)]])[m]? = some (.lst (ps.map prD)) := (Fr.app (X := []) _).get hm (by simp)
    have hpl := hW.len
    have hq : 1 + (ps.map prD).length ≤ 100000 := by simp; omega
    have hq2 : (D.tup [D.int z.1, D.int z.2.1]) = prD (z.1, z.2.1) := rfl
    simp only [fVar, fC, fOp, fUn, bool1, fTest, fChain, fAnd, fOr, fNot, fAndV, fOrV, fTru, fNil, fCons, fTup, fLst, fApp, fRng, fIt, foN, foS, int1, fSl, fBm, fCall, asg, sets, cmpD, tupD, lstD, ok_bind, ok_map, ok_some, ok_none, List.getElem?_cons_zero, List.getElem?_cons_succ, List.set_cons_zero, List.set_cons_succ, Option.bind_some, Option.map_some, wipeD, List.length_cons, List.length_nil, Nat.reduceAdd, if_true, List.getElem?_nil, cut2, Nat.reduceLeDiff, addD, hq2, List.getElem?_concat_length, hm1, Nat.zero_add, if_pos hq]
    refine ⟨i, by omega, (hI _ _ _).mpr ⟨z, k :: w, (z.1, z.2.1) :: ps, _, _, rfl, ?_, fs.trans ((Fr.app _).trans (.app _)), d1, hz, by simp; omega, hW.step o hg⟩⟩
    simp
end Lw
end
section
set_option Elab.async false
set_option linter.all false
set_option autoImplicit false
/-! Pdf: the search by pairs: what stays. -/
namespace Lw
open PySem PySem.Spec PyProof.Rows L2
structure PB (A : Aut) (st s : Sto) (c : Nat) (kvs : List (NestedKey × D)) (os ws : List Nd) : Prop where
  k_ : s[st.length]? = some (.dT kvs)
  w_ : s[st.length + 1]? = some (.lst (ws.map ndD))
  f_ : Fr [] st s
  nd : os.Nodup
  kl : kvs.length ≤ os.length
  ks : ∀ y, y ∈ os ↔ (gT kvs (keyN y)).isSome = true
  en : ∀ y v, gT kvs (keyN y) = some v → En A kvs y v
  rc : ∀ y ∈ os, y ∈ nodes A
  wl : ws.length + c = os.length
theorem PB.few {A : Aut} {st s : Sto} {c : Nat} {kvs : List (NestedKey × D)} {os ws : List Nd} (h : PB A st s c kvs os ws) (hn : A.n ≤ 16) : os.length ≤ 512 := by
  have h1 := nodup_len h.nd h.rc
  rw [nodes_len] at h1
  have : A.n * (A.n * 2) ≤ 16 * (16 * 2) := Nat.mul_le_mul hn (Nat.mul_le_mul hn (Nat.le_refl _))
  omega
theorem PB.add {A : Aut} {st s : Sto} {c : Nat} {kvs : List (NestedKey × D)} {os ws : List Nd} (h : PB A st s c kvs os ws) {y : Nd} {v : D} (hy : y ∉ os) (hn : y ∈ nodes A) (hv : En A kvs y v) :
    PB A st ((s.set st.length (.dT (pT kvs (keyN y) v))).set (st.length + 1) (.lst ((ws ++ [y]).map ndD))) c (pT kvs (keyN y) v) (os ++ [y]) (ws ++ [y]) := by
  have l1 : st.length < s.length := (List.getElem?_eq_some_iff.mp h.k_).1
  have l2 : st.length + 1 < s.length := (List.getElem?_eq_some_iff.mp h.w_).1
  have mono : ∀ x, (gT kvs (keyN x)).isSome = true → (gT (pT kvs (keyN y) v) (keyN x)).isSome = true := fun x hx => by
    rw [gT_pT]; split
    · rfl
    · exact hx
  refine ⟨?_, ?_, (h.f_.set (.inl (Nat.le_refl _)) _).set (.inl (by omega)) _, ?_, ?_, ?_, ?_, ?_, ?_⟩
  · rw [List.getElem?_set_ne (by omega), List.getElem?_set_self l1]
  · rw [List.getElem?_set_self (by simpa using l2)]
  · exact List.nodup_append.mpr ⟨h.nd, by simp, fun x hx z hz => by simp at hz; subst hz; exact fun q => hy (q ▸ hx)⟩
  · have := pT_len kvs (keyN y) v
    have := h.kl
    simp; omega
  · intro z
    rw [List.mem_append, List.mem_singleton, gT_pT]
    by_cases c : z = y
    · subst c; simp
    · rw [if_neg fun e => c (keyN_inj e), h.ks z]
      simp [c]
  · intro z u hu
    rw [gT_pT] at hu
    by_cases c : z = y
    · subst c
      rw [if_pos rfl] at hu
      cases hu
      exact hv.mono mono
    · rw [if_neg fun e => c (keyN_inj e)] at hu
      exact (h.en z u hu).mono mono
  · intro z hz
    rcases List.mem_append.mp hz with hz | hz
    · exact h.rc z hz
    · simp at hz; subst hz; exact hn
  · have := h.wl
    simp; omega
theorem PB.pop {A : Aut} {st s : Sto} {c : Nat} {kvs : List (NestedKey × D)} {os ws : List Nd} {x : Nd} (h : PB A st s c kvs os (x :: ws)) : PB A st (s.set (st.length + 1) (.lst (ws.map ndD))) (c + 1) kvs os ws := by
  have l2 : st.length + 1 < s.length := (List.getElem?_eq_some_iff.mp h.w_).1
  refine ⟨?_, ?_, h.f_.set (.inl (by omega)) _, h.nd, h.kl, h.ks, h.en, h.rc, by have := h.wl; simp at this; omega⟩
  · rw [List.getElem?_set_ne (by omega), h.k_]
  · rw [List.getElem?_set_self l2]
theorem put_app {A : Aut} {st s : Sto} {c : Nat} {kvs : List (NestedKey × D)} {os ws : List Nd} {ρ : Env'} {N : Env' → Sto → Prop} {R : D → Sto → Prop} {fk fv fk' : FE} {y : Nd} {v : D} (h : PB A st s c kvs os ws) (hn : A.n ≤ 16)
    (e1 : ρ[1]? = some (some (.loc st.length))) (e2 : ρ[2]? = some (some (.loc (st.length + 1)))) (ek : ∀ s, fk ρ s = some (ndD y, s)) (ev : ∀ s, fv ρ s = some (v, s)) (ek' : ∀ s, fk' ρ s = some (ndD y, s))
    (hy : y ∉ os) (hy' : y ∈ nodes A) (hv : En A kvs y v) (k : ∀ s' kvs', PB A st s' c kvs' (os ++ [y]) (ws ++ [y]) → N ρ s') :
    S (sSeq (sPut (fVar 1) fk fv) (sDrop (fBm "list" appendD (fVar 2) (fCons fk' fNil)))) ρ s N R := by
  have few := h.few hn
  have hk : kvs.length < 100000 := by have := h.kl; omega
  have hw : ws.length < 100000 := by have := h.wl; omega
  have l1 : st.length < s.length := (List.getElem?_eq_some_iff.mp h.k_).1
  rw [S_seq, S_put]
  have hw2 : (s.set st.length (.dT (pT kvs (keyN y) v)))[st.length + 1]? = some (.lst (ws.map ndD)) := by
    rw [List.getElem?_set_ne (by omega), h.w_]
  simp only [ev, ek, ok_some, fVar, e1, putD, h.k_, keyT_N, Option.bind_some, if_pos hk]
  rw [S_drop]
  simp only [fBm, fVar, e2, Option.bind_some, isTy, hw2, decide_true, if_true, fCons, fNil, ek', Option.map_some, appendD, List.length_map, if_pos hw, ok_some]
  have := h.add hy hy' hv
  simp only [List.map_append, List.map_cons, List.map_nil] at this
  exact k _ _ this
/-- the search by breadth: places of this distance, and of the next -/
structure BF (A : Aut) (os ws : List Nd) (d : Nat) (a b : List Nd) (ex : Nd → Prop) : Prop where
  ws : ws = a ++ b
  da : ∀ x ∈ a, DN A d x
  db : ∀ x ∈ b, DN A (d + 1) x
  kn : ∀ y, y ∈ os ↔ (∃ j, j ≤ d ∧ DN A j y) ∨ y ∈ b
  go : ∀ x, DN A d x → x ∉ a → ¬ ex x → ¬ enN A x ∧ ∀ y, goN A x y → y ∈ os
  lo : ∀ j x, j < d → DN A j x → ¬ enN A x
abbrev no1 : Nd → Prop := fun _ => False
theorem BF.shift {A : Aut} {os ws : List Nd} {d : Nat} {b : List Nd} (h : BF A os ws d [] b no1) : BF A os ws (d + 1) b [] no1 := by
  refine ⟨by rw [h.ws]; simp, h.db, by simp, fun y => ?_, fun x hx hb _ => ?_, fun j x hj hx => ?_⟩
  · rw [h.kn y]
    constructor
    · rintro (⟨j, hj, hd⟩ | hb)
      · exact .inl ⟨j, by omega, hd⟩
      · exact .inl ⟨d + 1, Nat.le_refl _, h.db y hb⟩
    · rintro (⟨j, hj, hd⟩ | hb)
      · by_cases c : j ≤ d
        · exact .inl ⟨j, c, hd⟩
        · obtain rfl : j = d + 1 := by omega
          obtain ⟨x, hx, hg⟩ := dist_pred hd
          exact (h.kn y).mp ((h.go x hx (by simp) id).2 y hg)
      · simp at hb
  · exfalso
    obtain ⟨z, hz, hg⟩ := dist_pred hx
    rcases (h.kn x).mp ((h.go z hz (by simp) id).2 x hg) with ⟨j, hj, hd⟩ | q
    · have := dist_uniq hx hd; omega
    · exact hb q
  · by_cases c : j < d
    · exact h.lo j x c hx
    · obtain rfl : j = d := by omega
      exact (h.go x hx (by simp) id).1
theorem BF.head {A : Aut} {os ws : List Nd} {x : Nd} {d : Nat} {a b : List Nd} (h : BF A os (x :: ws) d a b no1) : ∃ d a b, BF A os (x :: ws) d (x :: a) b no1 := by
  cases a with
  | nil =>
    have h2 := h.shift
    have e := h.ws
    simp at e
    subst e
    exact ⟨_, _, _, h2⟩
  | cons y a =>
    have e := h.ws
    simp at e
    obtain ⟨rfl, _⟩ := e
    exact ⟨_, _, _, h⟩
theorem BF.pop {A : Aut} {os ws : List Nd} {x : Nd} {d : Nat} {a b : List Nd} (h : BF A os (x :: ws) d (x :: a) b no1) : BF A os ws d a b (· = x) :=
  ⟨by have := h.ws; simpa using this, fun y hy => h.da y (.tail _ hy), h.db, h.kn, fun y hy ha hne => h.go y hy (fun q => by rcases List.mem_cons.mp q with q | q; exact hne q; exact ha q) id, h.lo⟩
theorem BF.add {A : Aut} {os ws : List Nd} {x y : Nd} {d : Nat} {a b : List Nd} {ex : Nd → Prop} (h : BF A os ws d a b ex) (hx : DN A d x) (g : goN A x y) (hy : y ∉ os) : BF A (os ++ [y]) (ws ++ [y]) d a (b ++ [y]) ex := by
  have hd : DN A (d + 1) y := dist_step hx.1 g fun j hj r => by
    obtain ⟨i, hi, hd⟩ := dist_of r
    exact hy ((h.kn y).mpr (.inl ⟨i, by omega, hd⟩))
  refine ⟨by rw [h.ws]; simp, h.da, fun z hz => ?_, fun z => ?_, fun z hz ha hne => ?_, h.lo⟩
  · rcases List.mem_append.mp hz with q | q
    · exact h.db z q
    · simp at q; subst q; exact hd
  · rw [List.mem_append, List.mem_append, h.kn z, or_assoc]
  · obtain ⟨h1, h2⟩ := h.go z hz ha hne
    exact ⟨h1, fun u hu => List.mem_append_left _ (h2 u hu)⟩
theorem BF.fin {A : Aut} {os ws : List Nd} {x : Nd} {d : Nat} {a b : List Nd} (h : BF A os ws d a b (· = x)) (h1 : ¬ enN A x) (h2 : ∀ y, goN A x y → y ∈ os) : BF A os ws d a b no1 := by
  refine ⟨h.ws, h.da, h.db, h.kn, fun z hz ha _ => ?_, h.lo⟩
  by_cases c : z = x
  · subst c; exact ⟨h1, h2⟩
  · exact h.go z hz ha c
theorem BF.end_ {A : Aut} {os : List Nd} {d : Nat} {a b : List Nd} (h : BF A os [] d a b no1) (L : Nat) : ¬ Amb' A L := by
  have e := h.ws
  simp at e
  obtain ⟨rfl, rfl⟩ := e
  have h2 := h.shift
  refine no_hits (i := d) (fun j x hj hx => h2.lo j x (by omega) hx) (fun x hx => ?_) L
  obtain ⟨z, hz, hg⟩ := dist_pred hx
  rcases (h.kn x).mp ((h.go z hz (by simp) id).2 x hg) with ⟨j, hj, hd⟩ | q
  · have := dist_uniq hx hd; omega
  · simp at q
theorem BF.first {A : Aut} {os : List Nd} (h : ∀ y, y ∈ os ↔ stN' A y) : BF A os os 0 os [] no1 := by
  have z : ∀ y, DN A 0 y ↔ stN' A y := fun y => ⟨fun h => by cases h.1; assumption, fun h => ⟨.zero h, by intro j hj; omega⟩⟩
  refine ⟨by simp, fun x hx => (z x).mpr ((h x).mp hx), by simp, fun y => ?_, fun x hx ha _ => absurd ((h x).mpr ((z x).mp hx)) ha, by intro j x hj; omega⟩
  rw [h y]
  constructor
  · intro q; exact .inl ⟨0, Nat.le_refl _, (z y).mpr q⟩
  · rintro (⟨j, hj, hd⟩ | q)
    · obtain rfl : j = 0 := by omega
      exact (z y).mp hd
    · simp at q
end Lw
end
section
set_option Elab.async false
set_option linter.all false
set_option autoImplicit false
/-! Pdg: ambiguity_paper. -/
namespace Lw
open PySem PySem.Spec PyProof.Rows L2
theorem mem_take_succ {α : Type} {l : List α} {i : Nat} {k x : α} (h : l[i]? = some k) : x ∈ l.take (i + 1) ↔ x ∈ l.take i ∨ x = k := by
  rw [List.take_add_one, h]; simp
theorem not_take {α : Type} {l : List α} (hd : l.Nodup) {i : Nat} {k : α} (h : l[i]? = some k) : k ∉ l.take i := by
  have h1 : (l.take (i + 1)).Nodup := (List.take_sublist _ _).nodup hd
  rw [List.take_add_one, h] at h1
  have h1 : (l.take i ++ [k]).Nodup := h1
  rw [List.nodup_append] at h1
  exact fun q => h1.2.2 k q k (by simp) rfl
def K3 (A : Aut) (st : Sto) (c : Nat) (x : Nd) (d : Nat) (aa : List Nd) (done : Nd → Prop) (s : Sto) : Prop := ∃ kvs os ws b, PB A st s c kvs os ws ∧ BF A os ws d aa b (· = x) ∧ ∀ y, done y → y ∈ os
theorem K3.mono {A : Aut} {st s : Sto} {c d : Nat} {x : Nd} {aa : List Nd} {p q : Nd → Prop} (h : K3 A st c x d aa p s) (i : ∀ y, q y → p y) : K3 A st c x d aa q s := by
  obtain ⟨kvs, os, ws, b, h1, h2, h3⟩ := h
  exact ⟨kvs, os, ws, b, h1, h2, fun y hy => h3 y (i y hy)⟩
theorem inn_ok {A : Aut} {st s : Sto} {c d a k : Nat} {x : Nd} {aa : List Nd} {done : Nd → Prop} {f t : Int} {x9 : Option D} {N : Env' → Sto → Prop} {R : D → Sto → Prop} (h : K3 A st c x d aa done s) (o : A.Ok) (hn : A.n ≤ 16) (hx : DN A d x)
    (g : go1 A k x (f, t, x.2.2 || !decide (f = t)))
    (hN : ∀ s', K3 A st c x d aa (fun z => done z ∨ z = (f, t, x.2.2 || !decide (f = t))) s' → N [some (.loc a), some (.loc st.length), some (.loc (st.length + 1)), some (.int x.1), some (.int x.2.1), some (chD k), some (.bl x.2.2), some (.int f), some (.int t), some (ndD (f, t, x.2.2 || !decide (f = t)))] s') :
    S (sSeq (sAsg (.nm 9) (fTup (fCons (fVar 7) (fCons (fVar 8) (fCons (fOrV (fVar 6) (fOp (cmpD neB) (fVar 7) (fVar 8))) fNil)))))
  (sIf (fTest (fOp (cmpD notInB) (fVar 9) (fVar 1))) (sSeq (sPut (fVar 1) (fVar 9) (fTup (fCons (fVar 5) (fCons (fTup (fCons (fVar 3) (fCons (fVar 4) (fCons (fVar 6) fNil)))) fNil))))
  (sDrop (fBm "list" appendD (fVar 2) (fCons (fVar 9) fNil)))) sNx))
      [some (.loc a), some (.loc st.length), some (.loc (st.length + 1)), some (.int x.1), some (.int x.2.1), some (chD k), some (.bl x.2.2), some (.int f), some (.int t), x9] s N R := by
  obtain ⟨kvs, os, ws, b, hP, hB, hD⟩ := h
  rw [S_seq, S_asg]
  have e1 : fTup (fCons (fVar 7) (fCons (fVar 8) (fCons (fOrV (fVar 6) (fOp (cmpD neB) (fVar 7) (fVar 8))) fNil))) [some (.loc a), some (.loc st.length), some (.loc (st.length + 1)), some (.int x.1), some (.int x.2.1), some (chD k), some (.bl x.2.2), some (.int f), some (.int t), x9] s = some (ndD (f, t, x.2.2 || !decide (f = t)), s) := by
    cases e : x.2.2 <;> simp [fTup, fApp, fCons, fVar, fOrV, fOp, cmpD, neB, bool1, fNil, tupD, ndD]
  rw [e1]
  generalize hy : (f, t, x.2.2 || !decide (f = t)) = y at g hN ⊢
  simp only [asg, ok_some, List.set_cons_succ, List.set_cons_zero]
  rw [S_if]
  simp only [fVar, fC, fOp, fUn, bool1, fTest, fChain, fAnd, fOr, fNot, fAndV, fOrV, fTru, fNil, fCons, fTup, fLst, fApp, fRng, fIt, foN, foS, int1, fSl, fBm, fCall, asg, sets, cmpD, tupD, lstD, ok_bind, ok_map, ok_some, ok_none, List.getElem?_cons_zero, List.getElem?_cons_succ, List.set_cons_zero, List.set_cons_succ, Option.bind_some, Option.map_some, wipeD, List.length_cons, List.length_nil, Nat.reduceAdd, if_true, List.getElem?_nil, notInB, inB, hP.k_, keyT_N]
  by_cases c : y ∈ os
  · have c2 := (hP.ks y).mp c
    simp only [c2, Bool.not_true, Bool.false_eq_true, if_false, S_nx]
    exact hN _ ⟨kvs, os, ws, b, hP, hB, fun z hz => hz.elim (hD z) fun q => q ▸ c⟩
  · have c2 : (gT kvs (keyN y)).isSome = false := by
      cases q : (gT kvs (keyN y)).isSome
      · rfl
      · exact absurd ((hP.ks y).mpr q) c
    simp only [c2, Bool.not_false, if_true]
    have hxo : x ∈ os := (hB.kn x).mpr (.inl ⟨d, Nat.le_refl _, hx⟩)
    have hB2 := hB.add hx ⟨k, g⟩ c
    have hd : DN A (d + 1) y := hB2.db y (by simp)
    refine put_app hP hn rfl rfl (fun s => rfl) (v := .tup [chD k, ndD x]) (fun s => by simp [fTup, fApp, fCons, fVar, fNil, tupD, ndD]) (fun s => rfl) c (rch_nodes' o hd.1) (.inr ⟨k, x, d, rfl, g, (hP.ks x).mp hxo, hx, hd⟩) fun s' kvs' hP' => ?_
    exact hN _ ⟨kvs', _, _, _, hP', hB2, fun z hz => hz.elim (fun q => List.mem_append_left _ (hD z q)) fun q => by simp [q]⟩
theorem letters_ok {A : Aut} {st s : Sto} {c d a : Nat} {x : Nd} {aa : List Nd} {x5 x7 x8 x9 : Option D} {N : Env' → Sto → Prop} {R : D → Sto → Prop} (hA : AtA st a A) (h : K3 A st c x d aa (fun _ => False) s) (o : A.Ok) (hn : A.n ≤ 16) (hx : DN A d x)
    (hN : ∀ s' x5 x7 x8 x9, K3 A st c x d aa (goN A x) s' → N [some (.loc a), some (.loc st.length), some (.loc (st.length + 1)), some (.int x.1), some (.int x.2.1), x5, some (.bl x.2.2), x7, x8, x9] s') :
    S (sFor (fIt itS (fFld ("Automaton" : Str) ("alphabet" : Str) (fVar 0))) (.nm 5) (sFor (fIt itT (fMeth "Automaton" "next_of" 3 p_next_of (fVar 0) (fCons (fVar 3) (fCons (fVar 5) fNil)))) (.nm 7) (sFor (fIt itT (fMeth "Automaton" "next_of" 3 p_next_of (fVar 0) (fCons (fVar 4) (fCons (fVar 5) fNil)))) (.nm 8) (sSeq (sAsg (.nm 9) (fTup (fCons (fVar 7) (fCons (fVar 8) (fCons (fOrV (fVar 6) (fOp (cmpD neB) (fVar 7) (fVar 8))) fNil)))))
  (sIf (fTest (fOp (cmpD notInB) (fVar 9) (fVar 1))) (sSeq (sPut (fVar 1) (fVar 9) (fTup (fCons (fVar 5) (fCons (fTup (fCons (fVar 3) (fCons (fVar 4) (fCons (fVar 6) fNil)))) fNil))))
  (sDrop (fBm "list" appendD (fVar 2) (fCons (fVar 9) fNil)))) sNx)))))
      [some (.loc a), some (.loc st.length), some (.loc (st.length + 1)), some (.int x.1), some (.int x.2.1), x5, some (.bl x.2.2), x7, x8, x9] s N R := by
  have kf : ∀ {p : Nd → Prop} {s}, K3 A st c x d aa p s → AtA s a A := fun h => by
    obtain ⟨kvs, os, ws, b, hP, _⟩ := h
    exact hA.fr hP.f_
  obtain ⟨r, v, hi⟩ := (kf h).ins
  rw [S_for]
  simp only [fVar, fC, fOp, fUn, bool1, fTest, fChain, fAnd, fOr, fNot, fAndV, fOrV, fTru, fNil, fCons, fTup, fLst, fApp, fRng, fIt, foN, foS, int1, fSl, fBm, fCall, asg, sets, cmpD, tupD, lstD, ok_bind, ok_map, ok_some, ok_none, List.getElem?_cons_zero, List.getElem?_cons_succ, List.set_cons_zero, List.set_cons_succ, Option.bind_some, Option.map_some, wipeD, List.length_cons, List.length_nil, Nat.reduceAdd, if_true, List.getElem?_nil, fFld, hi, fl_al, itS]
  refine for_ok (fun i ρ s => ∃ x5 x7 x8 x9 : Option D, ρ = [some (.loc a), some (.loc st.length), some (.loc (st.length + 1)), some (.int x.1), some (.int x.2.1), x5, some (.bl x.2.2), x7, x8, x9] ∧ K3 A st c x d aa (fun y => ∃ k ∈ A.al.take i, go1 A k x y) s) ⟨x5, x7, x8, x9, rfl, h.mono fun y ⟨k, hk, _⟩ => by simp at hk⟩ (fun _ _ _ _ => trivial) ?_ ?_
  · rintro i dd ρ s hd ⟨x5, x7, x8, x9, rfl, hK⟩
    rw [al_items, List.getElem?_map] at hd
    obtain ⟨k, hk, rfl⟩ := Option.map_eq_some_iff.mp hd
    simp only [asg, ok_some, List.set_cons_succ, List.set_cons_zero]
    rw [S_for, fIt, ok_bind]
    refine ok_of (mnext (s := x.1) (k := k) (kf hK) rfl rfl rfl) ?_
    simp only [intsT, itT, ok_some]
    refine for_ok (fun j ρ s => ∃ x7 x8 x9 : Option D, ρ = [some (.loc a), some (.loc st.length), some (.loc (st.length + 1)), some (.int x.1), some (.int x.2.1), some (chD k), some (.bl x.2.2), x7, x8, x9] ∧ K3 A st c x d aa (fun y => (∃ k ∈ A.al.take i, go1 A k x y) ∨ (go1 A k x y ∧ y.1 ∈ (nx A x.1 k).take j)) s) ⟨x7, x8, x9, rfl, hK.mono fun y hy => by simpa using hy⟩ (fun _ _ _ _ => trivial) ?_ ?_
    · rintro j dd ρ s hd ⟨x7, x8, x9, rfl, hK⟩
      simp only [ItD.items, List.getElem?_map] at hd
      obtain ⟨f, hf, rfl⟩ := Option.map_eq_some_iff.mp hd
      simp only [asg, ok_some, List.set_cons_succ, List.set_cons_zero]
      rw [S_for, fIt, ok_bind]
      refine ok_of (mnext (s := x.2.1) (k := k) (kf hK) rfl rfl rfl) ?_
      simp only [intsT, itT, ok_some]
      refine for_ok (fun m ρ s => ∃ x8 x9 : Option D, ρ = [some (.loc a), some (.loc st.length), some (.loc (st.length + 1)), some (.int x.1), some (.int x.2.1), some (chD k), some (.bl x.2.2), some (.int f), x8, x9] ∧ K3 A st c x d aa (fun y => ((∃ k ∈ A.al.take i, go1 A k x y) ∨ (go1 A k x y ∧ y.1 ∈ (nx A x.1 k).take j)) ∨ (go1 A k x y ∧ y.1 = f ∧ y.2.1 ∈ (nx A x.2.1 k).take m)) s) ⟨x8, x9, rfl, hK.mono fun y hy => by simpa using hy⟩ (fun _ _ _ _ => trivial) ?_ ?_
      · rintro m dd ρ s hd ⟨x8, x9, rfl, hK⟩
        simp only [ItD.items, List.getElem?_map] at hd
        obtain ⟨t, ht, rfl⟩ := Option.map_eq_some_iff.mp hd
        simp only [asg, ok_some, List.set_cons_succ, List.set_cons_zero]
        refine inn_ok hK o hn hx ⟨mem_nx.mp (List.mem_of_getElem? hf), mem_nx.mp (List.mem_of_getElem? ht), rfl⟩ fun s' hK' => ?_
        refine ⟨_, _, rfl, hK'.mono fun y hy => ?_⟩
        rcases hy with hy | ⟨h1, h2, h3⟩
        · exact .inl (.inl hy)
        · rcases (mem_take_succ ht).mp h3 with h3 | h3
          · exact .inl (.inr ⟨h1, h2, h3⟩)
          · refine .inr ?_
            obtain ⟨y1, y2, y3⟩ := y
            simp only at h2 h3
            subst h2; subst h3
            have := h1.2.2
            simp only at this
            rw [this]
      · rintro ρ s ⟨x8, x9, rfl, hK⟩
        refine ⟨_, _, _, rfl, hK.mono fun y hy => ?_⟩
        rcases hy with hy | ⟨h1, h2⟩
        · exact .inl (.inl hy)
        · rcases (mem_take_succ hf).mp h2 with h2 | h2
          · exact .inl (.inr ⟨h1, h2⟩)
          · refine .inr ⟨h1, h2, ?_⟩
            rw [List.take_of_length_le (by simp [ItD.items])]
            exact mem_nx.mpr h1.2.1
    · rintro ρ s ⟨x7, x8, x9, rfl, hK⟩
      refine ⟨_, _, _, _, rfl, hK.mono fun y hy => ?_⟩
      obtain ⟨k', hk', hg⟩ := hy
      rcases (mem_take_succ hk).mp hk' with q | q
      · exact .inl ⟨k', q, hg⟩
      · subst q
        refine .inr ⟨hg, ?_⟩
        rw [List.take_of_length_le (by simp [ItD.items])]
        exact mem_nx.mpr hg.1
  · rintro ρ s ⟨x5, x7, x8, x9, rfl, hK⟩
    refine hN _ _ _ _ _ (hK.mono fun y hy => ?_)
    obtain ⟨k, hg⟩ := hy
    refine ⟨k, ?_, hg⟩
    rw [List.take_of_length_le (by rw [al_items]; simp)]
    exact (o.rw_lt _ hg.1).2.2.2.2
end Lw
end
section
set_option Elab.async false
set_option linter.all false
set_option autoImplicit false
/-! Pdh: ambiguity_paper. -/
namespace Lw
open PySem PySem.Spec PyProof.Rows L2
def PapOk (A : Aut) (d : D) : Prop := (d = .non ∧ ∀ L, ¬ Amb A L) ∨ ∃ w r q, d = papD w r q ∧ Amb A w.length ∧ (∀ l, l < w.length → ¬ Amb A l) ∧ Good A.bg A.en A.rw w r q
theorem paper_ok {st : Sto} {a : Nat} {A : Aut} (hA : AtA st a A) (o : A.Ok) (hn : A.n ≤ 16) : ok (p_ambiguity_paper [.loc a] st) fun p => Fr [] st p.2 ∧ PapOk A p.1 := by
  refine ok_run' fun N R hN hR => ?_
  simp only [b_ambiguity_paper, List.map_cons, List.map_nil, List.length_cons, List.length_nil, List.replicate, List.cons_append, List.nil_append, Nat.reduceAdd, Nat.reduceSub]
  rw [S_seq, S_asg]
  simp only [fNewT, fVar, fC, fOp, fUn, bool1, fTest, fChain, fAnd, fOr, fNot, fAndV, fOrV, fTru, fNil, fCons, fTup, fLst, fApp, fRng, fIt, foN, foS, int1, fSl, fBm, fCall, asg, sets, cmpD, tupD, lstD, ok_bind, ok_map, ok_some, ok_none, List.getElem?_cons_zero, List.getElem?_cons_succ, List.set_cons_zero, List.set_cons_succ, Option.bind_some, Option.map_some, wipeD, List.length_cons, List.length_nil, Nat.reduceAdd, if_true, List.getElem?_nil]
  rw [S_seq, S_asg]
  simp only [fVar, fC, fOp, fUn, bool1, fTest, fChain, fAnd, fOr, fNot, fAndV, fOrV, fTru, fNil, fCons, fTup, fLst, fApp, fRng, fIt, foN, foS, int1, fSl, fBm, fCall, asg, sets, cmpD, tupD, lstD, ok_bind, ok_map, ok_some, ok_none, List.getElem?_cons_zero, List.getElem?_cons_succ, List.set_cons_zero, List.set_cons_succ, Option.bind_some, Option.map_some, wipeD, List.length_cons, List.length_nil, Nat.reduceAdd, if_true, List.getElem?_nil, Nat.zero_le, if_true, List.length_append]
  have p0 : PB A st (st ++ [.dT []] ++ [.lst []]) 0 [] [] [] := by
    refine ⟨by simp, by simp, (Fr.app _).trans (.app _), .nil, by simp, by simp [gT], by simp [gT], by simp, rfl⟩
  generalize st ++ [.dT []] ++ [.lst []] = s0 at p0 ⊢
  have mf : ∀ (s : Sto) (x1 x2 x3 x4 x5 x6 x7 x8 x9 : Option D), Fr [] st s → fMeth "Automaton" "first_states" 1 p_first_states (fVar 0) fNil [some (.loc a), x1, x2, x3, x4, x5, x6, x7, x8, x9] s = some (intsT A.bg, s) := fun s _ _ _ _ _ _ _ _ _ f => mfirst (hA.fr f) rfl
  have ml : ∀ (s : Sto) (x1 x2 x3 x4 x5 x6 x7 x8 x9 : Option D), Fr [] st s → fMeth "Automaton" "last_states" 1 p_last_states (fVar 0) fNil [some (.loc a), x1, x2, x3, x4, x5, x6, x7, x8, x9] s = some (intsT A.en, s) := fun s _ _ _ _ _ _ _ _ _ f => mlast (hA.fr f) rfl
  rw [S_seq, S_for]
  simp only [fIt, mf _ _ _ _ _ _ _ _ _ _ p0.f_, Option.bind_some]
  simp only [intsT, itT, ok_some]
  refine for_ok (fun i ρ s => ∃ (kvs : List (NestedKey × D)) (os : List Nd) (x3 x4 : Option D), ρ = [some (.loc a), some (.loc st.length), some (.loc (st.length + 1)), x3, x4, none, none, none, none, none] ∧ PB A st s 0 kvs os os ∧ ∀ y, y ∈ os ↔ stN' A y ∧ y.1 ∈ A.bg.take i) ⟨_, _, none, none, rfl, p0, by simp⟩ (fun _ _ _ _ => trivial) ?_ ?_
  · rintro i dd ρ s hd ⟨kvs, os, x3, x4, rfl, hP, hO⟩
    simp only [ItD.items, List.getElem?_map] at hd
    obtain ⟨u, hu, rfl⟩ := Option.map_eq_some_iff.mp hd
    simp only [asg, ok_some, List.set_cons_succ, List.set_cons_zero]
    rw [S_for]
    simp only [fIt, mf _ _ _ _ _ _ _ _ _ _ hP.f_, Option.bind_some]
    simp only [intsT, itT, ok_some]
    refine for_ok (fun j ρ s => ∃ (kvs : List (NestedKey × D)) (os : List Nd) (x4 : Option D), ρ = [some (.loc a), some (.loc st.length), some (.loc (st.length + 1)), some (.int u), x4, none, none, none, none, none] ∧ PB A st s 0 kvs os os ∧ ∀ y, y ∈ os ↔ stN' A y ∧ (y.1 ∈ A.bg.take i ∨ (y.1 = u ∧ y.2.1 ∈ A.bg.take j))) ⟨kvs, os, x4, rfl, hP, fun y => by rw [hO]; simp⟩ (fun _ _ _ _ => trivial) ?_ ?_
    · rintro j dd ρ s hd ⟨kvs, os, x4, rfl, hP, hO⟩
      simp only [ItD.items, List.getElem?_map] at hd
      obtain ⟨v, hv, rfl⟩ := Option.map_eq_some_iff.mp hd
      simp only [asg, ok_some, List.set_cons_succ, List.set_cons_zero]
      rw [S_if]
      simp only [fVar, fC, fOp, fUn, bool1, fTest, fChain, fAnd, fOr, fNot, fAndV, fOrV, fTru, fNil, fCons, fTup, fLst, fApp, fRng, fIt, foN, foS, int1, fSl, fBm, fCall, asg, sets, cmpD, tupD, lstD, ok_bind, ok_map, ok_some, ok_none, List.getElem?_cons_zero, List.getElem?_cons_succ, List.set_cons_zero, List.set_cons_succ, Option.bind_some, Option.map_some, wipeD, List.length_cons, List.length_nil, Nat.reduceAdd, if_true, List.getElem?_nil, leB]
      by_cases c : u ≤ v
      · have hs : stN' A (u, v, !decide (u = v)) := ⟨⟨List.mem_of_getElem? hu, List.mem_of_getElem? hv, rfl⟩, c⟩
        have hno : (u, v, !decide (u = v)) ∉ os := by
          rw [hO]
          rintro ⟨_, h | ⟨_, h⟩⟩
          · exact not_take o.bg_nd hu h
          · exact not_take o.bg_nd hv h
        simp only [c, decide_true, if_true]
        refine put_app hP hn rfl rfl (y := (u, v, !decide (u = v))) (v := .non) (fun s => by simp [fTup, fApp, fCons, fVar, fNil, tupD, ndD, fOp, cmpD, neB]) (fun s => rfl) (fun s => by simp [fTup, fApp, fCons, fVar, fNil, tupD, ndD, fOp, cmpD, neB]) hno (rch_nodes' o (.zero hs)) (.inl ⟨rfl, hs⟩) fun s' kvs' hP' => ?_
        refine ⟨kvs', _, _, rfl, hP', fun y => ?_⟩
        rw [List.mem_append, List.mem_singleton, hO, mem_take_succ hv]
        constructor
        · rintro (⟨h1, h2⟩ | h)
          · exact ⟨h1, h2.imp id fun h => ⟨h.1, .inl h.2⟩⟩
          · subst h; exact ⟨hs, .inr ⟨rfl, .inr rfl⟩⟩
        · rintro ⟨h1, h2 | ⟨h2, h3 | h3⟩⟩
          · exact .inl ⟨h1, .inl h2⟩
          · exact .inl ⟨h1, .inr ⟨h2, h3⟩⟩
          · refine .inr ?_
            obtain ⟨y1, y2, y3⟩ := y
            have := h1.1.2.2
            simp only at h2 h3 this
            subst h2; subst h3
            rw [this]
      · simp only [c, decide_false, Bool.false_eq_true, if_false, S_nx]
        refine ⟨kvs, os, _, rfl, hP, fun y => ?_⟩
        rw [hO, mem_take_succ hv]
        constructor
        · rintro ⟨h1, h2⟩
          exact ⟨h1, h2.imp id fun h => ⟨h.1, .inl h.2⟩⟩
        · rintro ⟨h1, h2 | ⟨h2, h3 | h3⟩⟩
          · exact ⟨h1, .inl h2⟩
          · exact ⟨h1, .inr ⟨h2, h3⟩⟩
          · exact absurd (h2 ▸ h3 ▸ h1.2) c
    · rintro ρ s ⟨kvs, os, x4, rfl, hP, hO⟩
      refine ⟨kvs, os, _, _, rfl, hP, fun y => ?_⟩
      have e : A.bg.take (ItD.tup (A.bg.map D.int)).items.length = A.bg := List.take_of_length_le (by simp [ItD.items])
      rw [hO, mem_take_succ hu, e]
      constructor
      · rintro ⟨h1, h2⟩
        exact ⟨h1, h2.imp id fun h => h.1⟩
      · rintro ⟨h1, h2⟩
        exact ⟨h1, h2.imp id fun h => ⟨h, h1.1.2.1⟩⟩
  rintro ρ s ⟨kvs, os, x3, x4, rfl, hP, hO⟩
  have hO2 : ∀ y, y ∈ os ↔ stN' A y := fun y => by
    rw [hO, List.take_of_length_le (by simp [ItD.items])]
    exact ⟨fun h => h.1, fun h => ⟨h, h.1.1⟩⟩
  rw [S_seq]
  obtain ⟨I, hI⟩ := shut fun (n : Nat) (ρ : Env') (s : Sto) => ∃ (c : Nat) (kvs : List (NestedKey × D)) (os ws : List Nd) (d : Nat) (aa b : List Nd) (x3 x4 x5 x6 x7 x8 x9 : Option D),
    ρ = [some (.loc a), some (.loc st.length), some (.loc (st.length + 1)), x3, x4, x5, x6, x7, x8, x9] ∧ PB A st s c kvs os ws ∧ BF A os ws d aa b no1 ∧ n + c = 512
  refine while_ok I 512 ((hI _ _ _).mpr ⟨0, kvs, os, os, 0, os, [], x3, x4, none, none, none, none, none, rfl, hP, .first hO2, rfl⟩) ?_
  intro n ρ s hi
  obtain ⟨c, kvs, os, ws, d, aa, b, x3, x4, x5, x6, x7, x8, x9, rfl, hP, hB, hc⟩ := (hI _ _ _).mp hi
  simp only [fVar, fC, fOp, fUn, bool1, fTest, fChain, fAnd, fOr, fNot, fAndV, fOrV, fTru, fNil, fCons, fTup, fLst, fApp, fRng, fIt, foN, foS, int1, fSl, fBm, fCall, asg, sets, cmpD, tupD, lstD, ok_bind, ok_map, ok_some, ok_none, List.getElem?_cons_zero, List.getElem?_cons_succ, List.set_cons_zero, List.set_cons_succ, Option.bind_some, Option.map_some, wipeD, List.length_cons, List.length_nil, Nat.reduceAdd, if_true, List.getElem?_nil, truD, hP.w_]
  cases ws with
  | nil =>
    simp only [List.map_nil, List.isEmpty_nil, Bool.not_true, Bool.false_eq_true, if_false]
    rw [S_ret]
    simp only [fVar, fC, fOp, fUn, bool1, fTest, fChain, fAnd, fOr, fNot, fAndV, fOrV, fTru, fNil, fCons, fTup, fLst, fApp, fRng, fIt, foN, foS, int1, fSl, fBm, fCall, asg, sets, cmpD, tupD, lstD, ok_bind, ok_map, ok_some, ok_none, List.getElem?_cons_zero, List.getElem?_cons_succ, List.set_cons_zero, List.set_cons_succ, Option.bind_some, Option.map_some, wipeD, List.length_cons, List.length_nil, Nat.reduceAdd, if_true, List.getElem?_nil]
    exact hR _ _ ⟨hP.f_, .inl ⟨rfl, fun L h => hB.end_ L (amb_iff.mpr h)⟩⟩
  | cons x ws =>
    obtain ⟨d, aa, b, hB⟩ := hB.head
    have few := hP.few hn
    have hwl := hP.wl
    simp only [List.length_cons] at hwl
    have hx : DN A d x := hB.da x (.head _)
    have hw := hP.w_
    simp only [List.map_cons, List.isEmpty_cons, Bool.not_false, if_true]
    rw [S_seq, S_asg]
    have hp := hP.pop
    have hxd : ndD x = .tup [.int x.1, .int x.2.1, .bl x.2.2] := rfl
    simp only [List.map_cons] at hw
    simp only [fVar, fC, fOp, fUn, bool1, fTest, fChain, fAnd, fOr, fNot, fAndV, fOrV, fTru, fNil, fCons, fTup, fLst, fApp, fRng, fIt, foN, foS, int1, fSl, fBm, fCall, asg, sets, cmpD, tupD, lstD, ok_bind, ok_map, ok_some, ok_none, List.getElem?_cons_zero, List.getElem?_cons_succ, List.set_cons_zero, List.set_cons_succ, Option.bind_some, Option.map_some, wipeD, List.length_cons, List.length_nil, Nat.reduceAdd, if_true, List.getElem?_nil, isTy, hw, decide_true, popD]
    generalize s.set (st.length + 1) (.lst (ws.map ndD)) = s1 at hp ⊢
    simp only [hxd, fVar, fC, fOp, fUn, bool1, fTest, fChain, fAnd, fOr, fNot, fAndV, fOrV, fTru, fNil, fCons, fTup, fLst, fApp, fRng, fIt, foN, foS, int1, fSl, fBm, fCall, asg, sets, cmpD, tupD, lstD, ok_bind, ok_map, ok_some, ok_none, List.getElem?_cons_zero, List.getElem?_cons_succ, List.set_cons_zero, List.set_cons_succ, Option.bind_some, Option.map_some, wipeD, List.length_cons, List.length_nil, Nat.reduceAdd, if_true, List.getElem?_nil]
    rw [S_seq, S_if]
    have htest : fAnd (fTru (fVar 6)) (fAnd (fTest (fOp (cmpD inB) (fVar 3) (fMeth "Automaton" "last_states" 1 p_last_states (fVar 0) fNil))) (fTest (fOp (cmpD inB) (fVar 4) (fMeth "Automaton" "last_states" 1 p_last_states (fVar 0) fNil))))
        [some (.loc a), some (.loc st.length), some (.loc (st.length + 1)), some (.int x.1), some (.int x.2.1), x5, some (.bl x.2.2), x7, x8, x9] s1 = some (x.2.2 && (decide (x.1 ∈ A.en) && decide (x.2.1 ∈ A.en)), s1) := by
      have e := fun x1 x2 x3 x4 x5 x6 x7 x8 x9 => ml s1 x1 x2 x3 x4 x5 x6 x7 x8 x9 hp.f_
      cases c1 : x.2.2
      · simp only [fAnd, fTru, fVar, List.getElem?_cons_succ, List.getElem?_cons_zero, Option.bind_some, truD, Bool.false_eq_true, if_false, Bool.false_and]
      · simp only [fVar, fC, fOp, fUn, bool1, fTest, fChain, fAnd, fOr, fNot, fAndV, fOrV, fTru, fNil, fCons, fTup, fLst, fApp, fRng, fIt, foN, foS, int1, fSl, fBm, fCall, asg, sets, cmpD, tupD, lstD, ok_bind, ok_map, ok_some, ok_none, List.getElem?_cons_zero, List.getElem?_cons_succ, List.set_cons_zero, List.set_cons_succ, Option.bind_some, Option.map_some, wipeD, List.length_cons, List.length_nil, Nat.reduceAdd, if_true, List.getElem?_nil, truD, e, in_ints]
        by_cases c2 : x.1 ∈ A.en
        · simp only [c2, decide_true, if_true, Bool.true_and]
        · simp only [c2, decide_false, Bool.false_eq_true, if_false, Bool.false_and, Bool.and_false]
    simp only [htest, ok_some]
    have hB2 := hB.pop
    cases ct : x.2.2 && (decide (x.1 ∈ A.en) && decide (x.2.1 ∈ A.en))
    · have hne : ¬ enN A x := fun ⟨h1, h2, h3⟩ => by simp [h1, h2, h3] at ct
      simp only [Bool.false_eq_true, if_false, S_nx]
      refine letters_ok hA ⟨kvs, os, ws, b, hp, hB2, fun _ h => h.elim⟩ o hn hx fun s' y5 y7 y8 y9 hK => ?_
      obtain ⟨kvs', os', ws', b', hP', hB', hD'⟩ := hK
      have few' := hP'.few hn
      have hwl' := hP'.wl
      exact ⟨n - 1, by omega, (hI _ _ _).mpr ⟨c + 1, kvs', os', ws', d, aa, b', _, _, _, _, _, _, _, rfl, hP', hB'.fin hne hD', by omega⟩⟩
    · have hen : enN A x := by
        simp only [Bool.and_eq_true, decide_eq_true_eq] at ct
        exact ct
      simp only [if_true]
      rw [S_ret]
      have hxo : x ∈ os := (hB2.kn x).mpr (.inl ⟨d, Nat.le_refl _, hx⟩)
      simp only [fVar, fC, fOp, fUn, bool1, fTest, fChain, fAnd, fOr, fNot, fAndV, fOrV, fTru, fNil, fCons, fTup, fLst, fApp, fRng, fIt, foN, foS, int1, fSl, fBm, fCall, asg, sets, cmpD, tupD, lstD, ok_bind, ok_map, ok_some, ok_none, List.getElem?_cons_zero, List.getElem?_cons_succ, List.set_cons_zero, List.set_cons_succ, Option.bind_some, Option.map_some, wipeD, List.length_cons, List.length_nil, Nat.reduceAdd, if_true, List.getElem?_nil, Nat.reduceLeDiff, ← hxd]
      refine ok_mono (back_ok hp.k_ hp.en o hn ((hp.ks x).mp hxo) hx hen) ?_
      rintro ⟨_, s2⟩ ⟨w, r, q, rfl, hw1, hg, f2⟩
      subst hw1
      exact hR _ _ ⟨hp.f_.trans f2, .inr ⟨w, r, q, rfl, amb_iff.mp ⟨x, hx.1, hen⟩, fun l hl h => no_less (fun j x hj hd => hB2.lo j x hj hd) l hl (amb_iff.mpr h), hg⟩⟩
end Lw
end
section
set_option Elab.async false
set_option linter.all false
set_option autoImplicit false
/-! Pdi: the law's own search. -/
namespace Lw
open PySem PySem.Spec PyProof.Rows L2
abbrev DD (A : Aut) := Dist (stN A) (goN A)
def mkN (u v : Int) : Nd := (u, v, !decide (u = v))
def ini (fi ga : List Int) : List Nd := fi.flatMap fun u => ga.map fun v => mkN u v
theorem mem_ini {fi ga : List Int} {y : Nd} : y ∈ ini fi ga ↔ y.1 ∈ fi ∧ y.2.1 ∈ ga ∧ y.2.2 = !decide (y.1 = y.2.1) := by
  obtain ⟨a, b, c⟩ := y
  simp only [ini, List.mem_flatMap, List.mem_map, mkN]
  constructor
  · rintro ⟨u, hu, v, hv, e⟩
    cases e
    exact ⟨hu, hv, rfl⟩
  · rintro ⟨h1, h2, h3⟩
    exact ⟨a, h1, b, h2, by rw [h3]⟩
theorem ini_nd {fi : List Int} (h : fi.Nodup) : (ini fi fi).Nodup := by
  rw [List.nodup_iff_pairwise_ne] at h ⊢
  unfold ini
  rw [List.pairwise_flatMap]
  refine ⟨fun u _ => ?_, h.imp fun {a b} hne x hx y hy e => ?_⟩
  · rw [List.pairwise_map]
    exact h.imp fun {a b} hne e => hne (by simp only [mkN, Prod.mk.injEq] at e; exact e.2.1)
  · obtain ⟨v, _, rfl⟩ := List.mem_map.mp hx
    obtain ⟨w, _, rfl⟩ := List.mem_map.mp hy
    simp only [mkN, Prod.mk.injEq] at e
    exact hne e.1
theorem ini_snoc {fi ga : List Int} {i : Nat} {u : Int} (h : fi[i]? = some u) : ini (fi.take (i + 1)) ga = ini (fi.take i) ga ++ ga.map (mkN u) := by
  unfold ini
  rw [List.take_add_one, h, List.flatMap_append]
  simp
theorem ini_len (fi ga : List Int) : (ini fi ga).length = fi.length * ga.length := by
  unfold ini
  rw [List.length_flatMap]
  simp only [List.length_map]
  exact sum_const fi ga.length
theorem eqI2 (a b : Int) (st : Sto) : eqB (.int a) (.int b) st = some (decide (a = b)) := rfl
theorem chEq (a b : Nat) (st : Sto) : eqB (chD a) (chD b) st = some (decide (a = b)) := by
  simp [eqB, chD]
theorem in_nds {st : Sto} {n : Nat} {xs : List Nd} {y : Nd} (h : st[n]? = some (.lst (xs.map ndD))) : inB (ndD y) (.loc n) st = some (decide (y ∈ xs)) := (in_list (inj := ndD) eqvNd h (okNd y) fun x _ => okNd x).trans (congrArg some (decide_eq_decide.mpr Iff.rfl))
/-! ### one level -/
structure LQ (st s : Sto) (pl kl al : Nat) (ps kn af : List Nd) : Prop where
  p_ : s[pl]? = some (.lst (ps.map ndD))
  k_ : s[kl]? = some (.lst (kn.map ndD))
  a_ : s[al]? = some (.lst (af.map ndD))
  n1 : pl ≠ kl
  n2 : pl ≠ al
  n3 : kl ≠ al
  g1 : st.length ≤ kl
  g2 : st.length ≤ al
  f_ : Fr [] st s
structure LW (A : Aut) (i : Nat) (kn af : List Nd) : Prop where
  nd : kn.Nodup
  le : af.length ≤ kn.length
  kn : ∀ x, x ∈ kn ↔ (∃ j, j ≤ i ∧ DD A j x) ∨ x ∈ af
  af : ∀ x ∈ af, DD A (i + 1) x
theorem LW.few {A : Aut} {i : Nat} {kn af : List Nd} (h : LW A i kn af) (o : A.Ok) (hn : A.n ≤ 4) : kn.length ≤ 32 := by
  have h1 := nodup_len h.nd (m := nodes A) fun x hx => by
    rcases (h.kn x).mp hx with ⟨j, _, hd⟩ | q
    · exact rch_nodes o hd.1
    · exact rch_nodes o (h.af x q).1
  rw [nodes_len] at h1
  have : A.n * (A.n * 2) ≤ 4 * (4 * 2) := Nat.mul_le_mul hn (Nat.mul_le_mul hn (Nat.le_refl _))
  omega
theorem LQ.add {st s : Sto} {pl kl al : Nat} {ps kn af : List Nd} (h : LQ st s pl kl al ps kn af) (y : Nd) : LQ st ((s.set kl (.lst ((kn ++ [y]).map ndD))).set al (.lst ((af ++ [y]).map ndD))) pl kl al ps (kn ++ [y]) (af ++ [y]) := by
  have l1 : kl < s.length := (List.getElem?_eq_some_iff.mp h.k_).1
  have l2 : al < s.length := (List.getElem?_eq_some_iff.mp h.a_).1
  refine ⟨?_, ?_, ?_, h.n1, h.n2, h.n3, h.g1, h.g2, (h.f_.set (.inl h.g1) _).set (.inl h.g2) _⟩
  · rw [List.getElem?_set_ne (Ne.symm h.n2), List.getElem?_set_ne (Ne.symm h.n1), h.p_]
  · rw [List.getElem?_set_ne (Ne.symm h.n3), List.getElem?_set_self l1]
  · rw [List.getElem?_set_self (by simpa using l2)]
theorem LW.add {A : Aut} {i : Nat} {kn af : List Nd} (h : LW A i kn af) {x y : Nd} (hx : DD A i x) (g : goN A x y) (hy : y ∉ kn) : LW A i (kn ++ [y]) (af ++ [y]) := by
  have hd : DD A (i + 1) y := dist_step hx.1 g fun j hj r => by
    obtain ⟨l, hl, hd⟩ := dist_of r
    exact hy ((h.kn y).mpr (.inl ⟨l, by omega, hd⟩))
  refine ⟨List.nodup_append.mpr ⟨h.nd, by simp, fun a ha b hb => by simp at hb; subst hb; exact fun q => hy (q ▸ ha)⟩, by have := h.le; simp; omega, fun z => ?_, fun z hz => ?_⟩
  · rw [List.mem_append, List.mem_append, h.kn z, or_assoc]
  · rcases List.mem_append.mp hz with q | q
    · exact h.af z q
    · simp at q; subst q; exact hd
def K4 (A : Aut) (st : Sto) (pl kl al : Nat) (ps : List Nd) (i : Nat) (done : Nd → Prop) (s : Sto) : Prop := ∃ kn af, LQ st s pl kl al ps kn af ∧ LW A i kn af ∧ ∀ y, done y → y ∈ kn
theorem K4.mono {A : Aut} {st s : Sto} {pl kl al : Nat} {ps : List Nd} {i : Nat} {p q : Nd → Prop} (h : K4 A st pl kl al ps i p s) (g : ∀ y, q y → p y) : K4 A st pl kl al ps i q s := by
  obtain ⟨kn, af, h1, h2, h3⟩ := h
  exact ⟨kn, af, h1, h2, fun y hy => h3 y (g y hy)⟩
def two (x : Nd) (t u : Int × Nat × Int) (y : Nd) : Prop := t.1 = x.1 ∧ u.1 = x.2.1 ∧ t.2.1 = u.2.1 ∧ y = (t.2.2, u.2.2, x.2.2 || !decide (t.2.2 = u.2.2))
theorem inn2_ok {A : Aut} {st s : Sto} {pl kl al i : Nat} {ps : List Nd} {done : Nd → Prop} {x : Nd} {t u : Int × Nat × Int} {x0 x14 : Option D} {N : Env' → Sto → Prop} {R : D → Sto → Prop} (h : K4 A st pl kl al ps i done s) (o : A.Ok) (hn : A.n ≤ 4) (hx : DD A i x) (ht : t ∈ A.rw) (hu : u ∈ A.rw)
    (hN : ∀ s' x14, K4 A st pl kl al ps i (fun y => done y ∨ two x t u y) s' → N [x0, some (.loc pl), some (.int x.1), some (.loc kl), some (.int i), some (.loc al), some (.int x.2.1), some (.bl x.2.2), some (.int t.1), some (chD t.2.1), some (.int t.2.2), some (.int u.1), some (chD u.2.1), some (.int u.2.2), x14] s') :
    S (sIf (fAnd (fTest (fOp (cmpD eqB) (fVar 8) (fVar 2))) (fAnd (fTest (fOp (cmpD eqB) (fVar 11) (fVar 6))) (fTest (fOp (cmpD eqB) (fVar 9) (fVar 12))))) (sSeq (sAsg (.nm 14) (fTup (fCons (fVar 10) (fCons (fVar 13) (fCons (fOrV (fVar 7) (fOp (cmpD neB) (fVar 10) (fVar 13))) fNil)))))
  (sIf (fTest (fOp (cmpD notInB) (fVar 14) (fVar 3))) (sSeq (sDrop (fBm "list" appendD (fVar 3) (fCons (fVar 14) fNil)))
  (sDrop (fBm "list" appendD (fVar 5) (fCons (fVar 14) fNil)))) sNx)) sNx)
      [x0, some (.loc pl), some (.int x.1), some (.loc kl), some (.int i), some (.loc al), some (.int x.2.1), some (.bl x.2.2), some (.int t.1), some (chD t.2.1), some (.int t.2.2), some (.int u.1), some (chD u.2.1), some (.int u.2.2), x14] s N R := by
  have skip : ¬ (t.1 = x.1 ∧ u.1 = x.2.1 ∧ t.2.1 = u.2.1) → N [x0, some (.loc pl), some (.int x.1), some (.loc kl), some (.int i), some (.loc al), some (.int x.2.1), some (.bl x.2.2), some (.int t.1), some (chD t.2.1), some (.int t.2.2), some (.int u.1), some (chD u.2.1), some (.int u.2.2), x14] s := fun c =>
    hN _ _ (h.mono fun y hy => hy.elim id fun q => absurd ⟨q.1, q.2.1, q.2.2.1⟩ c)
  obtain ⟨kn, af, hQ, hW, hD⟩ := h
  have htest : fAnd (fTest (fOp (cmpD eqB) (fVar 8) (fVar 2))) (fAnd (fTest (fOp (cmpD eqB) (fVar 11) (fVar 6))) (fTest (fOp (cmpD eqB) (fVar 9) (fVar 12))))
      [x0, some (.loc pl), some (.int x.1), some (.loc kl), some (.int i), some (.loc al), some (.int x.2.1), some (.bl x.2.2), some (.int t.1), some (chD t.2.1), some (.int t.2.2), some (.int u.1), some (chD u.2.1), some (.int u.2.2), x14] s = some (decide (t.1 = x.1) && (decide (u.1 = x.2.1) && decide (t.2.1 = u.2.1)), s) := by
    simp only [fVar, fC, fOp, fUn, bool1, fTest, fChain, fAnd, fOr, fNot, fAndV, fOrV, fTru, fNil, fCons, fTup, fLst, fApp, fRng, fIt, foN, foS, int1, fSl, fBm, fCall, asg, sets, cmpD, tupD, lstD, ok_bind, ok_map, ok_some, ok_none, List.getElem?_cons_zero, List.getElem?_cons_succ, List.set_cons_zero, List.set_cons_succ, Option.bind_some, Option.map_some, wipeD, List.length_cons, List.length_nil, Nat.reduceAdd, if_true, List.getElem?_nil, eqI2, chEq]
    by_cases c1 : t.1 = x.1
    · by_cases c2 : u.1 = x.2.1
      · simp [c1, c2]
      · simp [c1, c2]
    · simp [c1]
  rw [S_if, htest, ok_some]
  by_cases cc : t.1 = x.1 ∧ u.1 = x.2.1 ∧ t.2.1 = u.2.1
  · obtain ⟨c1, c2, c3⟩ := cc
    rw [if_pos (by simp [c1, c2, c3])]
    rw [S_seq, S_asg]
    have e1 : ∀ ρ : Env', ρ[7]? = some (some (.bl x.2.2)) → ρ[10]? = some (some (.int t.2.2)) → ρ[13]? = some (some (.int u.2.2)) → fTup (fCons (fVar 10) (fCons (fVar 13) (fCons (fOrV (fVar 7) (fOp (cmpD neB) (fVar 10) (fVar 13))) fNil))) ρ s = some (ndD (t.2.2, u.2.2, x.2.2 || !decide (t.2.2 = u.2.2)), s) := by
      intro ρ a7 a10 a13
      cases e : x.2.2 <;> rw [e] at a7 <;> simp [fTup, fApp, fCons, fVar, fOrV, fOp, cmpD, neB, bool1, fNil, tupD, ndD, a7, a10, a13]
    rw [e1 _ rfl rfl rfl]
    have hg : goN A x (t.2.2, u.2.2, x.2.2 || !decide (t.2.2 = u.2.2)) := ⟨t.2.1, by rw [← c1]; exact ht, by rw [← c2, c3]; exact hu, rfl⟩
    have hN' : ∀ s' x14, K4 A st pl kl al ps i (fun y => done y ∨ y = (t.2.2, u.2.2, x.2.2 || !decide (t.2.2 = u.2.2))) s' → N [x0, some (.loc pl), some (.int x.1), some (.loc kl), some (.int i), some (.loc al), some (.int x.2.1), some (.bl x.2.2), some (.int t.1), some (chD t.2.1), some (.int t.2.2), some (.int u.1), some (chD u.2.1), some (.int u.2.2), x14] s' := fun s' x14 k => hN s' x14 (k.mono fun y hy => hy.imp id fun q => q.2.2.2)
    clear hN e1 skip
    generalize (t.2.2, u.2.2, x.2.2 || !decide (t.2.2 = u.2.2)) = y at hg hN' ⊢
    simp only [asg, ok_some, List.set_cons_succ, List.set_cons_zero]
    rw [S_if]
    simp only [fVar, fC, fOp, fUn, bool1, fTest, fChain, fAnd, fOr, fNot, fAndV, fOrV, fTru, fNil, fCons, fTup, fLst, fApp, fRng, fIt, foN, foS, int1, fSl, fBm, fCall, asg, sets, cmpD, tupD, lstD, ok_bind, ok_map, ok_some, ok_none, List.getElem?_cons_zero, List.getElem?_cons_succ, List.set_cons_zero, List.set_cons_succ, Option.bind_some, Option.map_some, wipeD, List.length_cons, List.length_nil, Nat.reduceAdd, if_true, List.getElem?_nil, notInB, in_nds hQ.k_]
    by_cases c : y ∈ kn
    · simp only [c, decide_true, Bool.not_true, Bool.false_eq_true, if_false, S_nx]
      exact hN' _ _ ⟨kn, af, hQ, hW, fun z hz => hz.elim (hD z) fun q => q ▸ c⟩
    · have few := hW.few o hn
      have le := hW.le
      have hk : kn.length < 100000 := by omega
      have ha : af.length < 100000 := by omega
      simp only [c, decide_false, Bool.not_false, if_true]
      rw [S_seq, S_drop]
      have ha2 : (s.set kl (.lst (kn.map ndD ++ [ndD y])))[al]? = some (.lst (af.map ndD)) := by rw [List.getElem?_set_ne hQ.n3, hQ.a_]
      simp only [fVar, fC, fOp, fUn, bool1, fTest, fChain, fAnd, fOr, fNot, fAndV, fOrV, fTru, fNil, fCons, fTup, fLst, fApp, fRng, fIt, foN, foS, int1, fSl, fBm, fCall, asg, sets, cmpD, tupD, lstD, ok_bind, ok_map, ok_some, ok_none, List.getElem?_cons_zero, List.getElem?_cons_succ, List.set_cons_zero, List.set_cons_succ, Option.bind_some, Option.map_some, wipeD, List.length_cons, List.length_nil, Nat.reduceAdd, if_true, List.getElem?_nil, isTy, hQ.k_, decide_true, appendD, List.length_map, if_pos hk]
      rw [S_drop]
      simp only [fVar, fC, fOp, fUn, bool1, fTest, fChain, fAnd, fOr, fNot, fAndV, fOrV, fTru, fNil, fCons, fTup, fLst, fApp, fRng, fIt, foN, foS, int1, fSl, fBm, fCall, asg, sets, cmpD, tupD, lstD, ok_bind, ok_map, ok_some, ok_none, List.getElem?_cons_zero, List.getElem?_cons_succ, List.set_cons_zero, List.set_cons_succ, Option.bind_some, Option.map_some, wipeD, List.length_cons, List.length_nil, Nat.reduceAdd, if_true, List.getElem?_nil, isTy, ha2, decide_true, appendD, List.length_map, if_pos ha]
      have hQ2 := hQ.add y
      simp only [List.map_append, List.map_cons, List.map_nil] at hQ2
      exact hN' _ _ ⟨_, _, hQ2, hW.add hx hg c, fun z hz => hz.elim (fun q => List.mem_append_left _ (hD z q)) fun q => by simp [q]⟩
  · rw [if_neg (by simpa using cc), S_nx]
    exact skip cc
end Lw
end
section
set_option Elab.async false
set_option linter.all false
set_option autoImplicit false
/-! Pdj: law_shortest. -/
namespace Lw
open PySem PySem.Spec PyProof.Rows L2
theorem level_ok {A : Aut} {st s : Sto} {al : List Nat} {n f l sl : Nat} {fi la : List Int} {tr : List (Int × Nat × Int)} {pl kl af i : Nat} {ps : List Nd} {x2 x6 x7 x8 x9 x10 x11 x12 x13 x14 : Option D} {N : Env' → Sto → Prop} {R : D → Sto → Prop}
    (h : K4 A st pl kl af ps i (fun _ => False) s) (o : A.Ok) (hn : A.n ≤ 4) (hps : ∀ x ∈ ps, DD A i x) (hp : AtP st fi la tr f l sl) (h3 : ∀ t, t ∈ tr ↔ t ∈ A.rw)
    (hN : ∀ s' x2 x6 x7 x8 x9 x10 x11 x12 x13 x14, K4 A st pl kl af ps i (fun y => ∃ x ∈ ps, goN A x y) s' → N [some (ptsD al n f l sl), some (.loc pl), x2, some (.loc kl), some (.int i), some (.loc af), x6, x7, x8, x9, x10, x11, x12, x13, x14] s') :
    S (sFor (fIt itL (fVar 1)) (.tp [2, 6, 7]) (sFor (fIt itL (fOp ixD (fVar 0) (fC (.int 4)))) (.tp [8, 9, 10]) (sFor (fIt itL (fOp ixD (fVar 0) (fC (.int 4)))) (.tp [11, 12, 13]) (sIf (fAnd (fTest (fOp (cmpD eqB) (fVar 8) (fVar 2))) (fAnd (fTest (fOp (cmpD eqB) (fVar 11) (fVar 6))) (fTest (fOp (cmpD eqB) (fVar 9) (fVar 12))))) (sSeq (sAsg (.nm 14) (fTup (fCons (fVar 10) (fCons (fVar 13) (fCons (fOrV (fVar 7) (fOp (cmpD neB) (fVar 10) (fVar 13))) fNil)))))
  (sIf (fTest (fOp (cmpD notInB) (fVar 14) (fVar 3))) (sSeq (sDrop (fBm "list" appendD (fVar 3) (fCons (fVar 14) fNil)))
  (sDrop (fBm "list" appendD (fVar 5) (fCons (fVar 14) fNil)))) sNx)) sNx))))
      [some (ptsD al n f l sl), some (.loc pl), x2, some (.loc kl), some (.int i), some (.loc af), x6, x7, x8, x9, x10, x11, x12, x13, x14] s N R := by
  have i4 : ∀ (u : Sto) (x1 x2 x3 x4 x5 x6 x7 x8 x9 x10 x11 x12 x13 x14 : Option D), fOp ixD (fVar 0) (fC (.int 4)) [some (ptsD al n f l sl), x1, x2, x3, x4, x5, x6, x7, x8, x9, x10, x11, x12, x13, x14] u = some (.loc sl, u) := fun u _ _ _ _ _ _ _ _ _ _ _ _ _ _ => rfl
  have kf : ∀ {p : Nd → Prop} {s}, K4 A st pl kl af ps i p s → s[pl]? = some (.lst (ps.map ndD)) ∧ s[sl]? = some (.lst (tr.map tripD)) := fun h => by
    obtain ⟨kn, af, hQ, _⟩ := h
    exact ⟨hQ.p_, hQ.f_.get hp.s (by simp)⟩
  rw [S_for]
  simp only [fIt, fVar, List.getElem?_cons_succ, List.getElem?_cons_zero, Option.bind_some, itL, (kf h).1, ok_some]
  refine for_ok (fun p ρ s => ∃ x2 x6 x7 x8 x9 x10 x11 x12 x13 x14 : Option D, ρ = [some (ptsD al n f l sl), some (.loc pl), x2, some (.loc kl), some (.int i), some (.loc af), x6, x7, x8, x9, x10, x11, x12, x13, x14] ∧ K4 A st pl kl af ps i (fun y => ∃ x ∈ ps.take p, goN A x y) s) ⟨_, _, _, _, _, _, _, _, _, _, rfl, h.mono fun y ⟨x, hx, _⟩ => by simp at hx⟩ (fun _ _ _ ⟨_, _, _, _, _, _, _, _, _, _, _, hK⟩ => (kf hK).1) ?_ ?_
  · rintro p dd ρ s hd ⟨x2, x6, x7, x8, x9, x10, x11, x12, x13, x14, rfl, hK⟩
    simp only [ItD.items, List.getElem?_map] at hd
    obtain ⟨x, hx, rfl⟩ := Option.map_eq_some_iff.mp hd
    have hxd : ndD x = .tup [.int x.1, .int x.2.1, .bl x.2.2] := rfl
    simp only [hxd, asg, sets, List.length_cons, List.length_nil, if_true, ok_some, List.set_cons_succ, List.set_cons_zero]
    rw [S_for, fIt, ok_bind, i4, ok_some]
    simp only [itL, (kf hK).2, ok_some]
    have dx : DD A i x := hps x (List.mem_of_getElem? hx)
    refine for_ok (fun q ρ s => ∃ x8 x9 x10 x11 x12 x13 x14 : Option D, ρ = [some (ptsD al n f l sl), some (.loc pl), some (.int x.1), some (.loc kl), some (.int i), some (.loc af), some (.int x.2.1), some (.bl x.2.2), x8, x9, x10, x11, x12, x13, x14] ∧ K4 A st pl kl af ps i (fun y => (∃ x ∈ ps.take p, goN A x y) ∨ ∃ t ∈ tr.take q, ∃ u ∈ tr, two x t u y) s) ⟨_, _, _, _, _, _, _, rfl, hK.mono fun y hy => by simpa using hy⟩ (fun _ _ _ ⟨_, _, _, _, _, _, _, _, hK⟩ => (kf hK).2) ?_ ?_
    · rintro q dd ρ s hd ⟨x8, x9, x10, x11, x12, x13, x14, rfl, hK⟩
      simp only [ItD.items, List.getElem?_map] at hd
      obtain ⟨t, ht, rfl⟩ := Option.map_eq_some_iff.mp hd
      have htd : tripD t = .tup [.int t.1, chD t.2.1, .int t.2.2] := rfl
      simp only [htd, asg, sets, List.length_cons, List.length_nil, if_true, ok_some, List.set_cons_succ, List.set_cons_zero]
      rw [S_for, fIt, ok_bind, i4, ok_some]
      simp only [itL, (kf hK).2, ok_some]
      refine for_ok (fun r ρ s => ∃ x11 x12 x13 x14 : Option D, ρ = [some (ptsD al n f l sl), some (.loc pl), some (.int x.1), some (.loc kl), some (.int i), some (.loc af), some (.int x.2.1), some (.bl x.2.2), some (.int t.1), some (chD t.2.1), some (.int t.2.2), x11, x12, x13, x14] ∧ K4 A st pl kl af ps i (fun y => ((∃ x ∈ ps.take p, goN A x y) ∨ ∃ t ∈ tr.take q, ∃ u ∈ tr, two x t u y) ∨ ∃ u ∈ tr.take r, two x t u y) s) ⟨_, _, _, _, rfl, hK.mono fun y hy => by simpa using hy⟩ (fun _ _ _ ⟨_, _, _, _, _, hK⟩ => (kf hK).2) ?_ ?_
      · rintro r dd ρ s hd ⟨x11, x12, x13, x14, rfl, hK⟩
        simp only [ItD.items, List.getElem?_map] at hd
        obtain ⟨u, hu, rfl⟩ := Option.map_eq_some_iff.mp hd
        have hud : tripD u = .tup [.int u.1, chD u.2.1, .int u.2.2] := rfl
        simp only [hud, asg, sets, List.length_cons, List.length_nil, if_true, ok_some, List.set_cons_succ, List.set_cons_zero]
        refine inn2_ok hK o hn dx ((h3 t).mp (List.mem_of_getElem? ht)) ((h3 u).mp (List.mem_of_getElem? hu)) fun s' y14 hK' => ?_
        refine ⟨_, _, _, _, rfl, hK'.mono fun y hy => ?_⟩
        rcases hy with hy | ⟨v, hv, h2⟩
        · exact .inl (.inl hy)
        · rcases (mem_take_succ hu).mp hv with q | q
          · exact .inl (.inr ⟨v, q, h2⟩)
          · exact .inr (q ▸ h2)
      · rintro ρ s ⟨x11, x12, x13, x14, rfl, hK⟩
        refine ⟨_, _, _, _, _, _, _, rfl, hK.mono fun y hy => ?_⟩
        rcases hy with hy | ⟨v, hv, u, hu, h2⟩
        · exact .inl (.inl hy)
        · rcases (mem_take_succ ht).mp hv with q | q
          · exact .inl (.inr ⟨v, q, u, hu, h2⟩)
          · refine .inr ⟨u, ?_, q ▸ h2⟩
            rw [List.take_of_length_le (by simp [ItD.items])]
            exact hu
    · rintro ρ s ⟨x8, x9, x10, x11, x12, x13, x14, rfl, hK⟩
      refine ⟨_, _, _, _, _, _, _, _, _, _, rfl, hK.mono fun y hy => ?_⟩
      obtain ⟨z, hz, hg⟩ := hy
      rcases (mem_take_succ hx).mp hz with q | q
      · exact .inl ⟨z, q, hg⟩
      · subst q
        obtain ⟨k, g1, g2, g3⟩ := hg
        refine .inr ⟨(z.1, k, y.1), ?_, (z.2.1, k, y.2.1), (h3 _).mpr g2, rfl, rfl, rfl, ?_⟩
        · rw [List.take_of_length_le (by simp [ItD.items])]
          exact (h3 _).mpr g1
        · obtain ⟨y1, y2, y3⟩ := y
          simp only at g3
          simp only [g3]
  · rintro ρ s ⟨x2, x6, x7, x8, x9, x10, x11, x12, x13, x14, rfl, hK⟩
    refine hN _ _ _ _ _ _ _ _ _ _ _ (hK.mono fun y hy => ?_)
    rw [List.take_of_length_le (by simp [ItD.items])]
    exact hy
/-- between the levels -/
structure LV (A : Aut) (i : Nat) (ps kn : List Nd) : Prop where
  nd : kn.Nodup
  le : ps.length ≤ kn.length
  kn : ∀ x, x ∈ kn ↔ ∃ j, j ≤ i ∧ DD A j x
  ps : ∀ x, x ∈ ps ↔ DD A i x
  lo : ∀ j x, j < i → DD A j x → ¬ enN A x
theorem LV.next {A : Aut} {i : Nat} {ps kn kn' af : List Nd} (h : LV A i ps kn) (g : LW A i kn' af) (c : ∀ x ∈ ps, ¬ enN A x) (d : ∀ y, (∃ x ∈ ps, goN A x y) → y ∈ kn') : LV A (i + 1) af kn' := by
  have key : ∀ x, DD A (i + 1) x → x ∈ af := fun x hx => by
    obtain ⟨z, hz, hg⟩ := dist_pred hx
    rcases (g.kn x).mp (d x ⟨z, (h.ps z).mpr hz, hg⟩) with ⟨j, hj, hd⟩ | q
    · have := dist_uniq hx hd; omega
    · exact q
  refine ⟨g.nd, g.le, fun x => ?_, fun x => ⟨g.af x, key x⟩, fun j x hj hx => ?_⟩
  · rw [g.kn x]
    constructor
    · rintro (⟨j, hj, hd⟩ | q)
      · exact ⟨j, by omega, hd⟩
      · exact ⟨i + 1, Nat.le_refl _, g.af x q⟩
    · rintro ⟨j, hj, hd⟩
      by_cases c : j ≤ i
      · exact .inl ⟨j, c, hd⟩
      · obtain rfl : j = i + 1 := by omega
        exact .inr (key x hd)
  · by_cases q : j < i
    · exact h.lo j x q hx
    · obtain rfl : j = i := by omega
      exact c x ((h.ps x).mpr hx)
theorem LV.none {A : Aut} {i : Nat} {kn : List Nd} (h : LV A (i + 1) [] kn) (L : Nat) : ¬ Amb A L :=
  no_hits (i := i) (fun j x hj hx => h.lo j x (by omega) hx) (fun x hx => by have := (h.ps x).mpr hx; simp at this) L
def ShOk (A : Aut) (d : D) : Prop := (d = .non ∧ ∀ L, ¬ Amb A L) ∨ ∃ L : Nat, d = .int L ∧ Amb A L ∧ ∀ l, l < L → ¬ Amb A l
theorem mul_at {i j : Int} (st : Sto) (h : -1000000 < i ∧ i < 1000000) : mulD (.int i) (.int j) st = some (.int (i * j), st) := by
  have e : (2 : Int) ^ 64 = 18446744073709551616 := by decide
  simp only [mulD, e]
  rw [if_pos (Or.inl (by omega))]
theorem fOp_at {r : D → D → Sto → Option (D × Sto)} {fa fb : FE} {ρ : Env'} {st s1 s2 : Sto} {a b : D} {z : Option (D × Sto)} (h1 : fa ρ st = some (a, s1)) (h2 : fb ρ s1 = some (b, s2)) (h3 : r a b s2 = z) : fOp r fa fb ρ st = z := by
  unfold fOp
  rw [h1, Option.bind_some, h2, Option.bind_some, h3]
theorem fOne_at {f : FE} {ρ : Env'} {st s1 : Sto} {a : D} (h1 : f ρ st = some (a, s1)) : fCons f fNil ρ st = some ([a], s1) := by
  unfold fCons
  rw [h1, Option.bind_some]
  rfl
theorem len2 (ρ : Env') (s : Sto) (g : FE) (m : Nat) (hm : m ≤ 100) (e : g ρ s = some (.int m, s)) : fCons (fOp addD (fOp mulD (fOp mulD (fC (.int 2)) g) g) (fC (.int 40))) fNil ρ s = some ([.int (2 * (m : Int) * m + 40)], s) :=
  fOne_at (fOp_at (fOp_at (fOp_at rfl e (mul_at s (by omega))) e (mul_at s (by omega))) rfl rfl)
theorem shortest_ok {A : Aut} {st : Sto} {al : List Nat} {n f l sl : Nat} {fi la : List Int} {tr : List (Int × Nat × Int)} (hp : AtP st fi la tr f l sl) (o : A.Ok) (hn : A.n ≤ 4) (hfn : fi.Nodup) (hf2 : fi.length ≤ 2) (ht : tr.length ≤ 100)
    (h1 : ∀ t, t ∈ fi ↔ t ∈ A.bg) (h2 : ∀ t, t ∈ la ↔ t ∈ A.en) (h3 : ∀ t, t ∈ tr ↔ t ∈ A.rw) :
    ok (p_law_shortest [ptsD al n f l sl] st) fun p => Fr [] st p.2 ∧ ShOk A p.1 := by
  refine ok_run' fun N R hN hR => ?_
  simp only [b_law_shortest, List.map_cons, List.map_nil, List.length_cons, List.length_nil, List.replicate, List.cons_append, List.nil_append, Nat.reduceAdd, Nat.reduceSub]
  have i2 : ∀ u, ixD (ptsD al n f l sl) (.int 2) u = some (.loc f, u) := fun u => rfl
  have i3 : ∀ u, ixD (ptsD al n f l sl) (.int 3) u = some (.loc l, u) := fun u => rfl
  have i4 : ∀ u, ixD (ptsD al n f l sl) (.int 4) u = some (.loc sl, u) := fun u => rfl
  rw [S_seq, S_asg]
  simp only [fVar, fC, fOp, fUn, bool1, fTest, fChain, fAnd, fOr, fNot, fAndV, fOrV, fTru, fNil, fCons, fTup, fLst, fApp, fRng, fIt, foN, foS, int1, fSl, fBm, fCall, asg, sets, cmpD, tupD, lstD, ok_bind, ok_map, ok_some, ok_none, List.getElem?_cons_zero, List.getElem?_cons_succ, List.set_cons_zero, List.set_cons_succ, Option.bind_some, Option.map_some, wipeD, List.length_cons, List.length_nil, Nat.reduceAdd, if_true, List.getElem?_nil, Nat.zero_le]
  have f0 : Fr [] st (st ++ [MO.lst []]) := .app _
  have e0 : (st ++ [MO.lst []])[st.length]? = some (.lst (([] : List Nd).map ndD)) := by simp
  generalize st ++ [MO.lst []] = s0 at f0 e0 ⊢
  rw [S_seq, S_for]
  simp only [fVar, fC, fOp, fUn, bool1, fTest, fChain, fAnd, fOr, fNot, fAndV, fOrV, fTru, fNil, fCons, fTup, fLst, fApp, fRng, fIt, foN, foS, int1, fSl, fBm, fCall, asg, sets, cmpD, tupD, lstD, ok_bind, ok_map, ok_some, ok_none, List.getElem?_cons_zero, List.getElem?_cons_succ, List.set_cons_zero, List.set_cons_succ, Option.bind_some, Option.map_some, wipeD, List.length_cons, List.length_nil, Nat.reduceAdd, if_true, List.getElem?_nil, i2, itL, f0.get hp.f (by simp)]
  refine for_ok (fun i ρ s => ∃ (m : Nat) (x2 : Option D), ρ = [some (ptsD al n f l sl), some (.loc m), x2, none, none, none, none, none, none, none, none, none, none, none, none] ∧ s[m]? = some (.lst ((ini (fi.take i) fi).map ndD)) ∧ Fr [] st s) ⟨st.length, none, rfl, e0, f0⟩ (fun _ _ _ ⟨_, _, _, _, f⟩ => f.get hp.f (by simp)) ?_ ?_
  · rintro i dd ρ s hd ⟨m, x2, rfl, hm, fs⟩
    simp only [ItD.items, List.getElem?_map] at hd
    obtain ⟨u, hu, rfl⟩ := Option.map_eq_some_iff.mp hd
    have hlt : i < fi.length := (List.getElem?_eq_some_iff.mp hu).1
    simp only [asg, ok_some, List.set_cons_succ, List.set_cons_zero]
    rw [S_asg, fOp, ok_bind]
    refine ok_of (a := (.loc m, s)) rfl ?_
    rw [ok_bind]
    refine ok_mono (P := fun p => p.1 = .loc s.length ∧ p.2 = s ++ [.lst ((fi.map (mkN u)).map ndD)]) (fLc_ok ?_) ?_
    · simp only [fVar, fC, fOp, fUn, bool1, fTest, fChain, fAnd, fOr, fNot, fAndV, fOrV, fTru, fNil, fCons, fTup, fLst, fApp, fRng, fIt, foN, foS, int1, fSl, fBm, fCall, asg, sets, cmpD, tupD, lstD, ok_bind, ok_map, ok_some, ok_none, List.getElem?_cons_zero, List.getElem?_cons_succ, List.set_cons_zero, List.set_cons_succ, Option.bind_some, Option.map_some, wipeD, List.length_cons, List.length_nil, Nat.reduceAdd, if_true, List.getElem?_nil, i2, itL, fs.get hp.f (by simp)]
      refine ok_of (lc_pure (st := s) (fun _ => true) (fun d => match d with | .int v => ndD (mkN u v) | _ => .non) (fi.map .int) [] ?_ ?_ ?_) ⟨by trivial, ?_⟩
      · intro z
        show (s ++ [z])[f]? = _
        exact (Fr.app (X := []) [z]).get (fs.get hp.f (by simp)) (by simp)
      · simp; omega
      · intro d hd
        obtain ⟨v, hv, rfl⟩ := List.mem_map.mp hd
        exact ⟨_, rfl, fun acc => ⟨rfl, fun _ => by simp [fVar, fC, fOp, fUn, bool1, fTest, fChain, fAnd, fOr, fNot, fAndV, fOrV, fTru, fNil, fCons, fTup, fLst, fApp, fRng, fIt, foN, foS, int1, fSl, fBm, fCall, asg, sets, cmpD, tupD, lstD, ok_bind, ok_map, ok_some, ok_none, List.getElem?_cons_zero, List.getElem?_cons_succ, List.set_cons_zero, List.set_cons_succ, Option.bind_some, Option.map_some, wipeD, List.length_cons, List.length_nil, Nat.reduceAdd, if_true, List.getElem?_nil, neB, ndD, mkN]⟩⟩
      · rw [filt_true]; simp [Function.comp_def]
    rintro ⟨_, s1⟩ ⟨rfl, rfl⟩
    have hl : (ini (fi.take i) fi).length ≤ 4 := by
      rw [ini_len]
      have : (fi.take i).length * fi.length ≤ 2 * 2 := Nat.mul_le_mul (by simp; omega) hf2
      omega
    have hq : ((ini (fi.take i) fi).map ndD).length + ((fi.map (mkN u)).map ndD).length ≤ 100000 := by simp; omega
    have hm1 : (s ++ [.lst ((fi.map (mkN u)).map ndD)])[m]? = some (.lst ((ini (fi.take i) fi).map ndD)) := (Fr.app (X := []) _).get hm (by simp)
    simp only [addD, hm1, List.getElem?_concat_length, if_pos hq, ok_some, asg, List.set_cons_succ, List.set_cons_zero]
    refine ⟨_, _, rfl, ?_, fs.trans ((Fr.app _).trans (.app _))⟩
    rw [ini_snoc hu, List.map_append]
    simp
  rintro ρ s ⟨m, x2, rfl, hm, fs⟩
  rw [List.take_of_length_le (by simp [ItD.items])] at hm
  rw [S_seq, S_asg]
  simp only [fVar, fC, fOp, fUn, bool1, fTest, fChain, fAnd, fOr, fNot, fAndV, fOrV, fTru, fNil, fCons, fTup, fLst, fApp, fRng, fIt, foN, foS, int1, fSl, fBm, fCall, asg, sets, cmpD, tupD, lstD, ok_bind, ok_map, ok_some, ok_none, List.getElem?_cons_zero, List.getElem?_cons_succ, List.set_cons_zero, List.set_cons_succ, Option.bind_some, Option.map_some, wipeD, List.length_cons, List.length_nil, Nat.reduceAdd, if_true, List.getElem?_nil, listD, hm]
  have hini : ∀ y, y ∈ ini fi fi ↔ DD A 0 y := fun y => by
    have z : DD A 0 y ↔ stN A y := ⟨fun h => by cases h.1; assumption, fun h => ⟨.zero h, by intro j hj; omega⟩⟩
    rw [z, mem_ini, stN, h1, h1]
  have v0 : LV A 0 (ini fi fi) (ini fi fi) := ⟨ini_nd hfn, Nat.le_refl _, fun x => by rw [hini]; exact ⟨fun h => ⟨0, Nat.le_refl _, h⟩, fun ⟨j, hj, h⟩ => (show j = 0 by omega) ▸ h⟩, hini, by intro j x hj; omega⟩
  have hm2 : (s ++ [.lst ((ini fi fi).map ndD)])[m]? = some (.lst ((ini fi fi).map ndD)) := (Fr.app (X := []) _).get hm (by simp)
  have hk2 : (s ++ [.lst ((ini fi fi).map ndD)])[s.length]? = some (.lst ((ini fi fi).map ndD)) := by simp
  have hne : m ≠ s.length := by have := (List.getElem?_eq_some_iff.mp hm).1; omega
  have fs2 : Fr [] st (s ++ [.lst ((ini fi fi).map ndD)]) := fs.trans (.app _)
  have hge := fs.le
  generalize s.length = kl at hm2 hk2 hne hge ⊢
  generalize s ++ [.lst ((ini fi fi).map ndD)] = s2 at hm2 hk2 fs2 ⊢
  rw [S_seq, S_for]
  rw [fRng, ok_bind]
  refine ok_of (a := ([.int (2 * (tr.length : Int) * tr.length + 40)], s2)) ?_ ?_
  · have e : fApp lenD (fCons (fOp ixD (fVar 0) (fC (.int 4))) fNil) [some (ptsD al n f l sl), some (.loc m), x2, some (.loc kl), none, none, none, none, none, none, none, none, none, none, none] s2 = some (.int tr.length, s2) := by
      simp only [fApp, fCons, fNil, fOp, fVar, fC, List.getElem?_cons_zero, Option.bind_some, Option.map_some, i4, lenD, fs2.get hp.s (by simp), List.length_map]
    exact len2 _ _ _ _ (by omega) e
  have hmul : (tr.length : Int) * tr.length ≤ 100 * 100 := by
    have : tr.length * tr.length ≤ 100 * 100 := Nat.mul_le_mul ht ht
    exact_mod_cast this
  have hmul0 : 0 ≤ (tr.length : Int) * tr.length := by
    exact_mod_cast Nat.zero_le (tr.length * tr.length)
  rw [Int.mul_assoc, rng1_at _ _ ⟨by omega, by omega⟩]
  simp only [ok_some]
  refine for_ok (fun i ρ s => ∃ (pl kl : Nat) (ps kn : List Nd) (x2 x4 x5 x6 x7 x8 x9 x10 x11 x12 x13 x14 : Option D), ρ = [some (ptsD al n f l sl), some (.loc pl), x2, some (.loc kl), x4, x5, x6, x7, x8, x9, x10, x11, x12, x13, x14] ∧
    s[pl]? = some (.lst (ps.map ndD)) ∧ s[kl]? = some (.lst (kn.map ndD)) ∧ pl ≠ kl ∧ st.length ≤ kl ∧ Fr [] st s ∧ LV A i ps kn ∧ (i = 0 ∨ ps ≠ [])) ⟨m, kl, _, _, _, _, _, _, _, _, _, _, _, _, _, _, rfl, hm2, hk2, hne, hge, fs2, v0, .inl rfl⟩ (fun _ _ _ _ => trivial) ?_ ?_
  · rintro i dd ρ s hd ⟨pl, kl, ps, kn, x2, x4, x5, x6, x7, x8, x9, x10, x11, x12, x13, x14, rfl, hpl, hkl, hne, hge, fs, hV, _⟩
    obtain ⟨hi, rfl⟩ := rng_it0 hd
    simp only [asg, ok_some, List.set_cons_succ, List.set_cons_zero]
    rw [S_seq, S_for]
    simp only [fVar, fC, fOp, fUn, bool1, fTest, fChain, fAnd, fOr, fNot, fAndV, fOrV, fTru, fNil, fCons, fTup, fLst, fApp, fRng, fIt, foN, foS, int1, fSl, fBm, fCall, asg, sets, cmpD, tupD, lstD, ok_bind, ok_map, ok_some, ok_none, List.getElem?_cons_zero, List.getElem?_cons_succ, List.set_cons_zero, List.set_cons_succ, Option.bind_some, Option.map_some, wipeD, List.length_cons, List.length_nil, Nat.reduceAdd, if_true, List.getElem?_nil, itL, hpl]
    refine for_ok (fun p ρ s' => ∃ x2 x6 x7 : Option D, ρ = [some (ptsD al n f l sl), some (.loc pl), x2, some (.loc kl), some (.int i), x5, x6, x7, x8, x9, x10, x11, x12, x13, x14] ∧ s' = s ∧ ∀ x ∈ ps.take p, ¬ enN A x) ⟨_, _, _, rfl, rfl, by simp⟩ (fun _ _ _ ⟨_, _, _, _, e, _⟩ => e ▸ hpl) ?_ ?_
    · rintro p dd ρ s hd ⟨x2, x6, x7, rfl, rfl, hq⟩
      simp only [ItD.items, List.getElem?_map] at hd
      obtain ⟨x, hx, rfl⟩ := Option.map_eq_some_iff.mp hd
      have hxd : ndD x = .tup [.int x.1, .int x.2.1, .bl x.2.2] := rfl
      simp only [hxd, asg, sets, List.length_cons, List.length_nil, if_true, ok_some, List.set_cons_succ, List.set_cons_zero]
      have hla := fs.get hp.l (by simp)
      have htest : fAnd (fTru (fVar 7)) (fAnd (fTest (fOp (cmpD inB) (fVar 2) (fOp ixD (fVar 0) (fC (.int 3))))) (fTest (fOp (cmpD inB) (fVar 6) (fOp ixD (fVar 0) (fC (.int 3))))))
          [some (ptsD al n f l sl), some (.loc pl), some (.int x.1), some (.loc kl), some (.int i), x5, some (.int x.2.1), some (.bl x.2.2), x8, x9, x10, x11, x12, x13, x14] s = some (x.2.2 && (decide (x.1 ∈ la) && decide (x.2.1 ∈ la)), s) := by
        cases c1 : x.2.2
        · simp only [fVar, fC, fOp, fUn, bool1, fTest, fChain, fAnd, fOr, fNot, fAndV, fOrV, fTru, fNil, fCons, fTup, fLst, fApp, fRng, fIt, foN, foS, int1, fSl, fBm, fCall, asg, sets, cmpD, tupD, lstD, ok_bind, ok_map, ok_some, ok_none, List.getElem?_cons_zero, List.getElem?_cons_succ, List.set_cons_zero, List.set_cons_succ, Option.bind_some, Option.map_some, wipeD, List.length_cons, List.length_nil, Nat.reduceAdd, if_true, List.getElem?_nil, truD, Bool.false_eq_true, if_false, Bool.false_and]
        · simp only [fVar, fC, fOp, fUn, bool1, fTest, fChain, fAnd, fOr, fNot, fAndV, fOrV, fTru, fNil, fCons, fTup, fLst, fApp, fRng, fIt, foN, foS, int1, fSl, fBm, fCall, asg, sets, cmpD, tupD, lstD, ok_bind, ok_map, ok_some, ok_none, List.getElem?_cons_zero, List.getElem?_cons_succ, List.set_cons_zero, List.set_cons_succ, Option.bind_some, Option.map_some, wipeD, List.length_cons, List.length_nil, Nat.reduceAdd, if_true, List.getElem?_nil, truD, i3, in_intsL hla]
          by_cases c2 : x.1 ∈ la
          · simp only [c2, decide_true, if_true, Bool.true_and]
          · simp only [c2, decide_false, Bool.false_eq_true, if_false, Bool.false_and, Bool.and_false]
      rw [S_if, htest, ok_some]
      cases ct : x.2.2 && (decide (x.1 ∈ la) && decide (x.2.1 ∈ la))
      · have hne : ¬ enN A x := fun ⟨h4, h5, h6⟩ => by
          rw [← h2] at h5 h6
          simp [h4, h5, h6] at ct
        simp only [Bool.false_eq_true, if_false, S_nx]
        refine ⟨_, _, _, rfl, by trivial, fun z hz => ?_⟩
        rcases (mem_take_succ hx).mp hz with q | q
        · exact hq z q
        · exact q ▸ hne
      · have hen : enN A x := by
          simp only [Bool.and_eq_true, decide_eq_true_eq] at ct
          exact ⟨ct.1, (h2 _).mp ct.2.1, (h2 _).mp ct.2.2⟩
        simp only [if_true]
        rw [S_ret]
        simp only [fVar, fC, fOp, fUn, bool1, fTest, fChain, fAnd, fOr, fNot, fAndV, fOrV, fTru, fNil, fCons, fTup, fLst, fApp, fRng, fIt, foN, foS, int1, fSl, fBm, fCall, asg, sets, cmpD, tupD, lstD, ok_bind, ok_map, ok_some, ok_none, List.getElem?_cons_zero, List.getElem?_cons_succ, List.set_cons_zero, List.set_cons_succ, Option.bind_some, Option.map_some, wipeD, List.length_cons, List.length_nil, Nat.reduceAdd, if_true, List.getElem?_nil]
        exact hR _ _ ⟨fs, .inr ⟨i, rfl, ⟨x, ((hV.ps x).mp (List.mem_of_getElem? hx)).1, hen⟩, no_less hV.lo⟩⟩
    · rintro ρ s ⟨x2, x6, x7, rfl, rfl, hq⟩
      rw [List.take_of_length_le (by simp [ItD.items])] at hq
      rw [S_seq, S_asg]
      simp only [fVar, fC, fOp, fUn, bool1, fTest, fChain, fAnd, fOr, fNot, fAndV, fOrV, fTru, fNil, fCons, fTup, fLst, fApp, fRng, fIt, foN, foS, int1, fSl, fBm, fCall, asg, sets, cmpD, tupD, lstD, ok_bind, ok_map, ok_some, ok_none, List.getElem?_cons_zero, List.getElem?_cons_succ, List.set_cons_zero, List.set_cons_succ, Option.bind_some, Option.map_some, wipeD, List.length_cons, List.length_nil, Nat.reduceAdd, if_true, List.getElem?_nil, Nat.zero_le]
      rw [S_seq]
      have hkl2 := (List.getElem?_eq_some_iff.mp hkl).1
      have hpl2 := (List.getElem?_eq_some_iff.mp hpl).1
      have hst := fs.le
      have k0 : K4 A st pl kl s.length ps i (fun _ => False) (s ++ [MO.lst []]) :=
        ⟨kn, [], ⟨(Fr.app (X := []) _).get hpl (by simp), (Fr.app (X := []) _).get hkl (by simp), by simp, hne, by omega, by omega, hge, hst, fs.trans (.app _)⟩, ⟨hV.nd, by simp, fun x => by rw [hV.kn]; simp, by simp⟩, fun _ h => h.elim⟩
      refine level_ok k0 o hn (fun x hx => (hV.ps x).mp hx) hp h3 fun s' y2 y6 y7 y8 y9 y10 y11 y12 y13 y14 hK => ?_
      obtain ⟨kn', af, hQ, hW, hD⟩ := hK
      have hV2 := hV.next hW hq hD
      rw [S_seq, S_asg]
      simp only [fVar, fC, fOp, fUn, bool1, fTest, fChain, fAnd, fOr, fNot, fAndV, fOrV, fTru, fNil, fCons, fTup, fLst, fApp, fRng, fIt, foN, foS, int1, fSl, fBm, fCall, asg, sets, cmpD, tupD, lstD, ok_bind, ok_map, ok_some, ok_none, List.getElem?_cons_zero, List.getElem?_cons_succ, List.set_cons_zero, List.set_cons_succ, Option.bind_some, Option.map_some, wipeD, List.length_cons, List.length_nil, Nat.reduceAdd, if_true, List.getElem?_nil]
      rw [S_if]
      simp only [fVar, fC, fOp, fUn, bool1, fTest, fChain, fAnd, fOr, fNot, fAndV, fOrV, fTru, fNil, fCons, fTup, fLst, fApp, fRng, fIt, foN, foS, int1, fSl, fBm, fCall, asg, sets, cmpD, tupD, lstD, ok_bind, ok_map, ok_some, ok_none, List.getElem?_cons_zero, List.getElem?_cons_succ, List.set_cons_zero, List.set_cons_succ, Option.bind_some, Option.map_some, wipeD, List.length_cons, List.length_nil, Nat.reduceAdd, if_true, List.getElem?_nil, lenD, hQ.a_, List.length_map, eqI2]
      cases af with
      | nil =>
        simp only [List.length_nil, Int.ofNat_zero, Int.natCast_zero, decide_true, if_true]
        rw [S_ret]
        simp only [fVar, fC, fOp, fUn, bool1, fTest, fChain, fAnd, fOr, fNot, fAndV, fOrV, fTru, fNil, fCons, fTup, fLst, fApp, fRng, fIt, foN, foS, int1, fSl, fBm, fCall, asg, sets, cmpD, tupD, lstD, ok_bind, ok_map, ok_some, ok_none, List.getElem?_cons_zero, List.getElem?_cons_succ, List.set_cons_zero, List.set_cons_succ, Option.bind_some, Option.map_some, wipeD, List.length_cons, List.length_nil, Nat.reduceAdd, if_true, List.getElem?_nil]
        exact hR _ _ ⟨hQ.f_, .inl ⟨rfl, hV2.none⟩⟩
      | cons y af =>
        have : ¬ (((y :: af).length : Int) = 0) := by simp; omega
        simp only [this, decide_false, Bool.false_eq_true, if_false, S_nx]
        exact ⟨_, _, _, _, _, _, _, _, _, _, _, _, _, _, _, _, rfl, hQ.a_, hQ.k_, fun e => hQ.n3 e.symm, hQ.g1, hQ.f_, hV2, .inr (by simp)⟩
  · rintro ρ s ⟨pl, kl, ps, kn, x2, x4, x5, x6, x7, x8, x9, x10, x11, x12, x13, x14, rfl, hpl, hkl, hne, hge, fs, hV, hz⟩
    exfalso
    rw [rng_len] at hV hz
    have hbig : 40 ≤ (2 * ((tr.length : Int) * tr.length) + 40).toNat := by omega
    generalize (2 * ((tr.length : Int) * tr.length) + 40).toNat = k at hV hz hbig
    rcases hz with hz | hz
    · omega
    · obtain ⟨x, hx⟩ := List.exists_mem_of_ne_nil _ hz
      have := dist_len ((hV.ps x).mp hx) (nodes A) fun j y r => rch_nodes o r
      rw [nodes_len] at this
      have : A.n * (A.n * 2) ≤ 4 * (4 * 2) := Nat.mul_le_mul hn (Nat.mul_le_mul hn (Nat.le_refl _))
      omega
end Lw
end
section
set_option Elab.async false
set_option linter.all false
set_option autoImplicit false
/-! Pdk: small things for the law. -/
namespace Lw
open PySem PySem.Spec PyProof.Rows L2
theorem emptyS : ("" : Str) = ⟨#[]⟩ := by decide +kernel
theorem str_add (a b : List Nat) : (⟨a.toArray⟩ : Str) ++ (⟨b.toArray⟩ : Str) = ⟨(a ++ b).toArray⟩ := by
  show (⟨a.toArray ++ b.toArray⟩ : Str) = _
  simp
theorem join_w : ∀ w : List Nat, Str.join ("" : Str) (w.map fun k => (⟨#[k]⟩ : Str)) = ⟨w.toArray⟩
  | [] => rfl
  | [k] => rfl
  | k :: k' :: w => by
    have e := join_w (k' :: w)
    have h1 : Str.join ("" : Str) ((k :: k' :: w).map fun k => (⟨#[k]⟩ : Str)) = (⟨#[k]⟩ : Str) ++ ("" : Str) ++ Str.join ("" : Str) ((k' :: w).map fun k => (⟨#[k]⟩ : Str)) := rfl
    rw [h1, e, emptyS]
    have h2 : (⟨#[k]⟩ : Str) ++ (⟨#[]⟩ : Str) = ⟨[k].toArray⟩ := str_add [k] []
    rw [h2, str_add]
    rfl
theorem strs_ch : ∀ w : List Nat, strsD (w.map chD) = some (w.map fun k => (⟨#[k]⟩ : Str))
  | [] => rfl
  | k :: w => by
    rw [List.map_cons, chD, strsD, strs_ch w]
    rfl
theorem join_at {st : Sto} {n : Nat} {w : List Nat} (h : st[n]? = some (.lst (w.map chD))) (hw : w.length ≤ 1000) : joinD (.str ("" : Str)) [.loc n] st = some (wordD w, st) := by
  have hs : ((w.map fun k => (⟨#[k]⟩ : Str)).map (·.length)).sum = w.length := by
    clear h hw
    induction w with
    | nil => rfl
    | cons k w ih =>
      simp only [List.map_cons, List.sum_cons, ih, List.length_cons]
      show 1 + w.length = _
      omega
  have hz : (("" : Str)).length = 0 := by rw [emptyS]; rfl
  simp only [joinD, h, strs_ch, Option.bind_some, hs, hz, Nat.mul_zero, Nat.add_zero]
  rw [if_pos (by omega), TL.join_eq, join_w]
  rfl
theorem cut_to {α : Type} (xs : List α) (k : Nat) : cutG xs none (some (k : Int)) = xs.take k := by
  unfold cutG
  rw [HT.sIx_none, HT.sIx_nat, List.drop_zero, Nat.sub_zero]
  by_cases c : k ≤ xs.length
  · rw [Nat.min_eq_left c]
  · rw [Nat.min_eq_right (by omega), List.take_of_length_le (Nat.le_refl _), List.take_of_length_le (by omega)]
theorem cut_from {α : Type} (xs : List α) (k : Nat) : cutG xs (some (k : Int)) none = xs.drop k := by
  unfold cutG
  rw [HT.sIx_none, HT.sIx_nat]
  by_cases c : k ≤ xs.length
  · rw [Nat.min_eq_left c, List.take_of_length_le (by simp)]
  · rw [Nat.min_eq_right (by omega), List.drop_of_length_le (Nat.le_refl _), List.drop_of_length_le (by omega), List.take_nil]
theorem slI_to (r : List Int) (k : Nat) (st : Sto) : slD (intsT r) none (some (k : Int)) st = some (intsT (r.take k), st) := by
  simp only [slD, intsT, cut_to, List.map_take]
theorem slI_from (r : List Int) (k : Nat) (st : Sto) : slD (intsT r) (some (k : Int)) none st = some (intsT (r.drop k), st) := by
  simp only [slD, intsT, cut_from, List.map_drop]
theorem slW_from (w : List Nat) (k : Nat) (hw : w.length ≤ 1000) (st : Sto) : slD (wordD w) (some (k : Int)) none st = some (wordD (w.drop k), st) := by
  have h2 : Str.length ⟨w.toArray⟩ = w.length := by simp [Str.length]
  simp only [slD, wordD, h2]
  rw [if_pos (by omega)]
  have h3 := cut_from w k
  unfold cutG at h3
  unfold cutS
  rw [h2]
  rw [h3]
theorem add_ints (r q : List Int) (st : Sto) (h : r.length + q.length ≤ 100000) : addD (intsT r) (intsT q) st = some (intsT (r ++ q), st) := by
  have h2 : (r.map D.int).length + (q.map D.int).length ≤ 100000 := by simpa using h
  simp only [addD, intsT, List.map_append]
  rw [if_pos h2]
theorem add_w (w v : List Nat) (st : Sto) (h : w.length + v.length ≤ 100000) : addD (wordD w) (wordD v) st = some (wordD (w ++ v), st) := by
  have h2 : ∀ w : List Nat, Str.length ⟨w.toArray⟩ = w.length := fun w => by simp [Str.length]
  simp only [addD, wordD, h2, str_add]
  rw [if_pos h]
theorem ch_w (k : Nat) : chD k = wordD [k] := rfl
theorem two_mem {α : Type} {l : List α} {a b : α} (ha : a ∈ l) (hb : b ∈ l) (h : a ≠ b) : 2 ≤ l.length := by
  match l, ha, hb with
  | [x], ha, hb =>
    simp at ha hb
    exact absurd (ha.trans hb.symm) h
  | x :: y :: l, _, _ => simp
theorem run_congr {b b' e e' : List Int} {rw1 rw2 : List (Int × Nat × Int)} (h1 : ∀ s, s ∈ b ↔ s ∈ b') (h2 : ∀ s, s ∈ e ↔ s ∈ e') (h3 : ∀ t, t ∈ rw1 ↔ t ∈ rw2) {w : List Nat} {r : List Int} (h : RunP b e rw1 w r) : RunP b' e' rw2 w r :=
  ⟨h.len, let ⟨s, a, c⟩ := h.b; ⟨s, a, (h1 s).mp c⟩, let ⟨s, a, c⟩ := h.e; ⟨s, a, (h2 s).mp c⟩, fun i k s t a c d => (h3 _).mp (h.way i k s t a c d)⟩
theorem good_congr {b b' e e' : List Int} {rw1 rw2 : List (Int × Nat × Int)} (h1 : ∀ s, s ∈ b ↔ s ∈ b') (h2 : ∀ s, s ∈ e ↔ s ∈ e') (h3 : ∀ t, t ∈ rw1 ↔ t ∈ rw2) (w : List Nat) (r q : List Int) : Good b e rw1 w r q ↔ Good b' e' rw2 w r q :=
  ⟨fun ⟨x, y, z⟩ => ⟨x, run_congr h1 h2 h3 y, run_congr h1 h2 h3 z⟩, fun ⟨x, y, z⟩ => ⟨x, run_congr (fun s => (h1 s).symm) (fun s => (h2 s).symm) (fun s => (h3 s).symm) y, run_congr (fun s => (h1 s).symm) (fun s => (h2 s).symm) (fun s => (h3 s).symm) z⟩⟩
/-- a run of the whole word is among the runs -/
theorem FR.mem {A : Aut} {w : List Nat} {F : List (List Int)} (h : FR A w w.length F) {r : List Int} (g : RunP A.bg A.en A.rw w r) : r ∈ F.filter fun r => decide (lastI r ∈ A.en) := by
  refine List.mem_filter.mpr ⟨h.all r g.len g.b (by rw [List.take_length]; exact g.way), ?_⟩
  obtain ⟨s, e, hs⟩ := g.e
  rw [lastI_get g.len] at e
  cases e
  simpa using hs
theorem FR.two {A : Aut} {w : List Nat} {F : List (List Int)} (h : FR A w w.length F) {r q : List Int} (g : Good A.bg A.en A.rw w r q) : 2 ≤ (F.filter fun r => decide (lastI r ∈ A.en)).length :=
  two_mem (h.mem g.2.1) (h.mem g.2.2) fun e => by have := g.1; rw [e, lex_irr] at this; cases this
theorem FR.amb {A : Aut} (o : A.Ok) {w : List Nat} {F : List (List Int)} (h : FR A w w.length F) (g : 2 ≤ (F.filter fun r => decide (lastI r ∈ A.en)).length) : Amb A w.length := by
  refine fol_two o w ?_
  have e := h.ends
  rw [List.take_length] at e
  rw [← e, List.filter_map, List.length_map]
  exact g
/-- what stands in the store during one turn of the law -/
structure LG (st : Sto) (d : Nat) (A : Aut) (al : List Nat) (n : Nat) (fi la : List Int) (tr : List (Int × Nat × Int)) (f l s a : Nat) : Prop where
  dk : Dk st d
  at_ : AtA st a A
  ap : AtP st fi la tr f l s
  nd : f ≠ d ∧ l ≠ d ∧ s ≠ d
theorem LG.fr {st st' : Sto} {d : Nat} {A : Aut} {al : List Nat} {n : Nat} {fi la : List Int} {tr : List (Int × Nat × Int)} {f l s a : Nat} (h : LG st d A al n fi la tr f l s a) (g : Fr [] st st') : LG st' d A al n fi la tr f l s a :=
  ⟨h.dk.fr g, h.at_.fr g, h.ap.fr g, h.nd⟩
theorem LG.fr1 {st st' : Sto} {d : Nat} {A : Aut} {al : List Nat} {n : Nat} {fi la : List Int} {tr : List (Int × Nat × Int)} {f l s a : Nat} (h : LG st d A al n fi la tr f l s a) (g : Fr [d] st st') (k : Dk st' d) : LG st' d A al n fi la tr f l s a := by
  obtain ⟨ns, e⟩ := h.dk
  exact ⟨k, h.at_.fr1 g e, ⟨g.get h.ap.f (by simpa using h.nd.1), g.get h.ap.l (by simpa using h.nd.2.1), g.get h.ap.s (by simpa using h.nd.2.2)⟩, h.nd⟩
structure LF (A : Aut) (al : List Nat) (n : Nat) (fi la : List Int) (tr : List (Int × Nat × Int)) : Prop where
  o : A.Ok
  n4 : A.n ≤ 4
  n1 : 1 ≤ n
  al_ : A.al = al
  alo : AlOk al
  b2 : A.bg.length ≤ 2
  h1 : ∀ t, t ∈ fi ↔ t ∈ A.bg
  h2 : ∀ t, t ∈ la ↔ t ∈ A.en
  h3 : ∀ t, t ∈ tr ↔ t ∈ A.rw
  up : Up ltI A.bg
  fn : fi.Nodup
  f2 : fi.length ≤ 2
  t2 : tr.length ≤ 100
  tk : ∀ t ∈ tr, t.2.1 < 200
theorem agree_ok {s : Sto} {d : Nat} {A : Aut} {al : List Nat} {n : Nat} {fi la : List Int} {tr : List (Int × Nat × Int)} {f l sl a : Nat} {ρ : Env'} {e : FE} {w : List Nat} {r q : List Int} (h : LG s d A al n fi la tr f l sl a) (c : LF A al n fi la tr)
    (e5 : ρ[5]? = some (some (.loc a))) (e4 : ρ[4]? = some (some (ptsD al n f l sl))) (ee : ∀ s, e ρ s = some (papD w r q, s)) (hw : w.length ≤ 1000) (hk : ∀ k ∈ w, k ∈ al) :
    ok (fTest (fOp (cmpD neB) (fCall 2 p_judge_ambiguity (fCons (fVar 5) (fCons e fNil))) (fCall 2 p_law_right (fCons (fVar 4) (fCons e fNil)))) ρ s) fun p => p.1 = false ∧ Fr [] s p.2 := by
  rw [fTest, ok_bind, fOp, ok_bind]
  simp only [fCall, fCons, fNil, fVar, e5, e4, ee, Option.bind_some, Option.map_some, List.length_cons, List.length_nil, Nat.reduceAdd, if_true]
  refine ok_mono (judge_ok h.at_ hw (by rw [c.al_]; exact hk)) ?_
  rintro ⟨_, s1⟩ ⟨b, rfl, f1, hb⟩
  simp only at f1
  simp only [ok_bind]
  refine ok_mono (right_ok (h.fr f1).ap c.tk hw fun k hk' => by have := c.alo.rng (hk k hk'); omega) ?_
  rintro ⟨_, s2⟩ ⟨b', rfl, rfl, hb'⟩
  have e : b = b' := by
    rw [Bool.eq_iff_iff, hb, hb']
    exact (good_congr c.h1 c.h2 c.h3 w r q).symm
  subst e
  simp only [cmpD, neB, Option.map_some, ok_some, bool1]
  exact ⟨by simp, f1⟩
end Lw
end
section
set_option Elab.async false
set_option linter.all false
set_option autoImplicit false
/-! Pdl: the law where a paper is told. -/
namespace Lw
open PySem PySem.Spec PyProof.Rows L2
theorem RunP.al {A : Aut} (o : A.Ok) {w : List Nat} {r : List Int} (h : RunP A.bg A.en A.rw w r) : ∀ k ∈ w, k ∈ A.al := by
  intro k hk
  obtain ⟨i, hi⟩ := List.getElem?_of_mem hk
  have hl := (List.getElem?_eq_some_iff.mp hi).1
  have := h.len
  exact (o.rw_lt _ (h.way i k _ _ hi (List.getElem?_eq_getElem (by omega)) (List.getElem?_eq_getElem (by omega)))).2.2.2.2
theorem amb_short {A : Aut} (o : A.Ok) (hn : A.n ≤ 4) {L : Nat} (h : Amb A L) (mn : ∀ l, l < L → ¬ Amb A l) : L ≤ 20 := by
  have h1 := amb_len o h mn
  have h2 := lv_dv A
  have h3 : (lv A).length * (lv A).length ≤ 4 * 4 := Nat.mul_le_mul (by omega) (by omega)
  omega
theorem runsN {s : Sto} {a : Nat} {A : Aut} {w : List Nat} {ρ : Env'} (hA : AtA s a A) (e5 : ρ[5]? = some (some (.loc a))) (e8 : ρ[8]? = some (some (wordD w))) (hw : w.length ≤ 1000) (hk : ∀ k ∈ w, k ∈ A.al) (hm : ∀ i, i ≤ w.length → (fol A (w.take i)).length ≤ 20000) :
    ok (fApp lenD (fCons (fMeth "Automaton" "runs" 2 p_runs (fVar 5) (fCons (fVar 8) fNil)) fNil) ρ s) fun p => ∃ F, p.1 = .int ((F.filter fun r => decide (lastI r ∈ A.en)).length : Nat) ∧ FR A w w.length F ∧ Fr [] s p.2 := by
  rw [fApp, ok_bind, fCons, ok_bind, meth_at (fo := fVar 5) hA (by simp only [fVar, e5]) (fl_7 A)]
  simp only [fCons, fVar, e8, fNil, Option.bind_some, Option.map_some, List.length_cons, List.length_nil, Nat.reduceAdd, if_true]
  refine ok_mono (runs_ok hA hw hk hm) ?_
  rintro ⟨_, s1⟩ ⟨m, F, rfl, h1, h2, h3⟩
  simp only at h1 h3
  simp only [ok_some, lenD, h1, List.length_map]
  exact ⟨F, rfl, h2, h3⟩
theorem block_ok {st : Sto} {d : Nat} {A : Aut} {al : List Nat} {n : Nat} {fi la : List Int} {tr : List (Int × Nat × Int)} {f l sl a : Nat} {w : List Nat} {r q : List Int} {x0 x2 x8 x9 x10 x11 x12 x13 x14 x15 x16 : Option D} {N : Env' → Sto → Prop} {R : D → Sto → Prop}
    (h : LG st d A al n fi la tr f l sl a) (c : LF A al n fi la tr) (hamb : Amb A w.length) (mn : ∀ l, l < w.length → ¬ Amb A l) (hg : Good A.bg A.en A.rw w r q)
    (hN : ∀ s x8 x9 x10 x11 x12 x13 x14 x15 x16, LG s d A al n fi la tr f l sl a → N [x0, some (.loc d), x2, some (wordD al), some (ptsD al n f l sl), some (.loc a), some (.int (w.length : Nat)), some (papD w r q), x8, x9, x10, x11, x12, x13, x14, x15, x16] s) :
    S (sSeq (sAsg (.tp [8, 14, 15]) (fVar 7))
  (sSeq (sIf (fOr (fTest (fOp (cmpD neB) (fApp lenD (fCons (fVar 8) fNil)) (fVar 6))) (fOr (fNot (fTru (fCall 2 p_law_right (fCons (fVar 4) (fCons (fVar 7) fNil))))) (fTest (fOp (cmpD notNB) (fCall 2 p_judge_ambiguity (fCons (fVar 5) (fCons (fVar 7) fNil))) (fC (.bl true)))))) (sRet (fC (.bl false))) sNx)
  (sSeq (sIf (fTest (fOp (cmpD ltB) (fApp lenD (fCons (fMeth "Automaton" "runs" 2 p_runs (fVar 5) (fCons (fVar 8) fNil)) fNil)) (fC (.int 2)))) (sRet (fC (.bl false))) sNx)
  (sSeq (sAsg (.nm 10) (fCall 2 p_law_take (fCons (fVar 1) (fCons (fApp lenD (fCons (fVar 14) fNil)) fNil))))
  (sSeq (sAsg (.nm 11) (fOp addD (fOp addD (fSl (fVar 14) foN (foS (fVar 10))) (fTup (fCons (fCall 2 p_law_take (fCons (fVar 1) (fCons (fOp ixD (fVar 4) (fC (.int 1))) fNil))) fNil))) (fSl (fVar 14) (foS (fOp addD (fVar 10) (fC (.int 1)))) foN)))
  (sSeq (sFor (fIt itL (fLst (fCons (fTup (fCons (fVar 8) (fCons (fVar 11) (fCons (fVar 15) fNil)))) (fCons (fTup (fCons (fVar 8) (fCons (fVar 15) (fCons (fVar 14) fNil)))) (fCons (fTup (fCons (fOp addD (fVar 8) (fOp ixD (fVar 3) (fC (.int 0)))) (fCons (fVar 14) (fCons (fVar 15) fNil)))) (fCons (fTup (fCons (fVar 8) (fCons (fVar 14) (fCons (fVar 14) fNil)))) fNil)))))) (.nm 12) (sIf (fTest (fOp (cmpD neB) (fCall 2 p_judge_ambiguity (fCons (fVar 5) (fCons (fVar 12) fNil))) (fCall 2 p_law_right (fCons (fVar 4) (fCons (fVar 12) fNil))))) (sRet (fC (.bl false))) sNx))
  (sSeq (sAsg (.nm 13) (fTup (fCons (fSl (fVar 8) (foS (fC (.int 1))) foN) (fCons (fSl (fVar 14) (foS (fC (.int 1))) foN) (fCons (fSl (fVar 15) (foS (fC (.int 1))) foN) fNil)))))
  (sIf (fAnd (fTest (fOp (cmpD gtB) (fApp lenD (fCons (fVar 8) fNil)) (fC (.int 0)))) (fTest (fOp (cmpD neB) (fCall 2 p_judge_ambiguity (fCons (fVar 5) (fCons (fVar 13) fNil))) (fCall 2 p_law_right (fCons (fVar 4) (fCons (fVar 13) fNil)))))) (sRet (fC (.bl false))) sNx))))))))
      [x0, some (.loc d), x2, some (wordD al), some (ptsD al n f l sl), some (.loc a), some (.int (w.length : Nat)), some (papD w r q), x8, x9, x10, x11, x12, x13, x14, x15, x16] st N R := by
  have hL := amb_short c.o c.n4 hamb mn
  have hw : w.length ≤ 1000 := by omega
  have hkA := hg.2.1.al c.o
  have hk : ∀ k ∈ w, k ∈ al := by rw [← c.al_]; exact hkA
  have hk2 : ∀ k ∈ w, k < 200 := fun k hk' => by have := c.alo.rng (hk k hk'); omega
  have hrl := hg.2.1.len
  have hql := hg.2.2.len
  have hm : ∀ i, i ≤ w.length → (fol A (w.take i)).length ≤ 20000 := fun i hi => few_runs c.o c.n4 c.b2 hamb mn _ (by rw [List.length_take]; omega)
  have easg : ∀ ρ : Env', asg (.tp [8, 14, 15]) (papD w r q) ρ = some (((ρ.set 8 (some (wordD w))).set 14 (some (intsT r))).set 15 (some (intsT q))) := fun _ => rfl
  rw [S_seq, S_asg]
  simp only [fVar, List.getElem?_cons_zero, List.getElem?_cons_succ, ok_some, easg, List.set_cons_zero, List.set_cons_succ]
  rw [S_seq, S_if, fOr, ok_bind]
  refine ok_of (a := (false, st)) (by simp only [fVar, fC, fOp, fUn, bool1, fTest, fChain, fAnd, fOr, fNot, fAndV, fOrV, fTru, fNil, fCons, fTup, fLst, fApp, fRng, fIt, foN, foS, int1, fSl, fBm, fCall, asg, sets, cmpD, tupD, lstD, ok_bind, ok_map, ok_some, ok_none, List.getElem?_cons_zero, List.getElem?_cons_succ, List.set_cons_zero, List.set_cons_succ, Option.bind_some, Option.map_some, wipeD, List.length_cons, List.length_nil, Nat.reduceAdd, if_true, List.getElem?_nil, lenW hw, neB, decide_true, Bool.not_true]) ?_
  simp only [Bool.false_eq_true, if_false]
  rw [fOr, ok_bind, fNot, ok_map, fTru, ok_bind]
  simp only [fCall, fCons, fNil, fVar, List.getElem?_cons_zero, List.getElem?_cons_succ, Option.bind_some, Option.map_some, List.length_cons, List.length_nil, Nat.reduceAdd, if_true]
  refine ok_mono (right_ok h.ap c.tk hw hk2) ?_
  rintro ⟨_, s1⟩ ⟨b, rfl, rfl, hb⟩
  have b1 : b = true := hb.mpr ((good_congr c.h1 c.h2 c.h3 w r q).mpr hg)
  subst b1
  simp only [truD, ok_some, Bool.not_true, Bool.false_eq_true, if_false]
  rw [fTest, ok_bind, fOp, ok_bind]
  refine ok_mono (judge_ok h.at_ hw hkA) ?_
  rintro ⟨_, s2⟩ ⟨b, rfl, f2, hb⟩
  have b1 : b = true := hb.mpr hg
  subst b1
  simp only at f2
  simp only [fC, ok_some, cmpD, notNB, Option.map_some, bool1, decide_true, Bool.not_true, Bool.false_eq_true, if_false, S_nx, Option.bind_some]
  have h2 := h.fr f2
  -- runs
  rw [S_seq, S_if, fTest, ok_bind, fOp, ok_bind]
  refine ok_mono (runsN (w := w) h2.at_ rfl rfl hw hkA hm) ?_
  rintro ⟨_, s3⟩ ⟨F, rfl, hF, f3⟩
  simp only at f3
  have h3 := h2.fr f3
  have htwo := hF.two hg
  have hno : ¬ (((F.filter fun r => decide (lastI r ∈ A.en)).length : Int) < 2) := by omega
  simp only [fC, ok_some, cmpD, ltB, Option.map_some, bool1, hno, decide_false, Bool.false_eq_true, if_false, S_nx, Option.bind_some]
  clear hno htwo hF F
  -- at
  rw [S_seq, S_asg, fCall, ok_bind]
  refine ok_of (a := ([.loc d, .int (r.length : Nat)], s3)) (by simp only [fCons, fNil, fVar, fApp, List.getElem?_cons_zero, List.getElem?_cons_succ, Option.bind_some, Option.map_some, lenI]) ?_
  simp only [List.length_cons, List.length_nil, Nat.reduceAdd, if_true]
  refine ok_mono (take_ok h3.dk (by omega)) ?_
  rintro ⟨_, s4⟩ ⟨v, rfl, v0, v1, f4, _, d4⟩
  obtain ⟨i, rfl⟩ : ∃ i : Nat, v = i := ⟨v.toNat, by omega⟩
  simp only at f4 d4
  have h4 := h3.fr1 f4 d4
  simp only [asg, ok_some, List.set_cons_zero, List.set_cons_succ]
  -- bent
  rw [S_seq, S_asg, fOp, ok_bind, fOp, ok_bind]
  refine ok_of (a := (intsT (r.take i), s4)) (by simp only [fSl, foN, foS, int1, fVar, List.getElem?_cons_zero, List.getElem?_cons_succ, Option.bind_some, slI_to]) ?_
  rw [ok_bind, fTup, fApp, ok_bind, fCons, ok_bind, fCall, ok_bind]
  refine ok_of (a := ([.loc d, .int (n : Nat)], s4)) (by simp only [fCons, fNil, fVar, fOp, fC, List.getElem?_cons_zero, List.getElem?_cons_succ, Option.bind_some, Option.map_some]; rfl) ?_
  simp only [List.length_cons, List.length_nil, Nat.reduceAdd, if_true]
  have n1 := c.n1
  refine ok_mono (take_ok h4.dk (by omega)) ?_
  rintro ⟨_, s5⟩ ⟨v, rfl, v0, v1, f5, _, d5⟩
  simp only at f5 d5
  have h5 := h4.fr1 f5 d5
  have ev : (D.tup [D.int v]) = intsT [v] := rfl
  have cut1 : ∀ s : Sto, slD (intsT r) (some ((i : Int) + 1)) none s = some (intsT (r.drop (i + 1)), s) := fun s => slI_from r (i + 1) s
  have ad1 : addD (intsT (r.take i)) (intsT [v]) s5 = some (intsT (r.take i ++ [v]), s5) := add_ints _ _ _ (by simp; omega)
  have ad2 : addD (intsT (r.take i ++ [v])) (intsT (r.drop (i + 1))) s5 = some (intsT (r.take i ++ [v] ++ r.drop (i + 1)), s5) := add_ints _ _ _ (by simp; omega)
  simp only [fNil, ok_some, Option.map_some, tupD, List.length_cons, List.length_nil, Nat.reduceAdd, Nat.reduceLeDiff, if_true, ev, ad1, ok_map]
  rw [ok_bind]
  refine ok_of (a := (intsT (r.drop (i + 1)), s5)) (by simp only [fSl, foN, foS, int1, fVar, fOp, fC, addD, List.getElem?_cons_zero, List.getElem?_cons_succ, Option.bind_some, cut1]) ?_
  simp only [ad2, ok_some, asg, List.set_cons_zero, List.set_cons_succ]
  generalize r.take i ++ [v] ++ r.drop (i + 1) = bent
  clear ad1 ad2 cut1 ev
  -- others
  obtain ⟨k0, hk0⟩ : ∃ k, al[0]? = some k := ⟨_, List.getElem?_eq_getElem (by have := c.alo.len; omega)⟩
  have ix0 : ixD (wordD al) (.int 0) s5 = some (chD k0, s5) := ixW (i := 0) (by have := c.alo.len; omega) hk0 s5
  have adw : addD (wordD w) (chD k0) s5 = some (wordD (w ++ [k0]), s5) := add_w w [k0] s5 (by simp; omega)
  rw [S_seq, S_for, fIt, ok_bind]
  refine ok_of (a := (.loc s5.length, s5 ++ [.lst [papD w bent q, papD w q r, papD (w ++ [k0]) r q, papD w r r]])) (by simp only [fVar, fC, fOp, fUn, bool1, fTest, fChain, fAnd, fOr, fNot, fAndV, fOrV, fTru, fNil, fCons, fTup, fLst, fApp, fRng, fIt, foN, foS, int1, fSl, fBm, fCall, asg, sets, cmpD, tupD, lstD, ok_bind, ok_map, ok_some, ok_none, List.getElem?_cons_zero, List.getElem?_cons_succ, List.set_cons_zero, List.set_cons_succ, Option.bind_some, Option.map_some, wipeD, List.length_cons, List.length_nil, Nat.reduceAdd, if_true, List.getElem?_nil, ix0, adw, Nat.reduceLeDiff, papD]) ?_
  have g6 : (s5 ++ [MO.lst [papD w bent q, papD w q r, papD (w ++ [k0]) r q, papD w r r]])[s5.length]? = some (.lst [papD w bent q, papD w q r, papD (w ++ [k0]) r q, papD w r r]) := by simp
  have h6 := h5.fr (Fr.app [MO.lst [papD w bent q, papD w q r, papD (w ++ [k0]) r q, papD w r r]])
  generalize s5 ++ [MO.lst [papD w bent q, papD w q r, papD (w ++ [k0]) r q, papD w r r]] = s6 at g6 h6 ⊢
  generalize s5.length = m at g6 ⊢
  simp only [itL, g6, ok_some]
  have hitems : ∀ x ∈ [papD w bent q, papD w q r, papD (w ++ [k0]) r q, papD w r r], ∃ w' r' q', x = papD w' r' q' ∧ w'.length ≤ 1000 ∧ ∀ k ∈ w', k ∈ al := by
    intro x hx
    simp only [List.mem_cons, List.not_mem_nil, or_false] at hx
    rcases hx with rfl | rfl | rfl | rfl
    · exact ⟨_, _, _, rfl, hw, hk⟩
    · exact ⟨_, _, _, rfl, hw, hk⟩
    · refine ⟨_, _, _, rfl, by simp; omega, fun k hk' => ?_⟩
      rcases List.mem_append.mp hk' with z | z
      · exact hk k z
      · simp at z; subst z; exact List.mem_of_getElem? hk0
    · exact ⟨_, _, _, rfl, hw, hk⟩
  generalize [papD w bent q, papD w q r, papD (w ++ [k0]) r q, papD w r r] = items at g6 hitems ⊢
  refine for_ok (fun j ρ s => ∃ x12 : Option D, ρ = [x0, some (.loc d), x2, some (wordD al), some (ptsD al n f l sl), some (.loc a), some (.int (w.length : Nat)), some (papD w r q), some (wordD w), x9, some (.int i), some (intsT bent), x12, x13, some (intsT r), some (intsT q), x16] ∧ LG s d A al n fi la tr f l sl a ∧ Fr [] s6 s) ⟨_, rfl, h6, .refl⟩ (fun _ _ _ ⟨_, _, _, z⟩ => z.get g6 (by simp)) ?_ ?_
  · rintro j x ρ s hd ⟨x12, rfl, hs, fs⟩
    obtain ⟨w', r', q', rfl, hw', hk'⟩ := hitems x (List.mem_of_getElem? hd)
    simp only [asg, ok_some, List.set_cons_zero, List.set_cons_succ]
    rw [S_if]
    refine ok_mono (agree_ok (w := w') (r := r') (q := q') hs c rfl rfl (fun _ => rfl) hw' hk') ?_
    rintro ⟨_, s'⟩ ⟨rfl, f'⟩
    simp only [Bool.false_eq_true, if_false, S_nx]
    exact ⟨_, rfl, hs.fr f', fs.trans f'⟩
  · rintro ρ s ⟨x12, rfl, hs, fs⟩
    -- less
    rw [S_seq, S_asg]
    have c1 : ∀ s : Sto, slD (wordD w) (some 1) none s = some (wordD (w.drop 1), s) := fun s => slW_from w 1 hw s
    have c2 : ∀ (r : List Int) (s : Sto), slD (intsT r) (some 1) none s = some (intsT (r.drop 1), s) := fun r s => slI_from r 1 s
    refine ok_of (a := (papD (w.drop 1) (r.drop 1) (q.drop 1), s)) (by simp only [fVar, fC, fOp, fUn, bool1, fTest, fChain, fAnd, fOr, fNot, fAndV, fOrV, fTru, fNil, fCons, fTup, fLst, fApp, fRng, fIt, foN, foS, int1, fSl, fBm, fCall, asg, sets, cmpD, tupD, lstD, ok_bind, ok_map, ok_some, ok_none, List.getElem?_cons_zero, List.getElem?_cons_succ, List.set_cons_zero, List.set_cons_succ, Option.bind_some, Option.map_some, wipeD, List.length_cons, List.length_nil, Nat.reduceAdd, if_true, List.getElem?_nil, c1, c2, Nat.reduceLeDiff, papD]) ?_
    simp only [asg, ok_some, List.set_cons_zero, List.set_cons_succ]
    rw [S_if, fAnd, ok_bind]
    refine ok_of (a := (decide ((0 : Int) < (w.length : Nat)), s)) (by simp only [fVar, fC, fOp, fUn, bool1, fTest, fChain, fAnd, fOr, fNot, fAndV, fOrV, fTru, fNil, fCons, fTup, fLst, fApp, fRng, fIt, foN, foS, int1, fSl, fBm, fCall, asg, sets, cmpD, tupD, lstD, ok_bind, ok_map, ok_some, ok_none, List.getElem?_cons_zero, List.getElem?_cons_succ, List.set_cons_zero, List.set_cons_succ, Option.bind_some, Option.map_some, wipeD, List.length_cons, List.length_nil, Nat.reduceAdd, if_true, List.getElem?_nil, lenW hw, gtB]) ?_
    by_cases c3 : (0 : Int) < (w.length : Nat)
    · simp only [c3, decide_true, if_true]
      refine ok_mono (agree_ok (w := w.drop 1) (r := r.drop 1) (q := q.drop 1) hs c rfl rfl (fun _ => rfl) (by simp; omega) fun k hk' => hk k (List.mem_of_mem_drop hk')) ?_
      rintro ⟨_, s'⟩ ⟨rfl, f'⟩
      simp only [Bool.false_eq_true, if_false, S_nx]
      exact hN _ _ _ _ _ _ _ _ _ _ (hs.fr f')
    · simp only [c3, decide_false, Bool.false_eq_true, if_false, S_nx, ok_some]
      exact hN _ _ _ _ _ _ _ _ _ _ hs
end Lw
end
section
set_option Elab.async false
set_option linter.all false
set_option autoImplicit false
/-! Pdm: the law. -/
namespace Lw
open PySem PySem.Spec PyProof.Rows L2
theorem rest_ok {st : Sto} {d : Nat} {A : Aut} {al : List Nat} {n : Nat} {fi la : List Int} {tr : List (Int × Nat × Int)} {f l sl a : Nat} {due : D} {x0 x2 x7 x8 x9 x10 x11 x12 x13 x14 x15 x16 : Option D} {N : Env' → Sto → Prop} {R : D → Sto → Prop}
    (h : LG st d A al n fi la tr f l sl a) (c : LF A al n fi la tr) (hS : ShOk A due)
    (hN : ∀ s x8 x9, Dk s d → N [x0, some (.loc d), x2, some (wordD al), some (ptsD al n f l sl), some (.loc a), some due, x7, x8, x9, x10, x11, x12, x13, x14, x15, x16] s) :
    S (sSeq (sIf (fTest (fOp (cmpD notNB) (fCall 1 p_ambiguity_paper (fCons (fCall 1 p_determinized (fCons (fVar 5) fNil)) fNil)) (fC .non))) (sRet (fC (.bl false))) sNx)
  (sSeq (sAsg (.nm 8) (fBm "str" joinD (fC (.str ("" : Str))) (fCons (fLc (fRng (fCons (fCall 2 p_law_take (fCons (fVar 1) (fCons (fC (.int 4)) fNil))) fNil)) (.nm 16) fYes (fOp ixD (fVar 3) (fCall 2 p_law_take (fCons (fVar 1) (fCons (fApp lenD (fCons (fVar 3) fNil)) fNil)))) [16]) fNil)))
  (sSeq (sAsg (.nm 9) (fApp lenD (fCons (fMeth "Automaton" "runs" 2 p_runs (fVar 5) (fCons (fVar 8) fNil)) fNil)))
  (sIf (fAnd (fTest (fOp (cmpD gtB) (fVar 9) (fC (.int 1)))) (fOr (fTest (fOp (cmpD isNB) (fVar 6) (fC .non))) (fTest (fOp (cmpD ltB) (fApp lenD (fCons (fVar 8) fNil)) (fVar 6))))) (sRet (fC (.bl false))) sNx))))
      [x0, some (.loc d), x2, some (wordD al), some (ptsD al n f l sl), some (.loc a), some due, x7, x8, x9, x10, x11, x12, x13, x14, x15, x16] st N R := by
  rw [S_seq, S_if, fTest, ok_bind, fOp, ok_bind, fCall, ok_bind, fCons, ok_bind, fCall, ok_bind]
  refine ok_of (a := ([.loc a], st)) (by simp only [fCons, fNil, fVar, List.getElem?_cons_zero, List.getElem?_cons_succ, Option.bind_some, Option.map_some]) ?_
  simp only [List.length_cons, List.length_nil, Nat.reduceAdd, if_true]
  refine ok_mono (det_ok h.at_ c.o c.n4 c.up (by rw [c.al_]; exact c.alo)) ?_
  rintro ⟨_, s1⟩ ⟨b, B, rfl, hB, oB, nB, alB, no, f1⟩
  simp only at f1 hB
  simp only [fNil, Option.map_some, ok_some, List.length_cons, List.length_nil, Nat.reduceAdd, if_true]
  refine ok_mono (paper_ok hB oB nB) ?_
  rintro ⟨p, s2⟩ ⟨f2, hp⟩
  simp only at f2 hp
  have hp : p = .non := by
    rcases hp with hp | ⟨w, r, q, _, ha, _⟩
    · exact hp.1
    · exact absurd ha (no _)
  subst hp
  simp only [fC, ok_some, cmpD, notNB, Option.map_some, bool1, Bool.false_eq_true, if_false, S_nx, Option.bind_some]
  have h2 := h.fr (f1.trans f2)
  clear f1 f2 hB
  -- the word
  have hal := c.alo.len
  rw [S_seq, S_asg, fBm, ok_bind, fC]
  simp only [ok_some, isTy, decide_true, if_true]
  rw [ok_bind, fCons, ok_bind]
  refine ok_mono (P := fun p => ∃ (m : Nat) (w : List Nat), p.1 = .loc m ∧ p.2[m]? = some (.lst (w.map chD)) ∧ w.length ≤ 3 ∧ (∀ k ∈ w, k ∈ al) ∧ LG p.2 d A al n fi la tr f l sl a) (fLc_ok ?_) ?_
  · rw [fRng, ok_bind, fCons, ok_bind, fCall, ok_bind]
    refine ok_of (a := ([.loc d, .int 4], s2)) (by simp only [fCons, fNil, fVar, fC, List.getElem?_cons_zero, List.getElem?_cons_succ, Option.bind_some, Option.map_some]) ?_
    simp only [List.length_cons, List.length_nil, Nat.reduceAdd, if_true]
    refine ok_mono (take_ok h2.dk (by decide)) ?_
    rintro ⟨_, s3⟩ ⟨k, rfl, k0, k1, f3, _, d3⟩
    simp only at f3 d3
    have h3 := h2.fr1 f3 d3
    simp only [fNil, Option.map_some, ok_some, rng1_at k _ ⟨k0, by omega⟩]
    have dl := h3.dk.lt
    refine lc_ok (fun i s => ∃ w : List Nat, s[s3.length]? = some (.lst (w.map chD)) ∧ w.length = i ∧ (∀ k ∈ w, k ∈ al) ∧ LG s d A al n fi la tr f l sl a) ⟨[], by simp, rfl, by simp, h3.fr (.app _)⟩ (fun _ _ _ => trivial) ?_ ?_
    · rintro i x s hx ⟨w, h4, h5, h6, h7⟩
      obtain ⟨hi, rfl⟩ := rng_it0 hx
      have hi : i < 4 := by omega
      simp only [wipeD, asg, ok_some, List.set_cons_zero, List.set_cons_succ, fYes, if_true]
      rw [fOp, ok_bind]
      refine ok_of (a := (wordD al, s)) rfl ?_
      rw [ok_bind, fCall, ok_bind]
      refine ok_of (a := ([.loc d, .int (al.length : Nat)], s)) (by simp only [fCons, fNil, fVar, fApp, List.getElem?_cons_zero, List.getElem?_cons_succ, Option.bind_some, Option.map_some, lenW (show al.length ≤ 1000 by omega)]) ?_
      simp only [List.length_cons, List.length_nil, Nat.reduceAdd, if_true]
      refine ok_mono (take_ok h7.dk (by omega)) ?_
      rintro ⟨_, s4⟩ ⟨v, rfl, v0, v1, f4, _, d4⟩
      simp only at f4 d4
      obtain ⟨j, rfl⟩ : ∃ j : Nat, v = j := ⟨v.toNat, by omega⟩
      have hj : al[j]? = some al[j] := List.getElem?_eq_getElem (by omega)
      simp only [ixW (show al.length ≤ 1000 by omega) hj, ok_some]
      have h8 : s4[s3.length]? = some (.lst (w.map chD)) := f4.get h4 (by simp; omega)
      have hw : w.length < 100000 := by omega
      simp only [appendD, h8, List.length_map, if_pos hw, ok_some]
      have l8 := (List.getElem?_eq_some_iff.mp h8).1
      refine ⟨w ++ [al[j]], ?_, by simp [h5], ?_, ?_⟩
      · rw [List.getElem?_set_self l8]; simp
      · intro z hz
        rcases List.mem_append.mp hz with q | q
        · exact h6 z q
        · simp at q; subst q; exact List.getElem_mem _
      · have h9 := h7.fr1 f4 d4
        refine ⟨?_, ?_, ?_, h9.nd⟩
        · obtain ⟨ns, e⟩ := h9.dk
          exact ⟨ns, by rw [List.getElem?_set_ne (by omega), e]⟩
        · exact h9.at_.fr1 (d := s3.length) (Fr.refl.set (.inr (by simp)) _) h8
        · have la := (List.getElem?_eq_some_iff.mp h3.ap.f).1
          have lb := (List.getElem?_eq_some_iff.mp h3.ap.l).1
          have lc := (List.getElem?_eq_some_iff.mp h3.ap.s).1
          exact ⟨by rw [List.getElem?_set_ne (by omega)]; exact h9.ap.f, by rw [List.getElem?_set_ne (by omega)]; exact h9.ap.l, by rw [List.getElem?_set_ne (by omega)]; exact h9.ap.s⟩
    · rintro s ⟨w, h4, h5, h6, h7⟩
      rw [rng_len] at h5
      exact ⟨_, w, rfl, h4, by omega, h6, h7⟩
  rintro ⟨_, s5⟩ ⟨m, w, rfl, h4, hw, h6, h5⟩
  simp only at h4 h5
  simp only [fNil, Option.map_some, ok_some, join_at h4 (by omega), asg, List.set_cons_zero, List.set_cons_succ]
  -- runs
  have hm : ∀ i, i ≤ w.length → (fol A (w.take i)).length ≤ 20000 := fun i hi => by
    have h1 := all_four c.o c.n4 c.b2 (w.take i)
    have h2 : (4 : Nat) ^ (w.take i).length ≤ 4 ^ 3 := Nat.pow_le_pow_right (by decide) (by rw [List.length_take]; omega)
    omega
  rw [S_seq, S_asg]
  refine ok_mono (runsN (w := w) h5.at_ rfl rfl (by omega) (by rw [c.al_]; exact h6) hm) ?_
  rintro ⟨_, s6⟩ ⟨F, rfl, hF, f6⟩
  simp only at f6
  have hD := (h5.fr f6).dk
  simp only [asg, ok_some, List.set_cons_zero, List.set_cons_succ]
  have key := fun g => hF.amb c.o g
  generalize (F.filter fun r => decide (lastI r ∈ A.en)).length = many at key ⊢
  rw [S_if, fAnd, ok_bind]
  refine ok_of (a := (decide ((1 : Int) < (many : Nat)), s6)) (by simp only [fVar, fC, fOp, fUn, bool1, fTest, fChain, fAnd, fOr, fNot, fAndV, fOrV, fTru, fNil, fCons, fTup, fLst, fApp, fRng, fIt, foN, foS, int1, fSl, fBm, fCall, asg, sets, cmpD, tupD, lstD, ok_bind, ok_map, ok_some, ok_none, List.getElem?_cons_zero, List.getElem?_cons_succ, List.set_cons_zero, List.set_cons_succ, Option.bind_some, Option.map_some, wipeD, List.length_cons, List.length_nil, Nat.reduceAdd, if_true, List.getElem?_nil, gtB]) ?_
  by_cases cm : (1 : Int) < (many : Nat)
  · have ha := key (by omega)
    simp only [cm, decide_true, if_true]
    rcases hS with ⟨_, hS⟩ | ⟨L, rfl, _, hS⟩
    · exact absurd ha (hS _)
    · have hL : ¬ ((w.length : Int) < (L : Nat)) := fun q => hS w.length (by omega) ha
      refine ok_of (a := (false, s6)) (by simp only [fVar, fC, fOp, fUn, bool1, fTest, fChain, fAnd, fOr, fNot, fAndV, fOrV, fTru, fNil, fCons, fTup, fLst, fApp, fRng, fIt, foN, foS, int1, fSl, fBm, fCall, asg, sets, cmpD, tupD, lstD, ok_bind, ok_map, ok_some, ok_none, List.getElem?_cons_zero, List.getElem?_cons_succ, List.set_cons_zero, List.set_cons_succ, Option.bind_some, Option.map_some, wipeD, List.length_cons, List.length_nil, Nat.reduceAdd, if_true, List.getElem?_nil, isNB, lenW (show w.length ≤ 1000 by omega), ltB, hL, decide_false, Bool.false_eq_true, if_false]) ?_
      simp only [Bool.false_eq_true, if_false, S_nx]
      exact hN _ _ _ hD
  · simp only [cm, decide_false, Bool.false_eq_true, if_false, S_nx, ok_some]
    exact hN _ _ _ hD
theorem strA : (.str ("a" : Str) : D) = wordD [97] := by
  have : ("a" : Str) = ⟨[97].toArray⟩ := by decide +kernel
  rw [this]; rfl
theorem strAB : (.str ("ab" : Str) : D) = wordD [97, 98] := by
  have : ("ab" : Str) = ⟨[97, 98].toArray⟩ := by decide +kernel
  rw [this]; rfl
theorem law_holds (ns : List Int) (h : ns.length ≤ 63) : ∃ st, p_law [.rol ns] [] = some (.bl true, st) := by
  suffices q : ok (p_law [.rol ns] []) fun p => p.1 = .bl true by
    obtain ⟨⟨x, s⟩, e, rfl⟩ := q
    exact ⟨s, e⟩
  refine ok_run' fun N R hN hR => ?_
  simp only [b_law, List.map_cons, List.map_nil, List.length_cons, List.length_nil, List.replicate, List.cons_append, List.nil_append, Nat.reduceAdd, Nat.reduceSub]
  rw [S_seq, S_asg, fCall, ok_bind]
  refine ok_of (a := ([.rol ns, .int 40, .int 14], [])) rfl ?_
  simp only [List.length_cons, List.length_nil, Nat.reduceAdd, if_true]
  refine ok_mono deck_ok ?_
  rintro ⟨_, s0⟩ ⟨rfl, _, d0⟩
  simp only at d0
  simp only [asg, ok_some, List.set_cons_zero, List.set_cons_succ]
  generalize List.length ([] : Sto) = d at d0 ⊢
  rw [S_seq, S_for, fRng, ok_bind]
  refine ok_of (a := ([.int 3], s0)) rfl ?_
  rw [rng1_at 3 _ ⟨by decide, by decide⟩, ok_some]
  refine for_ok (fun i ρ s => ∃ x2 x3 x4 x5 x6 x7 x8 x9 x10 x11 x12 x13 x14 x15 x16 : Option D, ρ = [some (.rol ns), some (.loc d), x2, x3, x4, x5, x6, x7, x8, x9, x10, x11, x12, x13, x14, x15, x16] ∧ Dk s d) ⟨_, _, _, _, _, _, _, _, _, _, _, _, _, _, _, rfl, d0⟩ (fun _ _ _ _ => trivial) ?_ ?_
  · rintro i x ρ st hd ⟨x2, x3, x4, x5, x6, x7, x8, x9, x10, x11, x12, x13, x14, x15, x16, rfl, hk⟩
    simp only [asg, ok_some, List.set_cons_zero, List.set_cons_succ]
    -- letters
    rw [S_seq, S_asg, fOp, ok_bind]
    refine ok_of (a := (.loc st.length, st ++ [.lst [wordD [97], wordD [97, 98], wordD [97, 98]]])) (by simp only [fVar, fC, fOp, fUn, bool1, fTest, fChain, fAnd, fOr, fNot, fAndV, fOrV, fTru, fNil, fCons, fTup, fLst, fApp, fRng, fIt, foN, foS, int1, fSl, fBm, fCall, asg, sets, cmpD, tupD, lstD, ok_bind, ok_map, ok_some, ok_none, List.getElem?_cons_zero, List.getElem?_cons_succ, List.set_cons_zero, List.set_cons_succ, Option.bind_some, Option.map_some, wipeD, List.length_cons, List.length_nil, Nat.reduceAdd, if_true, List.getElem?_nil, ← strA, ← strAB, Nat.reduceLeDiff]) ?_
    have dl := hk.lt
    have k1 := hk.app [.lst [wordD [97], wordD [97, 98], wordD [97, 98]]]
    have g1 : (st ++ [MO.lst [wordD [97], wordD [97, 98], wordD [97, 98]]])[st.length]? = some (.lst [wordD [97], wordD [97, 98], wordD [97, 98]]) := by simp
    generalize st ++ [MO.lst [wordD [97], wordD [97, 98], wordD [97, 98]]] = s1 at k1 g1 ⊢
    rw [ok_bind, fCall, ok_bind]
    refine ok_of (a := ([.loc d, .int 3], s1)) rfl ?_
    simp only [List.length_cons, List.length_nil, Nat.reduceAdd, if_true]
    refine ok_mono (take_ok k1 (by decide)) ?_
    rintro ⟨_, s2⟩ ⟨v, rfl, v0, v1, f2, _, k2⟩
    simp only at f2 k2
    have g2 := f2.get g1 (by simp; omega)
    obtain ⟨al, ho, hix⟩ : ∃ al, AlOk al ∧ ixD (.loc st.length) (.int v) s2 = some (wordD al, s2) := by
      have hv : v = 0 ∨ v = 1 ∨ v = 2 := by omega
      rcases hv with rfl | rfl | rfl
      · exact ⟨[97], .inl rfl, by simp only [ixD, g2]; rfl⟩
      · exact ⟨[97, 98], .inr rfl, by simp only [ixD, g2]; rfl⟩
      · exact ⟨[97, 98], .inr rfl, by simp only [ixD, g2]; rfl⟩
    simp only [hix, ok_some, asg, List.set_cons_zero, List.set_cons_succ]
    clear hix g2 g1 f2 k1
    -- parts
    have hal := ho.len
    rw [S_seq, S_asg, fCall, ok_bind]
    refine ok_of (a := ([.loc d, wordD al, .int 4], s2)) rfl ?_
    simp only [List.length_cons, List.length_nil, Nat.reduceAdd, if_true]
    refine ok_mono (auto_ok k2 (al := al) ⟨by omega, by omega⟩) ?_
    rintro ⟨_, s3⟩ ⟨n, fi, la, tr, f, l, sl, rfl, hP, hA, f3, k3, l1, l2, l3⟩
    simp only at hA f3 k3
    simp only [asg, ok_some, List.set_cons_zero, List.set_cons_succ]
    -- automaton
    rw [S_seq, S_asg, fCall, ok_bind]
    refine ok_of (a := ([ptsD al n f l sl], s3)) rfl ?_
    simp only [List.length_cons, List.length_nil, Nat.reduceAdd, if_true]
    refine ok_mono (made_ok (hP.mkOk ho) hA) ?_
    rintro ⟨_, s4⟩ ⟨a, rfl, _, hT, f4⟩
    simp only at hT f4
    simp only [asg, ok_some, List.set_cons_zero, List.set_cons_succ]
    have hdl := k2.lt
    have hG : LG s4 d (autOf al n fi la tr) al n fi la tr f l sl a := ⟨k3.fr f4, hT, hA.fr f4, by omega, by omega, by omega⟩
    have c : LF (autOf al n fi la tr) al n fi la tr := ⟨(hP.mkOk ho).aut, hP.n4, hP.n1, rfl, ho, Nat.le_trans (gsort_len linI fi) hP.f2, fun t => (gsort_mem linI t fi).symm, fun t => (gsort_mem linI t la).symm, fun t => (gsort_mem linT t tr).symm, gsort_up linI fi, up_nd linI hP.fu, hP.f2, by have := hP.tl; omega,
      fun t ht => by have := ho.rng (hP.tr_ t ht).2.2.2.2; omega⟩
    clear hT hA k3
    generalize autOf al n fi la tr = A at hG c
    -- due
    rw [S_seq, S_asg, fCall, ok_bind]
    refine ok_of (a := ([ptsD al n f l sl], s4)) rfl ?_
    simp only [List.length_cons, List.length_nil, Nat.reduceAdd, if_true]
    refine ok_mono (shortest_ok (A := A) hG.ap c.o c.n4 c.fn c.f2 c.t2 c.h1 c.h2 c.h3) ?_
    rintro ⟨due, s5⟩ ⟨f5, hS⟩
    simp only at f5 hS
    have h5 := hG.fr f5
    simp only [asg, ok_some, List.set_cons_zero, List.set_cons_succ]
    -- told
    rw [S_seq, S_asg, fCall, ok_bind]
    refine ok_of (a := ([.loc a], s5)) rfl ?_
    simp only [List.length_cons, List.length_nil, Nat.reduceAdd, if_true]
    refine ok_mono (paper_ok h5.at_ c.o (by have := c.n4; omega)) ?_
    rintro ⟨told, s6⟩ ⟨f6, hT⟩
    simp only at f6 hT
    have h6 := h5.fr f6
    simp only [asg, ok_some, List.set_cons_zero, List.set_cons_succ]
    rw [S_seq, S_if]
    rcases hT with ⟨rfl, hT⟩ | ⟨w, r, q, rfl, ha, hmin, hg⟩
    · have hdue : due = .non := by
        rcases hS with hS | ⟨L, _, ha, _⟩
        · exact hS.1
        · exact absurd ha (hT _)
      subst hdue
      refine ok_of (a := (false, s6)) (by simp only [fVar, fC, fOp, fUn, bool1, fTest, fChain, fAnd, fOr, fNot, fAndV, fOrV, fTru, fNil, fCons, fTup, fLst, fApp, fRng, fIt, foN, foS, int1, fSl, fBm, fCall, asg, sets, cmpD, tupD, lstD, ok_bind, ok_map, ok_some, ok_none, List.getElem?_cons_zero, List.getElem?_cons_succ, List.set_cons_zero, List.set_cons_succ, Option.bind_some, Option.map_some, wipeD, List.length_cons, List.length_nil, Nat.reduceAdd, if_true, List.getElem?_nil, isNB, neB, decide_true, Bool.not_true]) ?_
      simp only [Bool.false_eq_true, if_false, S_nx]
      rw [S_seq, S_if]
      refine ok_of (a := (false, s6)) (by simp only [fVar, fC, fOp, fUn, bool1, fTest, fChain, fAnd, fOr, fNot, fAndV, fOrV, fTru, fNil, fCons, fTup, fLst, fApp, fRng, fIt, foN, foS, int1, fSl, fBm, fCall, asg, sets, cmpD, tupD, lstD, ok_bind, ok_map, ok_some, ok_none, List.getElem?_cons_zero, List.getElem?_cons_succ, List.set_cons_zero, List.set_cons_succ, Option.bind_some, Option.map_some, wipeD, List.length_cons, List.length_nil, Nat.reduceAdd, if_true, List.getElem?_nil, notNB]) ?_
      simp only [Bool.false_eq_true, if_false, S_nx]
      exact rest_ok h6 c hS fun s y8 y9 hD => ⟨_, _, _, _, _, _, _, _, _, _, _, _, _, _, _, rfl, hD⟩
    · have hdue : due = .int (w.length : Nat) := by
        rcases hS with hS | ⟨L, rfl, hL, hmL⟩
        · exact absurd ha (hS.2 _)
        · have : L = w.length := by
            rcases Nat.lt_trichotomy L w.length with q | q | q
            · exact absurd hL (hmin _ q)
            · exact q
            · exact absurd ha (hmL _ q)
          rw [this]
      subst hdue
      refine ok_of (a := (false, s6)) (by simp only [fVar, fC, fOp, fUn, bool1, fTest, fChain, fAnd, fOr, fNot, fAndV, fOrV, fTru, fNil, fCons, fTup, fLst, fApp, fRng, fIt, foN, foS, int1, fSl, fBm, fCall, asg, sets, cmpD, tupD, lstD, ok_bind, ok_map, ok_some, ok_none, List.getElem?_cons_zero, List.getElem?_cons_succ, List.set_cons_zero, List.set_cons_succ, Option.bind_some, Option.map_some, wipeD, List.length_cons, List.length_nil, Nat.reduceAdd, if_true, List.getElem?_nil, papD, isNB, neB, decide_true, Bool.not_true]) ?_
      simp only [Bool.false_eq_true, if_false, S_nx]
      rw [S_seq, S_if]
      refine ok_of (a := (true, s6)) (by simp only [fVar, fC, fOp, fUn, bool1, fTest, fChain, fAnd, fOr, fNot, fAndV, fOrV, fTru, fNil, fCons, fTup, fLst, fApp, fRng, fIt, foN, foS, int1, fSl, fBm, fCall, asg, sets, cmpD, tupD, lstD, ok_bind, ok_map, ok_some, ok_none, List.getElem?_cons_zero, List.getElem?_cons_succ, List.set_cons_zero, List.set_cons_succ, Option.bind_some, Option.map_some, wipeD, List.length_cons, List.length_nil, Nat.reduceAdd, if_true, List.getElem?_nil, papD, notNB]) ?_
      simp only [if_true]
      refine block_ok h6 c ha hmin hg fun s y8 y9 y10 y11 y12 y13 y14 y15 y16 h7 => ?_
      exact rest_ok h7 c hS fun s y8 y9 hD => ⟨_, _, _, _, _, _, _, _, _, _, _, _, _, _, _, rfl, hD⟩
  · rintro ρ s _
    rw [S_ret]
    simp only [fVar, fC, fOp, fUn, bool1, fTest, fChain, fAnd, fOr, fNot, fAndV, fOrV, fTru, fNil, fCons, fTup, fLst, fApp, fRng, fIt, foN, foS, int1, fSl, fBm, fCall, asg, sets, cmpD, tupD, lstD, ok_bind, ok_map, ok_some, ok_none, List.getElem?_cons_zero, List.getElem?_cons_succ, List.set_cons_zero, List.set_cons_succ, Option.bind_some, Option.map_some, wipeD, List.length_cons, List.length_nil, Nat.reduceAdd, if_true, List.getElem?_nil]
    exact hR _ _ rfl
end Lw
end
section
set_option Elab.async false
set_option linter.all false
set_option autoImplicit false
set_option maxRecDepth 100000
/-! K74w: each def keeps the promise that its reading makes (the derivations are printed by gen.py). -/
namespace Lw
open PySem PySem.Spec PyProof.Rows L2
def top (i : Nat) : Stmt := PySem.Challenge.pw_langwork_k74_whole_two_runs.main.body.getD i (.Pass ⟨0, 0, 0, 0⟩)
structure Blt (mg : Str → Option Value) : Prop where
  len : mg "len" = none
  abs_ : mg "abs" = none
  int_ : mg "int" = none
  list : mg "list" = none
  tuple : mg "tuple" = none
  sorted : mg "sorted" = none
  set : mg "set" = none
  range : mg "range" = none
structure TCls (c : Cz) (mg : Str → Option Value) : Prop where
  cl : Cls c.K (c.cl "Automaton")
  mg : mg "Automaton" = some (.ref (c.cl "Automaton"))
  n_alphabet : NoAttr c.K (c.cl "Automaton") "alphabet"
  n_size : NoAttr c.K (c.cl "Automaton") "size"
  n_begins : NoAttr c.K (c.cl "Automaton") "begins"
  n_ends : NoAttr c.K (c.cl "Automaton") "ends"
  n_rows : NoAttr c.K (c.cl "Automaton") "rows"
  n_ways : NoAttr c.K (c.cl "Automaton") "ways"
  b_next_set : BMeth c.K (c.cl "Automaton") "next_set" (c.mt "next_set")
theorem boot_abs : bootBuiltins "abs" = some (.builtin "abs") := by decide +kernel
section
variable {c : Cz} {mg : Str → Option Value} {base : Heap}
abbrev s_is_alphabet : Stmt := top 8
theorem sc_is_alphabet : FnScope ["letters", "letter"] ["letters"] (defScope s_is_alphabet) := ⟨rfl, rfl, rfl, by decide +kernel, rfl, by decide +kernel, by decide +kernel⟩
theorem ok_is_alphabet {f : Addr} {fd : FuncData} (TC : TCls c mg) (B : Blt mg) (F : Fun c.K "is_alphabet" "is_alphabet" s_is_alphabet f fd) :
    FnOk c.P c.w c.K mg base CX0 1 f fd ["letters"] (spD c 1 p_is_alphabet) := by
  refine fok (N := ["letters", "letter"]) F sc_is_alphabet fun cdv A outer s H E hr hx => ?_
  have nd := sc_is_alphabet.nd
  exact (qs_cons (q_if (q_tru hx (q_lc (own := [("letter", 1)]) (g := (.nm 1)) hx nd (q_iS hx (q_var 0)) rfl (by decide) (fun _ _ _ _ _ => (g_nm (i := 1) nd)) (fun _ _ _ _ _ => (ts_one (q_not (q_tchain (o_le) (o_le) q_str (q_var 1) q_str)))) (fun _ _ _ _ _ => (q_var 1)))) (qs_one (q_ret q_bl)) qs_nil)
    (qs_one (q_ret (q_cmp (o_eq hx) (q_callTy (o_listS hx) B.list PyProof.Rows.boot_list (q_cons (q_var 0) q_nil)) (q_ssS hx B.sorted B.set (q_var 0)) (nobehind _ (by decide) (by decide))))))

abbrev s_init : Stmt := inClass (top 9) 0
theorem sc_init : FnScope ["self", "alphabet", "size", "first", "last", "steps", "start", "letter", "end", "state"] ["self", "alphabet", "size", "first", "last", "steps"] (defScope s_init) := ⟨rfl, rfl, rfl, by decide +kernel, rfl, by decide +kernel, by decide +kernel⟩
theorem ok_init {f : Addr} {fd : FuncData} (TC : TCls c mg) (B : Blt mg) (F : Fun c.K "__init__" "Automaton.__init__" s_init f fd)
    {f_is_alphabet : Addr} {fd_is_alphabet : FuncData} (F_is_alphabet : FnOk c.P c.w c.K mg base CX0 1 f_is_alphabet fd_is_alphabet ["letters"] (spD c 1 p_is_alphabet)) (B_is_alphabet : Binds c.K fd_is_alphabet ["letters"] []) (M_is_alphabet : mg "is_alphabet" = some (.ref f_is_alphabet)) (K_is_alphabet : PySem.W.keepIn c.K (.ref f_is_alphabet) = true) :
    FnOk c.P c.w c.K mg base CX0 2 f fd ["self", "alphabet", "size", "first", "last", "steps"] (spD c 6 p_init) := by
  refine fok (N := ["self", "alphabet", "size", "first", "last", "steps", "start", "letter", "end", "state"]) F sc_init fun cdv A outer s H E hr hx => ?_
  have nd := sc_init.nd
  exact (qs_cons (q_if (q_not (q_tru hx (q_call F_is_alphabet (hr.mono (by decide)) M_is_alphabet K_is_alphabet B_is_alphabet (q_cons (q_var 1) q_nil)))) qs_never qs_nil)
    (qs_cons (q_if (q_tcmp (o_lt hx) (q_var 2) q_int (nobehind _ (by decide) (by decide))) qs_never qs_nil)
    (qs_cons (q_if (q_tru hx (q_lc (own := [("state", 9)]) (g := (.nm 9)) hx nd (q_iL hx (q_op (o_add hx) (q_callTy (o_list hx) B.list PyProof.Rows.boot_list (q_cons (q_var 3) q_nil)) (q_callTy (o_list hx) B.list PyProof.Rows.boot_list (q_cons (q_var 4) q_nil)))) rfl (by decide) (fun _ _ _ _ _ => (g_nm (i := 9) nd)) (fun _ _ _ _ _ => (ts_one (q_not (q_tchain (o_le) (o_lt (Cok.blk hx)) q_int (q_var 9) (q_var 2))))) (fun _ _ _ _ _ => (q_var 9)))) qs_never qs_nil)
    (qs_cons (q_for (g := (.tp [6, 7, 8])) hx (q_iL hx (q_var 5)) (g_tp (is := [6, 7, 8]) rfl (gs_cons (g_nm (i := 6) nd) (gs_cons (g_nm (i := 7) nd) (gs_cons (g_nm (i := 8) nd) gs_nil)))) (qs_one (q_if (PW.pt (q_or (q_not (q_tchain (o_le) (o_lt hx) q_int (q_var 6) (q_var 2))) (q_or (q_not (q_tchain (o_le) (o_lt hx) q_int (q_var 8) (q_var 2))) (q_or (q_tcmp (o_ne) (q_callB (o_len hx) B.len PySem.boot_len (q_cons (q_var 7) q_nil)) q_int (nobehind _ (by decide) (by decide))) (q_or1 (q_tcmp (o_notIn hx) (q_var 7) (q_var 1) rfl)))))) qs_never qs_nil)))
    (qs_cons (q_setFld (cn := "Automaton") (f := "alphabet") hx (q_var 0) (q_var 1) TC.cl TC.n_alphabet)
    (qs_cons (q_setFld (cn := "Automaton") (f := "size") hx (q_var 0) (q_var 2) TC.cl TC.n_size)
    (qs_cons (q_setFld (cn := "Automaton") (f := "begins") hx (q_var 0) (q_callTy (o_tuple hx) B.tuple PyProof.Rows.boot_tuple (q_cons (q_ssI hx B.sorted B.set (q_var 3)) q_nil)) TC.cl TC.n_begins)
    (qs_cons (q_setFld (cn := "Automaton") (f := "ends") hx (q_var 0) (q_callTy (o_tuple hx) B.tuple PyProof.Rows.boot_tuple (q_cons (q_ssI hx B.sorted B.set (q_var 4)) q_nil)) TC.cl TC.n_ends)
    (qs_cons (q_setFld (cn := "Automaton") (f := "rows") hx (q_var 0) (q_ssT hx B.sorted B.set (q_lc (own := [("start", 6), ("letter", 7), ("end", 8)]) (g := (.tp [6, 7, 8])) hx nd (q_iL hx (q_var 5)) rfl (by decide) (fun _ _ _ _ _ => (g_tp (is := [6, 7, 8]) rfl (gs_cons (g_nm (i := 6) nd) (gs_cons (g_nm (i := 7) nd) (gs_cons (g_nm (i := 8) nd) gs_nil))))) (fun _ _ _ _ _ => ts_nil) (fun _ _ _ _ _ => (q_tup (q_cons (q_var 6) (q_cons (q_var 7) (q_cons (q_var 8) q_nil))))))) TC.cl TC.n_rows)
    (qs_cons (q_setFld (cn := "Automaton") (f := "ways") hx (q_var 0) (q_newT hx) TC.cl TC.n_ways)
    (qs_one (q_for (g := (.tp [6, 7, 8])) hx (q_iL hx (q_fld (cn := "Automaton") (f := "rows") hx (q_var 0) TC.cl TC.n_rows)) (g_tp (is := [6, 7, 8]) rfl (gs_cons (g_nm (i := 6) nd) (gs_cons (g_nm (i := 7) nd) (gs_cons (g_nm (i := 8) nd) gs_nil)))) (qs_one (q_put hx (q_fld (cn := "Automaton") (f := "ways") hx (q_var 0) TC.cl TC.n_ways) (q_tup (q_cons (q_var 6) (q_cons (q_var 7) q_nil))) (q_op (o_add hx) (q_get2 hx (q_fld (cn := "Automaton") (f := "ways") hx (q_var 0) TC.cl TC.n_ways) (q_tup (q_cons (q_var 6) (q_cons (q_var 7) q_nil))) (q_tup q_nil) ⟨rfl, rfl, rfl, rfl⟩) (q_tup (q_cons (q_var 8) q_nil)))))))))))))))))

abbrev s_first_states : Stmt := inClass (top 9) 1
theorem sc_first_states : FnScope ["self"] ["self"] (defScope s_first_states) := ⟨rfl, rfl, rfl, by decide +kernel, rfl, by decide +kernel, by decide +kernel⟩
theorem ok_first_states {f : Addr} {fd : FuncData} (TC : TCls c mg) (B : Blt mg) (F : Fun c.K "first_states" "Automaton.first_states" s_first_states f fd) :
    FnOk c.P c.w c.K mg base CX0 1 f fd ["self"] (spD c 1 p_first_states) := by
  refine fok (N := ["self"]) F sc_first_states fun cdv A outer s H E hr hx => ?_
  have nd := sc_first_states.nd
  exact (qs_one (q_ret (q_fld (cn := "Automaton") (f := "begins") hx (q_var 0) TC.cl TC.n_begins)))

abbrev s_last_states : Stmt := inClass (top 9) 2
theorem sc_last_states : FnScope ["self"] ["self"] (defScope s_last_states) := ⟨rfl, rfl, rfl, by decide +kernel, rfl, by decide +kernel, by decide +kernel⟩
theorem ok_last_states {f : Addr} {fd : FuncData} (TC : TCls c mg) (B : Blt mg) (F : Fun c.K "last_states" "Automaton.last_states" s_last_states f fd) :
    FnOk c.P c.w c.K mg base CX0 1 f fd ["self"] (spD c 1 p_last_states) := by
  refine fok (N := ["self"]) F sc_last_states fun cdv A outer s H E hr hx => ?_
  have nd := sc_last_states.nd
  exact (qs_one (q_ret (q_fld (cn := "Automaton") (f := "ends") hx (q_var 0) TC.cl TC.n_ends)))

abbrev s_next_of : Stmt := inClass (top 9) 4
theorem sc_next_of : FnScope ["self", "state", "letter"] ["self", "state", "letter"] (defScope s_next_of) := ⟨rfl, rfl, rfl, by decide +kernel, rfl, by decide +kernel, by decide +kernel⟩
theorem ok_next_of {f : Addr} {fd : FuncData} (TC : TCls c mg) (B : Blt mg) (F : Fun c.K "next_of" "Automaton.next_of" s_next_of f fd) :
    FnOk c.P c.w c.K mg base CX0 1 f fd ["self", "state", "letter"] (spD c 3 p_next_of) := by
  refine fok (N := ["self", "state", "letter"]) F sc_next_of fun cdv A outer s H E hr hx => ?_
  have nd := sc_next_of.nd
  exact (qs_one (q_ret (q_get2 hx (q_fld (cn := "Automaton") (f := "ways") hx (q_var 0) TC.cl TC.n_ways) (q_tup (q_cons (q_var 1) (q_cons (q_var 2) q_nil))) (q_tup q_nil) ⟨rfl, rfl, rfl, rfl⟩)))

abbrev s_next_set : Stmt := inClass (top 9) 5
theorem sc_next_set : FnScope ["self", "states", "letter", "found", "state", "end"] ["self", "states", "letter"] (defScope s_next_set) := ⟨rfl, rfl, rfl, by decide +kernel, rfl, by decide +kernel, by decide +kernel⟩
theorem ok_next_set {f : Addr} {fd : FuncData} (TC : TCls c mg) (B : Blt mg) (F : Fun c.K "next_set" "Automaton.next_set" s_next_set f fd)
    {f_next_of : Addr} {fd_next_of : FuncData} (F_next_of : FnOk c.P c.w c.K mg base CX0 1 f_next_of fd_next_of ["self", "state", "letter"] (spD c 3 p_next_of)) (B_next_of : Binds c.K fd_next_of ["self", "state", "letter"] []) (Q_next_of : Meth c.K (c.cl "Automaton") "next_of" f_next_of) :
    FnOk c.P c.w c.K mg base CX0 2 f fd ["self", "states", "letter"] (spD c 3 p_next_set) := by
  refine fok (N := ["self", "states", "letter", "found", "state", "end"]) F sc_next_set fun cdv A outer s H E hr hx => ?_
  have nd := sc_next_set.nd
  exact (qs_cons (q_set (i := 3) hx q_newA nd)
    (qs_cons (q_for (g := (.nm 4)) hx (q_iT hx (q_var 1)) (g_nm (i := 4) nd) (qs_one (q_for (g := (.nm 5)) hx (q_iT hx (q_meth (cn := "Automaton") (m := "next_of") hx F_next_of (hr.mono (by decide)) TC.cl Q_next_of B_next_of (q_var 0) (q_cons (q_var 4) (q_cons (q_var 2) q_nil)))) (g_nm (i := 5) nd) (qs_one (q_put hx (q_var 3) (q_var 5) q_bl)))))
    (qs_one (q_ret (q_callTy (o_tuple hx) B.tuple PyProof.Rows.boot_tuple (q_cons (q_callB (o_sortD hx) B.sorted PyProof.Rows.boot_sorted (q_cons (q_var 3) q_nil)) q_nil))))))

abbrev s_check_word : Stmt := inClass (top 9) 6
theorem sc_check_word : FnScope ["self", "word", "letter"] ["self", "word"] (defScope s_check_word) := ⟨rfl, rfl, rfl, by decide +kernel, rfl, by decide +kernel, by decide +kernel⟩
theorem ok_check_word {f : Addr} {fd : FuncData} (TC : TCls c mg) (B : Blt mg) (F : Fun c.K "check_word" "Automaton.check_word" s_check_word f fd) :
    FnOk c.P c.w c.K mg base CX0 1 f fd ["self", "word"] (spD c 2 p_check_word) := by
  refine fok (N := ["self", "word", "letter"]) F sc_check_word fun cdv A outer s H E hr hx => ?_
  have nd := sc_check_word.nd
  exact (qs_one (q_if (q_tru hx (q_lc (own := [("letter", 2)]) (g := (.nm 2)) hx nd (q_iS hx (q_var 1)) rfl (by decide) (fun _ _ _ _ _ => (g_nm (i := 2) nd)) (fun _ _ _ _ _ => (ts_one (q_tcmp (o_notIn (Cok.blk hx)) (q_var 2) (q_fld (cn := "Automaton") (f := "alphabet") (Cok.blk hx) (q_var 0) TC.cl TC.n_alphabet) rfl))) (fun _ _ _ _ _ => (q_var 2)))) qs_never qs_nil))

abbrev s_has_last : Stmt := inClass (top 9) 8
theorem sc_has_last : FnScope ["self", "states", "state"] ["self", "states"] (defScope s_has_last) := ⟨rfl, rfl, rfl, by decide +kernel, rfl, by decide +kernel, by decide +kernel⟩
theorem ok_has_last {f : Addr} {fd : FuncData} (TC : TCls c mg) (B : Blt mg) (F : Fun c.K "has_last" "Automaton.has_last" s_has_last f fd) :
    FnOk c.P c.w c.K mg base CX0 1 f fd ["self", "states"] (spD c 2 p_has_last) := by
  refine fok (N := ["self", "states", "state"]) F sc_has_last fun cdv A outer s H E hr hx => ?_
  have nd := sc_has_last.nd
  exact (qs_one (q_ret (q_cmp (o_gt) (q_callB (o_len hx) B.len PySem.boot_len (q_cons (q_lc (own := [("state", 2)]) (g := (.nm 2)) hx nd (q_iT hx (q_var 1)) rfl (by decide) (fun _ _ _ _ _ => (g_nm (i := 2) nd)) (fun _ _ _ _ _ => (ts_one (q_tcmp (o_in (Cok.blk hx)) (q_var 2) (q_fld (cn := "Automaton") (f := "ends") (Cok.blk hx) (q_var 0) TC.cl TC.n_ends) rfl))) (fun _ _ _ _ _ => (q_var 2))) q_nil)) q_int (nobehind _ (by decide) (by decide)))))

abbrev s_runs : Stmt := inClass (top 9) 10
theorem sc_runs : FnScope ["self", "word", "found", "letter", "state", "run", "end"] ["self", "word"] (defScope s_runs) := ⟨rfl, rfl, rfl, by decide +kernel, rfl, by decide +kernel, by decide +kernel⟩
theorem ok_runs {f : Addr} {fd : FuncData} (TC : TCls c mg) (B : Blt mg) (F : Fun c.K "runs" "Automaton.runs" s_runs f fd)
    {f_next_of : Addr} {fd_next_of : FuncData} (F_next_of : FnOk c.P c.w c.K mg base CX0 1 f_next_of fd_next_of ["self", "state", "letter"] (spD c 3 p_next_of)) (B_next_of : Binds c.K fd_next_of ["self", "state", "letter"] []) (Q_next_of : Meth c.K (c.cl "Automaton") "next_of" f_next_of)
    {f_check_word : Addr} {fd_check_word : FuncData} (F_check_word : FnOk c.P c.w c.K mg base CX0 1 f_check_word fd_check_word ["self", "word"] (spD c 2 p_check_word)) (B_check_word : Binds c.K fd_check_word ["self", "word"] []) (Q_check_word : Meth c.K (c.cl "Automaton") "check_word" f_check_word)
    {t_MOST_RUNS : Tok} (g_MOST_RUNS : mg "MOST_RUNS" = some (.int 20000 t_MOST_RUNS)) :
    FnOk c.P c.w c.K mg base CX0 2 f fd ["self", "word"] (spD c 2 p_runs) := by
  refine fok (N := ["self", "word", "found", "letter", "state", "run", "end"]) F sc_runs fun cdv A outer s H E hr hx => ?_
  have nd := sc_runs.nd
  exact (qs_cons (q_expr (q_meth (cn := "Automaton") (m := "check_word") hx F_check_word (hr.mono (by decide)) TC.cl Q_check_word B_check_word (q_var 0) (q_cons (q_var 1) q_nil)))
    (qs_cons (q_setLc (i := 2) (own := [("state", 4)]) (g := (.nm 4)) hx nd (q_iT hx (q_fld (cn := "Automaton") (f := "begins") hx (q_var 0) TC.cl TC.n_begins)) rfl (by decide) (fun _ _ _ _ _ => (g_nm (i := 4) nd)) (fun _ _ _ _ _ => ts_nil) (fun _ _ _ _ _ => (q_tup (q_cons (q_var 4) q_nil))) (sw_true rfl rfl rfl rfl))
    (qs_cons (q_for (g := (.nm 3)) hx (q_iS hx (q_var 1)) (g_nm (i := 3) nd) (qs_cons (q_setLc2 (i := 2) (own := [("run", 5), ("end", 6)]) (g := (.nm 5)) (g1 := (.nm 6)) (vs1 := [6]) hx nd (q_iL hx (q_var 2)) rfl (by decide) (by decide) (by decide) (fun _ _ _ _ _ => (g_nm (i := 5) nd)) (fun _ _ _ _ _ => ts_nil) (fun _ _ _ _ _ => pi_tup (q_meth (cn := "Automaton") (m := "next_of") (Cok.blk hx) F_next_of (hr.mono (by decide)) TC.cl Q_next_of B_next_of (q_var 0) (q_cons (q_ix (Cok.blk hx) (q_var 5) (q_neg q_int)) (q_cons (q_var 3) q_nil)))) (iT_lift hx) (fun _ _ _ _ _ => (g_nm (i := 6) nd)) (fun _ _ _ _ _ => ts_nil) (fun _ _ _ _ _ => (q_op (o_add (Cok.blk hx)) (q_var 5) (q_tup (q_cons (q_var 6) q_nil)))) (sw_true rfl rfl rfl rfl))
    (qs_one (q_if (q_tcmp (o_gt) (q_callB (o_len hx) B.len PySem.boot_len (q_cons (q_var 2) q_nil)) (q_c (v := .int 20000) (pe_glob rfl g_MOST_RUNS ⟨_, rfl⟩) fun _ _ => rfl) (nobehind _ (by decide) (by decide))) qs_never qs_nil))))
    (qs_one (q_ret (q_lc (own := [("run", 5)]) (g := (.nm 5)) hx nd (q_iL hx (q_var 2)) rfl (by decide) (fun _ _ _ _ _ => (g_nm (i := 5) nd)) (fun _ _ _ _ _ => (ts_one (q_tcmp (o_in (Cok.blk hx)) (q_ix (Cok.blk hx) (q_var 5) (q_neg q_int)) (q_fld (cn := "Automaton") (f := "ends") (Cok.blk hx) (q_var 0) TC.cl TC.n_ends) rfl))) (fun _ _ _ _ _ => (q_var 5))))))))

abbrev s_by_breadth : Stmt := top 12
theorem sc_by_breadth : FnScope ["start", "letters", "leads", "most", "order", "numbers", "steps", "at", "letter", "goal"] ["start", "letters", "leads", "most"] (defScope s_by_breadth) := ⟨rfl, rfl, rfl, by decide +kernel, rfl, by decide +kernel, by decide +kernel⟩
theorem ok_by_breadth {f : Addr} {fd : FuncData} (TC : TCls c mg) (B : Blt mg) (F : Fun c.K "by_breadth" "by_breadth" s_by_breadth f fd)
    {f_next_set : Addr} {fd_next_set : FuncData} (F_next_set : FnOk c.P c.w c.K mg base CX0 2 (c.mt "next_set") fd_next_set ["self", "states", "letter"] (spD c 3 p_next_set)) (B_next_set : Binds c.K fd_next_set ["self", "states", "letter"] []) :
    FnOk c.P c.w c.K mg base CX0 3 f fd ["start", "letters", "leads", "most"] (spD c 4 p_by_breadth) := by
  refine fok (N := ["start", "letters", "leads", "most", "order", "numbers", "steps", "at", "letter", "goal"]) F sc_by_breadth fun cdv A outer s H E hr hx => ?_
  have nd := sc_by_breadth.nd
  exact (qs_cons (q_set (i := 4) hx (q_lst (q_cons (q_var 0) q_nil)) nd)
    (qs_cons (q_set (i := 5) hx (q_newT1 hx (q_var 0) q_int) nd)
    (qs_cons (q_set (i := 6) hx (q_lst q_nil) nd)
    (qs_cons (q_set (i := 7) hx q_int nd)
    (qs_cons (q_while hx (q_tcmp (o_lt hx) (q_var 7) (q_callB (o_len hx) B.len PySem.boot_len (q_cons (q_var 4) q_nil)) (nobehind _ (by decide) (by decide))) (qs_cons (q_for (g := (.nm 8)) hx (q_iS hx (q_var 1)) (g_nm (i := 8) nd) (qs_cons (q_set (i := 9) hx (q_callB' (i := 2) hx TC.b_next_set F_next_set (hr.mono (by decide)) B_next_set (q_cons (q_ix hx (q_var 4) (q_var 7)) (q_cons (q_var 8) q_nil))) nd)
    (qs_cons (q_if (q_tcmp (o_notIn hx) (q_var 9) (q_var 5) rfl) (qs_cons (q_put hx (q_var 5) (q_var 9) (q_callB (o_len hx) B.len PySem.boot_len (q_cons (q_var 4) q_nil)))
    (qs_cons (q_expr (q_bm PySem.F.plainAttrs_list PySem.F.slot_list_append PySem.F.type_list_append (o_append) (q_var 4) (q_cons (q_var 9) q_nil)))
    (qs_one (q_if (q_tcmp (o_gt) (q_callB (o_len hx) B.len PySem.boot_len (q_cons (q_var 4) q_nil)) (q_var 3) (nobehind _ (by decide) (by decide))) qs_never qs_nil)))) qs_nil)
    (qs_one (q_expr (q_bm PySem.F.plainAttrs_list PySem.F.slot_list_append PySem.F.type_list_append (o_append) (q_var 6) (q_cons (q_tup (q_cons (q_var 7) (q_cons (q_var 8) (q_cons (q_get hx (q_var 5) (q_var 9)) q_nil)))) q_nil)))))))
    (qs_one (q_aug (i := 7) q_int nd))))
    (qs_one (q_ret (q_tup (q_cons (q_var 4) (q_cons (q_var 6) q_nil))))))))))

abbrev s_determinized : Stmt := top 13
theorem sc_determinized : FnScope ["automaton", "last", "order", "steps", "at"] ["automaton"] (defScope s_determinized) := ⟨rfl, rfl, rfl, by decide +kernel, rfl, by decide +kernel, by decide +kernel⟩
theorem ok_determinized {f : Addr} {fd : FuncData} (TC : TCls c mg) (B : Blt mg) (F : Fun c.K "determinized" "determinized" s_determinized f fd)
    {f_init : Addr} {fd_init : FuncData} (F_init : FnOk c.P c.w c.K mg base CX0 2 f_init fd_init ["self", "alphabet", "size", "first", "last", "steps"] (spD c 6 p_init)) (B_init : Binds c.K fd_init ["self", "alphabet", "size", "first", "last", "steps"] []) (MK : Mk c.K (c.cl "Automaton") f_init)
    {f_has_last : Addr} {fd_has_last : FuncData} (F_has_last : FnOk c.P c.w c.K mg base CX0 1 f_has_last fd_has_last ["self", "states"] (spD c 2 p_has_last)) (B_has_last : Binds c.K fd_has_last ["self", "states"] []) (Q_has_last : Meth c.K (c.cl "Automaton") "has_last" f_has_last)
    {f_first_states : Addr} {fd_first_states : FuncData} (F_first_states : FnOk c.P c.w c.K mg base CX0 1 f_first_states fd_first_states ["self"] (spD c 1 p_first_states)) (B_first_states : Binds c.K fd_first_states ["self"] []) (Q_first_states : Meth c.K (c.cl "Automaton") "first_states" f_first_states)
    {f_by_breadth : Addr} {fd_by_breadth : FuncData} (F_by_breadth : FnOk c.P c.w c.K mg base CX0 3 f_by_breadth fd_by_breadth ["start", "letters", "leads", "most"] (spD c 4 p_by_breadth)) (B_by_breadth : Binds c.K fd_by_breadth ["start", "letters", "leads", "most"] []) (M_by_breadth : mg "by_breadth" = some (.ref f_by_breadth)) (K_by_breadth : PySem.W.keepIn c.K (.ref f_by_breadth) = true)
    {t_MOST_STATES : Tok} (g_MOST_STATES : mg "MOST_STATES" = some (.int 4000 t_MOST_STATES)) :
    FnOk c.P c.w c.K mg base CX0 4 f fd ["automaton"] (spD c 1 p_determinized) := by
  refine fok (N := ["automaton", "last", "order", "steps", "at"]) F sc_determinized fun cdv A outer s H E hr hx => ?_
  have nd := sc_determinized.nd
  exact (qs_cons (q_asg (tg := (.tp [2, 3])) hx (q_call F_by_breadth (hr.mono (by decide)) M_by_breadth K_by_breadth B_by_breadth (q_cons (q_meth0 (cn := "Automaton") (m := "first_states") hx F_first_states (hr.mono (by decide)) TC.cl Q_first_states B_first_states (q_var 0)) (q_cons (q_fld (cn := "Automaton") (f := "alphabet") hx (q_var 0) TC.cl TC.n_alphabet) (q_cons (q_bnd (cn := "Automaton") (m := "next_set") hx (q_var 0) TC.cl TC.b_next_set) (q_cons (q_c (v := .int 4000) (pe_glob rfl g_MOST_STATES ⟨_, rfl⟩) fun _ _ => rfl) q_nil))))) (g_tp (is := [2, 3]) rfl (gs_cons (g_nm (i := 2) nd) (gs_cons (g_nm (i := 3) nd) gs_nil))))
    (qs_cons (q_setLc (i := 1) (own := [("at", 4)]) (g := (.nm 4)) hx nd (q_iR B.range (q_cons (q_callB (o_len hx) B.len PySem.boot_len (q_cons (q_var 2) q_nil)) q_nil)) rfl (by decide) (fun _ _ _ _ _ => (g_nm (i := 4) nd)) (fun _ _ _ _ _ => (ts_one (q_tru (Cok.blk hx) (q_meth (cn := "Automaton") (m := "has_last") (Cok.blk hx) F_has_last (hr.mono (by decide)) TC.cl Q_has_last B_has_last (q_var 0) (q_cons (q_ix (Cok.blk hx) (q_var 2) (q_var 4)) q_nil))))) (fun _ _ _ _ _ => (q_var 4)) (sw_true rfl rfl rfl rfl))
    (qs_one (q_ret (q_make (cn := "Automaton") hx MK F_init (hr.mono (by decide)) TC.mg B_init (q_cons (q_fld (cn := "Automaton") (f := "alphabet") hx (q_var 0) TC.cl TC.n_alphabet) (q_cons (q_callB (o_len hx) B.len PySem.boot_len (q_cons (q_var 2) q_nil)) (q_cons (q_lst (q_cons q_int q_nil)) (q_cons (q_var 1) (q_cons (q_var 3) q_nil))))))))))

abbrev s_way_back : Stmt := top 15
theorem sc_way_back : FnScope ["known", "here", "word", "pairs", "runs", "letter", "pair"] ["known", "here"] (defScope s_way_back) := ⟨rfl, rfl, rfl, by decide +kernel, rfl, by decide +kernel, by decide +kernel⟩
theorem ok_way_back {f : Addr} {fd : FuncData} (TC : TCls c mg) (B : Blt mg) (F : Fun c.K "way_back" "way_back" s_way_back f fd) :
    FnOk c.P c.w c.K mg base CX0 1 f fd ["known", "here"] (spD c 2 p_way_back) := by
  refine fok (N := ["known", "here", "word", "pairs", "runs", "letter", "pair"]) F sc_way_back fun cdv A outer s H E hr hx => ?_
  have nd := sc_way_back.nd
  exact (qs_cons (q_set (i := 2) hx q_str nd)
    (qs_cons (q_set (i := 3) hx (q_lst (q_cons (q_sl hx (q_var 1) q_ono (q_osome q_int)) q_nil)) nd)
    (qs_cons (q_while hx (q_tcmp (o_isNot) (q_get hx (q_var 0) (q_var 1)) q_non (nobehind _ (by decide) (by decide))) (qs_cons (q_asg (tg := (.tp [5, 1])) hx (q_get hx (q_var 0) (q_var 1)) (g_tp (is := [5, 1]) rfl (gs_cons (g_nm (i := 5) nd) (gs_cons (g_nm (i := 1) nd) gs_nil))))
    (qs_cons (q_set (i := 2) hx (q_op (o_add hx) (q_var 5) (q_var 2)) nd)
    (qs_one (q_set (i := 3) hx (q_op (o_add hx) (q_lst (q_cons (q_sl hx (q_var 1) q_ono (q_osome q_int)) q_nil)) (q_var 3)) nd)))))
    (qs_cons (q_set (i := 4) hx (q_callB (o_sortP hx) B.sorted PyProof.Rows.boot_sorted (q_cons (q_lst (q_cons (q_callTy (o_tuple hx) B.tuple PyProof.Rows.boot_tuple (q_cons (q_lc (own := [("pair", 6)]) (g := (.nm 6)) hx nd (q_iL hx (q_var 3)) rfl (by decide) (fun _ _ _ _ _ => (g_nm (i := 6) nd)) (fun _ _ _ _ _ => ts_nil) (fun _ _ _ _ _ => (q_ix (Cok.blk hx) (q_var 6) q_int))) q_nil)) (q_cons (q_callTy (o_tuple hx) B.tuple PyProof.Rows.boot_tuple (q_cons (q_lc (own := [("pair", 6)]) (g := (.nm 6)) hx nd (q_iL hx (q_var 3)) rfl (by decide) (fun _ _ _ _ _ => (g_nm (i := 6) nd)) (fun _ _ _ _ _ => ts_nil) (fun _ _ _ _ _ => (q_ix (Cok.blk hx) (q_var 6) q_int))) q_nil)) q_nil))) q_nil)) nd)
    (qs_one (q_ret (q_tup (q_cons (q_var 2) (q_cons (q_ix hx (q_var 4) q_int) (q_cons (q_ix hx (q_var 4) q_int) q_nil))))))))))

abbrev s_ambiguity_paper : Stmt := top 16
theorem sc_ambiguity_paper : FnScope ["automaton", "known", "waiting", "one", "two", "letter", "apart", "first", "second", "goal"] ["automaton"] (defScope s_ambiguity_paper) := ⟨rfl, rfl, rfl, by decide +kernel, rfl, by decide +kernel, by decide +kernel⟩
theorem ok_ambiguity_paper {f : Addr} {fd : FuncData} (TC : TCls c mg) (B : Blt mg) (F : Fun c.K "ambiguity_paper" "ambiguity_paper" s_ambiguity_paper f fd)
    {f_next_of : Addr} {fd_next_of : FuncData} (F_next_of : FnOk c.P c.w c.K mg base CX0 1 f_next_of fd_next_of ["self", "state", "letter"] (spD c 3 p_next_of)) (B_next_of : Binds c.K fd_next_of ["self", "state", "letter"] []) (Q_next_of : Meth c.K (c.cl "Automaton") "next_of" f_next_of)
    {f_last_states : Addr} {fd_last_states : FuncData} (F_last_states : FnOk c.P c.w c.K mg base CX0 1 f_last_states fd_last_states ["self"] (spD c 1 p_last_states)) (B_last_states : Binds c.K fd_last_states ["self"] []) (Q_last_states : Meth c.K (c.cl "Automaton") "last_states" f_last_states)
    {f_way_back : Addr} {fd_way_back : FuncData} (F_way_back : FnOk c.P c.w c.K mg base CX0 1 f_way_back fd_way_back ["known", "here"] (spD c 2 p_way_back)) (B_way_back : Binds c.K fd_way_back ["known", "here"] []) (M_way_back : mg "way_back" = some (.ref f_way_back)) (K_way_back : PySem.W.keepIn c.K (.ref f_way_back) = true)
    {f_first_states : Addr} {fd_first_states : FuncData} (F_first_states : FnOk c.P c.w c.K mg base CX0 1 f_first_states fd_first_states ["self"] (spD c 1 p_first_states)) (B_first_states : Binds c.K fd_first_states ["self"] []) (Q_first_states : Meth c.K (c.cl "Automaton") "first_states" f_first_states) :
    FnOk c.P c.w c.K mg base CX0 2 f fd ["automaton"] (spD c 1 p_ambiguity_paper) := by
  refine fok (N := ["automaton", "known", "waiting", "one", "two", "letter", "apart", "first", "second", "goal"]) F sc_ambiguity_paper fun cdv A outer s H E hr hx => ?_
  have nd := sc_ambiguity_paper.nd
  exact (qs_cons (q_set (i := 1) hx (q_newT hx) nd)
    (qs_cons (q_set (i := 2) hx (q_lst q_nil) nd)
    (qs_cons (q_for (g := (.nm 3)) hx (q_iT hx (q_meth0 (cn := "Automaton") (m := "first_states") hx F_first_states (hr.mono (by decide)) TC.cl Q_first_states B_first_states (q_var 0))) (g_nm (i := 3) nd) (qs_one (q_for (g := (.nm 4)) hx (q_iT hx (q_meth0 (cn := "Automaton") (m := "first_states") hx F_first_states (hr.mono (by decide)) TC.cl Q_first_states B_first_states (q_var 0))) (g_nm (i := 4) nd) (qs_one (q_if (q_tcmp (o_le) (q_var 3) (q_var 4) (nobehind _ (by decide) (by decide))) (qs_cons (q_put hx (q_var 1) (q_tup (q_cons (q_var 3) (q_cons (q_var 4) (q_cons (q_cmp (o_ne) (q_var 3) (q_var 4) (nobehind _ (by decide) (by decide))) q_nil)))) q_non)
    (qs_one (q_expr (q_bm PySem.F.plainAttrs_list PySem.F.slot_list_append PySem.F.type_list_append (o_append) (q_var 2) (q_cons (q_tup (q_cons (q_var 3) (q_cons (q_var 4) (q_cons (q_cmp (o_ne) (q_var 3) (q_var 4) (nobehind _ (by decide) (by decide))) q_nil)))) q_nil))))) qs_nil)))))
    (qs_cons (q_while hx (q_tru hx (q_var 2)) (qs_cons (q_asg (tg := (.tp [3, 4, 6])) hx (q_bm PySem.F.plainAttrs_list PySem.F.slot_list_pop PySem.F.type_list_pop (o_pop) (q_var 2) (q_cons q_int q_nil)) (g_tp (is := [3, 4, 6]) rfl (gs_cons (g_nm (i := 3) nd) (gs_cons (g_nm (i := 4) nd) (gs_cons (g_nm (i := 6) nd) gs_nil)))))
    (qs_cons (q_if (PW.pt (q_and (q_tru hx (q_var 6)) (q_and (q_tcmp (o_in hx) (q_var 3) (q_meth0 (cn := "Automaton") (m := "last_states") hx F_last_states (hr.mono (by decide)) TC.cl Q_last_states B_last_states (q_var 0)) rfl) (q_and1 (q_tcmp (o_in hx) (q_var 4) (q_meth0 (cn := "Automaton") (m := "last_states") hx F_last_states (hr.mono (by decide)) TC.cl Q_last_states B_last_states (q_var 0)) rfl))))) (qs_one (q_ret (q_call F_way_back (hr.mono (by decide)) M_way_back K_way_back B_way_back (q_cons (q_var 1) (q_cons (q_tup (q_cons (q_var 3) (q_cons (q_var 4) (q_cons (q_var 6) q_nil)))) q_nil))))) qs_nil)
    (qs_one (q_for (g := (.nm 5)) hx (q_iS hx (q_fld (cn := "Automaton") (f := "alphabet") hx (q_var 0) TC.cl TC.n_alphabet)) (g_nm (i := 5) nd) (qs_one (q_for (g := (.nm 7)) hx (q_iT hx (q_meth (cn := "Automaton") (m := "next_of") hx F_next_of (hr.mono (by decide)) TC.cl Q_next_of B_next_of (q_var 0) (q_cons (q_var 3) (q_cons (q_var 5) q_nil)))) (g_nm (i := 7) nd) (qs_one (q_for (g := (.nm 8)) hx (q_iT hx (q_meth (cn := "Automaton") (m := "next_of") hx F_next_of (hr.mono (by decide)) TC.cl Q_next_of B_next_of (q_var 0) (q_cons (q_var 4) (q_cons (q_var 5) q_nil)))) (g_nm (i := 8) nd) (qs_cons (q_set (i := 9) hx (q_tup (q_cons (q_var 7) (q_cons (q_var 8) (q_cons (q_orV (q_var 6) (q_one (q_cmp (o_ne) (q_var 7) (q_var 8) (nobehind _ (by decide) (by decide))))) q_nil)))) nd)
    (qs_one (q_if (q_tcmp (o_notIn hx) (q_var 9) (q_var 1) rfl) (qs_cons (q_put hx (q_var 1) (q_var 9) (q_tup (q_cons (q_var 5) (q_cons (q_tup (q_cons (q_var 3) (q_cons (q_var 4) (q_cons (q_var 6) q_nil)))) q_nil))))
    (qs_one (q_expr (q_bm PySem.F.plainAttrs_list PySem.F.slot_list_append PySem.F.type_list_append (o_append) (q_var 2) (q_cons (q_var 9) q_nil))))) qs_nil))))))))))))
    (qs_one (q_ret q_non))))))

abbrev s_judge_ambiguity : Stmt := top 17
theorem sc_judge_ambiguity : FnScope ["automaton", "paper", "run", "word", "one", "two", "at", "letter"] ["automaton", "paper"] (defScope s_judge_ambiguity) := ⟨rfl, rfl, rfl, by decide +kernel, rfl, by decide +kernel, by decide +kernel⟩
theorem ok_judge_ambiguity {f : Addr} {fd : FuncData} (TC : TCls c mg) (B : Blt mg) (F : Fun c.K "judge_ambiguity" "judge_ambiguity" s_judge_ambiguity f fd)
    {f_next_of : Addr} {fd_next_of : FuncData} (F_next_of : FnOk c.P c.w c.K mg base CX0 1 f_next_of fd_next_of ["self", "state", "letter"] (spD c 3 p_next_of)) (B_next_of : Binds c.K fd_next_of ["self", "state", "letter"] []) (Q_next_of : Meth c.K (c.cl "Automaton") "next_of" f_next_of)
    {f_last_states : Addr} {fd_last_states : FuncData} (F_last_states : FnOk c.P c.w c.K mg base CX0 1 f_last_states fd_last_states ["self"] (spD c 1 p_last_states)) (B_last_states : Binds c.K fd_last_states ["self"] []) (Q_last_states : Meth c.K (c.cl "Automaton") "last_states" f_last_states)
    {f_first_states : Addr} {fd_first_states : FuncData} (F_first_states : FnOk c.P c.w c.K mg base CX0 1 f_first_states fd_first_states ["self"] (spD c 1 p_first_states)) (B_first_states : Binds c.K fd_first_states ["self"] []) (Q_first_states : Meth c.K (c.cl "Automaton") "first_states" f_first_states) :
    FnOk c.P c.w c.K mg base CX0 2 f fd ["automaton", "paper"] (spD c 2 p_judge_ambiguity) := by
  refine fok (N := ["automaton", "paper", "run", "word", "one", "two", "at", "letter"]) F sc_judge_ambiguity fun cdv A outer s H E hr hx => ?_
  have nd := sc_judge_ambiguity.nd
  exact (qs_cons (q_asg (tg := (.tp [3, 4, 5])) hx (q_var 1) (g_tp (is := [3, 4, 5]) rfl (gs_cons (g_nm (i := 3) nd) (gs_cons (g_nm (i := 4) nd) (gs_cons (g_nm (i := 5) nd) gs_nil)))))
    (qs_cons (q_if (PW.pt (q_or (q_tru hx (q_lc (own := [("letter", 7)]) (g := (.nm 7)) hx nd (q_iS hx (q_var 3)) rfl (by decide) (fun _ _ _ _ _ => (g_nm (i := 7) nd)) (fun _ _ _ _ _ => (ts_one (q_tcmp (o_notIn (Cok.blk hx)) (q_var 7) (q_fld (cn := "Automaton") (f := "alphabet") (Cok.blk hx) (q_var 0) TC.cl TC.n_alphabet) rfl))) (fun _ _ _ _ _ => (q_var 7)))) (q_or1 (q_not (q_tcmp (o_lt hx) (q_var 4) (q_var 5) (nobehind _ (by decide) (by decide))))))) (qs_one (q_ret q_bl)) qs_nil)
    (qs_cons (q_for (g := (.nm 2)) hx (q_iT hx (q_tup (q_cons (q_var 4) (q_cons (q_var 5) q_nil)))) (g_nm (i := 2) nd) (qs_cons (q_if (PW.pt (q_or (q_tcmp (o_ne) (q_callB (o_len hx) B.len PySem.boot_len (q_cons (q_var 2) q_nil)) (q_op (o_add hx) (q_callB (o_len hx) B.len PySem.boot_len (q_cons (q_var 3) q_nil)) q_int) (nobehind _ (by decide) (by decide))) (q_or1 (q_tcmp (o_notIn hx) (q_ix hx (q_var 2) q_int) (q_meth0 (cn := "Automaton") (m := "first_states") hx F_first_states (hr.mono (by decide)) TC.cl Q_first_states B_first_states (q_var 0)) rfl)))) (qs_one (q_ret q_bl)) qs_nil)
    (qs_cons (q_if (q_tcmp (o_notIn hx) (q_ix hx (q_var 2) (q_neg q_int)) (q_meth0 (cn := "Automaton") (m := "last_states") hx F_last_states (hr.mono (by decide)) TC.cl Q_last_states B_last_states (q_var 0)) rfl) (qs_one (q_ret q_bl)) qs_nil)
    (qs_one (q_for (g := (.nm 6)) hx (q_iR B.range (q_cons (q_callB (o_len hx) B.len PySem.boot_len (q_cons (q_var 3) q_nil)) q_nil)) (g_nm (i := 6) nd) (qs_one (q_if (q_tcmp (o_notIn hx) (q_ix hx (q_var 2) (q_op (o_add hx) (q_var 6) q_int)) (q_meth (cn := "Automaton") (m := "next_of") hx F_next_of (hr.mono (by decide)) TC.cl Q_next_of B_next_of (q_var 0) (q_cons (q_ix hx (q_var 2) (q_var 6)) (q_cons (q_ix hx (q_var 3) (q_var 6)) q_nil))) rfl) (qs_one (q_ret q_bl)) qs_nil)))))))
    (qs_one (q_ret q_bl)))))

abbrev s_law_deck : Stmt := top 19
theorem sc_law_deck : FnScope ["script", "cells", "each", "deck", "seed", "k", "cell", "rest", "at"] ["script", "cells", "each"] (defScope s_law_deck) := ⟨rfl, rfl, rfl, by decide +kernel, rfl, by decide +kernel, by decide +kernel⟩
theorem ok_law_deck {f : Addr} {fd : FuncData} (TC : TCls c mg) (B : Blt mg) (F : Fun c.K "_law_deck" "_law_deck" s_law_deck f fd) :
    FnOk c.P c.w c.K mg base CX0 1 f fd ["script", "cells", "each"] (spD c 3 p_law_deck) := by
  refine fok (N := ["script", "cells", "each", "deck", "seed", "k", "cell", "rest", "at"]) F sc_law_deck fun cdv A outer s H E hr hx => ?_
  have nd := sc_law_deck.nd
  exact (qs_cons (q_set (i := 3) hx (q_lst q_nil) nd)
    (qs_cons (q_set (i := 4) hx (q_op (o_add hx) q_int (q_callB (o_len hx) B.len PySem.boot_len (q_cons (q_var 0) q_nil))) nd)
    (qs_cons (q_for (g := (.nm 5)) hx (q_iR B.range (q_cons (q_var 1) q_nil)) (g_nm (i := 5) nd) (qs_cons (q_set (i := 6) hx q_int nd)
    (qs_cons (q_if (q_tcmp (o_lt hx) (q_var 5) (q_callB (o_len hx) B.len PySem.boot_len (q_cons (q_var 0) q_nil)) (nobehind _ (by decide) (by decide))) (qs_one (q_set (i := 6) hx (q_ix hx (q_var 0) (q_var 5)) nd)) qs_nil)
    (qs_cons (q_set (i := 7) hx (q_callB (o_abs) B.abs_ boot_abs (q_cons (q_var 6) q_nil)) nd)
    (qs_one (q_if (q_tcmp (o_ge) (q_var 7) (q_op (o_pow) q_int q_int) (nobehind _ (by decide) (by decide))) (qs_one (q_for (g := (.nm 8)) hx (q_iR B.range (q_cons (q_var 2) q_nil)) (g_nm (i := 8) nd) (qs_cons (q_expr (q_bm PySem.F.plainAttrs_list PySem.F.slot_list_append PySem.F.type_list_append (o_append) (q_var 3) (q_cons (q_op (o_mod) (q_callTy (o_int1) B.int_ PyProof.Rows.boot_int (q_cons (q_var 7) q_nil)) q_int) q_nil)))
    (qs_one (q_set (i := 7) hx (q_op (o_fdiv) (q_var 7) q_int) nd))))) (qs_cons (q_set (i := 4) hx (q_op (o_mod) (q_callTy (o_int1) B.int_ PyProof.Rows.boot_int (q_cons (q_op (o_add hx) (q_op (o_add hx) (q_op (o_add hx) (q_op (o_mul) (q_var 4) q_int) (q_op (o_mul) q_int (q_var 7))) (q_callTy (o_int1) B.int_ PyProof.Rows.boot_int (q_cons (q_cmp (o_lt hx) (q_var 6) q_int (nobehind _ (by decide) (by decide))) q_nil))) (q_var 5)) q_nil)) q_int) nd)
    (qs_one (q_for (g := (.nm 8)) hx (q_iR B.range (q_cons (q_var 2) q_nil)) (g_nm (i := 8) nd) (qs_cons (q_set (i := 4) hx (q_op (o_mod) (q_callTy (o_int1) B.int_ PyProof.Rows.boot_int (q_cons (q_op (o_add hx) (q_op (o_add hx) (q_op (o_mul) (q_var 4) q_int) (q_var 8)) q_int) q_nil)) q_int) nd)
    (qs_one (q_expr (q_bm PySem.F.plainAttrs_list PySem.F.slot_list_append PySem.F.type_list_append (o_append) (q_var 3) (q_cons (q_op (o_mod) (q_callTy (o_int1) B.int_ PyProof.Rows.boot_int (q_cons (q_op (o_fdiv) (q_var 4) q_int) q_nil)) q_int) q_nil))))))))))))))
    (qs_cons (q_expr (q_bm0 PySem.F.plainAttrs_list PySem.F.slot_list_reverse PySem.F.type_list_reverse (o_reverse) (q_var 3)))
    (qs_one (q_ret (q_var 3)))))))

abbrev s_law_take : Stmt := top 20
theorem sc_law_take : FnScope ["deck", "many"] ["deck", "many"] (defScope s_law_take) := ⟨rfl, rfl, rfl, by decide +kernel, rfl, by decide +kernel, by decide +kernel⟩
theorem ok_law_take {f : Addr} {fd : FuncData} (TC : TCls c mg) (B : Blt mg) (F : Fun c.K "_law_take" "_law_take" s_law_take f fd) :
    FnOk c.P c.w c.K mg base CX0 1 f fd ["deck", "many"] (spD c 2 p_law_take) := by
  refine fok (N := ["deck", "many"]) F sc_law_take fun cdv A outer s H E hr hx => ?_
  have nd := sc_law_take.nd
  exact (qs_cons (q_if (q_tcmp (o_eq hx) (q_callB (o_len hx) B.len PySem.boot_len (q_cons (q_var 0) q_nil)) q_int (nobehind _ (by decide) (by decide))) (qs_one (q_ret q_int)) qs_nil)
    (qs_one (q_ret (q_op (o_mod) (q_callTy (o_int1) B.int_ PyProof.Rows.boot_int (q_cons (q_bm0 PySem.F.plainAttrs_list PySem.F.slot_list_pop PySem.F.type_list_pop (o_pop) (q_var 0)) q_nil)) (q_var 1)))))

abbrev s_law_automaton : Stmt := top 22
theorem sc_law_automaton : FnScope ["deck", "letters", "most", "size", "first", "last", "steps", "turn"] ["deck", "letters", "most"] (defScope s_law_automaton) := ⟨rfl, rfl, rfl, by decide +kernel, rfl, by decide +kernel, by decide +kernel⟩
theorem ok_law_automaton {f : Addr} {fd : FuncData} (TC : TCls c mg) (B : Blt mg) (F : Fun c.K "_law_automaton" "_law_automaton" s_law_automaton f fd)
    {f_law_take : Addr} {fd_law_take : FuncData} (F_law_take : FnOk c.P c.w c.K mg base CX0 1 f_law_take fd_law_take ["deck", "many"] (spD c 2 p_law_take)) (B_law_take : Binds c.K fd_law_take ["deck", "many"] []) (M_law_take : mg "_law_take" = some (.ref f_law_take)) (K_law_take : PySem.W.keepIn c.K (.ref f_law_take) = true) :
    FnOk c.P c.w c.K mg base CX0 2 f fd ["deck", "letters", "most"] (spD c 3 p_law_automaton) := by
  refine fok (N := ["deck", "letters", "most", "size", "first", "last", "steps", "turn"]) F sc_law_automaton fun cdv A outer s H E hr hx => ?_
  have nd := sc_law_automaton.nd
  exact (qs_cons (q_set (i := 3) hx (q_op (o_add hx) q_int (q_call F_law_take (hr.mono (by decide)) M_law_take K_law_take B_law_take (q_cons (q_var 0) (q_cons (q_var 2) q_nil)))) nd)
    (qs_cons (q_set (i := 4) hx (q_ssI hx B.sorted B.set (q_lc (own := [("turn", 7)]) (g := (.nm 7)) hx nd (q_iR B.range (q_cons (q_op (o_add hx) q_int (q_call F_law_take (hr.mono (by decide)) M_law_take K_law_take B_law_take (q_cons (q_var 0) (q_cons q_int q_nil)))) q_nil)) rfl (by decide) (fun _ _ _ _ _ => (g_nm (i := 7) nd)) (fun _ _ _ _ _ => ts_nil) (fun _ _ _ _ _ => (q_call F_law_take (hr.mono (by decide)) M_law_take K_law_take B_law_take (q_cons (q_var 0) (q_cons (q_var 3) q_nil)))))) nd)
    (qs_cons (q_set (i := 5) hx (q_ssI hx B.sorted B.set (q_lc (own := [("turn", 7)]) (g := (.nm 7)) hx nd (q_iR B.range (q_cons (q_call F_law_take (hr.mono (by decide)) M_law_take K_law_take B_law_take (q_cons (q_var 0) (q_cons q_int q_nil))) q_nil)) rfl (by decide) (fun _ _ _ _ _ => (g_nm (i := 7) nd)) (fun _ _ _ _ _ => ts_nil) (fun _ _ _ _ _ => (q_call F_law_take (hr.mono (by decide)) M_law_take K_law_take B_law_take (q_cons (q_var 0) (q_cons (q_var 3) q_nil)))))) nd)
    (qs_cons (q_set (i := 6) hx (q_lst q_nil) nd)
    (qs_cons (q_for (g := (.nm 7)) hx (q_iR B.range (q_cons (q_call F_law_take (hr.mono (by decide)) M_law_take K_law_take B_law_take (q_cons (q_var 0) (q_cons (q_op (o_add hx) (q_op (o_mul) q_int (q_var 3)) q_int) q_nil))) q_nil)) (g_nm (i := 7) nd) (qs_one (q_expr (q_bm PySem.F.plainAttrs_list PySem.F.slot_list_append PySem.F.type_list_append (o_append) (q_var 6) (q_cons (q_tup (q_cons (q_call F_law_take (hr.mono (by decide)) M_law_take K_law_take B_law_take (q_cons (q_var 0) (q_cons (q_var 3) q_nil))) (q_cons (q_ix hx (q_var 1) (q_call F_law_take (hr.mono (by decide)) M_law_take K_law_take B_law_take (q_cons (q_var 0) (q_cons (q_callB (o_len hx) B.len PySem.boot_len (q_cons (q_var 1) q_nil)) q_nil)))) (q_cons (q_call F_law_take (hr.mono (by decide)) M_law_take K_law_take B_law_take (q_cons (q_var 0) (q_cons (q_var 3) q_nil))) q_nil)))) q_nil)))))
    (qs_one (q_ret (q_tup (q_cons (q_var 1) (q_cons (q_var 3) (q_cons (q_var 4) (q_cons (q_var 5) (q_cons (q_var 6) q_nil)))))))))))))

abbrev s_law_made : Stmt := top 23
theorem sc_law_made : FnScope ["parts", "letters", "size", "first", "last", "steps"] ["parts"] (defScope s_law_made) := ⟨rfl, rfl, rfl, by decide +kernel, rfl, by decide +kernel, by decide +kernel⟩
theorem ok_law_made {f : Addr} {fd : FuncData} (TC : TCls c mg) (B : Blt mg) (F : Fun c.K "_law_made" "_law_made" s_law_made f fd)
    {f_init : Addr} {fd_init : FuncData} (F_init : FnOk c.P c.w c.K mg base CX0 2 f_init fd_init ["self", "alphabet", "size", "first", "last", "steps"] (spD c 6 p_init)) (B_init : Binds c.K fd_init ["self", "alphabet", "size", "first", "last", "steps"] []) (MK : Mk c.K (c.cl "Automaton") f_init) :
    FnOk c.P c.w c.K mg base CX0 4 f fd ["parts"] (spD c 1 p_law_made) := by
  refine fok (N := ["parts", "letters", "size", "first", "last", "steps"]) F sc_law_made fun cdv A outer s H E hr hx => ?_
  have nd := sc_law_made.nd
  exact (qs_cons (q_asg (tg := (.tp [1, 2, 3, 4, 5])) hx (q_var 0) (g_tp (is := [1, 2, 3, 4, 5]) rfl (gs_cons (g_nm (i := 1) nd) (gs_cons (g_nm (i := 2) nd) (gs_cons (g_nm (i := 3) nd) (gs_cons (g_nm (i := 4) nd) (gs_cons (g_nm (i := 5) nd) gs_nil)))))))
    (qs_one (q_ret (q_make (cn := "Automaton") hx MK F_init (hr.mono (by decide)) TC.mg B_init (q_cons (q_var 1) (q_cons (q_var 2) (q_cons (q_callTy (o_list hx) B.list PyProof.Rows.boot_list (q_cons (q_var 3) q_nil)) (q_cons (q_callTy (o_list hx) B.list PyProof.Rows.boot_list (q_cons (q_var 4) q_nil)) (q_cons (q_callTy (o_list hx) B.list PyProof.Rows.boot_list (q_cons (q_var 5) q_nil)) q_nil)))))))))

abbrev s_law_shortest : Stmt := top 24
theorem sc_law_shortest : FnScope ["parts", "pairs", "one", "known", "length", "after", "two", "apart", "start", "sign", "end", "begin", "other", "goal", "item"] ["parts"] (defScope s_law_shortest) := ⟨rfl, rfl, rfl, by decide +kernel, rfl, by decide +kernel, by decide +kernel⟩
theorem ok_law_shortest {f : Addr} {fd : FuncData} (TC : TCls c mg) (B : Blt mg) (F : Fun c.K "_law_shortest" "_law_shortest" s_law_shortest f fd) :
    FnOk c.P c.w c.K mg base CX0 1 f fd ["parts"] (spD c 1 p_law_shortest) := by
  refine fok (N := ["parts", "pairs", "one", "known", "length", "after", "two", "apart", "start", "sign", "end", "begin", "other", "goal", "item"]) F sc_law_shortest fun cdv A outer s H E hr hx => ?_
  have nd := sc_law_shortest.nd
  exact (qs_cons (q_set (i := 1) hx (q_lst q_nil) nd)
    (qs_cons (q_for (g := (.nm 2)) hx (q_iL hx (q_ix hx (q_var 0) q_int)) (g_nm (i := 2) nd) (qs_one (q_set (i := 1) hx (q_op (o_add hx) (q_var 1) (q_lc (own := [("two", 6)]) (g := (.nm 6)) hx nd (q_iL hx (q_ix hx (q_var 0) q_int)) rfl (by decide) (fun _ _ _ _ _ => (g_nm (i := 6) nd)) (fun _ _ _ _ _ => ts_nil) (fun _ _ _ _ _ => (q_tup (q_cons (q_var 2) (q_cons (q_var 6) (q_cons (q_cmp (o_ne) (q_var 2) (q_var 6) (nobehind _ (by decide) (by decide))) q_nil))))))) nd)))
    (qs_cons (q_set (i := 3) hx (q_callTy (o_list hx) B.list PyProof.Rows.boot_list (q_cons (q_var 1) q_nil)) nd)
    (qs_cons (q_for (g := (.nm 4)) hx (q_iR B.range (q_cons (q_op (o_add hx) (q_op (o_mul) (q_op (o_mul) q_int (q_callB (o_len hx) B.len PySem.boot_len (q_cons (q_ix hx (q_var 0) q_int) q_nil))) (q_callB (o_len hx) B.len PySem.boot_len (q_cons (q_ix hx (q_var 0) q_int) q_nil))) q_int) q_nil)) (g_nm (i := 4) nd) (qs_cons (q_for (g := (.tp [2, 6, 7])) hx (q_iL hx (q_var 1)) (g_tp (is := [2, 6, 7]) rfl (gs_cons (g_nm (i := 2) nd) (gs_cons (g_nm (i := 6) nd) (gs_cons (g_nm (i := 7) nd) gs_nil)))) (qs_one (q_if (PW.pt (q_and (q_tru hx (q_var 7)) (q_and (q_tcmp (o_in hx) (q_var 2) (q_ix hx (q_var 0) q_int) rfl) (q_and1 (q_tcmp (o_in hx) (q_var 6) (q_ix hx (q_var 0) q_int) rfl))))) (qs_one (q_ret (q_var 4))) qs_nil)))
    (qs_cons (q_set (i := 5) hx (q_lst q_nil) nd)
    (qs_cons (q_for (g := (.tp [2, 6, 7])) hx (q_iL hx (q_var 1)) (g_tp (is := [2, 6, 7]) rfl (gs_cons (g_nm (i := 2) nd) (gs_cons (g_nm (i := 6) nd) (gs_cons (g_nm (i := 7) nd) gs_nil)))) (qs_one (q_for (g := (.tp [8, 9, 10])) hx (q_iL hx (q_ix hx (q_var 0) q_int)) (g_tp (is := [8, 9, 10]) rfl (gs_cons (g_nm (i := 8) nd) (gs_cons (g_nm (i := 9) nd) (gs_cons (g_nm (i := 10) nd) gs_nil)))) (qs_one (q_for (g := (.tp [11, 12, 13])) hx (q_iL hx (q_ix hx (q_var 0) q_int)) (g_tp (is := [11, 12, 13]) rfl (gs_cons (g_nm (i := 11) nd) (gs_cons (g_nm (i := 12) nd) (gs_cons (g_nm (i := 13) nd) gs_nil)))) (qs_one (q_if (PW.pt (q_and (q_tcmp (o_eq hx) (q_var 8) (q_var 2) (nobehind _ (by decide) (by decide))) (q_and (q_tcmp (o_eq hx) (q_var 11) (q_var 6) (nobehind _ (by decide) (by decide))) (q_and1 (q_tcmp (o_eq hx) (q_var 9) (q_var 12) (nobehind _ (by decide) (by decide))))))) (qs_cons (q_set (i := 14) hx (q_tup (q_cons (q_var 10) (q_cons (q_var 13) (q_cons (q_orV (q_var 7) (q_one (q_cmp (o_ne) (q_var 10) (q_var 13) (nobehind _ (by decide) (by decide))))) q_nil)))) nd)
    (qs_one (q_if (q_tcmp (o_notIn hx) (q_var 14) (q_var 3) rfl) (qs_cons (q_expr (q_bm PySem.F.plainAttrs_list PySem.F.slot_list_append PySem.F.type_list_append (o_append) (q_var 3) (q_cons (q_var 14) q_nil)))
    (qs_one (q_expr (q_bm PySem.F.plainAttrs_list PySem.F.slot_list_append PySem.F.type_list_append (o_append) (q_var 5) (q_cons (q_var 14) q_nil))))) qs_nil))) qs_nil)))))))
    (qs_cons (q_set (i := 1) hx (q_var 5) nd)
    (qs_one (q_if (q_tcmp (o_eq hx) (q_callB (o_len hx) B.len PySem.boot_len (q_cons (q_var 1) q_nil)) q_int (nobehind _ (by decide) (by decide))) (qs_one (q_ret q_non)) qs_nil)))))))
    (qs_one (q_ret q_non))))))

abbrev s_law_is_run : Stmt := top 25
theorem sc_law_is_run : FnScope ["parts", "word", "run", "at"] ["parts", "word", "run"] (defScope s_law_is_run) := ⟨rfl, rfl, rfl, by decide +kernel, rfl, by decide +kernel, by decide +kernel⟩
theorem ok_law_is_run {f : Addr} {fd : FuncData} (TC : TCls c mg) (B : Blt mg) (F : Fun c.K "_law_is_run" "_law_is_run" s_law_is_run f fd) :
    FnOk c.P c.w c.K mg base CX0 1 f fd ["parts", "word", "run"] (spD c 3 p_law_is_run) := by
  refine fok (N := ["parts", "word", "run", "at"]) F sc_law_is_run fun cdv A outer s H E hr hx => ?_
  have nd := sc_law_is_run.nd
  exact (qs_cons (q_if (PW.pt (q_or (q_tcmp (o_ne) (q_callB (o_len hx) B.len PySem.boot_len (q_cons (q_var 2) q_nil)) (q_op (o_add hx) (q_callB (o_len hx) B.len PySem.boot_len (q_cons (q_var 1) q_nil)) q_int) (nobehind _ (by decide) (by decide))) (q_or (q_tcmp (o_notIn hx) (q_ix hx (q_var 2) q_int) (q_ix hx (q_var 0) q_int) rfl) (q_or1 (q_tcmp (o_notIn hx) (q_ix hx (q_var 2) (q_neg q_int)) (q_ix hx (q_var 0) q_int) rfl))))) (qs_one (q_ret q_bl)) qs_nil)
    (qs_cons (q_for (g := (.nm 3)) hx (q_iR B.range (q_cons (q_callB (o_len hx) B.len PySem.boot_len (q_cons (q_var 1) q_nil)) q_nil)) (g_nm (i := 3) nd) (qs_one (q_if (q_tcmp (o_notIn hx) (q_tup (q_cons (q_ix hx (q_var 2) (q_var 3)) (q_cons (q_ix hx (q_var 1) (q_var 3)) (q_cons (q_ix hx (q_var 2) (q_op (o_add hx) (q_var 3) q_int)) q_nil)))) (q_ix hx (q_var 0) q_int) rfl) (qs_one (q_ret q_bl)) qs_nil)))
    (qs_one (q_ret q_bl))))

abbrev s_law_right : Stmt := top 26
theorem sc_law_right : FnScope ["parts", "paper", "word", "one", "two"] ["parts", "paper"] (defScope s_law_right) := ⟨rfl, rfl, rfl, by decide +kernel, rfl, by decide +kernel, by decide +kernel⟩
theorem ok_law_right {f : Addr} {fd : FuncData} (TC : TCls c mg) (B : Blt mg) (F : Fun c.K "_law_right" "_law_right" s_law_right f fd)
    {f_law_is_run : Addr} {fd_law_is_run : FuncData} (F_law_is_run : FnOk c.P c.w c.K mg base CX0 1 f_law_is_run fd_law_is_run ["parts", "word", "run"] (spD c 3 p_law_is_run)) (B_law_is_run : Binds c.K fd_law_is_run ["parts", "word", "run"] []) (M_law_is_run : mg "_law_is_run" = some (.ref f_law_is_run)) (K_law_is_run : PySem.W.keepIn c.K (.ref f_law_is_run) = true) :
    FnOk c.P c.w c.K mg base CX0 2 f fd ["parts", "paper"] (spD c 2 p_law_right) := by
  refine fok (N := ["parts", "paper", "word", "one", "two"]) F sc_law_right fun cdv A outer s H E hr hx => ?_
  have nd := sc_law_right.nd
  exact (qs_cons (q_asg (tg := (.tp [2, 3, 4])) hx (q_var 1) (g_tp (is := [2, 3, 4]) rfl (gs_cons (g_nm (i := 2) nd) (gs_cons (g_nm (i := 3) nd) (gs_cons (g_nm (i := 4) nd) gs_nil)))))
    (qs_one (q_ret (q_andV (q_cmp (o_lt hx) (q_var 3) (q_var 4) (nobehind _ (by decide) (by decide))) (q_andV (q_call F_law_is_run (hr.mono (by decide)) M_law_is_run K_law_is_run B_law_is_run (q_cons (q_var 0) (q_cons (q_var 2) (q_cons (q_var 3) q_nil)))) (q_one (q_call F_law_is_run (hr.mono (by decide)) M_law_is_run K_law_is_run B_law_is_run (q_cons (q_var 0) (q_cons (q_var 2) (q_cons (q_var 4) q_nil))))))))))

abbrev s_law : Stmt := top 27
theorem sc_law : FnScope ["script", "deck", "turn", "letters", "parts", "automaton", "due", "told", "word", "many", "at", "bent", "other", "less", "one", "two", "again"] ["script"] (defScope s_law) := ⟨rfl, rfl, rfl, by decide +kernel, rfl, by decide +kernel, by decide +kernel⟩
theorem ok_law {f : Addr} {fd : FuncData} (TC : TCls c mg) (B : Blt mg) (F : Fun c.K "law" "law" s_law f fd)
    {f_runs : Addr} {fd_runs : FuncData} (F_runs : FnOk c.P c.w c.K mg base CX0 2 f_runs fd_runs ["self", "word"] (spD c 2 p_runs)) (B_runs : Binds c.K fd_runs ["self", "word"] []) (Q_runs : Meth c.K (c.cl "Automaton") "runs" f_runs)
    {f_law_take : Addr} {fd_law_take : FuncData} (F_law_take : FnOk c.P c.w c.K mg base CX0 1 f_law_take fd_law_take ["deck", "many"] (spD c 2 p_law_take)) (B_law_take : Binds c.K fd_law_take ["deck", "many"] []) (M_law_take : mg "_law_take" = some (.ref f_law_take)) (K_law_take : PySem.W.keepIn c.K (.ref f_law_take) = true)
    {f_determinized : Addr} {fd_determinized : FuncData} (F_determinized : FnOk c.P c.w c.K mg base CX0 4 f_determinized fd_determinized ["automaton"] (spD c 1 p_determinized)) (B_determinized : Binds c.K fd_determinized ["automaton"] []) (M_determinized : mg "determinized" = some (.ref f_determinized)) (K_determinized : PySem.W.keepIn c.K (.ref f_determinized) = true)
    {f_ambiguity_paper : Addr} {fd_ambiguity_paper : FuncData} (F_ambiguity_paper : FnOk c.P c.w c.K mg base CX0 2 f_ambiguity_paper fd_ambiguity_paper ["automaton"] (spD c 1 p_ambiguity_paper)) (B_ambiguity_paper : Binds c.K fd_ambiguity_paper ["automaton"] []) (M_ambiguity_paper : mg "ambiguity_paper" = some (.ref f_ambiguity_paper)) (K_ambiguity_paper : PySem.W.keepIn c.K (.ref f_ambiguity_paper) = true)
    {f_judge_ambiguity : Addr} {fd_judge_ambiguity : FuncData} (F_judge_ambiguity : FnOk c.P c.w c.K mg base CX0 2 f_judge_ambiguity fd_judge_ambiguity ["automaton", "paper"] (spD c 2 p_judge_ambiguity)) (B_judge_ambiguity : Binds c.K fd_judge_ambiguity ["automaton", "paper"] []) (M_judge_ambiguity : mg "judge_ambiguity" = some (.ref f_judge_ambiguity)) (K_judge_ambiguity : PySem.W.keepIn c.K (.ref f_judge_ambiguity) = true)
    {f_law_right : Addr} {fd_law_right : FuncData} (F_law_right : FnOk c.P c.w c.K mg base CX0 2 f_law_right fd_law_right ["parts", "paper"] (spD c 2 p_law_right)) (B_law_right : Binds c.K fd_law_right ["parts", "paper"] []) (M_law_right : mg "_law_right" = some (.ref f_law_right)) (K_law_right : PySem.W.keepIn c.K (.ref f_law_right) = true)
    {f_law_shortest : Addr} {fd_law_shortest : FuncData} (F_law_shortest : FnOk c.P c.w c.K mg base CX0 1 f_law_shortest fd_law_shortest ["parts"] (spD c 1 p_law_shortest)) (B_law_shortest : Binds c.K fd_law_shortest ["parts"] []) (M_law_shortest : mg "_law_shortest" = some (.ref f_law_shortest)) (K_law_shortest : PySem.W.keepIn c.K (.ref f_law_shortest) = true)
    {f_law_made : Addr} {fd_law_made : FuncData} (F_law_made : FnOk c.P c.w c.K mg base CX0 4 f_law_made fd_law_made ["parts"] (spD c 1 p_law_made)) (B_law_made : Binds c.K fd_law_made ["parts"] []) (M_law_made : mg "_law_made" = some (.ref f_law_made)) (K_law_made : PySem.W.keepIn c.K (.ref f_law_made) = true)
    {f_law_automaton : Addr} {fd_law_automaton : FuncData} (F_law_automaton : FnOk c.P c.w c.K mg base CX0 2 f_law_automaton fd_law_automaton ["deck", "letters", "most"] (spD c 3 p_law_automaton)) (B_law_automaton : Binds c.K fd_law_automaton ["deck", "letters", "most"] []) (M_law_automaton : mg "_law_automaton" = some (.ref f_law_automaton)) (K_law_automaton : PySem.W.keepIn c.K (.ref f_law_automaton) = true)
    {f_law_deck : Addr} {fd_law_deck : FuncData} (F_law_deck : FnOk c.P c.w c.K mg base CX0 1 f_law_deck fd_law_deck ["script", "cells", "each"] (spD c 3 p_law_deck)) (B_law_deck : Binds c.K fd_law_deck ["script", "cells", "each"] []) (M_law_deck : mg "_law_deck" = some (.ref f_law_deck)) (K_law_deck : PySem.W.keepIn c.K (.ref f_law_deck) = true) :
    FnOk c.P c.w c.K mg base CX0 5 f fd ["script"] (spD c 1 p_law) := by
  refine fok (N := ["script", "deck", "turn", "letters", "parts", "automaton", "due", "told", "word", "many", "at", "bent", "other", "less", "one", "two", "again"]) F sc_law fun cdv A outer s H E hr hx => ?_
  have nd := sc_law.nd
  exact (qs_cons (q_set (i := 1) hx (q_call F_law_deck (hr.mono (by decide)) M_law_deck K_law_deck B_law_deck (q_cons (q_var 0) (q_cons q_int (q_cons q_int q_nil)))) nd)
    (qs_cons (q_for (g := (.nm 2)) hx (q_iR B.range (q_cons q_int q_nil)) (g_nm (i := 2) nd) (qs_cons (q_set (i := 3) hx (q_ix hx (q_lst (q_cons q_str (q_cons q_str (q_cons q_str q_nil)))) (q_call F_law_take (hr.mono (by decide)) M_law_take K_law_take B_law_take (q_cons (q_var 1) (q_cons q_int q_nil)))) nd)
    (qs_cons (q_set (i := 4) hx (q_call F_law_automaton (hr.mono (by decide)) M_law_automaton K_law_automaton B_law_automaton (q_cons (q_var 1) (q_cons (q_var 3) (q_cons q_int q_nil)))) nd)
    (qs_cons (q_set (i := 5) hx (q_call F_law_made (hr.mono (by decide)) M_law_made K_law_made B_law_made (q_cons (q_var 4) q_nil)) nd)
    (qs_cons (q_set (i := 6) hx (q_call F_law_shortest (hr.mono (by decide)) M_law_shortest K_law_shortest B_law_shortest (q_cons (q_var 4) q_nil)) nd)
    (qs_cons (q_set (i := 7) hx (q_call F_ambiguity_paper (hr.mono (by decide)) M_ambiguity_paper K_ambiguity_paper B_ambiguity_paper (q_cons (q_var 5) q_nil)) nd)
    (qs_cons (q_if (q_tcmp (o_ne) (q_cmp (o_is) (q_var 7) q_non (nobehind _ (by decide) (by decide))) (q_cmp (o_is) (q_var 6) q_non (nobehind _ (by decide) (by decide))) (nobehind _ (by decide) (by decide))) (qs_one (q_ret q_bl)) qs_nil)
    (qs_cons (q_if (q_tcmp (o_isNot) (q_var 7) q_non (nobehind _ (by decide) (by decide))) (qs_cons (q_asg (tg := (.tp [8, 14, 15])) hx (q_var 7) (g_tp (is := [8, 14, 15]) rfl (gs_cons (g_nm (i := 8) nd) (gs_cons (g_nm (i := 14) nd) (gs_cons (g_nm (i := 15) nd) gs_nil)))))
    (qs_cons (q_if (PW.pt (q_or (q_tcmp (o_ne) (q_callB (o_len hx) B.len PySem.boot_len (q_cons (q_var 8) q_nil)) (q_var 6) (nobehind _ (by decide) (by decide))) (q_or (q_not (q_tru hx (q_call F_law_right (hr.mono (by decide)) M_law_right K_law_right B_law_right (q_cons (q_var 4) (q_cons (q_var 7) q_nil))))) (q_or1 (q_tcmp (o_isNot) (q_call F_judge_ambiguity (hr.mono (by decide)) M_judge_ambiguity K_judge_ambiguity B_judge_ambiguity (q_cons (q_var 5) (q_cons (q_var 7) q_nil))) q_bl (nobehind _ (by decide) (by decide))))))) (qs_one (q_ret q_bl)) qs_nil)
    (qs_cons (q_if (q_tcmp (o_lt hx) (q_callB (o_len hx) B.len PySem.boot_len (q_cons (q_meth (cn := "Automaton") (m := "runs") hx F_runs (hr.mono (by decide)) TC.cl Q_runs B_runs (q_var 5) (q_cons (q_var 8) q_nil)) q_nil)) q_int (nobehind _ (by decide) (by decide))) (qs_one (q_ret q_bl)) qs_nil)
    (qs_cons (q_set (i := 10) hx (q_call F_law_take (hr.mono (by decide)) M_law_take K_law_take B_law_take (q_cons (q_var 1) (q_cons (q_callB (o_len hx) B.len PySem.boot_len (q_cons (q_var 14) q_nil)) q_nil))) nd)
    (qs_cons (q_set (i := 11) hx (q_op (o_add hx) (q_op (o_add hx) (q_sl hx (q_var 14) q_ono (q_osome (q_var 10))) (q_tup (q_cons (q_call F_law_take (hr.mono (by decide)) M_law_take K_law_take B_law_take (q_cons (q_var 1) (q_cons (q_ix hx (q_var 4) q_int) q_nil))) q_nil))) (q_sl hx (q_var 14) (q_osome (q_op (o_add hx) (q_var 10) q_int)) q_ono)) nd)
    (qs_cons (q_for (g := (.nm 12)) hx (q_iL hx (q_lst (q_cons (q_tup (q_cons (q_var 8) (q_cons (q_var 11) (q_cons (q_var 15) q_nil)))) (q_cons (q_tup (q_cons (q_var 8) (q_cons (q_var 15) (q_cons (q_var 14) q_nil)))) (q_cons (q_tup (q_cons (q_op (o_add hx) (q_var 8) (q_ix hx (q_var 3) q_int)) (q_cons (q_var 14) (q_cons (q_var 15) q_nil)))) (q_cons (q_tup (q_cons (q_var 8) (q_cons (q_var 14) (q_cons (q_var 14) q_nil)))) q_nil)))))) (g_nm (i := 12) nd) (qs_one (q_if (q_tcmp (o_ne) (q_call F_judge_ambiguity (hr.mono (by decide)) M_judge_ambiguity K_judge_ambiguity B_judge_ambiguity (q_cons (q_var 5) (q_cons (q_var 12) q_nil))) (q_call F_law_right (hr.mono (by decide)) M_law_right K_law_right B_law_right (q_cons (q_var 4) (q_cons (q_var 12) q_nil))) (nobehind _ (by decide) (by decide))) (qs_one (q_ret q_bl)) qs_nil)))
    (qs_cons (q_set (i := 13) hx (q_tup (q_cons (q_sl hx (q_var 8) (q_osome q_int) q_ono) (q_cons (q_sl hx (q_var 14) (q_osome q_int) q_ono) (q_cons (q_sl hx (q_var 15) (q_osome q_int) q_ono) q_nil)))) nd)
    (qs_one (q_if (PW.pt (q_and (q_tcmp (o_gt) (q_callB (o_len hx) B.len PySem.boot_len (q_cons (q_var 8) q_nil)) q_int (nobehind _ (by decide) (by decide))) (q_and1 (q_tcmp (o_ne) (q_call F_judge_ambiguity (hr.mono (by decide)) M_judge_ambiguity K_judge_ambiguity B_judge_ambiguity (q_cons (q_var 5) (q_cons (q_var 13) q_nil))) (q_call F_law_right (hr.mono (by decide)) M_law_right K_law_right B_law_right (q_cons (q_var 4) (q_cons (q_var 13) q_nil))) (nobehind _ (by decide) (by decide)))))) (qs_one (q_ret q_bl)) qs_nil))))))))) qs_nil)
    (qs_cons (q_if (q_tcmp (o_isNot) (q_call F_ambiguity_paper (hr.mono (by decide)) M_ambiguity_paper K_ambiguity_paper B_ambiguity_paper (q_cons (q_call F_determinized (hr.mono (by decide)) M_determinized K_determinized B_determinized (q_cons (q_var 5) q_nil)) q_nil)) q_non (nobehind _ (by decide) (by decide))) (qs_one (q_ret q_bl)) qs_nil)
    (qs_cons (q_set (i := 8) hx (q_bm PySem.F.plainAttrs_str PySem.F.slot_str_join PySem.F.type_str_join (o_join) q_str (q_cons (q_lc (own := [("again", 16)]) (g := (.nm 16)) hx nd (q_iR B.range (q_cons (q_call F_law_take (hr.mono (by decide)) M_law_take K_law_take B_law_take (q_cons (q_var 1) (q_cons q_int q_nil))) q_nil)) rfl (by decide) (fun _ _ _ _ _ => (g_nm (i := 16) nd)) (fun _ _ _ _ _ => ts_nil) (fun _ _ _ _ _ => (q_ix (Cok.blk hx) (q_var 3) (q_call F_law_take (hr.mono (by decide)) M_law_take K_law_take B_law_take (q_cons (q_var 1) (q_cons (q_callB (o_len (Cok.blk hx)) B.len PySem.boot_len (q_cons (q_var 3) q_nil)) q_nil)))))) q_nil)) nd)
    (qs_cons (q_set (i := 9) hx (q_callB (o_len hx) B.len PySem.boot_len (q_cons (q_meth (cn := "Automaton") (m := "runs") hx F_runs (hr.mono (by decide)) TC.cl Q_runs B_runs (q_var 5) (q_cons (q_var 8) q_nil)) q_nil)) nd)
    (qs_one (q_if (PW.pt (q_and (q_tcmp (o_gt) (q_var 9) q_int (nobehind _ (by decide) (by decide))) (q_and1 (PW.pt (q_or (q_tcmp (o_is) (q_var 6) q_non (nobehind _ (by decide) (by decide))) (q_or1 (q_tcmp (o_lt hx) (q_callB (o_len hx) B.len PySem.boot_len (q_cons (q_var 8) q_nil)) (q_var 6) (nobehind _ (by decide) (by decide))))))))) (qs_one (q_ret q_bl)) qs_nil)))))))))))))
    (qs_one (q_ret q_bl))))

end
end Lw
end
section
set_option linter.all false
set_option autoImplicit false
/-! K74m: the plain law stands in Pdm (law_holds). -/
end
section
set_option Elab.async false
set_option linter.all false
set_option autoImplicit false
set_option maxRecDepth 100000
set_option pp.maxSteps 300
set_option pp.deepTerms false
/-! K74e: the top, and the law. -/
namespace Lw
open PySem PySem.Spec PyProof.Rows L2
def spLaw (K : PySem.W.Frag) : Sp := fun vs H Q _ => ∃ (a : Addr) (ns : List Int), vs = [.ref a] ∧ RolAt K H a ns ∧ ns.length ≤ 63 ∧ ∀ H', Q (.bl true) H'
theorem rol_of {K : PySem.W.Frag} {H : Hp} {a : Addr} {ns : List Int} (o : Only H) (h : SqL K H a (ns.map V.int)) : RolAt K H a ns := by
  rcases h with (h | ⟨ob, h⟩) | h
  · rcases o a with e | ⟨ob, xs, e⟩ <;> rw [h] at e <;> cases e
  · exact .inl ⟨ob, h⟩
  · exact .inr h
theorem all_mk {l : PySem.W.OpenLaw} {w : World} {K : PySem.W.Frag} {h : Heap} {mg : Str → Option Value} {fa C f_is_alphabet f_init f_first_states f_last_states f_next_of f_next_set f_check_word f_has_last f_runs f_by_breadth f_determinized f_way_back f_ambiguity_paper f_judge_ambiguity f_law_deck f_law_take f_law_automaton f_law_made f_law_shortest f_law_is_run f_law_right f_law : Addr} (X : K.In h) (G : h.Ns mainGlobals mg) (hfa : mg "law" = some (.ref fa))
    {od_is_alphabet an_is_alphabet : Option Addr} {sl_is_alphabet : Array (Option Value)} {oc_is_alphabet kV_is_alphabet dc_is_alphabet pm_is_alphabet cd_is_alphabet ct_is_alphabet : Value}
    {od_init an_init : Option Addr} {sl_init : Array (Option Value)} {oc_init kV_init dc_init pm_init cd_init ct_init : Value}
    {od_first_states an_first_states : Option Addr} {sl_first_states : Array (Option Value)} {oc_first_states kV_first_states dc_first_states pm_first_states cd_first_states ct_first_states : Value}
    {od_last_states an_last_states : Option Addr} {sl_last_states : Array (Option Value)} {oc_last_states kV_last_states dc_last_states pm_last_states cd_last_states ct_last_states : Value}
    {od_next_of an_next_of : Option Addr} {sl_next_of : Array (Option Value)} {oc_next_of kV_next_of dc_next_of pm_next_of cd_next_of ct_next_of : Value}
    {od_next_set an_next_set : Option Addr} {sl_next_set : Array (Option Value)} {oc_next_set kV_next_set dc_next_set pm_next_set cd_next_set ct_next_set : Value}
    {od_check_word an_check_word : Option Addr} {sl_check_word : Array (Option Value)} {oc_check_word kV_check_word dc_check_word pm_check_word cd_check_word ct_check_word : Value}
    {od_has_last an_has_last : Option Addr} {sl_has_last : Array (Option Value)} {oc_has_last kV_has_last dc_has_last pm_has_last cd_has_last ct_has_last : Value}
    {od_runs an_runs : Option Addr} {sl_runs : Array (Option Value)} {oc_runs kV_runs dc_runs pm_runs cd_runs ct_runs : Value}
    {od_by_breadth an_by_breadth : Option Addr} {sl_by_breadth : Array (Option Value)} {oc_by_breadth kV_by_breadth dc_by_breadth pm_by_breadth cd_by_breadth ct_by_breadth : Value}
    {od_determinized an_determinized : Option Addr} {sl_determinized : Array (Option Value)} {oc_determinized kV_determinized dc_determinized pm_determinized cd_determinized ct_determinized : Value}
    {od_way_back an_way_back : Option Addr} {sl_way_back : Array (Option Value)} {oc_way_back kV_way_back dc_way_back pm_way_back cd_way_back ct_way_back : Value}
    {od_ambiguity_paper an_ambiguity_paper : Option Addr} {sl_ambiguity_paper : Array (Option Value)} {oc_ambiguity_paper kV_ambiguity_paper dc_ambiguity_paper pm_ambiguity_paper cd_ambiguity_paper ct_ambiguity_paper : Value}
    {od_judge_ambiguity an_judge_ambiguity : Option Addr} {sl_judge_ambiguity : Array (Option Value)} {oc_judge_ambiguity kV_judge_ambiguity dc_judge_ambiguity pm_judge_ambiguity cd_judge_ambiguity ct_judge_ambiguity : Value}
    {od_law_deck an_law_deck : Option Addr} {sl_law_deck : Array (Option Value)} {oc_law_deck kV_law_deck dc_law_deck pm_law_deck cd_law_deck ct_law_deck : Value}
    {od_law_take an_law_take : Option Addr} {sl_law_take : Array (Option Value)} {oc_law_take kV_law_take dc_law_take pm_law_take cd_law_take ct_law_take : Value}
    {od_law_automaton an_law_automaton : Option Addr} {sl_law_automaton : Array (Option Value)} {oc_law_automaton kV_law_automaton dc_law_automaton pm_law_automaton cd_law_automaton ct_law_automaton : Value}
    {od_law_made an_law_made : Option Addr} {sl_law_made : Array (Option Value)} {oc_law_made kV_law_made dc_law_made pm_law_made cd_law_made ct_law_made : Value}
    {od_law_shortest an_law_shortest : Option Addr} {sl_law_shortest : Array (Option Value)} {oc_law_shortest kV_law_shortest dc_law_shortest pm_law_shortest cd_law_shortest ct_law_shortest : Value}
    {od_law_is_run an_law_is_run : Option Addr} {sl_law_is_run : Array (Option Value)} {oc_law_is_run kV_law_is_run dc_law_is_run pm_law_is_run cd_law_is_run ct_law_is_run : Value}
    {od_law_right an_law_right : Option Addr} {sl_law_right : Array (Option Value)} {oc_law_right kV_law_right dc_law_right pm_law_right cd_law_right ct_law_right : Value}
    {od_law an_law : Option Addr} {sl_law : Array (Option Value)} {oc_law kV_law dc_law pm_law cd_law ct_law : Value}
    (a_is_alphabet : PySem.W.nsIn K mainGlobals "is_alphabet" = some (some (.ref f_is_alphabet)))
    (l_is_alphabet : K.lookup f_is_alphabet = some ⟨oc_is_alphabet, od_is_alphabet, .func (PySem.W.fnOf "is_alphabet" "is_alphabet" (defArgs s_is_alphabet) (defBody s_is_alphabet) (defScope s_is_alphabet) .none kV_is_alphabet dc_is_alphabet pm_is_alphabet an_is_alphabet cd_is_alphabet ct_is_alphabet), sl_is_alphabet⟩) (c_is_alphabet : PySem.W.codeIn K cd_is_alphabet "is_alphabet" = true) (k_is_alphabet : PySem.W.keepIn K (.ref f_is_alphabet) = true)
    (a_init : PySem.W.findIn K (.ref C) "__init__" = some (some (.ref f_init))) (i_init : PySem.W.isFn K (.ref f_init) = true)
    (l_init : K.lookup f_init = some ⟨oc_init, od_init, .func (PySem.W.fnOf "__init__" "Automaton.__init__" (defArgs s_init) (defBody s_init) (defScope s_init) .none kV_init dc_init pm_init an_init cd_init ct_init), sl_init⟩) (c_init : PySem.W.codeIn K cd_init "Automaton.__init__" = true) (k_init : PySem.W.keepIn K (.ref f_init) = true)
    (a_first_states : PySem.W.findIn K (.ref C) "first_states" = some (some (.ref f_first_states))) (i_first_states : PySem.W.isFn K (.ref f_first_states) = true)
    (l_first_states : K.lookup f_first_states = some ⟨oc_first_states, od_first_states, .func (PySem.W.fnOf "first_states" "Automaton.first_states" (defArgs s_first_states) (defBody s_first_states) (defScope s_first_states) .none kV_first_states dc_first_states pm_first_states an_first_states cd_first_states ct_first_states), sl_first_states⟩) (c_first_states : PySem.W.codeIn K cd_first_states "Automaton.first_states" = true) (k_first_states : PySem.W.keepIn K (.ref f_first_states) = true)
    (a_last_states : PySem.W.findIn K (.ref C) "last_states" = some (some (.ref f_last_states))) (i_last_states : PySem.W.isFn K (.ref f_last_states) = true)
    (l_last_states : K.lookup f_last_states = some ⟨oc_last_states, od_last_states, .func (PySem.W.fnOf "last_states" "Automaton.last_states" (defArgs s_last_states) (defBody s_last_states) (defScope s_last_states) .none kV_last_states dc_last_states pm_last_states an_last_states cd_last_states ct_last_states), sl_last_states⟩) (c_last_states : PySem.W.codeIn K cd_last_states "Automaton.last_states" = true) (k_last_states : PySem.W.keepIn K (.ref f_last_states) = true)
    (a_next_of : PySem.W.findIn K (.ref C) "next_of" = some (some (.ref f_next_of))) (i_next_of : PySem.W.isFn K (.ref f_next_of) = true)
    (l_next_of : K.lookup f_next_of = some ⟨oc_next_of, od_next_of, .func (PySem.W.fnOf "next_of" "Automaton.next_of" (defArgs s_next_of) (defBody s_next_of) (defScope s_next_of) .none kV_next_of dc_next_of pm_next_of an_next_of cd_next_of ct_next_of), sl_next_of⟩) (c_next_of : PySem.W.codeIn K cd_next_of "Automaton.next_of" = true) (k_next_of : PySem.W.keepIn K (.ref f_next_of) = true)
    (a_next_set : PySem.W.findIn K (.ref C) "next_set" = some (some (.ref f_next_set))) (i_next_set : PySem.W.isFn K (.ref f_next_set) = true)
    (l_next_set : K.lookup f_next_set = some ⟨oc_next_set, od_next_set, .func (PySem.W.fnOf "next_set" "Automaton.next_set" (defArgs s_next_set) (defBody s_next_set) (defScope s_next_set) .none kV_next_set dc_next_set pm_next_set an_next_set cd_next_set ct_next_set), sl_next_set⟩) (c_next_set : PySem.W.codeIn K cd_next_set "Automaton.next_set" = true) (k_next_set : PySem.W.keepIn K (.ref f_next_set) = true)
    (a_check_word : PySem.W.findIn K (.ref C) "check_word" = some (some (.ref f_check_word))) (i_check_word : PySem.W.isFn K (.ref f_check_word) = true)
    (l_check_word : K.lookup f_check_word = some ⟨oc_check_word, od_check_word, .func (PySem.W.fnOf "check_word" "Automaton.check_word" (defArgs s_check_word) (defBody s_check_word) (defScope s_check_word) .none kV_check_word dc_check_word pm_check_word an_check_word cd_check_word ct_check_word), sl_check_word⟩) (c_check_word : PySem.W.codeIn K cd_check_word "Automaton.check_word" = true) (k_check_word : PySem.W.keepIn K (.ref f_check_word) = true)
    (a_has_last : PySem.W.findIn K (.ref C) "has_last" = some (some (.ref f_has_last))) (i_has_last : PySem.W.isFn K (.ref f_has_last) = true)
    (l_has_last : K.lookup f_has_last = some ⟨oc_has_last, od_has_last, .func (PySem.W.fnOf "has_last" "Automaton.has_last" (defArgs s_has_last) (defBody s_has_last) (defScope s_has_last) .none kV_has_last dc_has_last pm_has_last an_has_last cd_has_last ct_has_last), sl_has_last⟩) (c_has_last : PySem.W.codeIn K cd_has_last "Automaton.has_last" = true) (k_has_last : PySem.W.keepIn K (.ref f_has_last) = true)
    (a_runs : PySem.W.findIn K (.ref C) "runs" = some (some (.ref f_runs))) (i_runs : PySem.W.isFn K (.ref f_runs) = true)
    (l_runs : K.lookup f_runs = some ⟨oc_runs, od_runs, .func (PySem.W.fnOf "runs" "Automaton.runs" (defArgs s_runs) (defBody s_runs) (defScope s_runs) .none kV_runs dc_runs pm_runs an_runs cd_runs ct_runs), sl_runs⟩) (c_runs : PySem.W.codeIn K cd_runs "Automaton.runs" = true) (k_runs : PySem.W.keepIn K (.ref f_runs) = true)
    (a_by_breadth : PySem.W.nsIn K mainGlobals "by_breadth" = some (some (.ref f_by_breadth)))
    (l_by_breadth : K.lookup f_by_breadth = some ⟨oc_by_breadth, od_by_breadth, .func (PySem.W.fnOf "by_breadth" "by_breadth" (defArgs s_by_breadth) (defBody s_by_breadth) (defScope s_by_breadth) .none kV_by_breadth dc_by_breadth pm_by_breadth an_by_breadth cd_by_breadth ct_by_breadth), sl_by_breadth⟩) (c_by_breadth : PySem.W.codeIn K cd_by_breadth "by_breadth" = true) (k_by_breadth : PySem.W.keepIn K (.ref f_by_breadth) = true)
    (a_determinized : PySem.W.nsIn K mainGlobals "determinized" = some (some (.ref f_determinized)))
    (l_determinized : K.lookup f_determinized = some ⟨oc_determinized, od_determinized, .func (PySem.W.fnOf "determinized" "determinized" (defArgs s_determinized) (defBody s_determinized) (defScope s_determinized) .none kV_determinized dc_determinized pm_determinized an_determinized cd_determinized ct_determinized), sl_determinized⟩) (c_determinized : PySem.W.codeIn K cd_determinized "determinized" = true) (k_determinized : PySem.W.keepIn K (.ref f_determinized) = true)
    (a_way_back : PySem.W.nsIn K mainGlobals "way_back" = some (some (.ref f_way_back)))
    (l_way_back : K.lookup f_way_back = some ⟨oc_way_back, od_way_back, .func (PySem.W.fnOf "way_back" "way_back" (defArgs s_way_back) (defBody s_way_back) (defScope s_way_back) .none kV_way_back dc_way_back pm_way_back an_way_back cd_way_back ct_way_back), sl_way_back⟩) (c_way_back : PySem.W.codeIn K cd_way_back "way_back" = true) (k_way_back : PySem.W.keepIn K (.ref f_way_back) = true)
    (a_ambiguity_paper : PySem.W.nsIn K mainGlobals "ambiguity_paper" = some (some (.ref f_ambiguity_paper)))
    (l_ambiguity_paper : K.lookup f_ambiguity_paper = some ⟨oc_ambiguity_paper, od_ambiguity_paper, .func (PySem.W.fnOf "ambiguity_paper" "ambiguity_paper" (defArgs s_ambiguity_paper) (defBody s_ambiguity_paper) (defScope s_ambiguity_paper) .none kV_ambiguity_paper dc_ambiguity_paper pm_ambiguity_paper an_ambiguity_paper cd_ambiguity_paper ct_ambiguity_paper), sl_ambiguity_paper⟩) (c_ambiguity_paper : PySem.W.codeIn K cd_ambiguity_paper "ambiguity_paper" = true) (k_ambiguity_paper : PySem.W.keepIn K (.ref f_ambiguity_paper) = true)
    (a_judge_ambiguity : PySem.W.nsIn K mainGlobals "judge_ambiguity" = some (some (.ref f_judge_ambiguity)))
    (l_judge_ambiguity : K.lookup f_judge_ambiguity = some ⟨oc_judge_ambiguity, od_judge_ambiguity, .func (PySem.W.fnOf "judge_ambiguity" "judge_ambiguity" (defArgs s_judge_ambiguity) (defBody s_judge_ambiguity) (defScope s_judge_ambiguity) .none kV_judge_ambiguity dc_judge_ambiguity pm_judge_ambiguity an_judge_ambiguity cd_judge_ambiguity ct_judge_ambiguity), sl_judge_ambiguity⟩) (c_judge_ambiguity : PySem.W.codeIn K cd_judge_ambiguity "judge_ambiguity" = true) (k_judge_ambiguity : PySem.W.keepIn K (.ref f_judge_ambiguity) = true)
    (a_law_deck : PySem.W.nsIn K mainGlobals "_law_deck" = some (some (.ref f_law_deck)))
    (l_law_deck : K.lookup f_law_deck = some ⟨oc_law_deck, od_law_deck, .func (PySem.W.fnOf "_law_deck" "_law_deck" (defArgs s_law_deck) (defBody s_law_deck) (defScope s_law_deck) .none kV_law_deck dc_law_deck pm_law_deck an_law_deck cd_law_deck ct_law_deck), sl_law_deck⟩) (c_law_deck : PySem.W.codeIn K cd_law_deck "_law_deck" = true) (k_law_deck : PySem.W.keepIn K (.ref f_law_deck) = true)
    (a_law_take : PySem.W.nsIn K mainGlobals "_law_take" = some (some (.ref f_law_take)))
    (l_law_take : K.lookup f_law_take = some ⟨oc_law_take, od_law_take, .func (PySem.W.fnOf "_law_take" "_law_take" (defArgs s_law_take) (defBody s_law_take) (defScope s_law_take) .none kV_law_take dc_law_take pm_law_take an_law_take cd_law_take ct_law_take), sl_law_take⟩) (c_law_take : PySem.W.codeIn K cd_law_take "_law_take" = true) (k_law_take : PySem.W.keepIn K (.ref f_law_take) = true)
    (a_law_automaton : PySem.W.nsIn K mainGlobals "_law_automaton" = some (some (.ref f_law_automaton)))
    (l_law_automaton : K.lookup f_law_automaton = some ⟨oc_law_automaton, od_law_automaton, .func (PySem.W.fnOf "_law_automaton" "_law_automaton" (defArgs s_law_automaton) (defBody s_law_automaton) (defScope s_law_automaton) .none kV_law_automaton dc_law_automaton pm_law_automaton an_law_automaton cd_law_automaton ct_law_automaton), sl_law_automaton⟩) (c_law_automaton : PySem.W.codeIn K cd_law_automaton "_law_automaton" = true) (k_law_automaton : PySem.W.keepIn K (.ref f_law_automaton) = true)
    (a_law_made : PySem.W.nsIn K mainGlobals "_law_made" = some (some (.ref f_law_made)))
    (l_law_made : K.lookup f_law_made = some ⟨oc_law_made, od_law_made, .func (PySem.W.fnOf "_law_made" "_law_made" (defArgs s_law_made) (defBody s_law_made) (defScope s_law_made) .none kV_law_made dc_law_made pm_law_made an_law_made cd_law_made ct_law_made), sl_law_made⟩) (c_law_made : PySem.W.codeIn K cd_law_made "_law_made" = true) (k_law_made : PySem.W.keepIn K (.ref f_law_made) = true)
    (a_law_shortest : PySem.W.nsIn K mainGlobals "_law_shortest" = some (some (.ref f_law_shortest)))
    (l_law_shortest : K.lookup f_law_shortest = some ⟨oc_law_shortest, od_law_shortest, .func (PySem.W.fnOf "_law_shortest" "_law_shortest" (defArgs s_law_shortest) (defBody s_law_shortest) (defScope s_law_shortest) .none kV_law_shortest dc_law_shortest pm_law_shortest an_law_shortest cd_law_shortest ct_law_shortest), sl_law_shortest⟩) (c_law_shortest : PySem.W.codeIn K cd_law_shortest "_law_shortest" = true) (k_law_shortest : PySem.W.keepIn K (.ref f_law_shortest) = true)
    (a_law_is_run : PySem.W.nsIn K mainGlobals "_law_is_run" = some (some (.ref f_law_is_run)))
    (l_law_is_run : K.lookup f_law_is_run = some ⟨oc_law_is_run, od_law_is_run, .func (PySem.W.fnOf "_law_is_run" "_law_is_run" (defArgs s_law_is_run) (defBody s_law_is_run) (defScope s_law_is_run) .none kV_law_is_run dc_law_is_run pm_law_is_run an_law_is_run cd_law_is_run ct_law_is_run), sl_law_is_run⟩) (c_law_is_run : PySem.W.codeIn K cd_law_is_run "_law_is_run" = true) (k_law_is_run : PySem.W.keepIn K (.ref f_law_is_run) = true)
    (a_law_right : PySem.W.nsIn K mainGlobals "_law_right" = some (some (.ref f_law_right)))
    (l_law_right : K.lookup f_law_right = some ⟨oc_law_right, od_law_right, .func (PySem.W.fnOf "_law_right" "_law_right" (defArgs s_law_right) (defBody s_law_right) (defScope s_law_right) .none kV_law_right dc_law_right pm_law_right an_law_right cd_law_right ct_law_right), sl_law_right⟩) (c_law_right : PySem.W.codeIn K cd_law_right "_law_right" = true) (k_law_right : PySem.W.keepIn K (.ref f_law_right) = true)
    (a_law : PySem.W.nsIn K mainGlobals "law" = some (some (.ref f_law)))
    (l_law : K.lookup f_law = some ⟨oc_law, od_law, .func (PySem.W.fnOf "law" "law" (defArgs s_law) (defBody s_law) (defScope s_law) .none kV_law dc_law pm_law an_law cd_law ct_law), sl_law⟩) (c_law : PySem.W.codeIn K cd_law "law" = true) (k_law : PySem.W.keepIn K (.ref f_law) = true)
    {t_MOST_RUNS t_MOST_STATES : Tok}
    (aC : PySem.W.nsIn K mainGlobals "Automaton" = some (some (.ref C)))
    (pg : PySem.W.plainGet K C Str.empty = true)
    (hd : PySem.W.hasDictIn K C = true)
    (po : PySem.W.plainOver K C = true)
    (sa : PySem.W.findIn K (.ref C) "__setattr__" = some (some (.builtin "object.__setattr__")))
    (mk : PySem.W.makesIn K C = true)
    (kc : PySem.W.keepIn K (.ref C) = true)
    (n_alphabet : PySem.W.findIn K (.ref C) "alphabet" = some none)
    (n_size : PySem.W.findIn K (.ref C) "size" = some none)
    (n_begins : PySem.W.findIn K (.ref C) "begins" = some none)
    (n_ends : PySem.W.findIn K (.ref C) "ends" = some none)
    (n_rows : PySem.W.findIn K (.ref C) "rows" = some none)
    (n_ways : PySem.W.findIn K (.ref C) "ways" = some none)
    (z_len : PySem.W.nsIn K mainGlobals "len" = some none)
    (z_abs : PySem.W.nsIn K mainGlobals "abs" = some none)
    (z_int : PySem.W.nsIn K mainGlobals "int" = some none)
    (z_list : PySem.W.nsIn K mainGlobals "list" = some none)
    (z_tuple : PySem.W.nsIn K mainGlobals "tuple" = some none)
    (z_sorted : PySem.W.nsIn K mainGlobals "sorted" = some none)
    (z_set : PySem.W.nsIn K mainGlobals "set" = some none)
    (z_range : PySem.W.nsIn K mainGlobals "range" = some none)
    (bg : PySem.W.specialIn K (.ref f_next_set) "__get__" = some (some (.builtin "function.__get__")))
    (bt : PySem.W.takesIn K (.ref f_next_set) = some false)
    (bf : PySem.W.fnIn K f_next_set = true)
    (g_MOST_RUNS : PySem.W.nsIn K mainGlobals "MOST_RUNS" = some (some (.int 20000 t_MOST_RUNS)))
    (g_MOST_STATES : PySem.W.nsIn K mainGlobals "MOST_STATES" = some (some (.int 4000 t_MOST_STATES)))
    : ∃ fd : FuncData, (∀ (s : Shared) (v : Value), BindsTo s fd ⟨[v], []⟩ [("script", v)]) ∧ ∀ base : Heap, K.In base → base.Ns mainGlobals mg → FnOk l.prog w K mg base CX0 5 fa fd ["script"] (spLaw K) := by
  have e := hfa.symm.trans (PySem.W.mg_of X G a_law)
  cases e
  obtain ⟨c, hc⟩ : ∃ c : Cz, c = ⟨l.prog, w, K, fun _ => C, fun _ => f_next_set⟩ := ⟨_, rfl⟩
  have hcl : c.cl = fun _ => C := by rw [hc]
  have hmt : c.mt = fun _ => f_next_set := by rw [hc]
  have eP : c.P = l.prog := by rw [hc]
  have ew : c.w = w := by rw [hc]
  have eK : c.K = K := by rw [hc]
  clear hc
  subst eK ew
  have NS : c.mt "next_set" = f_next_set := by rw [hmt]
  have TC : TCls c mg := by
    refine ⟨?_, ?_, ?_, ?_, ?_, ?_, ?_, ?_, ?_⟩ <;> rw [hcl]
    · exact ⟨pg, hd, po, sa⟩
    · exact PySem.W.mg_of X G aC
    · exact n_alphabet
    · exact n_size
    · exact n_begins
    · exact n_ends
    · exact n_rows
    · exact n_ways
    · rw [hmt]; exact ⟨⟨a_next_set, i_next_set, k_next_set⟩, bg, bt, by decide +kernel, bf⟩
  have B : Blt mg := ⟨PySem.W.mg_none_of X G z_len, PySem.W.mg_none_of X G z_abs, PySem.W.mg_none_of X G z_int, PySem.W.mg_none_of X G z_list, PySem.W.mg_none_of X G z_tuple, PySem.W.mg_none_of X G z_sorted, PySem.W.mg_none_of X G z_set, PySem.W.mg_none_of X G z_range⟩
  have F_is_alphabet := fun_mk (st := s_is_alphabet) l_is_alphabet c_is_alphabet k_is_alphabet
  have B_is_alphabet := F_is_alphabet.binds (ps := ["letters"]) fun _ _ _ _ _ _ us hl => match us, hl with | [_], _ => rfl
  have M_is_alphabet := PySem.W.mg_of X G a_is_alphabet
  have F_init := fun_mk (st := s_init) l_init c_init k_init
  have B_init := F_init.binds (ps := ["self", "alphabet", "size", "first", "last", "steps"]) fun _ _ _ _ _ _ us hl => match us, hl with | [_, _, _, _, _, _], _ => rfl
  have F_first_states := fun_mk (st := s_first_states) l_first_states c_first_states k_first_states
  have B_first_states := F_first_states.binds (ps := ["self"]) fun _ _ _ _ _ _ us hl => match us, hl with | [_], _ => rfl
  have Q_first_states : Meth c.K (c.cl "Automaton") "first_states" f_first_states := by rw [hcl]; exact ⟨a_first_states, i_first_states, k_first_states⟩
  have F_last_states := fun_mk (st := s_last_states) l_last_states c_last_states k_last_states
  have B_last_states := F_last_states.binds (ps := ["self"]) fun _ _ _ _ _ _ us hl => match us, hl with | [_], _ => rfl
  have Q_last_states : Meth c.K (c.cl "Automaton") "last_states" f_last_states := by rw [hcl]; exact ⟨a_last_states, i_last_states, k_last_states⟩
  have F_next_of := fun_mk (st := s_next_of) l_next_of c_next_of k_next_of
  have B_next_of := F_next_of.binds (ps := ["self", "state", "letter"]) fun _ _ _ _ _ _ us hl => match us, hl with | [_, _, _], _ => rfl
  have Q_next_of : Meth c.K (c.cl "Automaton") "next_of" f_next_of := by rw [hcl]; exact ⟨a_next_of, i_next_of, k_next_of⟩
  have F_next_set := fun_mk (st := s_next_set) l_next_set c_next_set k_next_set
  have B_next_set := F_next_set.binds (ps := ["self", "states", "letter"]) fun _ _ _ _ _ _ us hl => match us, hl with | [_, _, _], _ => rfl
  have F_check_word := fun_mk (st := s_check_word) l_check_word c_check_word k_check_word
  have B_check_word := F_check_word.binds (ps := ["self", "word"]) fun _ _ _ _ _ _ us hl => match us, hl with | [_, _], _ => rfl
  have Q_check_word : Meth c.K (c.cl "Automaton") "check_word" f_check_word := by rw [hcl]; exact ⟨a_check_word, i_check_word, k_check_word⟩
  have F_has_last := fun_mk (st := s_has_last) l_has_last c_has_last k_has_last
  have B_has_last := F_has_last.binds (ps := ["self", "states"]) fun _ _ _ _ _ _ us hl => match us, hl with | [_, _], _ => rfl
  have Q_has_last : Meth c.K (c.cl "Automaton") "has_last" f_has_last := by rw [hcl]; exact ⟨a_has_last, i_has_last, k_has_last⟩
  have F_runs := fun_mk (st := s_runs) l_runs c_runs k_runs
  have B_runs := F_runs.binds (ps := ["self", "word"]) fun _ _ _ _ _ _ us hl => match us, hl with | [_, _], _ => rfl
  have Q_runs : Meth c.K (c.cl "Automaton") "runs" f_runs := by rw [hcl]; exact ⟨a_runs, i_runs, k_runs⟩
  have F_by_breadth := fun_mk (st := s_by_breadth) l_by_breadth c_by_breadth k_by_breadth
  have B_by_breadth := F_by_breadth.binds (ps := ["start", "letters", "leads", "most"]) fun _ _ _ _ _ _ us hl => match us, hl with | [_, _, _, _], _ => rfl
  have M_by_breadth := PySem.W.mg_of X G a_by_breadth
  have F_determinized := fun_mk (st := s_determinized) l_determinized c_determinized k_determinized
  have B_determinized := F_determinized.binds (ps := ["automaton"]) fun _ _ _ _ _ _ us hl => match us, hl with | [_], _ => rfl
  have M_determinized := PySem.W.mg_of X G a_determinized
  have F_way_back := fun_mk (st := s_way_back) l_way_back c_way_back k_way_back
  have B_way_back := F_way_back.binds (ps := ["known", "here"]) fun _ _ _ _ _ _ us hl => match us, hl with | [_, _], _ => rfl
  have M_way_back := PySem.W.mg_of X G a_way_back
  have F_ambiguity_paper := fun_mk (st := s_ambiguity_paper) l_ambiguity_paper c_ambiguity_paper k_ambiguity_paper
  have B_ambiguity_paper := F_ambiguity_paper.binds (ps := ["automaton"]) fun _ _ _ _ _ _ us hl => match us, hl with | [_], _ => rfl
  have M_ambiguity_paper := PySem.W.mg_of X G a_ambiguity_paper
  have F_judge_ambiguity := fun_mk (st := s_judge_ambiguity) l_judge_ambiguity c_judge_ambiguity k_judge_ambiguity
  have B_judge_ambiguity := F_judge_ambiguity.binds (ps := ["automaton", "paper"]) fun _ _ _ _ _ _ us hl => match us, hl with | [_, _], _ => rfl
  have M_judge_ambiguity := PySem.W.mg_of X G a_judge_ambiguity
  have F_law_deck := fun_mk (st := s_law_deck) l_law_deck c_law_deck k_law_deck
  have B_law_deck := F_law_deck.binds (ps := ["script", "cells", "each"]) fun _ _ _ _ _ _ us hl => match us, hl with | [_, _, _], _ => rfl
  have M_law_deck := PySem.W.mg_of X G a_law_deck
  have F_law_take := fun_mk (st := s_law_take) l_law_take c_law_take k_law_take
  have B_law_take := F_law_take.binds (ps := ["deck", "many"]) fun _ _ _ _ _ _ us hl => match us, hl with | [_, _], _ => rfl
  have M_law_take := PySem.W.mg_of X G a_law_take
  have F_law_automaton := fun_mk (st := s_law_automaton) l_law_automaton c_law_automaton k_law_automaton
  have B_law_automaton := F_law_automaton.binds (ps := ["deck", "letters", "most"]) fun _ _ _ _ _ _ us hl => match us, hl with | [_, _, _], _ => rfl
  have M_law_automaton := PySem.W.mg_of X G a_law_automaton
  have F_law_made := fun_mk (st := s_law_made) l_law_made c_law_made k_law_made
  have B_law_made := F_law_made.binds (ps := ["parts"]) fun _ _ _ _ _ _ us hl => match us, hl with | [_], _ => rfl
  have M_law_made := PySem.W.mg_of X G a_law_made
  have F_law_shortest := fun_mk (st := s_law_shortest) l_law_shortest c_law_shortest k_law_shortest
  have B_law_shortest := F_law_shortest.binds (ps := ["parts"]) fun _ _ _ _ _ _ us hl => match us, hl with | [_], _ => rfl
  have M_law_shortest := PySem.W.mg_of X G a_law_shortest
  have F_law_is_run := fun_mk (st := s_law_is_run) l_law_is_run c_law_is_run k_law_is_run
  have B_law_is_run := F_law_is_run.binds (ps := ["parts", "word", "run"]) fun _ _ _ _ _ _ us hl => match us, hl with | [_, _, _], _ => rfl
  have M_law_is_run := PySem.W.mg_of X G a_law_is_run
  have F_law_right := fun_mk (st := s_law_right) l_law_right c_law_right k_law_right
  have B_law_right := F_law_right.binds (ps := ["parts", "paper"]) fun _ _ _ _ _ _ us hl => match us, hl with | [_, _], _ => rfl
  have M_law_right := PySem.W.mg_of X G a_law_right
  have F_law := fun_mk (st := s_law) l_law c_law k_law
  have B_law := F_law.binds (ps := ["script"]) fun _ _ _ _ _ _ us hl => match us, hl with | [_], _ => rfl
  have M_law := PySem.W.mg_of X G a_law
  have MK : Mk c.K (c.cl "Automaton") f_init := by rw [hcl]; exact ⟨mk, a_init, i_init, kc⟩
  have gg_MOST_RUNS := PySem.W.mg_of X G g_MOST_RUNS
  have gg_MOST_STATES := PySem.W.mg_of X G g_MOST_STATES
  refine ⟨PySem.W.fnOf "law" "law" (defArgs s_law) (defBody s_law) (defScope s_law) .none kV_law dc_law pm_law an_law cd_law ct_law, fun s v => .of_eq rfl, fun base _ _ => ?_⟩
  have O_is_alphabet := ok_is_alphabet (c := c) (mg := mg) (base := base) TC B F_is_alphabet
  have O_init := ok_init (c := c) (mg := mg) (base := base) TC B F_init O_is_alphabet B_is_alphabet M_is_alphabet k_is_alphabet
  have O_first_states := ok_first_states (c := c) (mg := mg) (base := base) TC B F_first_states
  have O_last_states := ok_last_states (c := c) (mg := mg) (base := base) TC B F_last_states
  have O_next_of := ok_next_of (c := c) (mg := mg) (base := base) TC B F_next_of
  have O_next_set := ok_next_set (c := c) (mg := mg) (base := base) TC B F_next_set O_next_of B_next_of Q_next_of
  have O_ns := O_next_set
  rw [← NS] at O_ns
  have O_check_word := ok_check_word (c := c) (mg := mg) (base := base) TC B F_check_word
  have O_has_last := ok_has_last (c := c) (mg := mg) (base := base) TC B F_has_last
  have O_runs := ok_runs (c := c) (mg := mg) (base := base) TC B F_runs O_next_of B_next_of Q_next_of O_check_word B_check_word Q_check_word gg_MOST_RUNS
  have O_by_breadth := ok_by_breadth (c := c) (mg := mg) (base := base) TC B F_by_breadth (f_next_set := f_next_set) O_ns B_next_set
  have O_determinized := ok_determinized (c := c) (mg := mg) (base := base) TC B F_determinized O_init B_init MK O_has_last B_has_last Q_has_last O_first_states B_first_states Q_first_states O_by_breadth B_by_breadth M_by_breadth k_by_breadth gg_MOST_STATES
  have O_way_back := ok_way_back (c := c) (mg := mg) (base := base) TC B F_way_back
  have O_ambiguity_paper := ok_ambiguity_paper (c := c) (mg := mg) (base := base) TC B F_ambiguity_paper O_next_of B_next_of Q_next_of O_last_states B_last_states Q_last_states O_way_back B_way_back M_way_back k_way_back O_first_states B_first_states Q_first_states
  have O_judge_ambiguity := ok_judge_ambiguity (c := c) (mg := mg) (base := base) TC B F_judge_ambiguity O_next_of B_next_of Q_next_of O_last_states B_last_states Q_last_states O_first_states B_first_states Q_first_states
  have O_law_deck := ok_law_deck (c := c) (mg := mg) (base := base) TC B F_law_deck
  have O_law_take := ok_law_take (c := c) (mg := mg) (base := base) TC B F_law_take
  have O_law_automaton := ok_law_automaton (c := c) (mg := mg) (base := base) TC B F_law_automaton O_law_take B_law_take M_law_take k_law_take
  have O_law_made := ok_law_made (c := c) (mg := mg) (base := base) TC B F_law_made O_init B_init MK
  have O_law_shortest := ok_law_shortest (c := c) (mg := mg) (base := base) TC B F_law_shortest
  have O_law_is_run := ok_law_is_run (c := c) (mg := mg) (base := base) TC B F_law_is_run
  have O_law_right := ok_law_right (c := c) (mg := mg) (base := base) TC B F_law_right O_law_is_run B_law_is_run M_law_is_run k_law_is_run
  have O_law := ok_law (c := c) (mg := mg) (base := base) TC B F_law O_runs B_runs Q_runs O_law_take B_law_take M_law_take k_law_take O_determinized B_determinized M_determinized k_determinized O_ambiguity_paper B_ambiguity_paper M_ambiguity_paper k_ambiguity_paper O_judge_ambiguity B_judge_ambiguity M_judge_ambiguity k_judge_ambiguity O_law_right B_law_right M_law_right k_law_right O_law_shortest B_law_shortest M_law_shortest k_law_shortest O_law_made B_law_made M_law_made k_law_made O_law_automaton B_law_automaton M_law_automaton k_law_automaton O_law_deck B_law_deck M_law_deck k_law_deck
  rw [eP] at O_law
  refine O_law.imp fun vs H Q E ⟨a, ns, ev, hr, hl, q⟩ => ?_
  subst ev
  obtain ⟨st, hst⟩ := law_holds ns hl
  exact ⟨[.rol ns], [], [], rfl, RepL.cons ⟨a, rfl, hr⟩ RepL.nil, ⟨rfl, List.nodup_nil, fun n mo a h => by simp at h⟩, .bl true, st, hst, fun v H1 μ1 _ _ rv => by cases rv; exact q H1⟩
theorem walk {l : PySem.W.OpenLaw} {q : Program} {loose : List Str} {XP : (Str → Option Value) → Heap → Prop} {YP : World → Heap → Prop} {d : DefRec} {K : Params → PySem.W.Frag} (hn : l.most = some 63) (hdf : d.params.defaults = [])
    (hY : ∀ (w : World) (h : Heap), YP w h → (K w.params).In h)
    (F : ∀ (w : World) (mg : Str → Option Value) (fa : Addr) (h : Heap), (K w.params).In h → h.Ns mainGlobals mg → mg d.name = some (.ref fa) →
      ∃ fd : FuncData, (∀ (s : Shared) (u : Value), BindsTo s fd ⟨[u], []⟩ [("script", u)]) ∧ ∀ base : Heap, (K w.params).In base → base.Ns mainGlobals mg → FnOk l.prog w (K w.params) mg base CX0 5 fa fd ["script"] (spLaw (K w.params))) :
    PySem.W.WalkO q loose XP YP l.row.toRowW d [] (fun f vs => PySem.call f vs) :=
  L2.walk_of (n := 63) (k := 5) (x := "script") (CX := fun _ => CX0) (sp := fun w => spLaw (K w.params)) hn (by decide) hdf ⟨rfl, by decide, by decide⟩ hY F (fun _ _ a ns hl o hS => ⟨a, ns, rfl, rol_of o hS, hl, fun _ => rfl⟩) fun _ _ _ _ _ z => z
end Lw
open PySem PySem.W PyProof.Rows
set_option maxRecDepth 100000 in
set_option maxHeartbeats 0 in
theorem PySem.Challenge.cw_langwork_k74_whole_two_runs_holds : PySem.Challenge.rw_langwork_k74_whole_two_runs.Holds := by
  w_on; o_law; k_head; (case hw => w_witness2)
  k_fill
  refine Lw.walk (l := PySem.Challenge.rw_langwork_k74_whole_two_runs) rfl rfl (fun w h Y => PySem.W.kIn_of Y) ?F
  case F =>
    intro w mg fa h KX G hmg0
    have hmg : mg "law" = some (.ref fa) := hmg0
    clear hmg0
    refine' Lw.all_mk KX G hmg ?a_is_alphabet ?l_is_alphabet ?c_is_alphabet ?k_is_alphabet ?a_init ?i_init ?l_init ?c_init ?k_init ?a_first_states ?i_first_states ?l_first_states ?c_first_states ?k_first_states ?a_last_states ?i_last_states ?l_last_states ?c_last_states ?k_last_states ?a_next_of ?i_next_of ?l_next_of ?c_next_of ?k_next_of ?a_next_set ?i_next_set ?l_next_set ?c_next_set ?k_next_set ?a_check_word ?i_check_word ?l_check_word ?c_check_word ?k_check_word ?a_has_last ?i_has_last ?l_has_last ?c_has_last ?k_has_last ?a_runs ?i_runs ?l_runs ?c_runs ?k_runs ?a_by_breadth ?l_by_breadth ?c_by_breadth ?k_by_breadth ?a_determinized ?l_determinized ?c_determinized ?k_determinized ?a_way_back ?l_way_back ?c_way_back ?k_way_back ?a_ambiguity_paper ?l_ambiguity_paper ?c_ambiguity_paper ?k_ambiguity_paper ?a_judge_ambiguity ?l_judge_ambiguity ?c_judge_ambiguity ?k_judge_ambiguity ?a_law_deck ?l_law_deck ?c_law_deck ?k_law_deck ?a_law_take ?l_law_take ?c_law_take ?k_law_take ?a_law_automaton ?l_law_automaton ?c_law_automaton ?k_law_automaton ?a_law_made ?l_law_made ?c_law_made ?k_law_made ?a_law_shortest ?l_law_shortest ?c_law_shortest ?k_law_shortest ?a_law_is_run ?l_law_is_run ?c_law_is_run ?k_law_is_run ?a_law_right ?l_law_right ?c_law_right ?k_law_right ?a_law ?l_law ?c_law ?k_law ?aC ?pg ?hd ?po ?sa ?mk ?kc ?n_alphabet ?n_size ?n_begins ?n_ends ?n_rows ?n_ways ?z_len ?z_abs ?z_int ?z_list ?z_tuple ?z_sorted ?z_set ?z_range ?bg ?bt ?bf ?g_MOST_RUNS ?g_MOST_STATES
    (case aC => k_is); (case a_is_alphabet => k_is); (case l_is_alphabet => k_is); (case c_is_alphabet => k_is); (case k_is_alphabet => k_is); (case a_init => k_is); (case i_init => k_is); (case l_init => k_is)
    (case c_init => k_is); (case k_init => k_is); (case a_first_states => k_is); (case i_first_states => k_is); (case l_first_states => k_is); (case c_first_states => k_is); (case k_first_states => k_is); (case a_last_states => k_is)
    (case i_last_states => k_is); (case l_last_states => k_is); (case c_last_states => k_is); (case k_last_states => k_is); (case a_next_of => k_is); (case i_next_of => k_is); (case l_next_of => k_is); (case c_next_of => k_is)
    (case k_next_of => k_is); (case a_next_set => k_is); (case i_next_set => k_is); (case l_next_set => k_is); (case c_next_set => k_is); (case k_next_set => k_is); (case a_check_word => k_is); (case i_check_word => k_is)
    (case l_check_word => k_is); (case c_check_word => k_is); (case k_check_word => k_is); (case a_has_last => k_is); (case i_has_last => k_is); (case l_has_last => k_is); (case c_has_last => k_is); (case k_has_last => k_is)
    (case a_runs => k_is); (case i_runs => k_is); (case l_runs => k_is); (case c_runs => k_is); (case k_runs => k_is); (case a_by_breadth => k_is); (case l_by_breadth => k_is); (case c_by_breadth => k_is)
    (case k_by_breadth => k_is); (case a_determinized => k_is); (case l_determinized => k_is); (case c_determinized => k_is); (case k_determinized => k_is); (case a_way_back => k_is); (case l_way_back => k_is); (case c_way_back => k_is)
    (case k_way_back => k_is); (case a_ambiguity_paper => k_is); (case l_ambiguity_paper => k_is); (case c_ambiguity_paper => k_is); (case k_ambiguity_paper => k_is); (case a_judge_ambiguity => k_is); (case l_judge_ambiguity => k_is); (case c_judge_ambiguity => k_is)
    (case k_judge_ambiguity => k_is); (case a_law_deck => k_is); (case l_law_deck => k_is); (case c_law_deck => k_is); (case k_law_deck => k_is); (case a_law_take => k_is); (case l_law_take => k_is); (case c_law_take => k_is)
    (case k_law_take => k_is); (case a_law_automaton => k_is); (case l_law_automaton => k_is); (case c_law_automaton => k_is); (case k_law_automaton => k_is); (case a_law_made => k_is); (case l_law_made => k_is); (case c_law_made => k_is)
    (case k_law_made => k_is); (case a_law_shortest => k_is); (case l_law_shortest => k_is); (case c_law_shortest => k_is); (case k_law_shortest => k_is); (case a_law_is_run => k_is); (case l_law_is_run => k_is); (case c_law_is_run => k_is)
    (case k_law_is_run => k_is); (case a_law_right => k_is); (case l_law_right => k_is); (case c_law_right => k_is); (case k_law_right => k_is); (case a_law => k_is); (case l_law => k_is); (case c_law => k_is)
    (case k_law => k_is); (case pg => k_is); (case hd => k_is); (case po => k_is); (case sa => k_is); (case mk => k_is); (case kc => k_is); (case n_alphabet => k_is)
    (case n_size => k_is); (case n_begins => k_is); (case n_ends => k_is); (case n_rows => k_is); (case n_ways => k_is); (case z_len => k_is); (case z_abs => k_is); (case z_int => k_is)
    (case z_list => k_is); (case z_tuple => k_is); (case z_sorted => k_is); (case z_set => k_is); (case z_range => k_is); (case bg => k_is); (case bt => k_is); (case bf => k_is)
    (case g_MOST_RUNS => k_is); (case g_MOST_STATES => k_is)
end
