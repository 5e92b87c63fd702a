import PyProof.Rows.All
import Wide.All
import OpenK.AllK
import Wide.FinOn
import HandS.ForMost
import HandS.Evl
import HandS.TupAny
import HandS.Conv
import HandS.Style
import HandS.IsInst
import HandS.TupSets
import HandS.Deep
import KE.DataEq
import KE.DataFind
import HandS.More
import HandS.Small
import KE.SortData
import PyProof.TupleOfSeq
import HandS.WordsList
import HandS.Zip
import KE.KDictDisplayH
import KE.KDictCopyH
import KE.KDictPairs
import KE.KDictKeyed
import HandS.SetKeys
import KE.DataMinMax
import HandS.DictTup
import PyProof.DictMoreH
import PyProof.Claim2Refuses
import PySem.Challenge.RW_pointedties_k55_exchanges_of_neighbours
set_option Elab.async false
set_option linter.all false
set_option maxRecDepth 100000
/-! The layer over HandS: values with tuples by value, objects in a store by number. -/
namespace AL
open PySem PySem.Spec PyProof.Rows L2

/-- a value: tuples by value, a list, a dict, an instance by its number in the store -/
inductive W where
  | non | bl (b : Bool) | int (i : Int) | str (x : Str) | tup (ws : List W) | ref (n : Nat) | scr (ns : List Int) | ty (n : String) | adr (a : Addr)
/-- an object -/
inductive O where
  | lst (ws : List W)
  | dK (kvs : List (Key × W)) | dT (kvs : List (List Key × W))
  | ins (C : Addr) (fs : List (Str × W))
  | fz (o : O)
abbrev Sto := List O
abbrev En := List (Option W)

/-- the script: a list that is known to its object, or stands in the written part -/
def SqF (K : PySem.W.Frag) (H : Hp) (a : Addr) (xs : List V) : Prop := (∃ o, H a = some (.frz o (.lst xs))) ∨
    ∃ (o : Obj) (its : Array Value) (n : Nat), K.lookup a = some o ∧ o.cls = .type "list" ∧ o.dict = none ∧ o.data = .seq its n ∧ its.size ≤ sizeLine ∧ Vals xs its.toList
theorem SqF.l {K : PySem.W.Frag} {H : Hp} {a : Addr} {xs : List V} (h : SqF K H a xs) : SqL K H a xs := by
  rcases h with ⟨o, h⟩ | h
  · exact .inl (.inr ⟨o, h⟩)
  · exact .inr h
mutual
inductive RepV (K : PySem.W.Frag) (φ : List Addr) (H : Hp) : W → V → Prop
  | non : RepV K φ H .non .non
  | bl {b : Bool} : RepV K φ H (.bl b) (.bl b)
  | int {i : Int} : RepV K φ H (.int i) (.int i)
  | str {x : Str} : RepV K φ H (.str x) (.str x)
  | tup {ws : List W} {a : Addr} {vs : List V} : H a = some (.tup vs) → RepVs K φ H ws vs → RepV K φ H (.tup ws) (.ref a)
  | ref {n : Nat} {a : Addr} : φ[n]? = some a → RepV K φ H (.ref n) (.ref a)
  | scr {ns : List Int} {a : Addr} : SqF K H a (ns.map V.int) → RepV K φ H (.scr ns) (.ref a)
  | ty {n : String} : RepV K φ H (.ty n) (.ty n)
  | adr {a : Addr} : RepV K φ H (.adr a) (.ref a)
inductive RepVs (K : PySem.W.Frag) (φ : List Addr) (H : Hp) : List W → List V → Prop
  | nil : RepVs K φ H [] []
  | cons {w : W} {ws : List W} {v : V} {vs : List V} : RepV K φ H w v → RepVs K φ H ws vs → RepVs K φ H (w :: ws) (v :: vs)
end

/-- the tuples stay -/
structure Kp (K : PySem.W.Frag) (H H' : Hp) : Prop where
  t : ∀ a vs, H a = some (.tup vs) → H' a = some (.tup vs)
  z : ∀ a ob u, H a = some (.frz ob u) → H' a = some (.frz ob u)
theorem Kp.f {K : PySem.W.Frag} {H H' : Hp} (k : Kp K H H') : ∀ a vs, SqF K H a vs → SqF K H' a vs := fun a vs h => by
  rcases h with ⟨o, h⟩ | h
  · exact .inl ⟨o, k.z _ _ _ h⟩
  · exact .inr h
theorem Kp.refl {K : PySem.W.Frag} {H : Hp} : Kp K H H := ⟨fun _ _ h => h, fun _ _ _ h => h⟩
theorem Kp.trans {K : PySem.W.Frag} {H H1 H2 : Hp} (a : Kp K H H1) (b : Kp K H1 H2) : Kp K H H2 := ⟨fun c vs h => b.t c vs (a.t c vs h), fun c o u h => b.z c o u (a.z c o u h)⟩
theorem Kp.new {K : PySem.W.Frag} {H : Hp} {p : Addr} {u : HO} (n : H p = none) : Kp K H (upd H p u) :=
  ⟨fun b vs h => by rw [upd_ne (ne_of_none h n)]; exact h, fun b o v h => by rw [upd_ne (ne_of_none h n)]; exact h⟩
/-- an object that is no tuple, and is not locked -/
def NoTup : HO → Prop
  | .tup _ => False
  | .frz _ _ => False
  | _ => True
theorem Kp.put {K : PySem.W.Frag} {H : Hp} {a : Addr} {o u : HO} (e : H a = some o) (n : NoTup o) : Kp K H (upd H a u) := by
  refine ⟨fun b vs h => ?_, fun b q v h => ?_⟩ <;>
  · rw [upd_ne]
    · exact h
    · rintro rfl
      rw [h] at e; cases e; exact n

/-- the tuples and the script stay -/
structure Kw (K : PySem.W.Frag) (H H' : Hp) : Prop where
  t : ∀ a vs, H a = some (.tup vs) → H' a = some (.tup vs)
  f : ∀ a vs, SqF K H a vs → SqF K H' a vs
theorem Kp.w {K : PySem.W.Frag} {H H' : Hp} (k : Kp K H H') : Kw K H H' := ⟨k.t, k.f⟩
instance {K : PySem.W.Frag} {H H' : Hp} : Coe (Kp K H H') (Kw K H H') := ⟨Kp.w⟩
section
variable {K : PySem.W.Frag} {φ φ' : List Addr} {H H' : Hp}
theorem pre_get {n : Nat} {a : Addr} (p : φ <+: φ') (h : φ[n]? = some a) : φ'[n]? = some a := by
  obtain ⟨t, rfl⟩ := p
  have hn : n < φ.length := (List.getElem?_eq_some_iff.mp h).1
  rw [List.getElem?_append_left hn]; exact h
mutual
theorem RepV.mono (p : φ <+: φ') (k : Kw K H H') : ∀ {w : W} {v : V}, RepV K φ H w v → RepV K φ' H' w v
  | _, _, .non => .non
  | _, _, .bl => .bl
  | _, _, .int => .int
  | _, _, .str => .str
  | _, _, .tup s r => .tup (k.t _ _ s) (RepVs.mono p k r)
  | _, _, .ref e => .ref (pre_get p e)
  | _, _, .scr s => .scr (k.f _ _ s)
  | _, _, .ty => .ty
  | _, _, .adr => .adr
theorem RepVs.mono (p : φ <+: φ') (k : Kw K H H') : ∀ {ws : List W} {vs : List V}, RepVs K φ H ws vs → RepVs K φ' H' ws vs
  | _, _, .nil => .nil
  | _, _, .cons r s => .cons (RepV.mono p k r) (RepVs.mono p k s)
end
theorem RepVs.length : ∀ {ws : List W} {vs : List V}, RepVs K φ H ws vs → ws.length = vs.length
  | _, _, .nil => rfl
  | _, _, .cons _ s => congrArg (· + 1) (RepVs.length s)
theorem RepVs.get : ∀ {ws : List W} {vs : List V} {i : Nat} {w : W}, RepVs K φ H ws vs → ws[i]? = some w → ∃ v, vs[i]? = some v ∧ RepV K φ H w v
  | _, _, _, _, .nil, h => by simp at h
  | _, _, 0, _, .cons r _, h => by simp at h; subst h; exact ⟨_, rfl, r⟩
  | _, _, i + 1, w, .cons _ s, h => by
    obtain ⟨v, e, r⟩ := RepVs.get (i := i) (w := w) s (by simpa using h)
    exact ⟨v, by simpa using e, r⟩
theorem RepVs.getV : ∀ {ws : List W} {vs : List V} {i : Nat} {v : V}, RepVs K φ H ws vs → vs[i]? = some v → ∃ w, ws[i]? = some w ∧ RepV K φ H w v
  | _, _, _, _, .nil, h => by simp at h
  | _, _, 0, _, .cons r _, h => by simp at h; subst h; exact ⟨_, rfl, r⟩
  | _, _, i + 1, v, .cons _ s, h => by
    obtain ⟨w, e, r⟩ := RepVs.getV (i := i) (v := v) s (by simpa using h)
    exact ⟨w, by simpa using e, r⟩
theorem RepVs.append : ∀ {ws xs : List W} {vs us : List V}, RepVs K φ H ws vs → RepVs K φ H xs us → RepVs K φ H (ws ++ xs) (vs ++ us)
  | _, _, _, _, .nil, s => s
  | _, _, _, _, .cons r t, s => .cons r (RepVs.append t s)
theorem RepVs.take : ∀ {ws : List W} {vs : List V} (n : Nat), RepVs K φ H ws vs → RepVs K φ H (ws.take n) (vs.take n)
  | _, _, 0, _ => .nil
  | _, _, _ + 1, .nil => .nil
  | _, _, n + 1, .cons r t => .cons r (RepVs.take n t)
theorem RepVs.drop : ∀ {ws : List W} {vs : List V} (n : Nat), RepVs K φ H ws vs → RepVs K φ H (ws.drop n) (vs.drop n)
  | _, _, 0, r => r
  | _, _, _ + 1, .nil => .nil
  | _, _, n + 1, .cons _ t => RepVs.drop n t
theorem RepVs.set {w : W} {v : V} (r : RepV K φ H w v) : ∀ {ws : List W} {vs : List V} (i : Nat), RepVs K φ H ws vs → RepVs K φ H (ws.set i w) (vs.set i v)
  | _, _, _, .nil => .nil
  | _, _, 0, .cons _ t => .cons r t
  | _, _, i + 1, .cons q t => .cons q (RepVs.set r i t)
theorem RepVs.reverse : ∀ {ws : List W} {vs : List V}, RepVs K φ H ws vs → RepVs K φ H ws.reverse vs.reverse
  | _, _, .nil => .nil
  | _, _, .cons r t => by
    rw [List.reverse_cons, List.reverse_cons]
    exact RepVs.append (RepVs.reverse t) (.cons r .nil)
theorem RepVs.eraseIdx : ∀ {ws : List W} {vs : List V} (i : Nat), RepVs K φ H ws vs → RepVs K φ H (ws.eraseIdx i) (vs.eraseIdx i)
  | _, _, _, .nil => .nil
  | _, _, 0, .cons _ t => t
  | _, _, i + 1, .cons q t => .cons q (RepVs.eraseIdx i t)
theorem RepVs.dropLast {ws : List W} {vs : List V} (r : RepVs K φ H ws vs) : RepVs K φ H ws.dropLast vs.dropLast := by
  rw [List.dropLast_eq_take, List.dropLast_eq_take, r.length]
  exact r.take _
theorem RepVs.ints : ∀ (ns : List Int), RepVs K φ H (ns.map W.int) (ns.map V.int)
  | [] => .nil
  | _ :: r => .cons .int (RepVs.ints r)
theorem RepVs.ints_of : ∀ {ns : List Int} {vs : List V}, RepVs K φ H (ns.map W.int) vs → vs = ns.map V.int
  | [], _, .nil => rfl
  | _ :: r, _, .cons .int t => by rw [RepVs.ints_of t]; rfl
theorem RepVs.bls_of : ∀ {ns : List Bool} {vs : List V}, RepVs K φ H (ns.map W.bl) vs → vs = ns.map V.bl
  | [], _, .nil => rfl
  | _ :: r, _, .cons .bl t => by rw [RepVs.bls_of t]; rfl

/-! ### objects -/
def PKV {κ : Type} (K : PySem.W.Frag) (φ : List Addr) (H : Hp) : List (κ × W) → List (κ × V) → Prop := Paired fun (p : κ × W) (q : κ × V) => p.1 = q.1 ∧ RepV K φ H p.2 q.2
theorem PKV.mono {κ : Type} {xs : List (κ × W)} {ys : List (κ × V)} (p : φ <+: φ') (k : Kw K H H') (h : PKV K φ H xs ys) : PKV K φ' H' xs ys :=
  L2.Paired.mapP h fun _ _ z => ⟨z.1, z.2.mono p k⟩
def RepU (K : PySem.W.Frag) (φ : List Addr) (H : Hp) : O → HO → Prop
  | .lst ws, u => ∃ vs, u = .lst vs ∧ RepVs K φ H ws vs
  | .dK kvs, u => ∃ vs, u = .dK vs ∧ PKV K φ H kvs vs
  | .dT kvs, u => ∃ vs, u = .dT vs ∧ PKV K φ H kvs vs
  | .ins C fs, u => ∃ dx vs, u = .ins C dx vs ∧ PKV K φ H fs vs
  | .fz _, _ => False
def RepO (K : PySem.W.Frag) (φ : List Addr) (H : Hp) : O → Addr → Prop
  | .fz o, a => ∃ ob u, H a = some (.frz ob u) ∧ RepU K φ H o u ∧ ∀ vs, u ≠ .lst vs
  | o, a => ∃ u, H a = some u ∧ RepU K φ H o u
theorem RepU.lst {ws : List W} {vs : List V} (r : RepVs K φ H ws vs) : RepU K φ H (.lst ws) (.lst vs) := ⟨vs, rfl, r⟩
theorem RepU.mono {o : O} {u : HO} (p : φ <+: φ') (k : Kw K H H') (h : RepU K φ H o u) : RepU K φ' H' o u := by
  cases o with
  | lst ws => obtain ⟨vs, e, r⟩ := h; exact ⟨vs, e, r.mono p k⟩
  | dK kvs => obtain ⟨vs, e, r⟩ := h; exact ⟨vs, e, r.mono p k⟩
  | dT kvs => obtain ⟨vs, e, r⟩ := h; exact ⟨vs, e, r.mono p k⟩
  | ins C fs => obtain ⟨dx, vs, e, r⟩ := h; exact ⟨dx, vs, e, r.mono p k⟩
  | fz o => exact h.elim
theorem RepU.noTup {o : O} {u : HO} (h : RepU K φ H o u) : NoTup u := by
  cases o with
  | lst ws => obtain ⟨vs, rfl, r⟩ := h; trivial
  | dK kvs => obtain ⟨vs, rfl, r⟩ := h; trivial
  | dT kvs => obtain ⟨vs, rfl, r⟩ := h; trivial
  | ins C fs => obtain ⟨dx, vs, rfl, r⟩ := h; trivial
  | fz o => exact h.elim
theorem RepO.there {o : O} {a : Addr} (h : RepO K φ H o a) : ∃ u, H a = some u := by
  cases o with
  | fz o => obtain ⟨ob, u, e, r, nl⟩ := h; exact ⟨_, e⟩
  | lst ws => obtain ⟨u, e, r⟩ := h; exact ⟨u, e⟩
  | dK ws => obtain ⟨u, e, r⟩ := h; exact ⟨u, e⟩
  | dT ws => obtain ⟨u, e, r⟩ := h; exact ⟨u, e⟩
  | ins C ws => obtain ⟨u, e, r⟩ := h; exact ⟨u, e⟩
/-- another heap in which the same stands at a -/
theorem RepO.at {o : O} {a : Addr} (h : RepO K φ H o a) (p : φ <+: φ') (k : Kw K H H') (e : H' a = H a) : RepO K φ' H' o a := by
  cases o with
  | fz o => obtain ⟨ob, u, e', r, nl⟩ := h; exact ⟨ob, u, e.trans e', r.mono p k, nl⟩
  | lst ws => obtain ⟨u, e', r⟩ := h; exact ⟨u, e.trans e', r.mono p k⟩
  | dK ws => obtain ⟨u, e', r⟩ := h; exact ⟨u, e.trans e', r.mono p k⟩
  | dT ws => obtain ⟨u, e', r⟩ := h; exact ⟨u, e.trans e', r.mono p k⟩
  | ins C ws => obtain ⟨u, e', r⟩ := h; exact ⟨u, e.trans e', r.mono p k⟩
theorem RepO.of {o : O} {a : Addr} {u : HO} (e : H a = some u) (h : RepU K φ H o u) : RepO K φ H o a := by
  cases o with
  | fz o => exact h.elim
  | lst ws => exact ⟨u, e, h⟩
  | dK ws => exact ⟨u, e, h⟩
  | dT ws => exact ⟨u, e, h⟩
  | ins C ws => exact ⟨u, e, h⟩

structure StR (K : PySem.W.Frag) (φ : List Addr) (st : Sto) (H : Hp) : Prop where
  len : φ.length = st.length
  nd : φ.Nodup
  ob : ∀ (n : Nat) (a : Addr) (o : O), φ[n]? = some a → st[n]? = some o → RepO K φ H o a
theorem StR.at {st : Sto} {n : Nat} {o : O} (S : StR K φ st H) (h : st[n]? = some o) : ∃ a, φ[n]? = some a ∧ RepO K φ H o a := by
  have hn : n < st.length := (List.getElem?_eq_some_iff.mp h).1
  have hn' : n < φ.length := by rw [S.len]; exact hn
  exact ⟨φ[n], List.getElem?_eq_getElem hn', S.ob n _ o (List.getElem?_eq_getElem hn') h⟩
theorem StR.there {st : Sto} {n : Nat} {a : Addr} (S : StR K φ st H) (h : φ[n]? = some a) : ∃ o, st[n]? = some o ∧ RepO K φ H o a := by
  have hn : n < φ.length := (List.getElem?_eq_some_iff.mp h).1
  have hn' : n < st.length := by rw [← S.len]; exact hn
  exact ⟨st[n], List.getElem?_eq_getElem hn', S.ob n a _ h (List.getElem?_eq_getElem hn')⟩
theorem StR.mem {st : Sto} {a : Addr} (S : StR K φ st H) (h : a ∈ φ) : ∃ u, H a = some u := by
  obtain ⟨n, hn, e⟩ := List.getElem_of_mem h
  obtain ⟨o, _, r⟩ := S.there (n := n) (a := a) (by rw [List.getElem?_eq_getElem hn, e])
  exact r.there
/-- a new object that is no store's: a tuple -/
theorem StR.tup {st : Sto} {p : Addr} {u : HO} (S : StR K φ st H) (n : H p = none) : StR K φ st (upd H p u) := by
  refine ⟨S.len, S.nd, fun i a o h1 h2 => (S.ob i a o h1 h2).at (List.prefix_refl _) (Kp.new n).w ?_⟩
  have : a ≠ p := by
    rintro rfl
    obtain ⟨u', e⟩ := S.mem (List.mem_of_getElem? h1)
    rw [n] at e; cases e
  rw [upd_ne this]
/-- a new object -/
theorem StR.new {st : Sto} {p : Addr} {o : O} {u : HO} (S : StR K φ st H) (n : H p = none) (r : RepU K φ H o u) : StR K (φ ++ [p]) (st ++ [o]) (upd H p u) := by
  have hp : p ∉ φ := fun h => by
    obtain ⟨u', e⟩ := S.mem h
    rw [n] at e; cases e
  refine ⟨by simp [S.len], ?_, fun i a q h1 h2 => ?_⟩
  · rw [List.nodup_append]
    exact ⟨S.nd, by simp, by rintro a ha b hb rfl; simp at hb; subst hb; exact hp ha⟩
  · by_cases hi : i < φ.length
    · rw [List.getElem?_append_left hi] at h1
      rw [List.getElem?_append_left (by rw [← S.len]; exact hi)] at h2
      refine (S.ob i a q h1 h2).at (List.prefix_append _ _) (Kp.new n).w ?_
      rw [upd_ne]
      rintro rfl
      exact hp (List.mem_of_getElem? h1)
    · have hi' : i = φ.length := by
        have h3 := (List.getElem?_eq_some_iff.mp h1).1
        simp at h3; omega
      subst hi'
      rw [List.getElem?_append_right (Nat.le_refl _)] at h1
      rw [S.len, List.getElem?_append_right (Nat.le_refl _)] at h2
      simp at h1 h2
      subst h1; subst h2
      exact .of upd_same (r.mono (List.prefix_append _ _) (Kp.new n).w)
/-- an object changed -/
theorem StR.putO {st : Sto} {n : Nat} {a : Addr} {o : O} {u u0 : HO} (S : StR K φ st H) (h : φ[n]? = some a) (e0 : H a = some u0) (n0 : NoTup u0) (r : RepO K φ (upd H a u) o a) : StR K φ (st.set n o) (upd H a u) := by
  obtain ⟨o0, h0, r0⟩ := S.there h
  have k : Kp K H (upd H a u) := Kp.put e0 n0
  refine ⟨by rw [List.length_set]; exact S.len, S.nd, fun i b q h1 h2 => ?_⟩
  by_cases hi : i = n
  · subst hi
    rw [h] at h1; cases h1
    rw [List.getElem?_set_self (List.getElem?_eq_some_iff.mp h0).1] at h2; cases h2
    exact r
  · rw [List.getElem?_set_ne (Ne.symm hi)] at h2
    refine (S.ob i b q h1 h2).at (List.prefix_refl _) k ?_
    rw [upd_ne]
    rintro rfl
    obtain ⟨l1, e1⟩ := List.getElem?_eq_some_iff.mp h1
    obtain ⟨l2, e2⟩ := List.getElem?_eq_some_iff.mp h
    exact hi ((List.getElem_inj S.nd).mp (e1.trans e2.symm))
end

section
variable {K : PySem.W.Frag} {φ φ' : List Addr} {H H' : Hp}
theorem StR.put {st : Sto} {n : Nat} {a : Addr} {o : O} {u u0 : HO} (S : StR K φ st H) (h : φ[n]? = some a) (e0 : H a = some u0) (n0 : NoTup u0) (r : RepU K φ H o u) : StR K φ (st.set n o) (upd H a u) :=
  S.putO h e0 n0 (.of upd_same (r.mono (List.prefix_refl _) (Kp.put e0 n0).w))
end
/-! ### names -/
structure EnR (K : PySem.W.Frag) (φ : List Addr) (H : Hp) (en : En) (σ : L2.St) : Prop where
  len : en.length = σ.length
  at_ : ∀ (i : Nat) (w : W), en[i]? = some (some w) → ∃ v, σ[i]? = some (some v) ∧ RepV K φ H w v
section
variable {K : PySem.W.Frag} {φ φ' : List Addr} {H H' : Hp} {en : En} {σ : L2.St}
theorem EnR.mono (E : EnR K φ H en σ) (p : φ <+: φ') (k : Kp K H H') : EnR K φ' H' en σ :=
  ⟨E.len, fun i w h => let ⟨v, e, r⟩ := E.at_ i w h; ⟨v, e, r.mono p k⟩⟩
theorem EnR.set {i : Nat} {w : W} {v : V} (E : EnR K φ H en σ) (r : RepV K φ H w v) : EnR K φ H (en.set i (some w)) (σ.set i (some v)) := by
  refine ⟨by simp [E.len], fun j u h => ?_⟩
  by_cases hj : i = j
  · subst hj
    by_cases hi : i < en.length
    · rw [List.getElem?_set_self hi] at h
      cases h
      exact ⟨v, by rw [List.getElem?_set_self (by rw [← E.len]; exact hi)], r⟩
    · rw [List.getElem?_eq_none (by simpa using hi)] at h; cases h
  · rw [List.getElem?_set_ne hj] at h ⊢
    exact E.at_ j u h
end
end AL
namespace AL
open PySem PySem.Spec PyProof.Rows L2

/-! ### computations -/
abbrev PW_ := W → Sto → Prop
abbrev CE := En → Sto → PW_ → Prop
abbrev CT := En → Sto → (Bool → Sto → Prop) → Prop
abbrev CA := En → Sto → (List W → Sto → Prop) → Prop
structure AEnds where
  nx : En → Sto → Prop
  rt : W → Sto → Prop
  bk : En → Sto → Prop := fun _ _ => False
  ct : En → Sto → Prop := fun _ _ => False
abbrev CS := AEnds → En → Sto → Prop

/-- what follows a value -/
def Ct (K : PySem.W.Frag) (φ : List Addr) (H : Hp) (P : PW_) (Q : VK) : Prop :=
  ∀ φ' H' w st' v, φ <+: φ' → Kp K H H' → StR K φ' st' H' → RepV K φ' H' w v → P w st' → Q v H'
def tE (K : PySem.W.Frag) (c : CE) : TE := fun σ H Q => ∃ φ en st P, EnR K φ H en σ ∧ StR K φ st H ∧ c en st P ∧ Ct K φ H P Q
def tT (K : PySem.W.Frag) (c : CT) : TT := fun σ H Q => ∃ φ en st P, EnR K φ H en σ ∧ StR K φ st H ∧ c en st P ∧
  ∀ φ' H' b st', φ <+: φ' → Kp K H H' → StR K φ' st' H' → P b st' → Q b H'
def tA (K : PySem.W.Frag) (c : CA) : TA := fun σ H Q => ∃ φ en st P, EnR K φ H en σ ∧ StR K φ st H ∧ c en st P ∧
  ∀ φ' H' ws st' vs, φ <+: φ' → Kp K H H' → StR K φ' st' H' → RepVs K φ' H' ws vs → P ws st' → Q vs H'
/-- what follows a statement, by states -/
def CtS (K : PySem.W.Frag) (φ : List Addr) (H : Hp) (P : En → Sto → Prop) (Q : L2.St → Hp → Prop) : Prop :=
  ∀ φ' H' en' st' σ', φ <+: φ' → Kp K H H' → StR K φ' st' H' → EnR K φ' H' en' σ' → P en' st' → Q σ' H'
def tS (K : PySem.W.Frag) (c : CS) : TS := fun D σ H => ∃ φ en st D', EnR K φ H en σ ∧ StR K φ st H ∧ c D' en st ∧
  CtS K φ H D'.nx D.nx ∧ Ct K φ H D'.rt D.rt ∧ CtS K φ H D'.bk D.bk ∧ CtS K φ H D'.ct D.ct

abbrev AE (X : Cx) (e : Expr) (c : CE) : Prop := PE X e (tE X.K c)
abbrev AT (X : Cx) (e : Expr) (c : CT) : Prop := PT X e (tT X.K c)
abbrev AW (X : Cx) (e : Expr) (c : CT) : Prop := L2.PW X e (tT X.K c)
abbrev AA (X : Cx) (es : List Expr) (c : CA) : Prop := PA X es (tA X.K c)
abbrev AS (X : Cx) (s : Stmt) (c : CS) : Prop := PS X s (tS X.K c)
abbrev ASs (X : Cx) (s : List Stmt) (c : CS) : Prop := PSs X s (tS X.K c)

theorem _root_.L2.PE.imp {X : Cx} {e : Expr} {t t' : TE} (h : PE X e t) (i : ∀ σ H Q, t' σ H Q → t σ H Q) : PE X e t' := ⟨fun p s σ H Q I q => h.run p s σ H Q I (i σ H Q q)⟩
theorem _root_.L2.PT.imp {X : Cx} {e : Expr} {t t' : TT} (h : PT X e t) (i : ∀ σ H Q, t' σ H Q → t σ H Q) : PT X e t' := ⟨fun p s σ H Q I q => h.run p s σ H Q I (i σ H Q q)⟩
theorem _root_.L2.PW.imp {X : Cx} {e : Expr} {t t' : TT} (h : L2.PW X e t) (i : ∀ σ H Q, t' σ H Q → t σ H Q) : L2.PW X e t' := ⟨fun wh p s σ H Q I q => h.run wh p s σ H Q I (i σ H Q q)⟩
theorem _root_.L2.PA.imp {X : Cx} {e : List Expr} {t t' : TA} (h : PA X e t) (i : ∀ σ H Q, t' σ H Q → t σ H Q) : PA X e t' := ⟨fun po p s σ H Q I q => h.run po p s σ H Q I (i σ H Q q)⟩
theorem _root_.L2.PS.imp {X : Cx} {e : Stmt} {t t' : TS} (h : PS X e t) (i : ∀ D σ H, t' D σ H → t D σ H) : PS X e t' := ⟨fun p s σ H D I q => h.run p s σ H D I (i D σ H q)⟩
theorem _root_.L2.PSs.imp {X : Cx} {e : List Stmt} {t t' : TS} (h : PSs X e t) (i : ∀ D σ H, t' D σ H → t D σ H) : PSs X e t' := ⟨fun p s σ H D I q => h.run p s σ H D I (i D σ H q)⟩

section
variable {K : PySem.W.Frag} {φ φ1 φ2 : List Addr} {H H1 H2 : Hp} {P : PW_} {Q : VK}
theorem Ct.mono (c : Ct K φ H P Q) (p : φ <+: φ1) (k : Kp K H H1) : Ct K φ1 H1 P Q := fun φ' H' w st' v p' k' S r q => c φ' H' w st' v (p.trans p') (k.trans k') S r q
theorem CtS.mono {P : En → Sto → Prop} {Q : L2.St → Hp → Prop} (c : CtS K φ H P Q) (p : φ <+: φ1) (k : Kp K H H1) : CtS K φ1 H1 P Q := fun φ' H' en' st' σ' p' k' S r q => c φ' H' en' st' σ' (p.trans p') (k.trans k') S r q
theorem Ct.id (c : Ct K φ H P Q) {w : W} {st : Sto} {v : V} (S : StR K φ st H) (r : RepV K φ H w v) (q : P w st) : Q v H := c φ H w st v (List.prefix_refl _) .refl S r q
/-- a new object is handed on -/
theorem Ct.new (c : Ct K φ H P Q) {st : Sto} {o : O} {u : HO} {p : Addr} (S : StR K φ st H) (n : H p = none) (r : RepU K φ H o u) (q : P (.ref st.length) (st ++ [o])) : Q (.ref p) (upd H p u) := by
  refine c (φ ++ [p]) _ _ _ _ (List.prefix_append _ _) (Kp.new n) (S.new n r) (.ref ?_) q
  rw [← S.len, List.getElem?_append_right (Nat.le_refl _)]; simp
/-- a new tuple is handed on -/
theorem Ct.tup (c : Ct K φ H P Q) {st : Sto} {ws : List W} {vs : List V} {p : Addr} (S : StR K φ st H) (n : H p = none) (r : RepVs K φ H ws vs) (q : P (.tup ws) st) : Q (.ref p) (upd H p (.tup vs)) :=
  c φ _ _ _ _ (List.prefix_refl _) (Kp.new n) (S.tup n) (.tup upd_same (r.mono (List.prefix_refl _) (Kp.new n).w)) q
/-- behind a change of an object -/
theorem Ct.put (c : Ct K φ H P Q) {st : Sto} {n : Nat} {a : Addr} {o : O} {u u0 : HO} {w : W} {v : V} (S : StR K φ st H) (h : φ[n]? = some a) (e0 : H a = some u0) (n0 : NoTup u0) (r : RepU K φ H o u) (rw_ : RepV K φ H w v) (q : P w (st.set n o)) : Q v (upd H a u) := by
  have k : Kp K H (upd H a u) := Kp.put e0 n0
  exact c φ _ _ _ _ (List.prefix_refl _) k (S.put h e0 n0 r) (rw_.mono (List.prefix_refl _) k) q
end

/-! ### names, constants -/
def cVar (i : Nat) : CE := fun en st P => ∃ w, en[i]? = some (some w) ∧ P w st
def cC (w : W) : CE := fun _ st P => P w st
section
variable {X : Cx} {pos : Pos}
theorem av (i : Nat) {x : Str} (hN : X.N[i]? = some x := by rfl) (hv : Vis X.env.scope x := by first | exact Or.inl rfl | exact Or.inr (Or.inl rfl) | exact Or.inr (Or.inr rfl)) (hd : (x == ("__debug__" : Str)) = false := by decide)
    (hcd : (x == ("__classdict__" : Str)) = false := by decide) : AE X (.Name x pos) (cVar i) := (pe_var hN hv hd hcd).imp fun σ H Q ⟨φ, en, st, P, E, S, ⟨w, e, q⟩, c⟩ => by
  obtain ⟨v, e', r⟩ := E.at_ i w e
  exact ⟨v, e', c.id S r q⟩
theorem cst {e : Expr} {v : V} {w : W} (h : PE X e (tC v)) (r : ∀ φ H, RepV X.K φ H w v) : AE X e (cC w) := h.imp fun σ H Q ⟨φ, en, st, P, E, S, q, c⟩ => c.id S (r _ _) q
theorem ae_int {i j} : AE X (.Constant (.int i) j pos) (cC (.int i)) := cst pe_int fun _ _ => .int
theorem ae_bl {b j} : AE X (.Constant (.bool b) j pos) (cC (.bl b)) := cst pe_bl fun _ _ => .bl
theorem ae_non {j} : AE X (.Constant .none j pos) (cC .non) := cst pe_non fun _ _ => .non
theorem ae_str {x j} : AE X (.Constant (.str x) j pos) (cC (.str x)) := cst pe_str fun _ _ => .str
/-- a module's constant -/
theorem ae_gint {x : Str} {i : Int} {t : Tok} (hg : Gl X x) (hm : X.mg x = some (.int i t)) (hd : (x == ("__debug__" : Str)) = false := by decide) : AE X (.Name x pos) (cC (.int i)) := cst (v := .int i) (pe_glob hg hm ⟨_, rfl⟩ hd) fun _ _ => .int
theorem ae_gstr {x y : Str} {t : Tok} (hg : Gl X x) (hm : X.mg x = some (.str y t)) (hd : (x == ("__debug__" : Str)) = false := by decide) : AE X (.Name x pos) (cC (.str y)) := cst (v := .str y) (pe_glob hg hm ⟨_, rfl⟩ hd) fun _ _ => .str
end

/-! ### operators by values -/
abbrev K2 := W → W → Sto → PW_ → Prop
abbrev K1 := W → Sto → PW_ → Prop
abbrev KL := List W → Sto → PW_ → Prop
def Sim2 (K : PySem.W.Frag) (k : K2) (r : R2) : Prop := ∀ φ H st x y v u P Q, StR K φ st H → RepV K φ H x v → RepV K φ H y u → k x y st P → Ct K φ H P Q → r v u H Q
def Sim1 (K : PySem.W.Frag) (k : K1) (r : V → Hp → VK → Prop) : Prop := ∀ φ H st x v P Q, StR K φ st H → RepV K φ H x v → k x st P → Ct K φ H P Q → r v H Q
def SimL (K : PySem.W.Frag) (k : KL) (r : List V → Hp → VK → Prop) : Prop := ∀ φ H st xs vs P Q, StR K φ st H → RepVs K φ H xs vs → k xs st P → Ct K φ H P Q → r vs H Q
/-- a method: the object, the arguments -/
def SimM (K : PySem.W.Frag) (k : W → KL) (r : V → List V → Hp → VK → Prop) : Prop := ∀ φ H st x v xs vs P Q, StR K φ st H → RepV K φ H x v → RepVs K φ H xs vs → k x xs st P → Ct K φ H P Q → r v vs H Q

def cOp (k : K2) (ca cb : CE) : CE := fun en st P => ca en st fun x st1 => cb en st1 fun y st2 => k x y st2 P
def cUn (k : K1) (ca : CE) : CE := fun en st P => ca en st fun x st1 => k x st1 P
def cNil : CA := fun _ st P => P [] st
def cCons (ca : CE) (cs : CA) : CA := fun en st P => ca en st fun x st1 => cs en st1 fun xs st2 => P (x :: xs) st2
def cCall (k : KL) (ca : CA) : CE := fun en st P => ca en st fun xs st1 => k xs st1 P
section
variable {K : PySem.W.Frag} {ca cb : CE} {cl cm : CA} {σ : L2.St} {H : Hp} {Q : VK}
/-- the first of a row: what follows is asked at a later state of the same names -/
theorem tE.bind {R : VK} {c : CE} {φ : List Addr} {en : En} {st : Sto} {P1 : PW_} (E : EnR K φ H en σ) (S : StR K φ st H) (h : c en st P1)
    (n : ∀ φ' H' w st' v, φ <+: φ' → Kp K H H' → EnR K φ' H' en σ → StR K φ' st' H' → RepV K φ' H' w v → P1 w st' → R v H') : tE K c σ H R :=
  ⟨φ, en, st, P1, E, S, h, fun φ' H' w st' v p k S' r q => n φ' H' w st' v p k (E.mono p k) S' r q⟩
theorem tA.bind {R : List V → Hp → Prop} {c : CA} {φ : List Addr} {en : En} {st : Sto} {P1 : List W → Sto → Prop} (E : EnR K φ H en σ) (S : StR K φ st H) (h : c en st P1)
    (n : ∀ φ' H' ws st' vs, φ <+: φ' → Kp K H H' → EnR K φ' H' en σ → StR K φ' st' H' → RepVs K φ' H' ws vs → P1 ws st' → R vs H') : tA K c σ H R :=
  ⟨φ, en, st, P1, E, S, h, fun φ' H' w st' v p k S' r q => n φ' H' w st' v p k (E.mono p k) S' r q⟩
theorem tT.bind {R : Bool → Hp → Prop} {c : CT} {φ : List Addr} {en : En} {st : Sto} {P1 : Bool → Sto → Prop} (E : EnR K φ H en σ) (S : StR K φ st H) (h : c en st P1)
    (n : ∀ φ' H' b st', φ <+: φ' → Kp K H H' → EnR K φ' H' en σ → StR K φ' st' H' → P1 b st' → R b H') : tT K c σ H R :=
  ⟨φ, en, st, P1, E, S, h, fun φ' H' w st' p k S' q => n φ' H' w st' p k (E.mono p k) S' q⟩
theorem tOp_of {r : R2} {k : K2} (s : Sim2 K k r) (h : tE K (cOp k ca cb) σ H Q) : tOp r (tE K ca) (tE K cb) σ H Q := by
  obtain ⟨φ, en, st, P, E, S, h, c⟩ := h
  refine tE.bind E S h fun φ1 H1 x st1 v p1 k1 E1 S1 rx h1 => ?_
  refine tE.bind E1 S1 h1 fun φ2 H2 y st2 u p2 k2 E2 S2 ry h2 => ?_
  exact s _ _ _ _ _ _ _ _ _ S2 (rx.mono p2 k2) ry h2 (c.mono (p1.trans p2) (k1.trans k2))
theorem tUn_of {r : V → Hp → VK → Prop} {k : K1} (s : Sim1 K k r) (h : tE K (cUn k ca) σ H Q) : tUn r (tE K ca) σ H Q := by
  obtain ⟨φ, en, st, P, E, S, h, c⟩ := h
  refine tE.bind E S h fun φ1 H1 x st1 v p1 k1 E1 S1 rx h1 => ?_
  exact s _ _ _ _ _ _ _ S1 rx h1 (c.mono p1 k1)
theorem tCB_of {r : List V → Hp → VK → Prop} {k : KL} (s : SimL K k r) (h : tE K (cCall k cl) σ H Q) : tCB r (tA K cl) σ H Q := by
  obtain ⟨φ, en, st, P, E, S, h, c⟩ := h
  refine tA.bind E S h fun φ1 H1 xs st1 vs p1 k1 E1 S1 rx h1 => ?_
  exact s _ _ _ _ _ _ _ S1 rx h1 (c.mono p1 k1)
end
section
variable {X : Cx} {a b : Expr} {ca cb : CE} {pos : Pos} {e : Expr} {es : List Expr} {cl : CA}
theorem ae_op {op : Operator} {r : R2} {k : K2} (ho : OpR X (binaryOp op) r) (s : Sim2 X.K k r) (ha : AE X a ca) (hb : AE X b cb) : AE X (.BinOp a op b pos) (cOp k ca cb) := (pe_op ho ha hb).imp fun _ _ _ => tOp_of s
theorem ae_un {op : UnaryOp} {r : V → Hp → VK → Prop} {k : K1} (ho : UnR X (unaryOp op) r) (s : Sim1 X.K k r) (ha : AE X a ca) : AE X (.UnaryOp op a pos) (cUn k ca) := (pe_un ho ha).imp fun _ _ _ => tUn_of s
theorem ae_cmp {op : CmpOp} {r : R2} {k : K2} (ho : OpR X (compareOp op) r) (s : Sim2 X.K k r) (ha : AE X a ca) (hb : AE X b cb) (hm : behindInMarks op b = false := by first | exact nomark _ | rfl) : AE X (.Compare a [op] [b] pos) (cOp k ca cb) := (pe_cmpR ho ha hb hm).imp fun _ _ _ => tOp_of s
/-- a value that is a bool, as a test -/
def cB (c : CE) : CT := fun en st P => c en st fun w st1 => ∃ k, w = .bl k ∧ P k st1
theorem tB_of {K : PySem.W.Frag} {t : TE} {c : CE} {σ : L2.St} {H : Hp} {Q : Bool → Hp → Prop} (i : ∀ σ H Q, tE K c σ H Q → t σ H Q) (h : tT K (cB c) σ H Q) : t σ H fun x H1 => ∃ d, x = .bl d ∧ Q d H1 := by
  obtain ⟨φ, en, st, P, E, S, h, cc⟩ := h
  refine i _ _ _ ⟨φ, en, st, _, E, S, h, fun φ' H' w st' v p k S' r q => ?_⟩
  obtain ⟨b, rfl, q⟩ := q
  cases r
  exact ⟨b, rfl, cc _ _ _ _ p k S' q⟩
theorem at_cmp {op : CmpOp} {r : R2} {k : K2} (ho : OpR X (compareOp op) r) (s : Sim2 X.K k r) (ha : AE X a ca) (hb : AE X b cb) (hm : behindInMarks op b = false := by first | exact nomark _ | rfl) : AT X (.Compare a [op] [b] pos) (cB (cOp k ca cb)) :=
  (pt_cmpR ho ha hb hm).imp fun _ _ _ h => tB_of (t := tOp r (tE X.K ca) (tE X.K cb)) (fun _ _ _ => tOp_of s) h
theorem at_val (ha : AE X a ca) (he : ∀ whole, isTrue a X.env whole = (do let v ← whole; standAt a.pos; holding [v] (truthy v)) := by intro _; rfl) : AT X a (cB ca) :=
  (pt_val ha he).imp fun _ _ _ h => tB_of (t := tE X.K ca) (fun _ _ _ h => h) h
/-! ### and, or, not -/
variable {ct cu : CT} {rest : List Expr}
def cAnd (c d : CT) : CT := fun en st P => c en st fun k st1 => if k = true then d en st1 P else P false st1
def cOr (c d : CT) : CT := fun en st P => c en st fun k st1 => if k = true then P true st1 else d en st1 P
def cNot (c : CT) : CT := fun en st P => c en st fun k st1 => P (!k) st1
theorem aw_and1 (ha : AT X a ct) : AW X (.BoolOp .And [a] pos) ct := pw_and1 ha
theorem aw_or1 (ha : AT X a ct) : AW X (.BoolOp .Or [a] pos) ct := pw_or1 ha
theorem aw_and (ha : AT X a ct) (hb : AW X (.BoolOp .And (b :: rest) pos) cu) : AW X (.BoolOp .And (a :: b :: rest) pos) (cAnd ct cu) := (pw_and ha hb).imp fun σ H Q ⟨φ, en, st, P, E, S, h, c⟩ => by
  refine tT.bind E S h fun φ1 H1 k st1 p1 k1 E1 S1 h1 => ?_
  cases k with
  | true =>
    rw [if_pos rfl] at h1 ⊢
    exact tT.bind E1 S1 h1 fun φ2 H2 k st2 p2 k2 E2 S2 h2 => c _ _ _ _ (p1.trans p2) (k1.trans k2) S2 h2
  | false =>
    rw [if_neg Bool.false_ne_true] at h1 ⊢
    exact c _ _ _ _ p1 k1 S1 h1
theorem aw_or (ha : AT X a ct) (hb : AW X (.BoolOp .Or (b :: rest) pos) cu) : AW X (.BoolOp .Or (a :: b :: rest) pos) (cOr ct cu) := (pw_or ha hb).imp fun σ H Q ⟨φ, en, st, P, E, S, h, c⟩ => by
  refine tT.bind E S h fun φ1 H1 k st1 p1 k1 E1 S1 h1 => ?_
  cases k with
  | true =>
    rw [if_pos rfl] at h1 ⊢
    exact c _ _ _ _ p1 k1 S1 h1
  | false =>
    rw [if_neg Bool.false_ne_true] at h1 ⊢
    exact tT.bind E1 S1 h1 fun φ2 H2 k st2 p2 k2 E2 S2 h2 => c _ _ _ _ (p1.trans p2) (k1.trans k2) S2 h2
theorem at_and (h : AW X e ct) : AT X e ct := h.pt
theorem at_not (ha : AT X a ct) : AT X (.UnaryOp .Not a pos) (cNot ct) := (pt_not ha).imp fun σ H Q ⟨φ, en, st, P, E, S, h, c⟩ =>
  tT.bind E S h fun φ1 H1 k st1 p1 k1 E1 S1 h1 => c _ _ _ _ p1 k1 S1 h1
/-! as values, bools -/
def cAndV (c d : CE) : CE := fun en st P => c en st fun w st1 => ∃ k, w = .bl k ∧ if k = true then d en st1 P else P (.bl false) st1
def cOrV (c d : CE) : CE := fun en st P => c en st fun w st1 => ∃ k, w = .bl k ∧ if k = true then P (.bl true) st1 else d en st1 P
def cNotV (c : CE) : CE := fun en st P => c en st fun w st1 => ∃ k, w = .bl k ∧ P (.bl (!k)) st1
theorem ae_one {op} (ha : AE X a ca) : AE X (.BoolOp op [a] pos) ca := pe_one ha
theorem ae_and (ha : AE X a ca) (hb : AE X (.BoolOp .And (b :: rest) pos) cb) : AE X (.BoolOp .And (a :: b :: rest) pos) (cAndV ca cb) := (pe_and ha hb).imp fun σ H Q ⟨φ, en, st, P, E, S, h, c⟩ => by
  refine tE.bind E S h fun φ1 H1 w st1 v p1 k1 E1 S1 r h1 => ?_
  obtain ⟨k, rfl, h1⟩ := h1
  cases r
  refine ⟨k, rfl, ?_⟩
  cases k with
  | true =>
    rw [if_pos rfl] at h1 ⊢
    exact tE.bind E1 S1 h1 fun φ2 H2 w st2 v p2 k2 E2 S2 r2 h2 => c _ _ _ _ _ (p1.trans p2) (k1.trans k2) S2 r2 h2
  | false =>
    rw [if_neg Bool.false_ne_true] at h1 ⊢
    exact c _ _ _ _ _ p1 k1 S1 .bl h1
theorem ae_or (ha : AE X a ca) (hb : AE X (.BoolOp .Or (b :: rest) pos) cb) : AE X (.BoolOp .Or (a :: b :: rest) pos) (cOrV ca cb) := (pe_or ha hb).imp fun σ H Q ⟨φ, en, st, P, E, S, h, c⟩ => by
  refine tE.bind E S h fun φ1 H1 w st1 v p1 k1 E1 S1 r h1 => ?_
  obtain ⟨k, rfl, h1⟩ := h1
  cases r
  refine ⟨k, rfl, ?_⟩
  cases k with
  | true =>
    rw [if_pos rfl] at h1 ⊢
    exact c _ _ _ _ _ p1 k1 S1 .bl h1
  | false =>
    rw [if_neg Bool.false_ne_true] at h1 ⊢
    exact tE.bind E1 S1 h1 fun φ2 H2 w st2 v p2 k2 E2 S2 r2 h2 => c _ _ _ _ _ (p1.trans p2) (k1.trans k2) S2 r2 h2
theorem ae_not (ha : AE X a ca) : AE X (.UnaryOp .Not a pos) (cNotV ca) := (pe_not ha).imp fun σ H Q ⟨φ, en, st, P, E, S, h, c⟩ => by
  refine tE.bind E S h fun φ1 H1 w st1 v p1 k1 E1 S1 r h1 => ?_
  obtain ⟨k, rfl, h1⟩ := h1
  cases r
  exact ⟨k, rfl, c _ _ _ _ _ p1 k1 S1 .bl h1⟩
def cIf (t : CT) (c d : CE) : CE := fun en st P => t en st fun k st1 => if k = true then c en st1 P else d en st1 P
theorem ae_if {t : Expr} (ht : AT X t ct) (ha : AE X a ca) (hb : AE X b cb) : AE X (.IfExp t a b pos) (cIf ct ca cb) := (pe_ifExp ht ha hb).imp fun σ H Q ⟨φ, en, st, P, E, S, h, c⟩ => by
  refine tT.bind E S h fun φ1 H1 k st1 p1 k1 E1 S1 h1 => ?_
  cases k with
  | true =>
    rw [if_pos rfl] at h1 ⊢
    exact tE.bind E1 S1 h1 fun φ2 H2 w st2 v p2 k2 E2 S2 r2 h2 => c _ _ _ _ _ (p1.trans p2) (k1.trans k2) S2 r2 h2
  | false =>
    rw [if_neg Bool.false_ne_true] at h1 ⊢
    exact tE.bind E1 S1 h1 fun φ2 H2 w st2 v p2 k2 E2 S2 r2 h2 => c _ _ _ _ _ (p1.trans p2) (k1.trans k2) S2 r2 h2
/-! ### arguments, displays -/
theorem aa_nil : AA X [] cNil := pa_nil.imp fun σ H Q ⟨φ, en, st, P, E, S, h, c⟩ => c _ _ _ _ _ (List.prefix_refl _) .refl S .nil h
theorem aa_cons (he : AE X e ca) (hs : AA X es cl) (hst : starEach (e :: es) X.env = (false, eval e X.env) :: starEach es X.env := by rfl) : AA X (e :: es) (cCons ca cl) := (pa_cons he hs hst).imp fun σ H Q ⟨φ, en, st, P, E, S, h, c⟩ => by
  refine tE.bind E S h fun φ1 H1 w st1 v p1 k1 E1 S1 r1 h1 => ?_
  refine tA.bind E1 S1 h1 fun φ2 H2 ws st2 vs p2 k2 E2 S2 r2 h2 => ?_
  exact c _ _ _ _ _ (p1.trans p2) (k1.trans k2) S2 (.cons (r1.mono p2 k2) r2) h2
def kTup : KL := fun ws st P => ws.length ≤ sizeLine ∧ P (.tup ws) st
def kLst : KL := fun ws st P => ws.length ≤ sizeLine ∧ P (.ref st.length) (st ++ [.lst ws])
theorem ae_tup {x1} (h : AA X es cl) : AE X (.Tuple es x1 pos) (cCall kTup cl) := (pe_tup h).imp fun σ H Q ⟨φ, en, st, P, E, S, h, c⟩ => by
  refine tA.bind E S h fun φ1 H1 ws st1 vs p1 k1 E1 S1 r1 h1 => ?_
  exact ⟨by rw [← r1.length]; exact h1.1, fun p hp => (c.mono p1 k1).tup S1 hp r1 h1.2⟩
theorem ae_lst (h : AA X es cl) : AE X (.List es pos) (cCall kLst cl) := (pe_lst h).imp fun σ H Q ⟨φ, en, st, P, E, S, h, c⟩ => by
  refine tA.bind E S h fun φ1 H1 ws st1 vs p1 k1 E1 S1 r1 h1 => ?_
  exact ⟨by rw [← r1.length]; exact h1.1, fun p hp => (c.mono p1 k1).new S1 hp (.lst r1) h1.2⟩
/-! ### built-in functions and types -/
variable {x : Str} {p : Pos} {id T : String} {r : List V → Hp → VK → Prop} {k : KL}
theorem ae_callB (hc : CallR X (.builtin id) r) (s : SimL X.K k r) (hg : Gl X x) (hm : X.mg x = none) (hv : bootBuiltins x = some (.builtin id)) (ha : AA X (e :: es) cl) (hn : x ≠ "__name__" := by decide) (hdb : (x == ("__debug__" : Str)) = false := by decide)
    (he : starEach (e :: es) X.env = (false, eval e X.env) :: starEach es X.env := by rfl) (hpl : (backTo pos (starEach es X.env)).any (·.1) = false := by rfl) : AE X (.Call (.Name x p) (e :: es) [] pos) (cCall k cl) := (pe_callB hc hg hm hv ha hn hdb he hpl).imp fun _ _ _ => tCB_of s
theorem ae_callTy (hc : CallR X (.type T) r) (s : SimL X.K k r) (hg : Gl X x) (hm : X.mg x = none) (hv : bootBuiltins x = some (.type T)) (ha : AA X (e :: es) cl) (hn : x ≠ "__name__" := by decide) (hdb : (x == ("__debug__" : Str)) = false := by decide)
    (he : starEach (e :: es) X.env = (false, eval e X.env) :: starEach es X.env := by rfl) (hpl : (backTo pos (starEach es X.env)).any (·.1) = false := by rfl) : AE X (.Call (.Name x p) (e :: es) [] pos) (cCall k cl) := (pe_callTy hc hg hm hv ha hn hdb he hpl).imp fun _ _ _ => tCB_of s
end
end AL
namespace AL
open PySem PySem.Spec PyProof.Rows L2

/-! ### statements -/
def sNil : CS := fun D en st => D.nx en st
def sSeq (c d : CS) : CS := fun D en st => c { D with nx := d D } en st
def sDrop (c : CE) : CS := fun D en st => c en st fun _ st1 => D.nx en st1
def sRet (c : CE) : CS := fun D en st => c en st D.rt
def sIf (t : CT) (c d : CS) : CS := fun D en st => t en st fun k st1 => if k = true then c D en st1 else d D en st1
def sBrk : CS := fun D en st => D.bk en st
def sCnt : CS := fun D en st => D.ct en st
def sNever : CS := fun _ _ _ => False
section
variable {K : PySem.W.Frag} {φ : List Addr} {H : Hp} {σ : L2.St} {c d : CS} {ce : CE} {ct : CT} {D : Ends}
/-- a statement's part is run at a later state -/
theorem tS.at {c : CS} {φ φ1 : List Addr} {H H1 : Hp} {en : En} {st : Sto} {D' : AEnds} (p : φ <+: φ1) (k : Kp K H H1) (E : EnR K φ1 H1 en σ) (S : StR K φ1 st H1) (h : c D' en st)
    (c1 : CtS K φ H D'.nx D.nx) (c2 : Ct K φ H D'.rt D.rt) (c3 : CtS K φ H D'.bk D.bk) (c4 : CtS K φ H D'.ct D.ct) : tS K c D σ H1 :=
  ⟨φ1, en, st, D', E, S, h, c1.mono p k, c2.mono p k, c3.mono p k, c4.mono p k⟩
end
section
variable {X : Cx} {s : Stmt} {rest : List Stmt} {c d : CS} {e : Expr} {ce : CE} {ct : CT} {pos : Pos}
theorem as_nil : ASs X [] sNil := pss_nil.imp fun D σ H ⟨φ, en, st, D', E, S, h, c1, c2, c3, c4⟩ => c1 _ _ _ _ _ (List.prefix_refl _) .refl S E h
theorem as_cons (h1 : AS X s c) (h2 : ASs X rest d) : ASs X (s :: rest) (sSeq c d) := (pss_cons h1 h2).imp fun D σ H ⟨φ, en, st, D', E, S, h, c1, c2, c3, c4⟩ =>
  ⟨φ, en, st, _, E, S, h, fun φ1 H1 en1 st1 σ1 p k S1 E1 q => tS.at p k E1 S1 q c1 c2 c3 c4, c2, c3, c4⟩
theorem as_one (h1 : AS X s c) : ASs X [s] c := pss_one h1
theorem as_pass : AS X (.Pass pos) sNil := ps_pass.imp fun D σ H ⟨φ, en, st, D', E, S, h, c1, c2, c3, c4⟩ => c1 _ _ _ _ _ (List.prefix_refl _) .refl S E h
theorem as_brk : AS X (.Break pos) sBrk := ps_break.imp fun D σ H ⟨φ, en, st, D', E, S, h, c1, c2, c3, c4⟩ => c3 _ _ _ _ _ (List.prefix_refl _) .refl S E h
theorem as_cnt : AS X (.Continue pos) sCnt := ps_continue.imp fun D σ H ⟨φ, en, st, D', E, S, h, c1, c2, c3, c4⟩ => c4 _ _ _ _ _ (List.prefix_refl _) .refl S E h
theorem as_never : AS X s sNever := ps_never.imp fun D σ H ⟨φ, en, st, D', E, S, h, _⟩ => h
theorem ass_never : ASs X rest sNever := pss_never.imp fun D σ H ⟨φ, en, st, D', E, S, h, _⟩ => h
theorem as_expr (he : AE X e ce) (hs : swapsWith e none pos.line X.env = pure false := by rfl) : AS X (.Expr e pos) (sDrop ce) := (ps_expr he hs).imp fun D σ H ⟨φ, en, st, D', E, S, h, c1, c2, c3, c4⟩ =>
  tE.bind E S h fun φ1 H1 w st1 v p1 k1 E1 S1 r h1 => c1 _ _ _ _ _ p1 k1 S1 E1 h1
theorem as_ret (he : AE X e ce) : AS X (.Return (some e) pos) (sRet ce) := (ps_ret he).imp fun D σ H ⟨φ, en, st, D', E, S, h, c1, c2, c3, c4⟩ =>
  tE.bind E S h fun φ1 H1 w st1 v p1 k1 E1 S1 r h1 => c2 _ _ _ _ _ p1 k1 S1 r h1
def sRetN : CS := fun D _ st => D.rt .non st
theorem as_retN : AS X (.Return none pos) sRetN := ps_retN.imp fun D σ H ⟨φ, en, st, D', E, S, h, c1, c2, c3, c4⟩ => c2.id S .non h
theorem as_if {t : Expr} {a b : List Stmt} (ht : AT X t ct) (ha : ASs X a c) (hb : ASs X b d) : AS X (.If t a b pos) (sIf ct c d) := (ps_if ht ha hb).imp fun D σ H ⟨φ, en, st, D', E, S, h, c1, c2, c3, c4⟩ => by
  refine tT.bind E S h fun φ1 H1 k st1 p1 k1 E1 S1 h1 => ?_
  cases k with
  | true =>
    rw [if_pos rfl] at h1 ⊢
    exact tS.at p1 k1 E1 S1 h1 c1 c2 c3 c4
  | false =>
    rw [if_neg Bool.false_ne_true] at h1 ⊢
    exact tS.at p1 k1 E1 S1 h1 c1 c2 c3 c4

/-! ### targets -/
abbrev CG := W → En → Sto → (En → Sto → Prop) → Prop
abbrev CGs := List W → En → Sto → (En → Sto → Prop) → Prop
def tG (K : PySem.W.Frag) (g : CG) : TG := fun v σ H Q => ∃ φ en st w P, EnR K φ H en σ ∧ StR K φ st H ∧ RepV K φ H w v ∧ g w en st P ∧ CtS K φ H P Q
def tGs (K : PySem.W.Frag) (g : CGs) : TGs := fun vs σ H Q => ∃ φ en st ws P, EnR K φ H en σ ∧ StR K φ st H ∧ RepVs K φ H ws vs ∧ g ws en st P ∧ CtS K φ H P Q
abbrev AG (X : Cx) (t : Expr) (g : CG) : Prop := PG X t (tG X.K g)
abbrev AGs (X : Cx) (ts : List Expr) (g : CGs) : Prop := PGs X ts (tGs X.K g)
theorem _root_.L2.PG.imp {X : Cx} {e : Expr} {t t' : TG} (h : PG X e t) (i : ∀ v σ H Q, t' v σ H Q → t v σ H Q) : PG X e t' := ⟨fun p s σ H v u Q I r q => h.run p s σ H v u Q I r (i v σ H Q q)⟩
theorem _root_.L2.PGs.imp {X : Cx} {e : List Expr} {t t' : TGs} (h : PGs X e t) (i : ∀ v σ H Q, t' v σ H Q → t v σ H Q) : PGs X e t' := ⟨fun p s σ H v u Q I r q => h.run p s σ H v u Q I r (i v σ H Q q)⟩
def gN (i : Nat) : CG := fun w en st P => P (en.set i (some w)) st
def gsNil : CGs := fun ws en st P => ws = [] ∧ P en st
def gsCons (g : CG) (gs : CGs) : CGs := fun ws en st P => ∃ w r, ws = w :: r ∧ g w en st fun en1 st1 => gs r en1 st1 P
def gT (n : Nat) (gs : CGs) : CG := fun w en st P => ∃ ws, w = .tup ws ∧ ws.length = n ∧ gs ws en st P
theorem ag_name {i : Nat} {x : Str} (hN : X.N.Nodup) (hi : X.N[i]? = some x) (hx : Loc X.env.scope x) (hf : X.fn x = true ∨ X.env.scope.names.lookup x = some .local := by first | exact .inl rfl | exact .inr rfl | assumption) : AG X (.Name x pos) (gN i) :=
  (pg_name hN hi hx hf).imp fun v σ H Q ⟨φ, en, st, w, P, E, S, r, h, c⟩ => c _ _ _ _ _ (List.prefix_refl _) .refl S (E.set r) h
theorem ags_nil : AGs X [] gsNil := pgs_nil.imp fun v σ H Q ⟨φ, en, st, w, P, E, S, r, h, c⟩ => by
  obtain ⟨rfl, h⟩ := h
  cases r
  exact ⟨rfl, c _ _ _ _ _ (List.prefix_refl _) .refl S E h⟩
theorem ags_cons {es : List Expr} {g : CG} {gs : CGs} (h1 : AG X e g) (h2 : AGs X es gs) (hs : (assignEach (e :: es) X.env).map (·.2) = assign e X.env :: (assignEach es X.env).map (·.2) := by rfl) : AGs X (e :: es) (gsCons g gs) :=
  (pgs_cons h1 h2 hs).imp fun v σ H Q ⟨φ, en, st, w, P, E, S, r, h, c⟩ => by
    obtain ⟨w, rr, rfl, h⟩ := h
    cases r with
    | cons r1 r2 => exact ⟨_, _, rfl, φ, en, st, w, _, E, S, r1, h, fun φ1 H1 en1 st1 σ1 p k S1 E1 q => ⟨φ1, en1, st1, rr, P, E1, S1, r2.mono p k, q, c.mono p k⟩⟩
theorem ag_tup {es : List Expr} {k n : Nat} {gs : CGs} (hc : X.calm = true) (h : AGs X es gs) (hn : (assignEach es X.env).length = n := by rfl) (hst : (assignEach es X.env).findIdx? (·.1) = none := by rfl) : AG X (.Tuple es k pos) (gT n gs) :=
  (pg_tup hc h hn hst).imp fun v σ H Q ⟨φ, en, st, w, P, E, S, r, h, c⟩ => by
    obtain ⟨ws, rfl, hl, h⟩ := h
    cases r with
    | tup s rs => exact ⟨_, _, rfl, SqT.of s, by rw [← rs.length]; exact hl, φ, en, st, ws, P, E, S, rs, h, c⟩

/-! ### assignments -/
def sAsg (c : CE) (g : CG) : CS := fun D en st => c en st fun w st1 => g w en st1 D.nx
def sSet (i : Nat) (c : CE) : CS := fun D en st => c en st fun w st1 => D.nx (en.set i (some w)) st1
theorem as_asg {tg : Expr} {g : CG} (he : AE X e ce) (hg : AG X tg g) (hs : swapsWithSole [tg] e pos.line X.env = pure false := by rfl) (hw : swappedStores [tg] e X.env = pure none := by rfl)
    (h1 : (assignEach [tg] X.env).map (·.2) = [assign tg X.env] := by rfl) : AS X (.Assign [tg] e pos) (sAsg ce g) := (ps_asg he hg hs hw h1).imp fun D σ H ⟨φ, en, st, D', E, S, h, c1, c2, c3, c4⟩ =>
  tE.bind E S h fun φ1 H1 w st1 v p1 k1 E1 S1 r h1 => ⟨φ1, en, st1, w, _, E1, S1, r, h1, c1.mono p1 k1⟩
theorem as_set {i : Nat} {x : Str} {pos' : Pos} (hN : X.N.Nodup) (hi : X.N[i]? = some x) (hx : Loc X.env.scope x) (he : AE X e ce) (hs : swapsWith e (some (.Name x pos')) pos.line X.env = pure false := by rfl) (hf : X.fn x = true ∨ X.env.scope.names.lookup x = some .local := by first | exact .inl rfl | exact .inr rfl | assumption) :
    AS X (.Assign [.Name x pos'] e pos) (sSet i ce) := (ps_set hN hi hx he hs hf).imp fun D σ H ⟨φ, en, st, D', E, S, h, c1, c2, c3, c4⟩ =>
  tE.bind E S h fun φ1 H1 w st1 v p1 k1 E1 S1 r h1 => c1 _ _ _ _ _ p1 k1 S1 (E1.set r) h1
/-- a, b = x, y, two local names -/
def sPar (i j : Nat) (c : CA) : CS := fun D en st => c en st fun ws st1 => ∃ v w, ws = [v, w] ∧ D.nx ((en.set i (some v)).set j (some w)) st1
theorem as_par {i j : Nat} {x y : Str} {a b : Expr} {ca : CA} {px py pt : Pos} {kt k2 pt2} (hc : X.calm = true) (hN : X.N.Nodup) (hi : X.N[i]? = some x) (hj : X.N[j]? = some y) (hij : i ≠ j)
    (hx : X.env.scope.names.lookup x = some .local) (hy : X.env.scope.names.lookup y = some .local) (ha : AA X [a, b] ca)
    (hw : swappedStores [.Tuple [.Name x px, .Name y py] kt pt] (.Tuple [a, b] k2 pt2) X.env = pure (some [x, y]))
    (hs : swapsWithSole [.Tuple [.Name x px, .Name y py] kt pt] (.Tuple [a, b] k2 pt2) pos.line X.env = pure false := by rfl) :
    AS X (.Assign [.Tuple [.Name x px, .Name y py] kt pt] (.Tuple [a, b] k2 pt2) pos) (sPar i j ca) := (ps_par hc hN hi hj hij hx hy ha hw hs).imp fun D σ H ⟨φ, en, st, D', E, S, h, c1, c2, c3, c4⟩ =>
  tA.bind E S h fun φ1 H1 ws st1 vs p1 k1 E1 S1 r h1 => by
    obtain ⟨v, w, rfl, h1⟩ := h1
    cases r with
    | cons r1 r2 =>
      cases r2 with
      | cons r2 r3 =>
        cases r3
        exact ⟨_, _, rfl, c1 _ _ _ _ _ p1 k1 S1 ((E1.set r1).set r2) h1⟩
/-- x op= e -/
def sAug (i : Nat) (c : CE) (k : K2) : CS := fun D en st => ∃ x, en[i]? = some (some x) ∧ c en st fun y st1 => k x y st1 fun z st2 => D.nx (en.set i (some z)) st2
theorem as_aug {i : Nat} {x : Str} {op : Operator} {ti : TIp} {k : K2} {pos' : Pos} (hN : X.N.Nodup) (hi : X.N[i]? = some x) (hx : Loc X.env.scope x) (he : AE X e ce) (ho : PIp X op ti) (s : Sim2 X.K k ti)
    (hf : X.fn x = true ∨ X.env.scope.names.lookup x = some .local := by first | exact .inl rfl | exact .inr rfl | assumption) : AS X (.AugAssign (.Name x pos') op e pos) (sAug i ce k) := (ps_aug hN hi hx he ho hf).imp fun D σ H ⟨φ, en, st, D', E, S, h, c1, c2, c3, c4⟩ => by
  obtain ⟨x, ex, h⟩ := h
  obtain ⟨v, ev, rv⟩ := E.at_ _ _ ex
  refine ⟨v, ev, tE.bind E S h fun φ1 H1 w st1 u p1 k1 E1 S1 r h1 => ?_⟩
  exact s _ _ _ _ _ _ _ _ _ S1 (rv.mono p1 k1) r h1 fun φ2 H2 z st2 y p2 k2 S2 r2 q => c1 _ _ _ _ _ (p1.trans p2) (k1.trans k2) S2 ((E1.mono p2 k2).set r2) q
/-- o[i] = e, by values -/
abbrev KS := W → W → W → Sto → (Sto → Prop) → Prop
def SimS (K : PySem.W.Frag) (k : KS) (r : TSet) : Prop := ∀ φ H st x y z v u t (P : Sto → Prop) (Q : Hp → Prop), StR K φ st H → RepV K φ H x v → RepV K φ H y u → RepV K φ H z t → k x y z st P →
  (∀ φ' H' st', φ <+: φ' → Kp K H H' → StR K φ' st' H' → P st' → Q H') → r v u t H Q
def gSb (ca cb : CE) (k : KS) : CG := fun w en st P => ca en st fun x st1 => cb en st1 fun y st2 => k x y w st2 fun st3 => P en st3
theorem ag_sub {o i : Expr} {ca cb : CE} {t : TSet} {k : KS} (ho : AE X o ca) (hi : AE X i cb) (hs : PSet X t) (s : SimS X.K k t)
    (ha : ∀ v, assign (.Subscript o i pos) X.env v = (do
      let ov ← holding [v] (eval o X.env)
      let iv ← holding [v, ov] (eval i X.env)
      standAt pos
      holding [v, ov, iv] (setItem ov iv v)
      release [v, ov, iv] []) := by intro _; rfl) : AG X (.Subscript o i pos) (gSb ca cb k) := (pg_sub ho hi hs ha).imp fun v σ H Q ⟨φ, en, st, w, P, E, S, r, h, c⟩ => by
  refine tE.bind E S h fun φ1 H1 x st1 vx p1 k1 E1 S1 rx h1 => ?_
  refine tE.bind E1 S1 h1 fun φ2 H2 y st2 vy p2 k2 E2 S2 ry h2 => ?_
  exact s _ _ _ _ _ _ _ _ _ _ _ S2 (rx.mono p2 k2) ry (r.mono (p1.trans p2) (k1.trans k2)) h2 fun φ3 H3 st3 p3 k3 S3 q => c _ _ _ _ _ ((p1.trans p2).trans p3) ((k1.trans k2).trans k3) S3 (E2.mono p3 k3) q

/-! ### while -/
def sWhile (t : CT) (b : CS) : CS := fun D en st => ∃ I : Nat → En → Sto → Prop, (∃ m, I m en st) ∧ ∀ m en st, I m en st →
  t en st fun k st1 => if k = true then b { D with nx := fun en' st' => ∃ m', m' < m ∧ I m' en' st', ct := fun en' st' => ∃ m', m' < m ∧ I m' en' st', bk := D.nx } en st1 else D.nx en st1
theorem as_while {t : Expr} {body : List Stmt} {cb : CS} (hp : PassesOwn (model X.prog X.w) X.A X.env X.xe) (ht : AT X t ct) (hb : ASs X body cb) : AS X (.While t body [] pos) (sWhile ct cb) := (ps_while hp ht hb).imp fun D σ H ⟨φ, en, st, D', E, S, h, c1, c2, c3, c4⟩ => by
  obtain ⟨I, ⟨m, h0⟩, turn⟩ := h
  refine ⟨fun m σ1 H1 => ∃ φ1 en1 st1, φ <+: φ1 ∧ Kp X.K H H1 ∧ EnR X.K φ1 H1 en1 σ1 ∧ StR X.K φ1 st1 H1 ∧ I m en1 st1, ⟨m, φ, en, st, List.prefix_refl _, .refl, E, S, h0⟩, ?_⟩
  rintro m σ1 H1 ⟨φ1, en1, st1, p1, k1, E1, S1, h1⟩
  refine tT.bind E1 S1 (turn m en1 st1 h1) fun φ2 H2 b st2 p2 k2 E2 S2 h2 => ?_
  cases b with
  | false =>
    rw [if_neg Bool.false_ne_true] at h2 ⊢
    exact c1 _ _ _ _ _ (p1.trans p2) (k1.trans k2) S2 E2 h2
  | true =>
    rw [if_pos rfl] at h2 ⊢
    refine ⟨fun σ3 H3 => ∃ φ3 en3 st3, φ <+: φ3 ∧ Kp X.K H H3 ∧ EnR X.K φ3 H3 en3 σ3 ∧ StR X.K φ3 st3 H3 ∧ ∃ m', m' < m ∧ I m' en3 st3, ?_, ?_⟩
    · rintro σ3 H3 ⟨φ3, en3, st3, p3, k3, E3, S3, m', hm, h3⟩
      exact ⟨m', hm, φ3, en3, st3, p3, k3, E3, S3, h3⟩
    · refine ⟨φ2, en1, st2, _, E2, S2, h2, ?_, c2.mono (p1.trans p2) (k1.trans k2), c1.mono (p1.trans p2) (k1.trans k2), ?_⟩ <;>
        exact fun φ3 H3 en3 st3 σ3 p3 k3 S3 E3 q => ⟨φ3, en3, st3, (p1.trans p2).trans p3, (k1.trans k2).trans k3, E3, S3, q⟩
end

/-! ### what is walked -/
/-- at turn i: an item, or the end; stuck where it can't be said -/
abbrev AIt := Nat → Sto → Option (Option W)
abbrev CI := En → Sto → (AIt → Sto → Prop) → Prop
/-- the iterator of the layer below -/
structure ItR (K : PySem.W.Frag) (φ : List Addr) (H : Hp) (J : AIt) (T : It) : Prop where
  go : ∀ i st φ' H' w, φ <+: φ' → Kp K H H' → StR K φ' st H' → J i st = some (some w) → T.go i H' ∧ ∀ x H'', T.yld i H' x H'' → ∃ φ'', φ' <+: φ'' ∧ Kp K H' H'' ∧ StR K φ'' st H'' ∧ RepV K φ'' H'' w x
  stop : ∀ i st φ' H', φ <+: φ' → Kp K H H' → StR K φ' st H' → J i st = some none → T.stop i H'
def tI (K : PySem.W.Frag) (c : CI) : TI := fun σ H R => ∃ φ en st P, EnR K φ H en σ ∧ StR K φ st H ∧ c en st P ∧
  ∀ φ' H' J st' T, φ <+: φ' → Kp K H H' → EnR K φ' H' en σ → StR K φ' st' H' → ItR K φ' H' J T → P J st' → R T H'
abbrev AI (X : Cx) (tg e : Expr) (c : CI) : Prop := PI X tg e (tI X.K c)
theorem _root_.L2.PI.imp {X : Cx} {tg e : Expr} {t t' : TI} (h : PI X tg e t) (i : ∀ σ H Q, t' σ H Q → t σ H Q) : PI X tg e t' := ⟨fun p s σ H Q I q => h.run p s σ H Q I (i σ H Q q)⟩

def sFor (ci : CI) (g : CG) (b : CS) : CS := fun D en st => ci en st fun J st1 => ∃ (n : Nat) (I : Nat → En → Sto → Prop), I 0 en st1 ∧ ∀ i en st, I i en st → i ≤ n ∧
  ((J i st = some none ∧ D.nx en st) ∨ ∃ w, J i st = some (some w) ∧ i < n ∧ g w en st fun en2 st2 => b { D with nx := I (i + 1), ct := I (i + 1), bk := D.nx } en2 st2)
section
variable {X : Cx} {pos : Pos}
theorem as_for {tg iter : Expr} {body : List Stmt} {ci : CI} {g : CG} {cb : CS} (hp : PassesOwn (model X.prog X.w) X.A X.env X.xe) (hc : X.calm = true) (hi : AI X tg iter ci) (hg : AG X tg g) (hb : ASs X body cb)
    (hs : ∀ x, foldedSetIterable iter X.env x = pure x := by intro _; rfl) : AS X (.For tg iter body [] pos) (sFor ci g cb) := (ps_for hp hc hi hg hb hs).imp fun D σ H ⟨φ, en, st, D', E, S, h, c1, c2, c3, c4⟩ => by
  refine ⟨φ, en, st, _, E, S, h, fun φ1 H1 J st1 T p1 k1 E1 S1 R1 h1 => ?_⟩
  obtain ⟨n, I, h0, turn⟩ := h1
  refine ⟨fun i m σ2 H2 => m = n - i ∧ ∃ φ2 en2 st2, φ1 <+: φ2 ∧ Kp X.K H1 H2 ∧ EnR X.K φ2 H2 en2 σ2 ∧ StR X.K φ2 st2 H2 ∧ I i en2 st2, ⟨n, rfl, φ1, en, st1, List.prefix_refl _, .refl, E1, S1, h0⟩, ?_⟩
  rintro i m σ2 H2 ⟨rfl, φ2, en2, st2, p2, k2, E2, S2, h2⟩
  obtain ⟨hin, h3⟩ := turn i en2 st2 h2
  rcases h3 with ⟨e, q⟩ | ⟨w, e, hlt, h4⟩
  · exact .inl ⟨R1.stop i st2 φ2 H2 p2 k2 S2 e, c1 _ _ _ _ _ (p1.trans p2) (k1.trans k2) S2 E2 q⟩
  · obtain ⟨go, yl⟩ := R1.go i st2 φ2 H2 w p2 k2 S2 e
    refine .inr ⟨go, fun σ5 H5 => ∃ φ5 en5 st5, φ1 <+: φ5 ∧ Kp X.K H1 H5 ∧ EnR X.K φ5 H5 en5 σ5 ∧ StR X.K φ5 st5 H5 ∧ I (i + 1) en5 st5, ?_, fun x H4 y => ?_⟩
    · rintro σ5 H5 h5
      exact ⟨n - (i + 1), by omega, rfl, h5⟩
    · obtain ⟨φ4, p4, k4, S4, r4⟩ := yl x H4 y
      refine ⟨φ4, en2, st2, w, _, E2.mono p4 k4, S4, r4, h4, fun φ5 H5 en5 st5 σ5 p5 k5 S5 E5 q => ?_⟩
      have pp := p1.trans (p2.trans (p4.trans p5))
      have kk := k1.trans (k2.trans (k4.trans k5))
      refine ⟨φ5, en5, st5, _, E5, S5, q, ?_, c2.mono pp kk, c1.mono pp kk, ?_⟩ <;>
        exact fun φ6 H6 en6 st6 σ6 p6 k6 S6 E6 q => ⟨φ6, en6, st6, p2.trans (p4.trans (p5.trans p6)), k2.trans (k4.trans (k5.trans k6)), E6, S6, q⟩
end
end AL
namespace AL
open PySem PySem.Spec PyProof.Rows L2

/-! ### comprehensions -/
def wipeE (en : En) : List Nat → En
  | [] => en
  | v :: vs => (wipeE en vs).set v none
theorem EnR.unset {K : PySem.W.Frag} {φ : List Addr} {H : Hp} {en : En} {σ : L2.St} (E : EnR K φ H en σ) (i : Nat) : EnR K φ H (en.set i none) (σ.set i none) := by
  refine ⟨by simp [E.len], fun j w h => ?_⟩
  by_cases hj : i = j
  · subst hj
    by_cases hi : i < en.length
    · rw [List.getElem?_set_self hi] at h; cases h
    · rw [List.getElem?_eq_none (by simpa using hi)] at h; cases h
  · rw [List.getElem?_set_ne hj] at h ⊢
    exact E.at_ j w h
theorem EnR.wipe {K : PySem.W.Frag} {φ : List Addr} {H : Hp} {en : En} {σ : L2.St} (E : EnR K φ H en σ) : ∀ vs : List Nat, EnR K φ H (wipeE en vs) (wipe σ vs)
  | [] => E
  | v :: vs => (EnR.wipe E vs).unset v
theorem wipe_set_in {σ : L2.St} {i : Nat} {x : Option V} : ∀ {vs : List Nat}, i ∈ vs → wipe (σ.set i x) vs = wipe σ vs
  | v :: vs, h => by
    unfold wipe
    by_cases hi : i ∈ vs
    · rw [wipe_set_in hi]
    · have e : i = v := by simpa [hi] using h
      subst e
      have key : ∀ (vs : List Nat) (σ : L2.St), i ∉ vs → wipe (σ.set i x) vs = (wipe σ vs).set i x := by
        intro vs
        induction vs with
        | nil => intro _ _; rfl
        | cons w ws ih =>
          intro σ h
          simp only [List.mem_cons, not_or] at h
          unfold wipe
          rw [ih σ h.2, List.set_comm _ _ h.1]
      rw [key vs σ hi, List.set_set]
theorem wipe_wipe {σ : L2.St} {vs : List Nat} : ∀ {ws : List Nat}, (∀ i ∈ ws, i ∈ vs) → wipe (wipe σ ws) vs = wipe σ vs
  | [], _ => rfl
  | v :: ws, h => by
    show wipe ((wipe σ ws).set v none) vs = _
    rw [wipe_set_in (h v List.mem_cons_self), wipe_wipe fun i hi => h i (List.mem_cons_of_mem _ hi)]
/-- a target that stores to names at vs alone -/
def TgS (K : PySem.W.Frag) (vs : List Nat) (g : TG) (ga : CG) : Prop := ∀ φ H st w x en σ (P : En → Sto → Prop) (Q : L2.St → Hp → Prop), EnR K φ H en σ → StR K φ st H → RepV K φ H w x → ga w en st P →
  (∀ σ2 en2, wipe σ2 vs = wipe σ vs → EnR K φ H en2 σ2 → P en2 st → Q σ2 H) → g x σ H Q
theorem tgs_name {K : PySem.W.Frag} {vs : List Nat} {i : Nat} (h : i ∈ vs) : TgS K vs (gName i) (gN i) := fun φ H st w x en σ P Q E S r q n => n _ _ (wipe_set_in h) (E.set r) q
def gsNames : List Nat → CGs
  | [] => gsNil
  | i :: is => gsCons (gN i) (gsNames is)
def gNames : List Nat → TGs
  | [] => gNil
  | i :: is => gCons (gName i) (gNames is)
theorem tgs_names {K : PySem.W.Frag} {vs : List Nat} : ∀ {is : List Nat}, (∀ i ∈ is, i ∈ vs) → ∀ φ H st ws xs en σ (P : En → Sto → Prop) (Q : L2.St → Hp → Prop), EnR K φ H en σ → StR K φ st H → RepVs K φ H ws xs → gsNames is ws en st P →
    (∀ σ2 en2, wipe σ2 vs = wipe σ vs → EnR K φ H en2 σ2 → P en2 st → Q σ2 H) → gNames is xs σ H Q
  | [], _, φ, H, st, ws, xs, en, σ, P, Q, E, S, r, h, n => by
    obtain ⟨rfl, h⟩ := h
    cases r
    exact ⟨rfl, n _ _ rfl E h⟩
  | i :: is, hi, φ, H, st, ws, xs, en, σ, P, Q, E, S, r, h, n => by
    obtain ⟨w, rr, rfl, h⟩ := h
    cases r with
    | cons r1 r2 =>
      refine ⟨_, _, rfl, ?_⟩
      refine tgs_names (is := is) (fun j hj => hi j (List.mem_cons_of_mem _ hj)) φ H st rr _ _ _ P Q (E.set r1) S r2 h fun σ2 en2 e => n σ2 en2 ?_
      rw [e, wipe_set_in (hi i List.mem_cons_self)]
theorem tgs_tup {K : PySem.W.Frag} {vs is : List Nat} {n : Nat} (h : ∀ i ∈ is, i ∈ vs) : TgS K vs (gTup K n (gNames is)) (gT n (gsNames is)) := fun φ H st w x en σ P Q E S r q c => by
  obtain ⟨ws, rfl, hl, q⟩ := q
  cases r with
  | tup s rs => exact ⟨_, _, rfl, SqT.of s, by rw [← rs.length]; exact hl, tgs_names h φ H st ws _ en σ P Q E S rs q c⟩

def cYes : CT := fun _ st P => P true st
abbrev ATs (X : Cx) (es : List Expr) (c : CT) : Prop := PTs X es (tT X.K c)
theorem _root_.L2.PTs.imp {X : Cx} {e : List Expr} {t t' : TT} (h : PTs X e t) (i : ∀ σ H Q, t' σ H Q → t σ H Q) : PTs X e t' := by
  cases h
  constructor
  intros
  rename_i h _ _ _ _ _ I q
  exact h _ _ _ _ _ I (i _ _ _ q)
theorem ats_nil {X : Cx} : ATs X [] cYes := ⟨fun pins s σ H Q I ⟨φ, en, st, P, E, S, h, c⟩ => pts_nil.run pins s σ H Q I (c _ _ _ _ (List.prefix_refl _) .refl S h)⟩
theorem ats_one {X : Cx} {e : Expr} {c : CT} (h : AT X e c) : ATs X [e] c := pts_one h

/-- [elt for target in iter if ..] -/
def cLc (ci : CI) (g : CG) (tt : CT) (ce : CE) (vs : List Nat) : CE := fun en st P => ci en st fun J st1 => ∃ (n : Nat) (I : Nat → Sto → Prop), I 0 (st1 ++ [.lst []]) ∧ ∀ i st, I i st → i ≤ n ∧
  ((J i st = some none ∧ P (.ref st1.length) st) ∨ ∃ w, J i st = some (some w) ∧ i < n ∧ g w (wipeE en vs) st fun en2 st2 => tt en2 st2 fun b st3 =>
    if b = true then ce en2 st3 fun y st4 => ∃ acc, st4[st1.length]? = some (.lst acc) ∧ acc.length < sizeLine ∧ I (i + 1) (st4.set st1.length (.lst (acc ++ [y]))) else I (i + 1) st3)
theorem tLc_of {K : PySem.W.Frag} {ci : CI} {g : TG} {ga : CG} {tt : CT} {ce : CE} {vs : List Nat} {σ : L2.St} {H : Hp} {Q : VK} (tg : TgS K vs g ga) (h : tE K (cLc ci ga tt ce vs) σ H Q) : tLc (tI K ci) g (tT K tt) (tE K ce) vs σ H Q := by
  obtain ⟨φ, en, st, P, E, S, h, c⟩ := h
  refine ⟨φ, en, st, _, E, S, h, fun φ1 H1 J st1 T p1 k1 E1 S1 R1 h1 => ?_⟩
  intro D hD
  obtain ⟨n, I, h0, turn⟩ := h1
  have kD : Kp K H1 (upd H1 D (.lst [])) := Kp.new hD
  have pD : φ1 <+: φ1 ++ [D] := List.prefix_append _ _
  have SD : StR K (φ1 ++ [D]) (st1 ++ [.lst []]) (upd H1 D (.lst [])) := S1.new hD (.lst .nil)
  have gD : ∀ {φ' : List Addr}, φ1 ++ [D] <+: φ' → φ'[st1.length]? = some D := fun p => pre_get p (by rw [← S1.len, List.getElem?_append_right (Nat.le_refl _)]; simp)
  refine ⟨fun i m H2 => m = n - i ∧ ∃ φ2 st2, φ1 ++ [D] <+: φ2 ∧ Kp K (upd H1 D (.lst [])) H2 ∧ StR K φ2 st2 H2 ∧ I i st2, ⟨n, rfl, φ1 ++ [D], _, List.prefix_refl _, .refl, SD, h0⟩, ?_⟩
  rintro i m H2 ⟨rfl, φ2, st2, p2, k2, S2, h2⟩
  have E2 : EnR K φ2 H2 en σ := E1.mono (pD.trans p2) (kD.trans k2)
  obtain ⟨hin, h3⟩ := turn i st2 h2
  rcases h3 with ⟨e, q⟩ | ⟨w, e, hlt, h4⟩
  · exact .inl ⟨R1.stop i st2 φ2 H2 (pD.trans p2) (kD.trans k2) S2 e, c _ _ _ _ _ ((p1.trans pD).trans p2) ((k1.trans kD).trans k2) S2 (.ref (gD p2)) q⟩
  · obtain ⟨go, yl⟩ := R1.go i st2 φ2 H2 w (pD.trans p2) (kD.trans k2) S2 e
    refine .inr ⟨go, fun H5 => ∃ φ5 st5, φ1 ++ [D] <+: φ5 ∧ Kp K (upd H1 D (.lst [])) H5 ∧ StR K φ5 st5 H5 ∧ I (i + 1) st5, ?_, fun x H4 y => ?_⟩
    · rintro H5 h5
      exact ⟨n - (i + 1), by omega, rfl, h5⟩
    · obtain ⟨φ4, p4, k4, S4, r4⟩ := yl x H4 y
      refine tg φ4 H4 st2 w x (wipeE en vs) (wipe σ vs) _ _ ((E2.mono p4 k4).wipe vs) S4 r4 h4 fun σ5 en5 ew E5 h5 => ⟨?_, ?_⟩
      · rw [ew, wipe_wipe fun _ h => h]
      · refine tT.bind E5 S4 h5 fun φ6 H6 b st6 p6 k6 E6 S6 h6 => ?_
        cases b with
        | false =>
          rw [if_neg Bool.false_ne_true] at h6 ⊢
          exact ⟨φ6, st6, p2.trans (p4.trans p6), k2.trans (k4.trans k6), S6, h6⟩
        | true =>
          rw [if_pos rfl] at h6 ⊢
          refine tE.bind E6 S6 h6 fun φ7 H7 u st7 v7 p7 k7 E7 S7 r7 h7 => ?_
          obtain ⟨acc, ha, hz, h7⟩ := h7
          have pp : φ1 ++ [D] <+: φ7 := p2.trans (p4.trans (p6.trans p7))
          obtain ⟨uo, eu, ru⟩ := S7.ob _ _ _ (gD pp) ha
          obtain ⟨vs', rfl, rvs⟩ := ru
          refine ⟨vs', eu, by rw [← rvs.length]; exact hz, φ7, _, pp, (k2.trans (k4.trans (k6.trans k7))).trans (Kp.put eu trivial), S7.put (gD pp) eu trivial (.lst (rvs.append (.cons r7 .nil))), h7⟩
section
variable {X : Cx} {pos : Pos}
theorem ae_lc {elt tg iter : Expr} {ifs : List Expr} {scope : Scope} {own : List (Str × Nat)} {ci : CI} {g : TG} {ga : CG} {tt : CT} {ce : CE} (tgs : TgS X.K (own.map (·.2)) g ga) (hc : X.calm = true) (hN : X.N.Nodup) (hi : AI X tg iter ci) (ok : BlkOk X.N X.env.scope scope own)
    (hg : ∀ (s : Shared) (H : Hp) (C : Addr) (cl : List (Str × Addr)) (fp : List Addr), PG (X.blk s H scope (compEnvC scope cl C X.env) fp) tg g) (ht : ∀ (s : Shared) (H : Hp) (C : Addr) (cl : List (Str × Addr)) (fp : List Addr), ATs (X.blk s H scope (compEnvC scope cl C X.env) fp) ifs tt)
    (he : ∀ (s : Shared) (H : Hp) (C : Addr) (cl : List (Str × Addr)) (fp : List Addr), AE (X.blk s H scope (compEnvC scope cl C X.env) fp) elt ce) (hs : ∀ x, foldedSetIterable iter X.env x = pure x := by intro _; rfl) :
    AE X (.ListComp elt [⟨tg, iter, ifs, 0⟩] scope pos) (cLc ci ga tt ce (own.map (·.2))) := (pe_lc hc hN hi ok hg ht he hs).imp fun _ _ _ => tLc_of tgs
theorem as_setLc {i : Nat} {y : Str} {py spos : Pos} {elt tg iter : Expr} {ifs : List Expr} {scope : Scope} {own : List (Str × Nat)} {ci : CI} {g : TG} {ga : CG} {tt : CT} {ce : CE} (tgs : TgS X.K (own.map (·.2)) g ga) (hc : X.calm = true) (hN : X.N.Nodup) (hy : X.N[i]? = some y) (hyl : X.env.scope.names.lookup y = some .local)
    (hsw : swapsWith (.ListComp elt [⟨tg, iter, ifs, 0⟩] scope pos) (some (.Name y py)) spos.line X.env = pure true) (hi : AI X tg iter ci) (ok : BlkOk X.N X.env.scope scope own)
    (hg : ∀ (s : Shared) (H : Hp) (C : Addr) (cl : List (Str × Addr)) (fp : List Addr), PG (X.blk s H scope (compEnvC scope cl C X.env) fp) tg g) (ht : ∀ (s : Shared) (H : Hp) (C : Addr) (cl : List (Str × Addr)) (fp : List Addr), ATs (X.blk s H scope (compEnvC scope cl C X.env) fp) ifs tt)
    (he : ∀ (s : Shared) (H : Hp) (C : Addr) (cl : List (Str × Addr)) (fp : List Addr), AE (X.blk s H scope (compEnvC scope cl C X.env) fp) elt ce) (hs : ∀ x, foldedSetIterable iter X.env x = pure x := by intro _; rfl) :
    AS X (.Assign [.Name y py] (.ListComp elt [⟨tg, iter, ifs, 0⟩] scope pos) spos) (sSet i (cLc ci ga tt ce (own.map (·.2)))) := (ps_setLc hc hN hy hyl hsw hi ok hg ht he hs).imp fun D σ H ⟨φ, en, st, D', E, S, h, c1, c2, c3, c4⟩ =>
  tLc_of tgs ⟨φ, en, st, _, E, S, h, fun φ1 H1 w st1 v p1 k1 S1 r q => c1 _ _ _ _ _ p1 k1 S1 ((E.mono p1 k1).set r) q⟩
end
end AL
namespace AL
open PySem PySem.Spec PyProof.Rows L2

/-! ### defs and their promises -/
/-- what a def promises: the arguments, the store, what is wanted of the value and the store behind -/
abbrev Sc := List W → Sto → PW_ → Prop
def spA (K : PySem.W.Frag) (S : Sc) : Sp := fun vs H Q _ => ∃ φ ws st P, RepVs K φ H ws vs ∧ StR K φ st H ∧ S ws st P ∧ Ct K φ H P Q
/-- names at the entry -/
def startE (n : Nat) (ws : List W) : En := ws.map some ++ List.replicate (n - ws.length) none
theorem EnR.start {K : PySem.W.Frag} {φ : List Addr} {H : Hp} {N : List Str} {ws : List W} {vs : List V} (r : RepVs K φ H ws vs) : EnR K φ H (startE N.length ws) (L2.start N vs) := by
  have hl := r.length
  refine ⟨by simp [startE, L2.start, hl], fun i w h => ?_⟩
  unfold startE at h
  unfold L2.start
  by_cases hi : i < ws.length
  · rw [List.getElem?_append_left (by simpa using hi), List.getElem?_map] at h
    rw [List.getElem?_append_left (by simpa using (hl ▸ hi)), List.getElem?_map]
    cases e : ws[i]? with
    | none => rw [e] at h; cases h
    | some x =>
      rw [e] at h; cases h
      obtain ⟨v, ev, rv⟩ := r.get e
      exact ⟨v, by rw [ev]; rfl, rv⟩
  · rw [List.getElem?_append_right (by simpa using hi), List.getElem?_replicate] at h
    split at h <;> cases h
/-- the body keeps the promise -/
def Keeps (n : Nat) (S : Sc) (B : CS) : Prop := ∀ ws st P, S ws st P → B { nx := fun _ st' => P .non st', rt := P } (startE n ws) st
theorem fn_ok {P : Program} {w : World} {K : PySem.W.Frag} {mg : Str → Option Value} {base : Heap} {x qual : Str} {st : Stmt} {f : Addr} {fd : FuncData} {N ps : List Str} {k : Nat} {S : Sc} {B : CS} (F : Fun K x qual st f fd) (Sco : FnScope N ps (defScope st))
    (len : ∀ ws st P, S ws st P → ws.length = ps.length) (hB : Keeps N.length S B)
    (hbody : ∀ (cdv : Value) (A : Around) (outer : List Env) (s : Shared) (H : Hp) (E : XK), Room k (A.deeper (envOfC qual (defScope st) s.heap.objs.size f cdv)) → ASs (cxOf CX0 P w K mg base N qual (defScope st) f cdv A outer s H E).nox (defBody st) B) :
    FnOk P w K mg base CX0 (k + 1) f fd ps (spA K S) := by
  refine F.ok Sco (fun vs H Q E ⟨φ, ws, st, P, r, _, h, _⟩ => by rw [← r.length]; exact len _ _ _ h) fun cdv A outer s H vs Q E hr hsp => ?_
  obtain ⟨φ, ws, st0, P, r, SR, h, c⟩ := hsp
  refine ⟨_, hbody cdv A outer s H E hr, φ, startE N.length ws, st0, _, EnR.start r, SR, hB ws st0 P h, ?_, c, fun _ _ _ _ _ _ _ _ _ q => q.elim, fun _ _ _ _ _ _ _ _ _ q => q.elim⟩
  exact fun φ1 H1 en1 st1 σ1 p k S1 E1 q => c _ _ _ _ _ p k S1 .non q

section
variable {X : Cx} {CX : CXT} {k : Nat} {f C : Addr} {fd : FuncData} {ps : List Str} {S : Sc} {x m : Str} {p pos apos : Pos} {e o : Expr} {es : List Expr} {cl : CA} {co : CE}
theorem ae_call (F : FnOk X.prog X.w X.K X.mg X.base CX0 k f fd ps (spA X.K S)) (hr : Room k X.A) (hg : Gl X x) (hm : X.mg x = some (.ref f)) (hk : PySem.W.keepIn X.K (.ref f) = true) (hb : Binds X.K fd ps [])
    (ha : AA X (e :: es) cl) (hdb : (x == ("__debug__" : Str)) = false := by decide) (he : starEach (e :: es) X.env = (false, eval e X.env) :: starEach es X.env := by rfl) (hpl : (backTo pos (starEach es X.env)).any (·.1) = false := by rfl) :
    AE X (.Call (.Name x p) (e :: es) [] pos) (cCall S cl) := (pe_call F hr hg hm hk hb .nil pass0 ha hdb he hpl).imp fun σ H Q ⟨φ, en, st, P, E, SR, h, c⟩ => by
  refine tA.bind E SR h fun φ1 H1 ws st1 vs p1 k1 E1 S1 r h1 => ?_
  rw [List.append_nil]
  exact ⟨φ1, ws, st1, P, r, S1, h1, c.mono p1 k1⟩
theorem ae_call0 (F : FnOk X.prog X.w X.K X.mg X.base CX0 k f fd ps (spA X.K S)) (hr : Room k X.A) (hg : Gl X x) (hm : X.mg x = some (.ref f)) (hk : PySem.W.keepIn X.K (.ref f) = true) (hb : Binds X.K fd ps [])
    (hdb : (x == ("__debug__" : Str)) = false := by decide) : AE X (.Call (.Name x p) [] [] pos) (cCall S cNil) := (pe_call0 F hr hg hm hk hb .nil pass0 hdb).imp fun σ H Q ⟨φ, en, st, P, E, SR, h, c⟩ =>
  ⟨φ, [], st, P, .nil, SR, h, c⟩
end

/-! ### the law -/
theorem law_sp {K : PySem.W.Frag} {S : Sc} {H : Hp} {a : Addr} {ns : List Int} (hO : Only H) (hS : SqL K H a (ns.map V.int)) (h : S [.scr ns] [] (fun w _ => w = .bl true)) : spA K S [.ref a] H (fun v _ => v = .bl true) fun _ _ _ => False := by
  have hF : SqF K H a (ns.map V.int) := by
    rcases hS with (h1 | h1) | h1
    · rcases hO a with h2 | ⟨o, xs, h2⟩ <;> rw [h1] at h2 <;> cases h2
    · exact .inl h1
    · exact .inr h1
  refine ⟨[], [.scr ns], [], _, .cons (.scr hF) .nil, ⟨rfl, .nil, fun n a o h => by simp at h⟩, h, fun φ' H' w st' v p k S' r q => ?_⟩
  subst q
  cases r
  rfl
end AL
namespace AL
open PySem PySem.Spec PyProof.Rows L2

/-- the items of a list -/
def lstAt (st : Sto) (n : Nat) : Option (List W) := match st[n]? with
  | some (.lst ws) => some ws
  | _ => none
section
variable {K : PySem.W.Frag} {φ : List Addr} {H : Hp} {st : Sto}
theorem lst_rep {n : Nat} {a : Addr} {ws : List W} (S : StR K φ st H) (h : φ[n]? = some a) (e : lstAt st n = some ws) : ∃ vs, H a = some (.lst vs) ∧ RepVs K φ H ws vs := by
  obtain ⟨o, ho, r⟩ := S.there h
  unfold lstAt at e
  rw [ho] at e
  cases o with
  | lst ws' =>
    cases e
    obtain ⟨u, hu, vs, rfl, rv⟩ := r
    exact ⟨vs, hu, rv⟩
  | _ => cases e
end
/-! ### numbers -/
def kI (f : Int → Int → W) (C : Int → Int → Prop) : K2 := fun x y st P => match x, y with
  | .int i, .int j => C i j ∧ P (f i j) st
  | _, _ => False
def kI0 (f : Int → Int → W) : K2 := fun x y st P => match x, y with
  | .int i, .int j => P (f i j) st
  | _, _ => False
theorem sim_rI {K : PySem.W.Frag} {C : Int → Int → Prop} {g : Int → Int → Int} : Sim2 K (kI (fun i j => .int (g i j)) C) (rI C fun i j => .int (g i j)) := fun φ H st x y v u P Q S rx ry h c => by
  cases x <;> cases y <;> first | exact h.elim | skip
  cases rx; cases ry
  exact ⟨_, _, rfl, rfl, h.1, c.id S .int h.2⟩
theorem sim_rI0 {K : PySem.W.Frag} {g : Int → Int → Int} : Sim2 K (kI0 (fun i j => .int (g i j))) (rI0 fun i j => .int (g i j)) := fun φ H st x y v u P Q S rx ry h c => by
  cases x <;> cases y <;> first | exact h.elim | skip
  cases rx; cases ry
  exact ⟨_, _, rfl, rfl, c.id S .int h⟩
theorem sim_rB0 {K : PySem.W.Frag} {g : Int → Int → Bool} : Sim2 K (kI0 (fun i j => .bl (g i j))) (rI0 fun i j => .bl (g i j)) := fun φ H st x y v u P Q S rx ry h c => by
  cases x <;> cases y <;> first | exact h.elim | skip
  cases rx; cases ry
  exact ⟨_, _, rfl, rfl, c.id S .bl h⟩
/-- a + b -/
def kAdd : K2 := fun x y st P => match x, y with
  | .int i, .int j => P (.int (i + j)) st
  | .tup a, .tup b => a.length + b.length ≤ sizeLine ∧ P (.tup (a ++ b)) st
  | .ref m, .ref n => ∃ a b, lstAt st m = some a ∧ lstAt st n = some b ∧ a.length + b.length ≤ sizeLine ∧ P (.ref st.length) (st ++ [.lst (a ++ b)])
  | _, _ => False
theorem op_addA {X : Cx} : OpR X (binaryOp .Add) (fun x y H Q => (rI0 fun i j => .int (i + j)) x y H Q ∨ (rCatA X.K x y H Q ∨ rCat x y H Q)) := op_add.or (op_catA.or op_cat)
theorem sim_add {X : Cx} : Sim2 X.K kAdd (fun x y H Q => (rI0 fun i j => .int (i + j)) x y H Q ∨ (rCatA X.K x y H Q ∨ rCat x y H Q)) := fun φ H st x y v u P Q S rx ry h c => by
  cases x <;> cases y <;> first | exact h.elim | skip
  · cases rx; cases ry
    exact .inl ⟨_, _, rfl, rfl, c.id S .int h⟩
  · obtain ⟨hl, h⟩ := h
    cases rx with
    | tup ex rxs =>
      cases ry with
      | tup ey rys =>
        refine .inr (.inl ⟨_, _, _, _, rfl, rfl, SqT.of ex, SqT.of ey, by rw [← rxs.length, ← rys.length]; exact hl, ?_⟩)
        refine ⟨fun e => ?_, fun _ e => ?_, fun _ _ p hp => c.tup S hp (rxs.append rys) h⟩
        · subst e; cases rxs
          rw [List.nil_append] at h
          exact c.id S (.tup ey rys) h
        · subst e; cases rys
          rw [List.append_nil] at h
          exact c.id S (.tup ex rxs) h
  · obtain ⟨a, b, ha, hb, hl, h⟩ := h
    cases rx with
    | ref ex =>
      cases ry with
      | ref ey =>
        obtain ⟨vs, e1, r1⟩ := lst_rep S ex ha
        obtain ⟨us, e2, r2⟩ := lst_rep S ey hb
        exact .inr (.inr ⟨_, _, _, _, rfl, rfl, e1, e2, by rw [← r1.length, ← r2.length]; exact hl, fun p hp => c.new S hp (.lst (r1.append r2)) h⟩)

def kSub : K2 := kI0 fun i j => .int (i - j)
theorem sim_sub {K : PySem.W.Frag} : Sim2 K kSub (rI0 fun i j => .int (i - j)) := sim_rI0
/-- a * b -/
def kMul : K2 := fun x y st P => match x, y with
  | .int i, .int j => CMul i j ∧ P (.int (i * j)) st
  | .ref m, .int k => ∃ a, lstAt st m = some a ∧ -(2 ^ 63) ≤ k ∧ k < 2 ^ 63 ∧ a.length * k.toNat ≤ sizeLine ∧ P (.ref st.length) (st ++ [.lst (List.replicate k.toNat a).flatten])
  | _, _ => False
theorem op_mulA {X : Cx} : OpR X (binaryOp .Mult) (fun x y H Q => (rI CMul fun i j => .int (i * j)) x y H Q ∨ rRep x y H Q) := op_mul.or op_rep
theorem RepVs.rep {K : PySem.W.Frag} {φ : List Addr} {H : Hp} {ws : List W} {vs : List V} (h : RepVs K φ H ws vs) : ∀ k : Nat, RepVs K φ H (List.replicate k ws).flatten (List.replicate k vs).flatten
  | 0 => .nil
  | k + 1 => by
    rw [List.replicate_succ, List.replicate_succ, List.flatten_cons, List.flatten_cons]
    exact h.append (RepVs.rep h k)
theorem sim_mul {X : Cx} : Sim2 X.K kMul (fun x y H Q => (rI CMul fun i j => .int (i * j)) x y H Q ∨ rRep x y H Q) := fun φ H st x y v u P Q S rx ry h c => by
  cases x <;> cases y <;> first | exact h.elim | skip
  · cases rx; cases ry
    exact .inl ⟨_, _, rfl, rfl, h.1, c.id S .int h.2⟩
  · obtain ⟨a, ha, h1, h2, h3, h⟩ := h
    cases ry
    cases rx with
    | ref ex =>
      obtain ⟨vs, e1, r1⟩ := lst_rep S ex ha
      exact .inr ⟨_, _, _, rfl, rfl, e1, h1, h2, by rw [← r1.length]; exact h3, fun p hp => c.new S hp (.lst (r1.rep _)) h⟩
def kDiv : K2 := kI (fun i j => .int (i / j)) CDiv
theorem sim_div {K : PySem.W.Frag} : Sim2 K kDiv (rI CDiv fun i j => .int (i / j)) := sim_rI
def kMod : K2 := kI (fun i j => .int (i % j)) (fun _ j => 0 < j)
theorem sim_mod {K : PySem.W.Frag} : Sim2 K kMod (rI (fun _ j => 0 < j) fun i j => .int (i % j)) := sim_rI
def kPow : K2 := kI (fun i j => .int (i ^ j.toNat)) CPow
theorem sim_pow {K : PySem.W.Frag} : Sim2 K kPow (rI CPow fun i j => .int (i ^ j.toNat)) := sim_rI
def kShl : K2 := kI (fun i j => .int (i * 2 ^ j.toNat)) CPow
theorem sim_shl {K : PySem.W.Frag} : Sim2 K kShl (rI CPow fun i j => .int (i * 2 ^ j.toNat)) := sim_rI
def kShr : K2 := kI (fun i j => .int (i / 2 ^ j.toNat)) (fun _ j => 0 ≤ j)
theorem sim_shr {K : PySem.W.Frag} : Sim2 K kShr (rI (fun _ j => 0 ≤ j) fun i j => .int (i / 2 ^ j.toNat)) := sim_rI
def kBAnd : K2 := kI0 fun i j => .int (Builtin.bitAnd i j)
theorem sim_band {K : PySem.W.Frag} : Sim2 K kBAnd (rI0 fun i j => .int (Builtin.bitAnd i j)) := sim_rI0
def kBOr : K2 := kI0 fun i j => .int (Builtin.bitOr i j)
theorem sim_bor {K : PySem.W.Frag} : Sim2 K kBOr (rI0 fun i j => .int (Builtin.bitOr i j)) := sim_rI0
def kNeg : K1 := fun x st P => match x with
  | .int i => P (.int (-i)) st
  | _ => False
theorem sim_neg {K : PySem.W.Frag} : Sim1 K kNeg (rU fun i => .int (-i)) := fun φ H st x v P Q S rx h c => by
  cases x <;> first | exact h.elim | skip
  cases rx
  exact ⟨_, rfl, c.id S .int h⟩
def kLt : K2 := kI0 fun i j => .bl (decide (i < j))
theorem sim_lt {K : PySem.W.Frag} : Sim2 K kLt (rI0 fun i j => .bl (decide (i < j))) := sim_rB0
def kLe : K2 := kI0 fun i j => .bl (decide (i ≤ j))
theorem sim_le {K : PySem.W.Frag} : Sim2 K kLe (rI0 fun i j => .bl (decide (i ≤ j))) := sim_rB0
def kGt : K2 := kI0 fun i j => .bl (decide (j < i))
theorem sim_gt {K : PySem.W.Frag} : Sim2 K kGt (rI0 fun i j => .bl (decide (j < i))) := sim_rB0
def kGe : K2 := kI0 fun i j => .bl (decide (j ≤ i))
theorem sim_ge {K : PySem.W.Frag} : Sim2 K kGe (rI0 fun i j => .bl (decide (j ≤ i))) := sim_rB0

/-! ### data as a whole -/
def scalD : W → Option PyData
  | .non => some .none
  | .bl b => some (.bool b)
  | .int i => some (.int i)
  | .str x => some (.str x)
  | _ => none
def datL (f : W → Option PyData) : List W → Option (List PyData)
  | [] => some []
  | w :: ws => match f w with
    | some d => (datL f ws).map (d :: ·)
    | none => none
/-- what a value is, to the depth n -/
def dat (st : Sto) : Nat → W → Option PyData
  | 0, w => scalD w
  | n + 1, w => match w with
    | .tup ws => (datL (dat st n) ws).map .tuple
    | .ref m => match lstAt st m with
      | some ws => (datL (dat st n) ws).map .list
      | none => none
    | w => scalD w
section
variable {K : PySem.W.Frag} {φ : List Addr} {H : Hp} {st : Sto}
theorem scal_dp {w : W} {v : V} {d : PyData} (r : RepV K φ H w v) (h : scalD w = some d) : Dp K H v d ∧ d.plain = true ∧ d.depth = 0 := by
  cases r <;> first | (cases h; done) | (simp [scalD] at h; done) | (simp only [scalD, Option.some.injEq] at h; subst h; exact ⟨by constructor, rfl, rfl⟩)
theorem datL_dp {f : W → Option PyData} {n : Nat} (hf : ∀ w v d, RepV K φ H w v → f w = some d → Dp K H v d ∧ d.plain = true ∧ d.depth ≤ n) : ∀ {ws : List W} {vs : List V} {ds : List PyData}, RepVs K φ H ws vs → datL f ws = some ds →
    DpAll K H vs ds ∧ PyData.plainAll ds = true ∧ PyData.depthAll ds ≤ n
  | [], _, _, r, h => by
    cases r; cases h
    exact ⟨.nil, rfl, Nat.zero_le _⟩
  | w :: ws, _, ds, r, h => by
    cases r with
    | cons r1 r2 =>
      unfold datL at h
      cases e : f w with
      | none => rw [e] at h; cases h
      | some d =>
        rw [e] at h
        obtain ⟨es, h1, rfl⟩ := Option.map_eq_some_iff.mp h
        obtain ⟨a1, a2, a3⟩ := hf w _ d r1 e
        obtain ⟨b1, b2, b3⟩ := datL_dp hf r2 h1
        refine ⟨.cons a1 b1, by simp [PyData.plainAll, a2, b2], ?_⟩
        rw [PyData.depthAll]
        omega
theorem dat_dp (S : StR K φ st H) : ∀ {n : Nat} {w : W} {v : V} {d : PyData}, RepV K φ H w v → dat st n w = some d → Dp K H v d ∧ d.plain = true ∧ d.depth ≤ n
  | 0, w, v, d, r, h => by
    obtain ⟨a, b, c⟩ := scal_dp r h
    exact ⟨a, b, Nat.le_of_eq c⟩
  | n + 1, w, v, d, r, h => by
    have ih : ∀ w v d, RepV K φ H w v → dat st n w = some d → Dp K H v d ∧ d.plain = true ∧ d.depth ≤ n := fun w v d r h => dat_dp S r h
    unfold dat at h
    cases w with
    | tup ws =>
      obtain ⟨ds, h1, rfl⟩ := Option.map_eq_some_iff.mp h
      cases r with
      | tup e rs =>
        obtain ⟨a, b, c⟩ := datL_dp ih rs h1
        exact ⟨.tup (SqT.of e) a, b, by rw [PyData.depth]; omega⟩
    | ref m =>
      cases r with
      | ref e =>
        simp only at h
        cases hl : lstAt st m with
        | none => rw [hl] at h; cases h
        | some ws =>
          rw [hl] at h
          obtain ⟨ds, h1, rfl⟩ := Option.map_eq_some_iff.mp h
          obtain ⟨vs, e1, rs⟩ := lst_rep S e hl
          obtain ⟨a, b, c⟩ := datL_dp ih rs h1
          exact ⟨.lst (SqL.of e1) a, b, by rw [PyData.depth]; omega⟩
    | _ =>
      obtain ⟨a, b, c⟩ := scal_dp r h
      exact ⟨a, b, by omega⟩
end
/-- the depth to which data is compared -/
def kEq : K2 := fun x y st P => ∃ d e, dat st 40 x = some d ∧ dat st 40 y = some e ∧ P (.bl (PyData.eqv d e)) st
def kNe : K2 := fun x y st P => ∃ d e, dat st 40 x = some d ∧ dat st 40 y = some e ∧ P (.bl (!PyData.eqv d e)) st
def rEqP (K : PySem.W.Frag) (neg : Bool) : R2 := fun x y H Q => ∃ d e, Dp K H x d ∧ Dp K H y e ∧ d.plain = true ∧ e.plain = true ∧ d.depth ≤ 40 ∧ Q (.bl (if neg then !PyData.eqv d e else PyData.eqv d e)) H
theorem op_eqP {X : Cx} (hu : X.A.units + 64 < cLine) : OpR X (compareOp .Eq) (rEqP X.K false) := by
  intro pins s σ H x y v u Q I rx ry h
  obtain ⟨d, e, hd, he, sd, se, dp, q⟩ := h
  obtain ⟨as, r1⟩ := Dp.reads I d x v hd rx
  obtain ⟨bs, r2⟩ := Dp.reads I e y u he ry
  exact SeqAt.eq_plain r1 r2 sd se (by have := Nat.min_le_left d.depth e.depth; omega) ⟨.bl _, H, I, rfl, q⟩
theorem op_neP {X : Cx} (hu : X.A.units + 64 < cLine) : OpR X (compareOp .NotEq) (rEqP X.K true) := by
  intro pins s σ H x y v u Q I rx ry h
  obtain ⟨d, e, hd, he, sd, se, dp, q⟩ := h
  obtain ⟨as, r1⟩ := Dp.reads I d x v hd rx
  obtain ⟨bs, r2⟩ := Dp.reads I e y u he ry
  exact SeqAt.ne_plain r1 r2 sd se (by have := Nat.min_le_left d.depth e.depth; omega) ⟨.bl _, H, I, rfl, q⟩
theorem sim_eq {K : PySem.W.Frag} : Sim2 K kEq (rEqP K false) := fun φ H st x y v u P Q S rx ry h c => by
  obtain ⟨d, e, hd, he, h⟩ := h
  obtain ⟨a1, a2, a3⟩ := dat_dp S rx hd
  obtain ⟨b1, b2, b3⟩ := dat_dp S ry he
  exact ⟨d, e, a1, b1, a2, b2, a3, c.id S .bl h⟩
theorem sim_ne {K : PySem.W.Frag} : Sim2 K kNe (rEqP K true) := fun φ H st x y v u P Q S rx ry h c => by
  obtain ⟨d, e, hd, he, h⟩ := h
  obtain ⟨a1, a2, a3⟩ := dat_dp S rx hd
  obtain ⟨b1, b2, b3⟩ := dat_dp S ry he
  exact ⟨d, e, a1, b1, a2, b2, a3, c.id S .bl h⟩
/-- x is None -/
def kIsN : K2 := fun x y st P => y = .non ∧ P (.bl (match x with | .non => true | _ => false)) st
def kNotN : K2 := fun x y st P => y = .non ∧ P (.bl (!(match x with | .non => true | _ => false))) st
theorem sim_isN {K : PySem.W.Frag} : Sim2 K kIsN (fun x y H Q => y = .non ∧ Q (.bl (decide (x = .non))) H) := fun φ H st x y v u P Q S rx ry h c => by
  obtain ⟨rfl, h⟩ := h
  cases ry
  refine ⟨rfl, c.id S ?_ h⟩
  cases rx <;> exact .bl
theorem sim_notN {K : PySem.W.Frag} : Sim2 K kNotN (fun x y H Q => y = .non ∧ Q (.bl (!decide (x = .non))) H) := fun φ H st x y v u P Q S rx ry h c => by
  obtain ⟨rfl, h⟩ := h
  cases ry
  refine ⟨rfl, c.id S ?_ h⟩
  cases rx <;> exact .bl
/-- is, is not of truths -/
def kIsB : K2 := fun x y st P => ∃ a b : Bool, x = .bl a ∧ y = .bl b ∧ P (.bl (decide (a = b))) st
def kNotB : K2 := fun x y st P => ∃ a b : Bool, x = .bl a ∧ y = .bl b ∧ P (.bl (!decide (a = b))) st
theorem sim_isB {K : PySem.W.Frag} : Sim2 K kIsB rIsB := fun φ H st x y v u P Q S rx ry h c => by
  obtain ⟨a, b, rfl, rfl, h⟩ := h
  cases rx; cases ry
  exact ⟨a, b, rfl, rfl, c.id S .bl h⟩
theorem sim_notB {K : PySem.W.Frag} : Sim2 K kNotB rNotB := fun φ H st x y v u P Q S rx ry h c => by
  obtain ⟨a, b, rfl, rfl, h⟩ := h
  cases rx; cases ry
  exact ⟨a, b, rfl, rfl, c.id S .bl h⟩

/-! ### keys, dicts -/
def toKey : W → Option Key
  | .int i => some (.inl i)
  | .str x => some (.inr x)
  | _ => none
def toKeyL : List W → Option (List Key)
  | [] => some []
  | w :: ws => match toKey w with
    | some k => (toKeyL ws).map (k :: ·)
    | none => none
def toKeys : W → Option (List Key)
  | .tup ws => toKeyL ws
  | _ => none
section
variable {K : PySem.W.Frag} {φ : List Addr} {H : Hp} {st : Sto}
theorem toKey_rep {w : W} {v : V} {k : Key} (r : RepV K φ H w v) (h : toKey w = some k) : v = kV k := by
  cases r <;> first | (cases h; done) | (simp only [toKey, Option.some.injEq] at h; subst h; rfl)
theorem toKeyL_rep : ∀ {ws : List W} {vs : List V} {ks : List Key}, RepVs K φ H ws vs → toKeyL ws = some ks → vs = ks.map kV
  | [], _, _, r, h => by cases r; cases h; rfl
  | w :: ws, _, ks, r, h => by
    cases r with
    | cons r1 r2 =>
      unfold toKeyL at h
      cases e : toKey w with
      | none => rw [e] at h; cases h
      | some k =>
        rw [e] at h
        obtain ⟨es, h1, rfl⟩ := Option.map_eq_some_iff.mp h
        rw [toKey_rep r1 e, toKeyL_rep r2 h1]; rfl
theorem toKeys_rep {w : W} {v : V} {ks : List Key} (r : RepV K φ H w v) (h : toKeys w = some ks) : ∃ b, v = .ref b ∧ H b = some (.tup (ks.map kV)) := by
  cases r <;> first | (cases h; done) | skip
  rename_i e rs
  refine ⟨_, rfl, ?_⟩
  rw [e, toKeyL_rep rs h]
end
section
variable {κ : Type} [DecidableEq κ]
def valW (kvs : List (κ × W)) (k : κ) : Option W := (kvs.find? fun kv => decide (kv.1 = k)).map (·.2)
def putW (kvs : List (κ × W)) (k : κ) (v : W) : List (κ × W) :=
  if (kvs.any fun kv => decide (kv.1 = k)) = true then kvs.map (fun kv => if kv.1 = k then (kv.1, v) else kv) else kvs ++ [(k, v)]
variable {K : PySem.W.Frag} {φ : List Addr} {H : Hp}
theorem PKV.length {kvs : List (κ × W)} {vs : List (κ × V)} (r : PKV K φ H kvs vs) : kvs.length = vs.length := Paired.length r
theorem PKV.val {k : κ} : ∀ {kvs : List (κ × W)} {vs : List (κ × V)}, PKV K φ H kvs vs → (valW kvs k = none → valV vs k = none) ∧ ∀ w, valW kvs k = some w → ∃ v, valV vs k = some v ∧ RepV K φ H w v := by
  intro kvs vs r
  unfold PKV at r
  induction r with
  | nil => exact ⟨fun _ => rfl, fun w h => by cases h⟩
  | @cons p q ps qs h t ih =>
    unfold valW valV at *
    rw [List.find?_cons, List.find?_cons, h.1]
    by_cases e : q.1 = k
    · simp only [e, decide_true]
      exact ⟨fun z => (nomatch z), fun w z => by cases z; exact ⟨_, rfl, h.2⟩⟩
    · simp only [e, decide_false]
      exact ih
theorem PKV.any {k : κ} : ∀ {kvs : List (κ × W)} {vs : List (κ × V)}, PKV K φ H kvs vs → (kvs.any fun kv => decide (kv.1 = k)) = (vs.any fun kv => decide (kv.1 = k)) := by
  intro kvs vs r
  unfold PKV at r
  induction r with
  | nil => rfl
  | @cons p q ps qs h t ih => rw [List.any_cons, List.any_cons, h.1, ih]
theorem PKV.put {k : κ} {w : W} {v : V} (rv : RepV K φ H w v) {kvs : List (κ × W)} {vs : List (κ × V)} (r : PKV K φ H kvs vs) : PKV K φ H (putW kvs k w) (putK vs k v) := by
  unfold putW putK
  rw [r.any (k := k)]
  split
  · rename_i hx; clear hx
    unfold PKV at r ⊢
    induction r with
    | nil => exact .nil
    | @cons p q ps qs h t ih =>
      refine .cons ?_ ih
      show (if p.1 = k then (p.1, w) else p).1 = (if q.1 = k then (q.1, v) else q).1 ∧ RepV K φ H (if p.1 = k then (p.1, w) else p).2 (if q.1 = k then (q.1, v) else q).2
      rw [h.1]
      by_cases e : q.1 = k
      · rw [if_pos e, if_pos e]; exact ⟨rfl, rv⟩
      · rw [if_neg e, if_neg e]; exact ⟨h.1, h.2⟩
  · rename_i hx; clear hx
    unfold PKV at r ⊢
    induction r with
    | nil => exact .cons ⟨rfl, rv⟩ .nil
    | cons h t ih => exact .cons h ih
end
/-- what a dict holds at y: none where it can't be said -/
def dicAt (st : Sto) (n : Nat) (y : W) : Option (Option W) := match st[n]? with
  | some (.dK kvs) => (toKey y).map (valW kvs)
  | some (.dT kvs) => (toKeys y).map (valW kvs)
  | some (.fz (.dK kvs)) => (toKey y).map (valW kvs)
  | some (.fz (.dT kvs)) => (toKeys y).map (valW kvs)
  | _ => none
/-- behind d[y] = w -/
def dicPut (st : Sto) (n : Nat) (y w : W) : Option O := match st[n]? with
  | some (.dK kvs) => if kvs.length < sizeLine then (toKey y).map fun k => .dK (putW kvs k w) else none
  | some (.dT kvs) => if kvs.length < sizeLine then (toKeys y).map fun k => .dT (putW kvs k w) else none
  | _ => none
section
variable {K : PySem.W.Frag} {φ : List Addr} {H : Hp} {st : Sto}
theorem dic_get {n : Nat} {a : Addr} {y : W} {u : V} {o : Option W} (S : StR K φ st H) (h : φ[n]? = some a) (ry : RepV K φ H y u) (e : dicAt st n y = some o) :
    ∃ ov, DGet H a u ov ∧ (o = none → ov = none) ∧ ∀ w, o = some w → ∃ v, ov = some v ∧ RepV K φ H w v := by
  obtain ⟨ob, ho, r⟩ := S.there h
  unfold dicAt at e
  rw [ho] at e
  have kk : ∀ kvs vs, Rd H a (.dK vs) → PKV K φ H kvs vs → (toKey y).map (valW kvs) = some o → ∃ ov, DGet H a u ov ∧ (o = none → ov = none) ∧ ∀ w, o = some w → ∃ v, ov = some v ∧ RepV K φ H w v := by
    intro kvs vs hr rp e
    obtain ⟨k, hk, rfl⟩ := Option.map_eq_some_iff.mp e
    exact ⟨valV vs k, .inl ⟨vs, k, hr, toKey_rep ry hk, rfl⟩, rp.val.1, rp.val.2⟩
  have tt : ∀ kvs vs, Rd H a (.dT vs) → PKV K φ H kvs vs → (toKeys y).map (valW kvs) = some o → ∃ ov, DGet H a u ov ∧ (o = none → ov = none) ∧ ∀ w, o = some w → ∃ v, ov = some v ∧ RepV K φ H w v := by
    intro kvs vs hr rp e
    obtain ⟨k, hk, rfl⟩ := Option.map_eq_some_iff.mp e
    obtain ⟨b, eb, hb⟩ := toKeys_rep ry hk
    exact ⟨valV vs k, .inr ⟨vs, k, b, hr, eb, hb, rfl⟩, rp.val.1, rp.val.2⟩
  cases ob with
  | dK kvs => obtain ⟨w, hw, vs, rfl, rp⟩ := r; exact kk kvs vs (.inl hw) rp e
  | dT kvs => obtain ⟨w, hw, vs, rfl, rp⟩ := r; exact tt kvs vs (.inl hw) rp e
  | fz ob =>
    obtain ⟨w, hw, u, r, _⟩ := r
    cases ob with
    | dK kvs => obtain ⟨vs, rfl, rp⟩ := r; exact kk kvs vs (.inr ⟨_, u⟩) rp e
    | dT kvs => obtain ⟨vs, rfl, rp⟩ := r; exact tt kvs vs (.inr ⟨_, u⟩) rp e
    | _ => cases e
  | _ => cases e
theorem dic_put {n : Nat} {a : Addr} {y w : W} {u v : V} {o : O} (S : StR K φ st H) (h : φ[n]? = some a) (ry : RepV K φ H y u) (rw_ : RepV K φ H w v) (e : dicPut st n y w = some o) :
    ∃ uo u0, H a = some u0 ∧ NoTup u0 ∧ DPut H a u v (upd H a uo) ∧ RepU K φ H o uo := by
  obtain ⟨ob, ho, r⟩ := S.there h
  unfold dicPut at e
  rw [ho] at e
  cases ob with
  | dK kvs =>
    obtain ⟨z, hz, vs, rfl, rp⟩ := r
    simp only at e
    split at e
    · rename_i hl
      obtain ⟨k, hk, rfl⟩ := Option.map_eq_some_iff.mp e
      exact ⟨_, _, hz, trivial, .inl ⟨vs, k, hz, toKey_rep ry hk, by rw [← rp.length]; exact hl, rfl⟩, _, rfl, rp.put rw_⟩
    · cases e
  | dT kvs =>
    obtain ⟨z, hz, vs, rfl, rp⟩ := r
    simp only at e
    split at e
    · rename_i hl
      obtain ⟨k, hk, rfl⟩ := Option.map_eq_some_iff.mp e
      obtain ⟨b, eb, hb⟩ := toKeys_rep ry hk
      exact ⟨_, _, hz, trivial, .inr ⟨vs, k, b, hz, eb, hb, by rw [← rp.length]; exact hl, rfl⟩, _, rfl, rp.put rw_⟩
    · cases e
  | _ => cases e
end
end AL
namespace AL
open PySem PySem.Spec PyProof.Rows L2

/-! ### in, not in -/
def kIn (neg : Bool) : K2 := fun x y st P => match y with
  | .tup ws => ∃ d ds, dat st 40 x = some d ∧ datL (dat st 39) ws = some ds ∧ P (.bl (if neg then !ds.any fun z => PyData.eqv z d else ds.any fun z => PyData.eqv z d)) st
  | .ref n => match lstAt st n with
    | some ws => ∃ d ds, dat st 40 x = some d ∧ datL (dat st 39) ws = some ds ∧ P (.bl (if neg then !ds.any fun z => PyData.eqv z d else ds.any fun z => PyData.eqv z d)) st
    | none => ∃ o, dicAt st n x = some o ∧ P (.bl (if neg then !o.isSome else o.isSome)) st
  | _ => False
def rInP (K : PySem.W.Frag) (neg : Bool) : R2 := fun x y H Q =>
  (∃ d ds, Dp K H x d ∧ (Dp K H y (.list ds) ∨ Dp K H y (.tuple ds)) ∧ d.plain = true ∧ PyData.plainAll ds = true ∧ d.depth ≤ 40 ∧ Q (.bl (if neg then !ds.any fun z => PyData.eqv z d else ds.any fun z => PyData.eqv z d)) H) ∨
  ∃ a o, y = .ref a ∧ DGet H a x o ∧ Q (.bl (if neg then !o.isSome else o.isSome)) H
theorem op_inP {X : Cx} (hu : X.A.units + 64 < cLine) : OpR X (compareOp .In) (rInP X.K false) := by
  intro pins s σ H x y v u Q I rx ry h
  rcases h with ⟨d, ds, hd, he, sd, se, dp, q⟩ | ⟨a, o, rfl, g, q⟩
  · obtain ⟨as, r1⟩ := Dp.reads I d x v hd rx
    have hm : X.A.units + 1 + min (PyData.depthAll ds) d.depth < cLine := by have := Nat.min_le_right (PyData.depthAll ds) d.depth; omega
    rcases he with he | he
    · obtain ⟨bs, r2⟩ := Dp.reads I _ y u he ry
      exact SeqAt.in_list_data r2 r1 se sd hm ⟨.bl _, H, I, rfl, q⟩
    · obtain ⟨bs, r2⟩ := Dp.reads I _ y u he ry
      exact SeqAt.in_tuple_data r2 r1 se sd hm ⟨.bl _, H, I, rfl, q⟩
  · obtain rfl : u = Value.ref a := ry
    exact d_in (by omega) I g rx fun s3 I3 => ⟨.bl o.isSome, H, I3, rfl, q⟩
theorem op_ninP {X : Cx} (hu : X.A.units + 64 < cLine) : OpR X (compareOp .NotIn) (rInP X.K true) := by
  intro pins s σ H x y v u Q I rx ry h
  rcases h with ⟨d, ds, hd, he, sd, se, dp, q⟩ | ⟨a, o, rfl, g, q⟩
  · obtain ⟨as, r1⟩ := Dp.reads I d x v hd rx
    have hm : X.A.units + 1 + min (PyData.depthAll ds) d.depth < cLine := by have := Nat.min_le_right (PyData.depthAll ds) d.depth; omega
    rcases he with he | he
    · obtain ⟨bs, r2⟩ := Dp.reads I _ y u he ry
      exact SeqAt.notIn_list_data r2 r1 se sd hm ⟨.bl _, H, I, rfl, q⟩
    · obtain ⟨bs, r2⟩ := Dp.reads I _ y u he ry
      exact SeqAt.notIn_tuple_data r2 r1 se sd hm ⟨.bl _, H, I, rfl, q⟩
  · obtain rfl : u = Value.ref a := ry
    exact d_notIn (by omega) I g rx fun s3 I3 => ⟨.bl (!o.isSome), H, I3, rfl, q⟩
theorem sim_in {K : PySem.W.Frag} {neg : Bool} : Sim2 K (kIn neg) (rInP K neg) := fun φ H st x y v u P Q S rx ry h c => by
  cases y <;> first | exact h.elim | skip
  · obtain ⟨d, ds, hd, he, h⟩ := h
    obtain ⟨a1, a2, a3⟩ := dat_dp S rx hd
    cases ry with
    | tup e rs =>
      obtain ⟨b1, b2, b3⟩ := datL_dp (fun w v d => dat_dp S) rs he
      exact .inl ⟨d, ds, a1, .inr (.tup (SqT.of e) b1), a2, b2, a3, c.id S .bl h⟩
  · rename_i n
    cases ry with
    | ref e =>
      simp only [kIn] at h
      cases hl : lstAt st n with
      | some ws =>
        rw [hl] at h
        obtain ⟨d, ds, hd, he, h⟩ := h
        obtain ⟨a1, a2, a3⟩ := dat_dp S rx hd
        obtain ⟨vs, e1, rs⟩ := lst_rep S e hl
        obtain ⟨b1, b2, b3⟩ := datL_dp (fun w v d => dat_dp S) rs he
        exact .inl ⟨d, ds, a1, .inl (.lst (SqL.of e1) b1), a2, b2, a3, c.id S .bl h⟩
      | none =>
        rw [hl] at h
        obtain ⟨o, ho, h⟩ := h
        obtain ⟨ov, g, g1, g2⟩ := dic_get S e rx ho
        refine .inr ⟨_, ov, rfl, g, ?_⟩
        have eo : ov.isSome = o.isSome := by
          cases o with
          | none => rw [g1 rfl]; rfl
          | some w => obtain ⟨v, hv, _⟩ := g2 w rfl; rw [hv]; rfl
        rw [eo]
        exact c.id S .bl h

/-! ### subscripts -/
def kIx : K2 := fun x y st P => match x with
  | .tup ws => ∃ i w, y = .int i ∧ atI ws i = some w ∧ P w st
  | .scr ns => ∃ i n, y = .int i ∧ atI ns i = some n ∧ P (.int n) st
  | .ref m => match lstAt st m with
    | some ws => ∃ i w, y = .int i ∧ atI ws i = some w ∧ P w st
    | none => ∃ w, dicAt st m y = some (some w) ∧ P w st
  | _ => False
def rIxD : R2 := fun x y H Q => ∃ a v, x = .ref a ∧ DGet H a y (some v) ∧ Q v H
theorem ix_dict {X : Cx} (hu : X.A.units + 1 < cLine) : IxR X rIxD := by
  intro value slice pins s σ H x y v u Q I rx ry h hs
  obtain ⟨a, w, rfl, g, q⟩ := h
  obtain rfl : v = Value.ref a := rx
  exact tail_any (dict_typeIs I g) PySem.F.slot_dict_getitem.lookup (d_getItem hu I g ry fun w' s' I' rw' => ⟨w, H, I', rw', q⟩) hs
def rIxA (K : PySem.W.Frag) : R2 := fun x y H Q => rIxL K x y H Q ∨ (rIxT K x y H Q ∨ rIxD x y H Q)
theorem ix_all {X : Cx} (hu : X.A.units + 1 < cLine) : IxR X (rIxA X.K) := ix_list.or (ix_tup.or (ix_dict hu))
section
variable {K : PySem.W.Frag} {φ : List Addr} {H : Hp} {st : Sto}
theorem RepVs.atI {ws : List W} {vs : List V} {i : Int} {w : W} (r : RepVs K φ H ws vs) (h : L2.atI ws i = some w) : ∃ v, L2.atI vs i = some v ∧ RepV K φ H w v := by
  unfold L2.atI at h ⊢
  rw [← r.length]
  obtain ⟨j, hj, e⟩ := Option.bind_eq_some_iff.mp h
  obtain ⟨v, hv, rv⟩ := r.get e
  exact ⟨v, by rw [hj]; exact hv, rv⟩
theorem atI_map {α β : Type} (f : α → β) (xs : List α) (i : Int) : L2.atI (xs.map f) i = (L2.atI xs i).map f := by
  unfold L2.atI
  rw [List.length_map]
  cases ixN xs.length i with
  | none => rfl
  | some j => exact List.getElem?_map ..
end
theorem sim_ix {K : PySem.W.Frag} : Sim2 K kIx (rIxA K) := fun φ H st x y v u P Q S rx ry h c => by
  cases x <;> first | exact h.elim | skip
  · obtain ⟨i, w, rfl, e, h⟩ := h
    cases ry
    cases rx with
    | tup ex rs =>
      obtain ⟨v, ev, rv⟩ := rs.atI e
      exact .inr (.inl ⟨_, _, _, v, rfl, rfl, SqT.of ex, ev, c.id S rv h⟩)
  · rename_i m
    cases rx with
    | ref ex =>
      simp only [kIx] at h
      cases hl : lstAt st m with
      | some ws =>
        rw [hl] at h
        obtain ⟨i, w, rfl, e, h⟩ := h
        cases ry
        obtain ⟨vs, e1, rs⟩ := lst_rep S ex hl
        obtain ⟨v, ev, rv⟩ := rs.atI e
        exact .inl ⟨_, _, _, v, rfl, rfl, SqL.of e1, ev, c.id S rv h⟩
      | none =>
        rw [hl] at h
        obtain ⟨w, e, h⟩ := h
        obtain ⟨ov, g, g1, g2⟩ := dic_get S ex ry e
        obtain ⟨v, rfl, rv⟩ := g2 w rfl
        exact .inr (.inr ⟨_, v, rfl, g, c.id S rv h⟩)
  · obtain ⟨i, n, rfl, e, h⟩ := h
    cases ry
    cases rx with
    | scr ex => exact .inl ⟨_, _, _, .int n, rfl, rfl, ex.l, by rw [atI_map, e]; rfl, c.id S .int h⟩
theorem ae_ix {X : Cx} {a b : Expr} {ca cb : CE} {pos : Pos} (hu : X.A.units + 64 < cLine) (ha : AE X a ca) (hb : AE X b cb) (hs : PlainIx b := by intro _ _; rfl) : AE X (.Subscript a b pos) (cOp kIx ca cb) :=
  (pe_ix (ix_all (by omega)) ha hb hs).imp fun _ _ _ => tOp_of sim_ix

/-! ### slices -/
def cutW {α : Type} (xs : List α) (lo hi : Option Int) : List α := (xs.drop (HT.sIx xs.length 0 lo)).take (HT.sIx xs.length xs.length hi - HT.sIx xs.length 0 lo)
theorem RepVs.cut {K : PySem.W.Frag} {φ : List Addr} {H : Hp} {ws : List W} {vs : List V} (r : RepVs K φ H ws vs) (lo hi : Option Int) : RepVs K φ H (cutW ws lo hi) (cutV vs lo hi) := by
  unfold cutW cutV
  rw [← r.length]
  exact (r.drop _).take _
abbrev CO := En → Sto → (Option Int → Sto → Prop) → Prop
def tOA (K : PySem.W.Frag) (c : CO) : L2.TO := fun σ H Q => ∃ φ en st P, EnR K φ H en σ ∧ StR K φ st H ∧ c en st P ∧ ∀ φ' H' o st', φ <+: φ' → Kp K H H' → StR K φ' st' H' → P o st' → Q o H'
abbrev AO (X : Cx) (e : Option Expr) (c : CO) : Prop := PO X e (tOA X.K c)
theorem _root_.L2.PO.imp {X : Cx} {e : Option Expr} {t t' : L2.TO} (h : PO X e t) (i : ∀ σ H Q, t' σ H Q → t σ H Q) : PO X e t' := ⟨fun p s σ H Q I q => h.run p s σ H Q I (i σ H Q q)⟩
def oNone : CO := fun _ st P => P none st
def oSome (c : CE) : CO := fun en st P => c en st fun w st1 => ∃ i, w = .int i ∧ P (some i) st1
theorem ao_none {X : Cx} : AO X none oNone := po_none.imp fun σ H Q ⟨φ, en, st, P, E, S, h, c⟩ => c _ _ _ _ (List.prefix_refl _) .refl S h
theorem ao_some {X : Cx} {e : Expr} {ce : CE} (h : AE X e ce) : AO X (some e) (oSome ce) := (po_some h).imp fun σ H Q ⟨φ, en, st, P, E, S, h, c⟩ =>
  tE.bind E S h fun φ1 H1 w st1 v p1 k1 E1 S1 r h1 => by
    obtain ⟨i, rfl, h1⟩ := h1
    cases r
    exact ⟨i, rfl, c _ _ _ _ p1 k1 S1 h1⟩
def kSl (x : W) (lo hi : Option Int) (st : Sto) (P : PW_) : Prop := match x with
  | .tup ws => P (.tup (cutW ws lo hi)) st
  | .ref m => ∃ ws, lstAt st m = some ws ∧ P (.ref st.length) (st ++ [.lst (cutW ws lo hi)])
  | _ => False
def cSl (ca : CE) (cl ch : CO) : CE := fun en st P => ca en st fun x st1 => cl en st1 fun lo st2 => ch en st2 fun hi st3 => kSl x lo hi st3 P
theorem cutW_all {α : Type} {xs : List α} {lo hi : Option Int} (h : HT.sIx xs.length 0 lo = 0 ∧ HT.sIx xs.length xs.length hi = xs.length) : cutW xs lo hi = xs := by
  unfold cutW
  rw [h.1, h.2]
  simp
theorem ae_sl {X : Cx} {e : Expr} {lo hi : Option Expr} {p2 pos : Pos} {ca : CE} {cl ch : CO} (he : AE X e ca) (hl : AO X lo cl) (hh : AO X hi ch) : AE X (.Subscript e (.Slice lo hi none p2) pos) (cSl ca cl ch) :=
  (pe_slice (sl_list.or sl_tupA) he hl hh).imp fun σ H Q ⟨φ, en, st, P, E, S, h, c⟩ => by
    refine tE.bind E S h fun φ1 H1 w st1 v p1 k1 E1 S1 r h1 => ?_
    refine ⟨φ1, en, st1, _, E1, S1, h1, fun φ2 H2 o st2 p2 k2 S2 h2 => ?_⟩
    refine ⟨φ2, en, st2, _, E1.mono p2 k2, S2, h2, fun φ3 H3 o3 st3 p3 k3 S3 h3 => ?_⟩
    have c3 := c.mono (p1.trans (p2.trans p3)) (k1.trans (k2.trans k3))
    have r3 := r.mono (p2.trans p3) (k2.trans k3).w
    cases w <;> first | exact h3.elim | skip
    · cases r3 with
      | tup ex rs =>
        have rc := rs.cut o o3
        refine .inr ⟨_, _, rfl, SqT.of ex, fun hw => ?_, fun hw p hp => c3.tup S3 hp rc h3⟩
        rw [← rs.length] at hw
        simp only [kSl, cutW_all hw] at h3
        exact c3.id S3 (.tup ex rs) h3
    · obtain ⟨ws, hl, h3⟩ := h3
      cases r3 with
      | ref ex =>
        obtain ⟨vs, e1, rs⟩ := lst_rep S3 ex hl
        exact .inl ⟨_, _, rfl, SqL.of e1, fun p hp => c3.new S3 hp (.lst (rs.cut o o3)) h3⟩
/-- xs[::-1] of a list -/
def kRev : K1 := fun x st P => match x with
  | .ref m => ∃ ws, lstAt st m = some ws ∧ P (.ref st.length) (st ++ [.lst ws.reverse])
  | _ => False
theorem ae_rev {X : Cx} {e : Expr} {k : Nat} {p1 p2 p3 pos : Pos} {ca : CE} (he : AE X e ca) : AE X (.Subscript e (.Slice none none (some (.UnaryOp .USub (.Constant (.int 1) k p1) p2)) p3) pos) (cUn kRev ca) :=
  (pe_revL he).imp fun σ H Q ⟨φ, en, st, P, E, S, h, c⟩ => by
    refine tE.bind E S h fun φ1 H1 w st1 v p1 k1 E1 S1 r h1 => ?_
    cases w <;> first | exact h1.elim | skip
    obtain ⟨ws, hl, h1⟩ := h1
    cases r with
    | ref ex =>
      obtain ⟨vs, e1, rs⟩ := lst_rep S1 ex hl
      exact ⟨_, _, rfl, SqL.of e1, fun p hp => (c.mono p1 k1).new S1 hp (.lst rs.reverse) h1⟩

/-! ### o[i] = v -/
def kSet : KS := fun x y z st P => match x with
  | .ref n => match lstAt st n with
    | some ws => ∃ k j, y = .int k ∧ ixN ws.length k = some j ∧ P (st.set n (.lst (ws.set j z)))
    | none => ∃ o, dicPut st n y z = some o ∧ P (st.set n o)
  | _ => False
def rSetA : TSet := fun o i v H Q => rSetL o i v H Q ∨ ∃ a H', o = .ref a ∧ DPut H a i v H' ∧ Q H'
theorem set_all {X : Cx} (hu : X.A.units + 1 < cLine) : PSet X rSetA := by
  intro pins s σ H o i v ov iv u Q I ro ri rv h
  rcases h with h | ⟨a, H', rfl, g, q⟩
  · exact set_list pins s σ H o i v ov iv u Q I ro ri rv h
  · obtain rfl : ov = Value.ref a := ro
    exact d_setItem hu I g ri rv fun s' I' => ⟨H', I', q⟩
theorem sim_set {K : PySem.W.Frag} : SimS K kSet rSetA := fun φ H st x y z v u t P Q S rx ry rz h c => by
  cases x <;> first | exact h.elim | skip
  rename_i n
  cases rx with
  | ref ex =>
    simp only [kSet] at h
    have pre : φ <+: φ := List.prefix_refl _
    cases hl : lstAt st n with
    | some ws =>
      rw [hl] at h
      obtain ⟨k, j, rfl, e, h⟩ := h
      cases ry
      obtain ⟨vs, e1, rs⟩ := lst_rep S ex hl
      exact .inl ⟨_, _, _, j, rfl, rfl, e1, by rw [← rs.length]; exact e, c _ _ _ pre (Kp.put e1 trivial) (S.put ex e1 trivial (.lst (rs.set rz j))) h⟩
    | none =>
      rw [hl] at h
      obtain ⟨o, e, h⟩ := h
      obtain ⟨uo, u0, e0, n0, g, ru⟩ := dic_put S ex ry rz e
      exact .inr ⟨_, _, rfl, g, c _ _ _ pre (Kp.put e0 n0) (S.put ex e0 n0 ru) h⟩
theorem ag_ix {X : Cx} {o i : Expr} {ca cb : CE} {pos : Pos} (hu : X.A.units + 64 < cLine) (ho : AE X o ca) (hi : AE X i cb)
    (ha : ∀ v, assign (.Subscript o i pos) X.env v = (do
      let ov ← holding [v] (eval o X.env)
      let iv ← holding [v, ov] (eval i X.env)
      standAt pos
      holding [v, ov, iv] (setItem ov iv v)
      release [v, ov, iv] []) := by intro _; rfl) : AG X (.Subscript o i pos) (gSb ca cb kSet) := ag_sub ho hi (set_all (by omega)) sim_set ha
end AL
namespace AL
open PySem PySem.Spec PyProof.Rows L2

/-! ### what is collected from a list, a tuple -/
section
variable {prog : Program} {w : World} {A : Around} {E : Value → Shared → Prop} {s : Shared}
theorem collect_seqS {Q : List Value → Shared → Prop} (it : Addr) {T : String} {o : Obj} {items : Array Value} {n : Nat} (hT : T = "list" ∨ T = "tuple")
    (ho : s.heap.get? it = some o) (hc : o.cls = .type T) (hd : o.data = .seq items n)
    (hQ : ∀ h', (∀ b o', s.heap.get? b = some o' → h'.get? b = some o') → s.heap.objs.size ≤ h'.objs.size → Q items.toList { s with heap := h' }) (hsz : items.size ≤ sizeLine) :
    wpAny (model prog w) A (collect (.ref it)) Q E s := by
  unfold collect
  refine wpAny_bind (wpAny_runValue (codeAny_builtin F.entry_proto_collect ?_))
  rw [Around.under_plainId F.plain_proto_collect _]
  show wpAny _ A.in1 (newList [] >>= fun l => again (.builtin "list.__iadd__" ⟨[l, .ref it], []⟩)) _ _ s
  refine wpAny_bind (wpAny_newObj_type ?_)
  refine wpAny_pure ⟨plainId_quiet F.plain_list_iadd _, codeAny_builtin F.entry_list_iadd ?_⟩
  rw [Around.under_plainId F.plain_list_iadd _]
  show wpAny _ A.in1 (Builtin.List.listExtendWith (.ref s.heap.objs.size) (.ref it) (.ref s.heap.objs.size)) _ _ _
  have hS : (s.heap.push { cls := .type "list", data := .seq ([] : List Value).toArray }).get? s.heap.objs.size = some { cls := .type "list", data := .seq #[] 0 } := Heap.get?_push_size _ rfl
  have hS₂ := Heap.get?_update_self (Obj.mapSeq (· ++ items)) hS rfl
  have fin' : wpAny (model prog w) A (match Value.ref s.heap.objs.size with
      | Value.ref a => do
        match (← load a).data with
          | Data.seq xs _ => pure xs.toList
          | _ => unsupported "internal:collect"
      | _ => unsupported "internal:collect") Q E { s with heap := (s.heap.push { cls := .type "list", data := .seq ([] : List Value).toArray }).update s.heap.objs.size (Obj.mapSeq (· ++ items)) } := by
    show wpAny _ A (load s.heap.objs.size >>= _) _ _ _
    refine wpAny_bind (wpAny_load hS₂ ?_)
    refine wpAny_pure ?_
    have e : ((#[] : Array Value) ++ items).toList = items.toList := by simp
    show Q ((#[] : Array Value) ++ items).toList _
    rw [e]
    refine hQ _ (fun b o' hb => ?_) (by rw [Heap.size_update, Heap.size_push]; exact Nat.le_succ _)
    exact (Heap.get?_update_other _ _ (Nat.ne_of_gt (Heap.lt_size hb))).trans (Heap.get?_push_of_some _ hb)
  refine wpAny_mono (wpAny_extend_seq (hsz := hsz) (A := A) (R := fun r s' => r = .ok (.ret (.ref s.heap.objs.size)) ∧ s' = { s with heap := (s.heap.push { cls := .type "list", data := .seq ([] : List Value).toArray }).update s.heap.objs.size (Obj.mapSeq (· ++ items)) })
    (s := { s with heap := s.heap.push { cls := .type "list", data := .seq ([] : List Value).toArray } }) _ it _ 0 hT hS (Heap.get?_push_of_some _ ho) hc hd ⟨rfl, rfl⟩) (fun fin s' h => ?_) (fun e s' h => ?_)
  · cases fin with
    | done f =>
      obtain ⟨e, rfl⟩ := h
      cases e
      exact fin'
    | again c' => exact ⟨h.1, codeAny_mono h.2 fun r s'' hr => by obtain ⟨rfl, rfl⟩ := hr; exact fin'⟩
  · exact absurd h.1 (by simp)
end

/-! ### sorted -/
section
variable {prog : Program} {w : World} {A : Around} {E : Value → Shared → Prop} {s : Shared} {β : Type} {vs : List Value} {bs : List β} {enc : β → PyData} {R : Value → β → Prop}
open PySem.W
theorem sorted_collected {l : Addr} {Q : Value → Shared → Prop}
    (hc : ∀ (A' : Around) (Q' : List Value → Shared → Prop) (E' : Value → Shared → Prop), (∀ h', (∀ b o, s.heap.get? b = some o → h'.get? b = some o) → s.heap.objs.size ≤ h'.objs.size → Q' vs { s with heap := h' }) → wpAny (model prog w) A' (collect (.ref l)) Q' E' s)
    (e : EachIs R vs bs) (er : EachIs (fun v b => ∃ as, Reads s.heap v (enc b) as) vs bs) (hal : AllAlike (bs.map enc)) (hk : Sortable (bs.map enc)) (hL : bs.length ≤ sizeLine)
    (hu : ∀ b, b ∈ bs → A.units + 2 + (enc b).depth < cLine)
    (h : ∀ out h' p, (∀ b o, s.heap.get? b = some o → h'.get? b = some o) → s.heap.objs.size ≤ p → (∃ n, h'.get? p = some (seqObj "list" (List.toArray out) n)) → EachIs R out (bs.mergeSort (dataLe false enc)) → Q (.ref p) { s with heap := h' }) :
    wpAny (model prog w) A (call (.builtin "sorted") [.ref l]) Q E s := by
  refine call_function_entry_kw kind_sorted plain_sorted entry_sorted (args_sorted1 _) ?_
  unfold Builtin.«sorted»
  refine wpAny_bind (m := checkCount "sorted" 1 1 _) (wpAny_pure ?_)
  refine wpAny_bind (hc _ _ _ fun h1 keep szle => ?_)
  refine wpAny_bind (wpAny_newList ?_ (by rw [e.length]; exact hL))
  have ho : (h1.push (seqObj "list" vs.toArray 0)).get? h1.objs.size = some (seqObj "list" vs.toArray 0) := Heap.get?_push_size _ rfl
  have old : ∀ b o, s.heap.get? b = some o → (h1.push (seqObj "list" vs.toArray 0)).get? b = some o := fun b o q => Heap.get?_push_of_some _ (keep b o q)
  have neb : ∀ b o, s.heap.get? b = some o → b ≠ h1.objs.size := fun b o q => Nat.ne_of_lt (Nat.lt_of_lt_of_le (Heap.lt_size q) szle)
  have er' : EachIs (fun v b => ∃ as, Reads (sortingHeap (h1.push (seqObj "list" vs.toArray 0)) h1.objs.size vs) v (enc b) as) vs bs := er.mono fun _ _ ⟨as, r⟩ => ⟨as, PyProof.Rows.Reads.keeps (fun b o q => sortingHeap_old (neb b o q) (old b o q)) r⟩
  refine wpAny_bind (wpAny_holding (wpAny_call_entry_kw slot_list_sort ⟨_, ho, rfl⟩ entry_list_sort ?body (args_list_sort _)))
  case body =>
    refine list_sort_vals (κ := dataKind (sortingHeap (h1.push (seqObj "list" vs.toArray 0)) h1.objs.size vs) (bs.map enc)) ho
      (SortsAt.data (s := { s with heap := sortingHeap (h1.push (seqObj "list" vs.toArray 0)) h1.objs.size vs }) (each_map (R := fun v d => ∃ as, Reads (sortingHeap (h1.push (seqObj "list" vs.toArray 0)) h1.objs.size vs) v d as) enc er') hal hk (bound_map hu)) (by rw [e.length]; exact hL) ⟨_, rfl, wpAny_pure ⟨_, rfl, ?_⟩⟩
    refine h _ _ _ (fun b o q => ?_) szle ?_ (sortVals_data false e er' hal)
    · have hlt : b < (h1.push (seqObj "list" vs.toArray 0)).objs.size := Heap.lt_size (old b o q)
      exact (sortedHeap_old (neb b o q) hlt).trans (old b o q)
    · exact sortedHeap_at ho
end
/-- by keys, the items with their data -/
def sortV {α : Type} (xs : List α) (ds : List PyData) : List α := ((xs.zip ds).mergeSort (PySem.W.dataLe false Prod.snd)).map Prod.fst
/-- the items of a list or tuple -/
def SeqV (H : Hp) (x : V) (vs : List V) : Prop := ∃ a, x = .ref a ∧ (H a = some (.lst vs) ∨ H a = some (.tup vs))
def rSortD (K : PySem.W.Frag) : List V → Hp → VK → Prop := fun xs H Q => ∃ x vs ds, xs = [x] ∧ SeqV H x vs ∧ DpAll K H vs ds ∧ PySem.W.AllAlike ds ∧ PySem.W.Sortable ds ∧ PyData.depthAll ds ≤ 40 ∧ ∀ p, H p = none → Q (.ref p) (upd H p (.lst (sortV vs ds)))
theorem depth_mem : ∀ {ds : List PyData} {d : PyData}, d ∈ ds → d.depth ≤ PyData.depthAll ds
  | _ :: _, _, h => by
    rw [PyData.depthAll]
    rcases List.mem_cons.mp h with rfl | h
    · omega
    · have := depth_mem h
      omega
open PySem.W in
theorem each_zip {α β : Type} {R : α → β → Prop} {γ : Type} : ∀ {as : List α} {bs : List β} {cs : List γ}, Paired R as bs → bs.length = cs.length → EachIs (fun a (b : β × γ) => R a b.1) as (bs.zip cs)
  | _, _, [], .nil, _ => .nil
  | _, _, [], .cons _ _, h => by simp at h
  | _, _, c :: cs, .nil, _ => .nil
  | _, _, c :: cs, .cons r t, h => .cons r (each_zip t (by simpa using h))
theorem cr_sortD {X : Cx} (hu : X.A.units + 64 < cLine) : CallR X (.builtin "sorted") (rSortD X.K) := by
  intro pins s σ H xs us Q I rr h
  obtain ⟨x, vs, ds, rfl, ⟨a, rfl, hs⟩, hd, hal, hk, hdep, q⟩ := h
  rw [Vals.ref1 rr]
  have key : ∀ its : List Value, Vals vs its → vs.length ≤ sizeLine → (∀ (A' : Around) (Q' : List Value → Shared → Prop) (E' : Value → Shared → Prop), (∀ h', (∀ b o, s.heap.get? b = some o → h'.get? b = some o) → s.heap.objs.size ≤ h'.objs.size → Q' its { s with heap := h' }) → wpAny (model X.prog X.w) A' (collect (.ref a)) Q' E' s) →
      wpAny (model X.prog X.w) X.A (call (.builtin "sorted") [.ref a]) (EP X pins σ Q) X.xe s := by
    intro its rv hz hc
    obtain ⟨as, ra⟩ := Dp.readsAll I ds vs its hd rv
    have hlen : vs.length = ds.length := by
      have h1 := SeqAt.ReadsAll.length _ _ _ ra
      have h2 := rv.length
      omega
    have hmap : (vs.zip ds).map Prod.snd = ds := by
      rw [List.map_snd_zip]; omega
    have rv' : Paired (fun u v => RelV v u) its vs := by
      have : ∀ {vs : List V} {us : List Value}, Paired RelV vs us → Paired (fun u v => RelV v u) us vs := by
        intro vs us h
        induction h with
        | nil => exact .nil
        | cons r t ih => exact .cons r ih
      exact this rv
    refine sorted_collected (bs := vs.zip ds) (enc := Prod.snd) (R := fun u (b : V × PyData) => RelV b.1 u) hc (each_zip rv' hlen) ?_ (by rw [hmap]; exact hal) (by rw [hmap]; exact hk) (by rw [List.length_zip]; omega) (fun b hb => ?_) fun out h' p keep hp hn eo => ?_
    · have r2 : ReadsAll s.heap its ((vs.zip ds).map Prod.snd) as := by rw [hmap]; exact ra
      exact PySem.W.readsAll_each Prod.snd r2
    · have : b.2.depth ≤ PyData.depthAll ds := depth_mem (List.of_mem_zip (show (b.1, b.2) ∈ vs.zip ds from hb)).2
      omega
    · obtain ⟨n, hn⟩ := hn
      have ro : Vals (sortV vs ds) out := by
        unfold sortV
        have : ∀ {out : List Value} {bs : List (V × PyData)}, PySem.W.EachIs (fun u (b : V × PyData) => RelV b.1 u) out bs → Vals (bs.map Prod.fst) out := by
          intro out bs h
          induction h with
          | nil => exact .nil
          | cons r t ih => exact .cons r ih
        exact this eo
      have hsz : (sortV vs ds).length ≤ sizeLine := by
        unfold sortV
        rw [List.length_map, List.length_mergeSort, List.length_zip]
        omega
      refine ⟨.ref p, upd H p (.lst (sortV vs ds)), I.laid (h' := h') (t' := s.toks) keep hp ⟨hsz, out, n, ro, hn⟩, rfl, q p (I.hok.fresh hp)⟩
  rcases hs with hs | hs
  · obtain ⟨its, rv, ⟨o, n, ho, hc, hdn, hdata⟩, hz⟩ := I.list (SqL.of hs)
    refine key its rv hz fun A' Q' E' hq => ?_
    refine collect_seqS a (.inl rfl) ho hc hdata (fun h' k z => ?_) (by simp; rw [← rv.length]; exact hz)
    exact hq h' k z
  · obtain ⟨its, rv, ⟨o, ho, hc, n, hdata⟩, hz⟩ := I.tuple (SqT.of hs)
    refine key its rv hz fun A' Q' E' hq => ?_
    refine collect_seqS a (.inr rfl) ho hc hdata (fun h' k z => ?_) (by simp; rw [← rv.length]; exact hz)
    exact hq h' k z
/-- the items of a list or tuple -/
def seqAt (st : Sto) : W → Option (List W)
  | .tup ws => some ws
  | .ref n => lstAt st n
  | _ => none
theorem seq_rep {K : PySem.W.Frag} {φ : List Addr} {H : Hp} {st : Sto} {x : W} {v : V} {ws : List W} (S : StR K φ st H) (r : RepV K φ H x v) (e : seqAt st x = some ws) : ∃ vs, SeqV H v vs ∧ RepVs K φ H ws vs := by
  cases x <;> first | (cases e; done) | skip
  · cases e
    cases r with
    | tup ex rs => exact ⟨_, ⟨_, rfl, .inr ex⟩, rs⟩
  · cases r with
    | ref ex =>
      obtain ⟨vs, e1, rs⟩ := lst_rep S ex e
      exact ⟨vs, ⟨_, rfl, .inl e1⟩, rs⟩
def kSorted : KL := fun xs st P => ∃ x ws ds, xs = [x] ∧ seqAt st x = some ws ∧ datL (dat st 39) ws = some ds ∧ PySem.W.AllAlike ds ∧ PySem.W.Sortable ds ∧ P (.ref st.length) (st ++ [.lst (sortV ws ds)])
theorem zip3 {K : PySem.W.Frag} {φ : List Addr} {H : Hp} : ∀ {ws : List W} {vs : List V} (ds : List PyData), RepVs K φ H ws vs → ∃ ts : List ((W × V) × PyData), ws.zip ds = ts.map (fun t => (t.1.1, t.2)) ∧ vs.zip ds = ts.map (fun t => (t.1.2, t.2)) ∧ ∀ t ∈ ts, RepV K φ H t.1.1 t.1.2
  | [], _, _, .nil => ⟨[], by simp, by simp, by simp⟩
  | _ :: _, _, [], .cons _ _ => ⟨[], by simp, by simp, by simp⟩
  | w :: ws, _, d :: ds, .cons (v := v) r rs => by
    obtain ⟨ts, h1, h2, h3⟩ := zip3 ds rs
    refine ⟨((w, v), d) :: ts, by rw [List.zip_cons_cons, h1]; rfl, by rw [List.zip_cons_cons, h2]; rfl, fun t ht => ?_⟩
    rcases List.mem_cons.mp ht with rfl | ht
    · exact r
    · exact h3 t ht
theorem RepVs.of_map {K : PySem.W.Frag} {φ : List Addr} {H : Hp} : ∀ {ts : List ((W × V) × PyData)}, (∀ t ∈ ts, RepV K φ H t.1.1 t.1.2) → RepVs K φ H (ts.map fun t => t.1.1) (ts.map fun t => t.1.2)
  | [], _ => .nil
  | t :: ts, h => .cons (h t List.mem_cons_self) (RepVs.of_map fun u hu => h u (List.mem_cons_of_mem _ hu))
theorem RepVs.sort {K : PySem.W.Frag} {φ : List Addr} {H : Hp} {ws : List W} {vs : List V} {ds : List PyData} (r : RepVs K φ H ws vs) : RepVs K φ H (sortV ws ds) (sortV vs ds) := by
  obtain ⟨ts, h1, h2, h3⟩ := zip3 ds r
  unfold sortV
  rw [h1, h2, ← PySem.W.sort_maps (r := PySem.W.dataLe false Prod.snd) (fun t : (W × V) × PyData => (t.1.1, t.2)) (fun a _ b _ => rfl), ← PySem.W.sort_maps (r := PySem.W.dataLe false Prod.snd) (fun t : (W × V) × PyData => (t.1.2, t.2)) (fun a _ b _ => rfl), List.map_map, List.map_map]
  exact RepVs.of_map fun t ht => h3 t ((List.mergeSort_perm _ _).mem_iff.mp ht)
theorem sim_sorted {K : PySem.W.Frag} : SimL K kSorted (rSortD K) := fun φ H st xs vs P Q S rx h c => by
  obtain ⟨x, ws, ds, rfl, e, hd, hal, hk, h⟩ := h
  cases rx with
  | cons r1 r2 =>
    cases r2
    obtain ⟨us, hs, rs⟩ := seq_rep S r1 e
    obtain ⟨a1, a2, a3⟩ := datL_dp (fun w v d => dat_dp S) rs hd
    exact ⟨_, us, ds, rfl, hs, a1, hal, hk, by omega, fun p hp => c.new S hp (.lst rs.sort) h⟩
end AL
namespace AL
open PySem PySem.Spec PyProof.Rows L2

/-! ### built-in functions by values -/
def kLen : KL := fun xs st P => ∃ x, xs = [x] ∧ match x with
  | .tup ws => P (.int ws.length) st
  | .scr ns => P (.int ns.length) st
  | .ref n => ∃ ws, lstAt st n = some ws ∧ P (.int ws.length) st
  | _ => False
theorem sim_len {X : Cx} : SimL X.K kLen (fun xs H Q => ∃ p ys, xs = [.ref p] ∧ (SqL X.K H p ys ∨ SqT X.K H p ys) ∧ Q (.int ys.length) H) := fun φ H st xs vs P Q S rx h c => by
  obtain ⟨x, rfl, h⟩ := h
  cases rx with
  | cons r1 r2 =>
    cases r2
    cases x <;> first | exact h.elim | skip
    · cases r1 with
      | tup ex rs => exact ⟨_, _, rfl, .inr (SqT.of ex), by rw [← rs.length]; exact c.id S .int h⟩
    · obtain ⟨ws, e, h⟩ := h
      cases r1 with
      | ref ex =>
        obtain ⟨us, e1, rs⟩ := lst_rep S ex e
        exact ⟨_, _, rfl, .inl (SqL.of e1), by rw [← rs.length]; exact c.id S .int h⟩
    · cases r1 with
      | scr ex => exact ⟨_, _, rfl, .inl ex.l, by rw [List.length_map]; exact c.id S .int h⟩
def kAbs : KL := fun xs st P => match xs with
  | [.int i] => P (.int (if i < 0 then -i else i)) st
  | _ => False
theorem sim_abs {K : PySem.W.Frag} : SimL K kAbs (fun xs H Q => ∃ i, xs = [.int i] ∧ Q (.int (if i < 0 then -i else i)) H) := fun φ H st xs vs P Q S rx h c => by
  unfold kAbs at h
  split at h
  · cases rx with
    | cons r1 r2 => cases r2; cases r1; exact ⟨_, rfl, c.id S .int h⟩
  · exact h.elim
def kMax2 : KL := fun xs st P => match xs with
  | [.int i, .int j] => P (.int (if j > i then j else i)) st
  | _ => False
def kMin2 : KL := fun xs st P => match xs with
  | [.int i, .int j] => P (.int (if j < i then j else i)) st
  | _ => False
theorem sim_max2 {K : PySem.W.Frag} : SimL K kMax2 (fun xs H Q => ∃ i j, xs = [.int i, .int j] ∧ Q (.int (if j > i then j else i)) H) := fun φ H st xs vs P Q S rx h c => by
  unfold kMax2 at h
  split at h
  · cases rx with
    | cons r1 r2 => cases r2 with
      | cons r2 r3 => cases r3; cases r1; cases r2; exact ⟨_, _, rfl, c.id S .int h⟩
  · exact h.elim
theorem sim_min2 {K : PySem.W.Frag} : SimL K kMin2 (fun xs H Q => ∃ i j, xs = [.int i, .int j] ∧ Q (.int (if j < i then j else i)) H) := fun φ H st xs vs P Q S rx h c => by
  unfold kMin2 at h
  split at h
  · cases rx with
    | cons r1 r2 => cases r2 with
      | cons r2 r3 => cases r3; cases r1; cases r2; exact ⟨_, _, rfl, c.id S .int h⟩
  · exact h.elim
def kInt : KL := fun xs st P => match xs with
  | [.int i] => P (.int i) st
  | [.bl k] => P (.int (if k then 1 else 0)) st
  | _ => False
theorem sim_int {K : PySem.W.Frag} : SimL K kInt (fun xs H Q => (∃ i, xs = [.int i] ∧ Q (.int i) H) ∨ ∃ k, xs = [.bl k] ∧ Q (.int (if k then 1 else 0)) H) := fun φ H st xs vs P Q S rx h c => by
  unfold kInt at h
  split at h
  · cases rx with
    | cons r1 r2 => cases r2; cases r1; exact .inl ⟨_, rfl, c.id S .int h⟩
  · cases rx with
    | cons r1 r2 => cases r2; cases r1; exact .inr ⟨_, rfl, c.id S .int h⟩
  · exact h.elim
def kBool : KL := fun xs st P => match xs with
  | [.int i] => P (.bl (i != 0)) st
  | [.bl k] => P (.bl k) st
  | _ => False
theorem sim_bool {K : PySem.W.Frag} : SimL K kBool (fun xs H Q => (∃ i, xs = [.int i] ∧ Q (.bl (i != 0)) H) ∨ ∃ k, xs = [.bl k] ∧ Q (.bl k) H) := fun φ H st xs vs P Q S rx h c => by
  unfold kBool at h
  split at h
  · cases rx with
    | cons r1 r2 => cases r2; cases r1; exact .inl ⟨_, rfl, c.id S .bl h⟩
  · cases rx with
    | cons r1 r2 => cases r2; cases r1; exact .inr ⟨_, rfl, c.id S .bl h⟩
  · exact h.elim
theorem seqV_sq {K : PySem.W.Frag} {H : Hp} {v : V} {vs : List V} (h : SeqV H v vs) : ∃ a, v = .ref a ∧ (SqL K H a vs ∨ SqT K H a vs) := by
  obtain ⟨a, rfl, h | h⟩ := h
  · exact ⟨a, rfl, .inl (SqL.of h)⟩
  · exact ⟨a, rfl, .inr (SqT.of h)⟩
def kList : KL := fun xs st P => ∃ x ws, xs = [x] ∧ seqAt st x = some ws ∧ P (.ref st.length) (st ++ [.lst ws])
theorem sim_list {X : Cx} : SimL X.K kList (fun xs H Q => ∃ p ys, xs = [.ref p] ∧ (SqL X.K H p ys ∨ SqT X.K H p ys) ∧ ∀ l, H l = none → Q (.ref l) (upd H l (.lst ys))) := fun φ H st xs vs P Q S rx h c => by
  obtain ⟨x, ws, rfl, e, h⟩ := h
  cases rx with
  | cons r1 r2 =>
    cases r2
    obtain ⟨us, hs, rs⟩ := seq_rep S r1 e
    obtain ⟨a, rfl, hq⟩ := seqV_sq (K := X.K) hs
    exact ⟨a, us, rfl, hq, fun l hl => c.new S hl (.lst rs) h⟩
def kTupOf : KL := fun xs st P => ∃ x ws, xs = [x] ∧ seqAt st x = some ws ∧ P (.tup ws) st
theorem sim_tupOf {X : Cx} : SimL X.K kTupOf (fun xs H Q => ∃ p ys, xs = [.ref p] ∧ ((SqL X.K H p ys ∧ ∀ l, H l = none → Q (.ref l) (upd H l (.tup ys))) ∨ (SqT X.K H p ys ∧ Q (.ref p) H))) := fun φ H st xs vs P Q S rx h c => by
  obtain ⟨x, ws, rfl, e, h⟩ := h
  cases rx with
  | cons r1 r2 =>
    cases r2
    obtain ⟨us, ⟨a, rfl, hs⟩, rs⟩ := seq_rep S r1 e
    rcases hs with hs | hs
    · exact ⟨a, us, rfl, .inl ⟨SqL.of hs, fun l hl => c.tup S hl rs h⟩⟩
    · exact ⟨a, us, rfl, .inr ⟨SqT.of hs, c.id S (.tup hs rs) h⟩⟩
/-- a list of ints -/
def kSum : KL := fun xs st P => ∃ (n : Nat) (ns : List Int), xs = [.ref n] ∧ lstAt st n = some (ns.map W.int) ∧ P (.int ns.sum) st
theorem sim_sum {X : Cx} : SimL X.K kSum (rSum X.K) := fun φ H st xs vs P Q S rx h c => by
  obtain ⟨n, ns, rfl, e, h⟩ := h
  cases rx with
  | cons r1 r2 =>
    cases r2
    cases r1 with
    | ref ex =>
      obtain ⟨us, e1, rs⟩ := lst_rep S ex e
      rw [rs.ints_of] at e1
      exact ⟨_, ns, rfl, SqL.of e1, c.id S .int h⟩
def kMaxL : KL := fun xs st P => ∃ (n : Nat) (ns : List Int), xs = [.ref n] ∧ lstAt st n = some (ns.map W.int) ∧ 0 < ns.length ∧ ∀ m, m ∈ ns → (∀ y, y ∈ ns → y ≤ m) → P (.int m) st
def kMinL : KL := fun xs st P => ∃ (n : Nat) (ns : List Int), xs = [.ref n] ∧ lstAt st n = some (ns.map W.int) ∧ 0 < ns.length ∧ ∀ m, m ∈ ns → (∀ y, y ∈ ns → m ≤ y) → P (.int m) st
theorem sim_maxL {X : Cx} : SimL X.K kMaxL (rMax X.K) := fun φ H st xs vs P Q S rx h c => by
  obtain ⟨n, ns, rfl, e, hl, h⟩ := h
  cases rx with
  | cons r1 r2 =>
    cases r2
    cases r1 with
    | ref ex =>
      obtain ⟨us, e1, rs⟩ := lst_rep S ex e
      rw [rs.ints_of] at e1
      exact ⟨_, ns, rfl, SqL.of e1, hl, fun m h1 h2 => c.id S .int (h m h1 h2)⟩
theorem sim_minL {X : Cx} : SimL X.K kMinL (rMin X.K) := fun φ H st xs vs P Q S rx h c => by
  obtain ⟨n, ns, rfl, e, hl, h⟩ := h
  cases rx with
  | cons r1 r2 =>
    cases r2
    cases r1 with
    | ref ex =>
      obtain ⟨us, e1, rs⟩ := lst_rep S ex e
      rw [rs.ints_of] at e1
      exact ⟨_, ns, rfl, SqL.of e1, hl, fun m h1 h2 => c.id S .int (h m h1 h2)⟩
def kAny : KL := fun xs st P => ∃ (n : Nat) (bs : List Bool), xs = [.ref n] ∧ lstAt st n = some (bs.map W.bl) ∧ P (.bl (bs.any id)) st
def kAll : KL := fun xs st P => ∃ (n : Nat) (bs : List Bool), xs = [.ref n] ∧ lstAt st n = some (bs.map W.bl) ∧ P (.bl (bs.all id)) st
theorem sim_any {X : Cx} : SimL X.K kAny (rAny X.K) := fun φ H st xs vs P Q S rx h c => by
  obtain ⟨n, ns, rfl, e, h⟩ := h
  cases rx with
  | cons r1 r2 =>
    cases r2
    cases r1 with
    | ref ex =>
      obtain ⟨us, e1, rs⟩ := lst_rep S ex e
      rw [rs.bls_of] at e1
      exact ⟨_, ns, rfl, SqL.of e1, c.id S .bl h⟩
theorem sim_all {X : Cx} : SimL X.K kAll (rAll X.K) := fun φ H st xs vs P Q S rx h c => by
  obtain ⟨n, ns, rfl, e, h⟩ := h
  cases rx with
  | cons r1 r2 =>
    cases r2
    cases r1 with
    | ref ex =>
      obtain ⟨us, e1, rs⟩ := lst_rep S ex e
      rw [rs.bls_of] at e1
      exact ⟨_, ns, rfl, SqL.of e1, c.id S .bl h⟩

/-! ### methods of lists -/
def cBM (k : W → KL) (co : CE) (cl : CA) : CE := fun en st P => co en st fun x st1 => (∃ n ws, x = .ref n ∧ lstAt st1 n = some ws) ∧ cl en st1 fun xs st2 => k x xs st2 P
def cBM0 (k : W → KL) (co : CE) : CE := fun en st P => co en st fun x st1 => (∃ n ws, x = .ref n ∧ lstAt st1 n = some ws) ∧ k x [] st1 P
section
variable {X : Cx} {o e : Expr} {es : List Expr} {co : CE} {cl : CA} {name : Str} {apos cpos : Pos} {id : String} {r : V → List V → Hp → VK → Prop} {k : W → KL}
theorem ae_bm0 (pa : PlainAttrs "list") (slot : Slot "list" name id) (hty : typeOf (.builtin id) = pure (.type "method_descriptor")) (hm : MtR X id r) (s : SimM X.K k r) (ho : AE X o co)
    (hbase : attributeBase o name X.env (eval o X.env) = eval o X.env := by rfl) (hline : (apos.endLine == cpos.line) = true := by rfl) : AE X (.Call (.Attribute o name apos) [] [] cpos) (cBM0 k co) :=
  (pe_bm0 pa slot hty hm ho hbase hline).imp fun σ H Q ⟨φ, en, st, P, E, S, h, c⟩ => by
    refine tE.bind E S h fun φ1 H1 x st1 v p1 k1 E1 S1 rx h1 => ?_
    obtain ⟨⟨n, ws, rfl, hl⟩, h1⟩ := h1
    cases rx with
    | ref ex =>
      obtain ⟨us, e1, rs⟩ := lst_rep S1 ex hl
      exact ⟨.inl ⟨rfl, us, SqL.of e1⟩, s _ _ _ _ _ _ _ _ _ S1 (.ref ex) .nil h1 (c.mono p1 k1)⟩
theorem ae_bm (pa : PlainAttrs "list") (slot : Slot "list" name id) (hty : typeOf (.builtin id) = pure (.type "method_descriptor")) (hm : MtR X id r) (s : SimM X.K k r) (ho : AE X o co) (ha : AA X (e :: es) cl)
    (hbase : attributeBase o name X.env (eval o X.env) = eval o X.env := by rfl)
    (hfew : ((backTo cpos (starEach (e :: es) X.env)).all (fun x => !x.1) && (backToKw cpos (keywordEach [] X.env)).all (fun x => x.1.isSome)
      && decide ((e :: es).length + ([] : List Keyword).length + (if ([] : List Keyword).isEmpty then 0 else 1) < 30)) = true := by rfl)
    (hline : (apos.endLine == cpos.line) = true := by rfl) (hs : starEach (e :: es) X.env = (false, eval e X.env) :: starEach es X.env := by rfl) (hplain : (backTo cpos (starEach es X.env)).any (·.1) = false := by rfl) :
    AE X (.Call (.Attribute o name apos) (e :: es) [] cpos) (cBM k co cl) :=
  (pe_bm pa slot hty hm ho ha hbase hfew hline hs hplain).imp fun σ H Q ⟨φ, en, st, P, E, S, h, c⟩ => by
    refine tE.bind E S h fun φ1 H1 x st1 v p1 k1 E1 S1 rx h1 => ?_
    obtain ⟨⟨n, ws, rfl, hl⟩, h1⟩ := h1
    cases rx with
    | ref ex =>
      obtain ⟨us, e1, rs⟩ := lst_rep S1 ex hl
      refine ⟨.inl ⟨rfl, us, SqL.of e1⟩, tA.bind E1 S1 h1 fun φ2 H2 ys st2 us2 p2 k2 E2 S2 ry h2 => ?_⟩
      exact s _ _ _ _ _ _ _ _ _ S2 (.ref (pre_get p2 ex)) ry h2 (c.mono (p1.trans p2) (k1.trans k2))
end
def mAppend : W → KL := fun x xs st P => ∃ n ws y, x = .ref n ∧ xs = [y] ∧ lstAt st n = some ws ∧ ws.length < sizeLine ∧ P .non (st.set n (.lst (ws ++ [y])))
theorem sim_append {K : PySem.W.Frag} : SimM K mAppend rAppend := fun φ H st x v xs vs P Q S rx rs h c => by
  obtain ⟨n, ws, y, rfl, rfl, e, hz, h⟩ := h
  cases rx with
  | ref ex =>
    cases rs with
    | cons r1 r2 =>
      cases r2
      obtain ⟨us, e1, ru⟩ := lst_rep S ex e
      exact ⟨_, us, _, rfl, rfl, e1, by rw [← ru.length]; exact hz, c.put S ex e1 trivial (.lst (ru.append (.cons r1 .nil))) .non h⟩
def mExtend : W → KL := fun x xs st P => ∃ n m ws zs, x = .ref n ∧ xs = [.ref m] ∧ lstAt st n = some ws ∧ lstAt st m = some zs ∧ ws.length + zs.length ≤ sizeLine ∧ P .non (st.set n (.lst (ws ++ zs)))
theorem sim_extend {K : PySem.W.Frag} : SimM K mExtend rExtend := fun φ H st x v xs vs P Q S rx rs h c => by
  obtain ⟨n, m, ws, zs, rfl, rfl, e, em, hz, h⟩ := h
  cases rx with
  | ref ex =>
    cases rs with
    | cons r1 r2 =>
      cases r2
      cases r1 with
      | ref ey =>
        obtain ⟨us, e1, ru⟩ := lst_rep S ex e
        obtain ⟨ts, e2, rt⟩ := lst_rep S ey em
        exact ⟨_, _, us, ts, rfl, rfl, e1, e2, by rw [← ru.length, ← rt.length]; exact hz, c.put S ex e1 trivial (.lst (ru.append rt)) .non h⟩
def mPop : W → KL := fun x xs st P => ∃ n ws y, x = .ref n ∧ xs = [] ∧ lstAt st n = some ws ∧ ws[ws.length - 1]? = some y ∧ P y (st.set n (.lst ws.dropLast))
theorem sim_pop {K : PySem.W.Frag} : SimM K mPop rPop := fun φ H st x v xs vs P Q S rx rs h c => by
  obtain ⟨n, ws, y, rfl, rfl, e, ey, h⟩ := h
  cases rx with
  | ref ex =>
    cases rs
    obtain ⟨us, e1, ru⟩ := lst_rep S ex e
    obtain ⟨z, hz, rz⟩ := ru.get ey
    exact ⟨_, us, z, rfl, rfl, e1, by rw [← ru.length]; exact hz, c.put S ex e1 trivial (.lst ru.dropLast) rz h⟩
/-- xs.pop(i), 0 ≤ i -/
def mPopAt : W → KL := fun x xs st P => ∃ n ws i y, x = .ref n ∧ xs = [.int i] ∧ lstAt st n = some ws ∧ 0 ≤ i ∧ i < 2 ^ 63 ∧ ws[i.toNat]? = some y ∧ P y (st.set n (.lst (ws.eraseIdx i.toNat)))
theorem sim_popAt {K : PySem.W.Frag} : SimM K mPopAt rPopAt := fun φ H st x v xs vs P Q S rx rs h c => by
  obtain ⟨n, ws, i, y, rfl, rfl, e, h0, h1, ey, h⟩ := h
  cases rx with
  | ref ex =>
    cases rs with
    | cons r1 r2 =>
      cases r2
      cases r1
      obtain ⟨us, e1, ru⟩ := lst_rep S ex e
      obtain ⟨z, hz, rz⟩ := ru.get ey
      have hl : i.toNat < us.length := (List.getElem?_eq_some_iff.mp hz).1
      exact ⟨_, us, i, i.toNat, z, rfl, rfl, e1, by omega, h1, seqIndex_of h0 (by omega), hz, c.put S ex e1 trivial (.lst (ru.eraseIdx _)) rz h⟩
def mReverse : W → KL := fun x xs st P => ∃ n ws, x = .ref n ∧ xs = [] ∧ lstAt st n = some ws ∧ P .non (st.set n (.lst ws.reverse))
theorem sim_reverse {K : PySem.W.Frag} : SimM K mReverse rReverse := fun φ H st x v xs vs P Q S rx rs h c => by
  obtain ⟨n, ws, rfl, rfl, e, h⟩ := h
  cases rx with
  | ref ex =>
    cases rs
    obtain ⟨us, e1, ru⟩ := lst_rep S ex e
    exact ⟨_, us, rfl, rfl, e1, c.put S ex e1 trivial (.lst ru.reverse) .non h⟩
def mClear : W → KL := fun x xs st P => ∃ n ws, x = .ref n ∧ xs = [] ∧ lstAt st n = some ws ∧ P .non (st.set n (.lst []))
theorem sim_clear {K : PySem.W.Frag} : SimM K mClear rClear := fun φ H st x v xs vs P Q S rx rs h c => by
  obtain ⟨n, ws, rfl, rfl, e, h⟩ := h
  cases rx with
  | ref ex =>
    cases rs
    obtain ⟨us, e1, ru⟩ := lst_rep S ex e
    exact ⟨_, us, rfl, rfl, e1, c.put S ex e1 trivial (.lst .nil) .non h⟩
def mInsert : W → KL := fun x xs st P => ∃ n ws i y, x = .ref n ∧ xs = [.int i, y] ∧ lstAt st n = some ws ∧ ws.length < sizeLine ∧ 0 ≤ i ∧ i < 2 ^ 63 ∧ P .non (st.set n (.lst (ws.take i.toNat ++ [y] ++ ws.drop i.toNat)))
theorem sim_insert {K : PySem.W.Frag} : SimM K mInsert (fun x vs H Q => ∃ (l : Addr) (xs : List V) (i : Int) (y : V), x = .ref l ∧ vs = [.int i, y] ∧ H l = some (.lst xs) ∧ xs.length < sizeLine ∧ 0 ≤ i ∧ i < 2 ^ 63 ∧
    Q .non (upd H l (.lst (xs.take i.toNat ++ [y] ++ xs.drop i.toNat)))) := fun φ H st x v xs vs P Q S rx rs h c => by
  obtain ⟨n, ws, i, y, rfl, rfl, e, hz, h0, h1, h⟩ := h
  cases rx with
  | ref ex =>
    cases rs with
    | cons r1 r2 =>
      cases r1
      cases r2 with
      | cons r2 r3 =>
        cases r3
        obtain ⟨us, e1, ru⟩ := lst_rep S ex e
        exact ⟨_, us, i, _, rfl, rfl, e1, by rw [← ru.length]; exact hz, h0, h1, c.put S ex e1 trivial (.lst (((ru.take _).append (.cons r2 .nil)).append (ru.drop _))) .non h⟩
/-- xs.index(i) of ints -/
def mIndex : W → KL := fun x xs st P => ∃ (n : Nat) (ns : List Int) (i : Int), x = .ref n ∧ xs = [.int i] ∧ lstAt st n = some (ns.map W.int) ∧ i ∈ ns ∧ P (.int (ns.idxOf i : Nat)) st
theorem sim_index {X : Cx} : SimM X.K mIndex (rIndex X.K) := fun φ H st x v xs vs P Q S rx rs h c => by
  obtain ⟨n, ns, i, rfl, rfl, e, hm, h⟩ := h
  cases rx with
  | ref ex =>
    cases rs with
    | cons r1 r2 =>
      cases r1
      cases r2
      obtain ⟨us, e1, ru⟩ := lst_rep S ex e
      rw [ru.ints_of] at e1
      have hlt : ns.idxOf i < ns.length := List.idxOf_lt_length_of_mem hm
      have hflat : (ns.map V.int).all flatV = true := by
        rw [List.all_map, List.all_eq_true]
        intro x _
        rfl
      refine ⟨_, ns.map V.int, .int i, ns.idxOf i, .int i, rfl, rfl, SqL.of e1, rfl, hflat, ?_, by simp [eqV], fun m z hmj hz => ?_, c.id S .int h⟩
      · rw [List.getElem?_map, List.getElem?_eq_getElem hlt, List.getElem_idxOf]; rfl
      · rw [List.getElem?_map] at hz
        obtain ⟨j, hj, rfl⟩ := Option.map_eq_some_iff.mp hz
        have hne : j ≠ i := by
          rintro rfl
          have hml : m < ns.length := by omega
          rw [List.getElem?_eq_getElem hml] at hj
          have := List.not_of_lt_findIdx (p := (· == j)) (xs := ns) (i := m) hmj
          have hj' : ns[m] = j := Option.some.inj hj
          simp [hj'] at this
        simp [eqV, hne]
/-- xs.remove(y) -/
def mRemove : W → KL := fun x xs st P => ∃ n ws y d ds j, x = .ref n ∧ xs = [y] ∧ lstAt st n = some ws ∧ dat st 40 y = some d ∧ datL (dat st 39) ws = some ds ∧ SeqAt.dataPlace ds d = some j ∧ P .non (st.set n (.lst (ws.eraseIdx j)))
def rRemD (K : PySem.W.Frag) : V → List V → Hp → VK → Prop := fun x xs H Q => ∃ (l : Addr) (vs : List V) (y : V) (d : PyData) (ds : List PyData) (j : Nat), x = .ref l ∧ xs = [y] ∧ H l = some (.lst vs) ∧ Dp K H y d ∧ DpAll K H vs ds ∧ d.plain = true ∧ PyData.plainAll ds = true ∧ d.depth ≤ 40 ∧ SeqAt.dataPlace ds d = some j ∧ Q .non (upd H l (.lst (vs.eraseIdx j)))
theorem mt_remD {X : Cx} (hu : X.A.units + 64 < cLine) : MtR X "list.remove" (rRemD X.K) := by
  intro pins s σ H x xs v us Q I rx rxs h
  obtain ⟨l, vs, y, d, ds, j, rfl, rfl, hl, hy, hds, p1, p2, dp, hj, q⟩ := h
  cases rx
  cases rxs with
  | cons ry rt =>
    cases rt
    obtain ⟨bs, r1⟩ := Dp.reads I d y _ hy ry
    obtain ⟨hz, its, n, rv, hlen, ho⟩ := I.lstM hl
    obtain ⟨as, r2⟩ := Dp.readsAll I ds vs its hds rv
    refine SeqAt.remove_list_data (vs := its.toArray) (xs := ds) ⟨_, ho, rfl, n, rfl⟩ (by simpa using r2) r1 p2 p1 (by have := Nat.min_le_right (PyData.depthAll ds) d.depth; omega) hj (by simp; omega) ?_
    refine ⟨.non, _, I.lset (t' := s.toks) (its' := its.eraseIdx j) hl ho (by rw [List.eraseIdxIfInBounds_toArray]) (rv.eraseIdx j) ?_, rfl, q⟩
    have := len_erase vs j
    omega
theorem sim_remove {K : PySem.W.Frag} : SimM K mRemove (rRemD K) := fun φ H st x v xs vs P Q S rx rs h c => by
  obtain ⟨n, ws, y, d, ds, j, rfl, rfl, e, hd, hds, hj, h⟩ := h
  cases rx with
  | ref ex =>
    cases rs with
    | cons r1 r2 =>
      cases r2
      obtain ⟨us, e1, ru⟩ := lst_rep S ex e
      obtain ⟨a1, a2, a3⟩ := dat_dp S r1 hd
      obtain ⟨b1, b2, b3⟩ := datL_dp (fun w v d => dat_dp S) ru hds
      exact ⟨_, us, _, d, ds, j, rfl, rfl, e1, a1, b1, a2, b2, a3, hj, c.put S ex e1 trivial (.lst (ru.eraseIdx _)) .non h⟩
end AL
namespace AL
open PySem PySem.Spec PyProof.Rows L2

/-! ### what is walked -/
def iLst (n : Nat) : AIt := fun i st => (lstAt st n).map fun ws => ws[i]?
def iSta (ws : List W) : AIt := fun i _ => some ws[i]?
def iRng (lo : Int) (n : Nat) : AIt := fun i _ => some (if i < n then some (.int (lo + i)) else none)
def iRngC (lo c : Int) (n : Nat) : AIt := fun i _ => some (if i < n then some (.int (lo + (i : Nat) * c)) else none)
/-- the keys of a locked dict -/
def keysOf : O → Option (List W)
  | .fz (.dK kvs) => some (kvs.map fun kv => match kv.1 with | .inl i => .int i | .inr x => .str x)
  | .fz (.dT kvs) => some (kvs.map fun kv => .tup (kv.1.map fun | .inl i => .int i | .inr x => .str x))
  | _ => none
section
variable {K : PySem.W.Frag} {φ : List Addr} {H : Hp} {st : Sto}
theorem itr_list {n : Nat} {a : Addr} (h : φ[n]? = some a) : ItR K φ H (iLst n) (Itl K a) := by
  refine ⟨fun i st φ' H' w p k S e => ?_, fun i st φ' H' p k S e => ?_⟩ <;>
  · unfold iLst at e
    obtain ⟨ws, hl, e⟩ := Option.map_eq_some_iff.mp e
    obtain ⟨vs, e1, rs⟩ := lst_rep S (pre_get p h) hl
    first
      | (obtain ⟨v, hv, rv⟩ := rs.get e
         refine ⟨⟨vs, v, SqL.of e1, hv⟩, fun x H'' y => ?_⟩
         obtain ⟨rfl, y⟩ := y
         have := y vs (SqL.of e1)
         rw [hv] at this
         cases this
         exact ⟨φ', List.prefix_refl _, .refl, S, rv⟩)
      | exact ⟨vs, SqL.of e1, by rw [← rs.length]; exact List.getElem?_eq_none_iff.mp e⟩
theorem itr_tup {a : Addr} {ws : List W} {vs : List V} (h : H a = some (.tup vs)) (r : RepVs K φ H ws vs) : ItR K φ H (iSta ws) (Itt K a) := by
  refine ⟨fun i st φ' H' w p k S e => ?_, fun i st φ' H' p k S e => ?_⟩
  · have e' : ws[i]? = some w := Option.some.inj e
    obtain ⟨v, hv, rv⟩ := r.get e'
    have h' := SqT.of (K := K) (k.t _ _ h)
    refine ⟨⟨vs, v, h', hv⟩, fun x H'' y => ?_⟩
    obtain ⟨rfl, y⟩ := y
    have := y vs h'
    rw [hv] at this
    cases this
    exact ⟨φ', List.prefix_refl _, .refl, S, rv.mono p k⟩
  · have e' : ws[i]? = none := Option.some.inj e
    exact ⟨vs, SqT.of (k.t _ _ h), by rw [← r.length]; exact List.getElem?_eq_none_iff.mp e'⟩
theorem itr_rng {lo : Int} {n : Nat} : ItR K φ H (iRng lo n) (Itr lo n) := by
  refine ⟨fun i st φ' H' w p k S e => ?_, fun i st φ' H' p k S e => ?_⟩ <;> unfold iRng at e <;> split at e
  · rename_i hi
    cases e
    refine ⟨hi, fun x H'' y => ?_⟩
    obtain ⟨rfl, rfl⟩ := y
    exact ⟨φ', List.prefix_refl _, .refl, S, .int⟩
  · cases e
  · cases e
  · rename_i hi
    exact Nat.le_of_not_lt hi
theorem itr_rngC {lo c : Int} {n : Nat} : ItR K φ H (iRngC lo c n) (Itc lo c n) := by
  refine ⟨fun i st φ' H' w p k S e => ?_, fun i st φ' H' p k S e => ?_⟩ <;> unfold iRngC at e <;> split at e
  · rename_i hi
    cases e
    refine ⟨hi, fun x H'' y => ?_⟩
    obtain ⟨rfl, rfl⟩ := y
    exact ⟨φ', List.prefix_refl _, .refl, S, .int⟩
  · cases e
  · cases e
  · rename_i hi
    exact Nat.le_of_not_lt hi
theorem rep_key {k : Key} : RepV K φ H (match k with | .inl i => W.int i | .inr x => .str x) (kV k) := by
  cases k
  · exact .int
  · exact .str
theorem rep_keys : ∀ ks : List Key, RepVs K φ H (ks.map fun | .inl i => W.int i | .inr x => .str x) (ks.map kV)
  | [] => .nil
  | k :: ks => .cons rep_key (rep_keys ks)
theorem pkv_get {κ : Type} : ∀ {xs : List (κ × W)} {ys : List (κ × V)} {i : Nat} {k : κ} {v : V}, PKV K φ H xs ys → ys[i]? = some (k, v) → ∃ w, xs[i]? = some (k, w) ∧ RepV K φ H w v := by
  intro xs ys i k v r
  unfold PKV at r
  induction r generalizing i with
  | nil => intro h; simp at h
  | @cons p q ps qs h t ih =>
    intro e
    cases i with
    | zero =>
      simp at e
      subst e
      obtain ⟨p1, p2⟩ := p
      obtain ⟨rfl, h2⟩ := h
      exact ⟨_, rfl, h2⟩
    | succ i => exact ih (by simpa using e)
theorem itr_keysK {d : Addr} {kvs : List (Key × W)} {vs : List (Key × V)} {ob : Obj} (h : H d = some (.frz ob (.dK vs))) (r : PKV K φ H kvs vs) : ItR K φ H (iSta (kvs.map fun kv => match kv.1 with | .inl i => .int i | .inr x => .str x)) (Itk d ob vs) := by
  refine ⟨fun i st φ' H' w p k S e => ?_, fun i st φ' H' p k S e => ?_⟩
  · have e' := Option.some.inj e
    rw [List.getElem?_map] at e'
    obtain ⟨kv, hkv, rfl⟩ := Option.map_eq_some_iff.mp e'
    have hi : i < vs.length := by rw [← r.length]; exact (List.getElem?_eq_some_iff.mp hkv).1
    refine ⟨⟨k.z _ _ _ h, hi⟩, fun x H'' y => ?_⟩
    obtain ⟨rfl, key, v, hv, rfl⟩ := y
    obtain ⟨w, hw, _⟩ := pkv_get r hv
    rw [hw] at hkv; cases hkv
    exact ⟨φ', List.prefix_refl _, .refl, S, rep_key⟩
  · have e' := Option.some.inj e
    rw [List.getElem?_map] at e'
    have := Option.map_eq_none_iff.mp e'
    exact ⟨k.z _ _ _ h, by rw [← r.length]; exact List.getElem?_eq_none_iff.mp this⟩
theorem itr_keysT {d : Addr} {kvs : List (List Key × W)} {vs : List (List Key × V)} {ob : Obj} (h : H d = some (.frz ob (.dT vs))) (r : PKV K φ H kvs vs) : ItR K φ H (iSta (kvs.map fun kv => .tup (kv.1.map fun | .inl i => .int i | .inr x => .str x))) (Itkt d ob vs) := by
  refine ⟨fun i st φ' H' w p k S e => ?_, fun i st φ' H' p k S e => ?_⟩
  · have e' := Option.some.inj e
    rw [List.getElem?_map] at e'
    obtain ⟨kv, hkv, rfl⟩ := Option.map_eq_some_iff.mp e'
    have hi : i < vs.length := by rw [← r.length]; exact (List.getElem?_eq_some_iff.mp hkv).1
    refine ⟨⟨k.z _ _ _ h, hi⟩, fun x H'' y => ?_⟩
    obtain ⟨rfl, key, v, q, hv, rfl, hq⟩ := y
    obtain ⟨w, hw, _⟩ := pkv_get r hv
    rw [hw] at hkv; cases hkv
    exact ⟨φ', List.prefix_refl _, .refl, S, .tup hq (rep_keys _)⟩
  · have e' := Option.some.inj e
    rw [List.getElem?_map] at e'
    have := Option.map_eq_none_iff.mp e'
    exact ⟨k.z _ _ _ h, by rw [← r.length]; exact List.getElem?_eq_none_iff.mp this⟩
end
/-- a list, a tuple, or a locked dict -/
def cIter (c : CE) : CI := fun en st R => c en st fun x st1 => match x with
  | .tup ws => R (iSta ws) st1
  | .ref n => match lstAt st1 n with
    | some _ => R (iLst n) st1
    | none => ∃ o ks, st1[n]? = some o ∧ keysOf o = some ks ∧ R (iSta ks) st1
  | _ => False
section
variable {X : Cx} {tg e : Expr} {c : CE}
theorem pi_any {tl : TE} (hl : PE X e tl) : PI X tg e (fun σ H R => tl σ H fun x H1 => ∃ a, x = .ref a ∧ ((∃ xs, SqL X.K H1 a xs ∧ R (Itl X.K a) H1) ∨ (∃ xs, SqT X.K H1 a xs ∧ R (Itt X.K a) H1) ∨
    (∃ o kvs, H1 a = some (.frz o (.dK kvs)) ∧ R (Itk a o kvs) H1) ∨ ∃ o kvs, H1 a = some (.frz o (.dT kvs)) ∧ R (Itkt a o kvs) H1)) := by
  refine ⟨fun pins s σ H R I h => ?_⟩
  refine thn (hl.run pins s σ H _ I h) fun v s1 ⟨x, H1, I1, r1, q1⟩ => ?_
  obtain ⟨a, ex, q⟩ := q1
  subst ex
  obtain rfl : v = Value.ref a := r1
  rcases q with ⟨xs, hq, q⟩ | ⟨xs, hq, q⟩ | ⟨o, kvs, hd, q⟩ | ⟨o, kvs, hd, q⟩
  · obtain ⟨its, rv, p, hz⟩ := I1.list hq
    refine wpAny_pyIter_list p.isList ?_
    refine ⟨s1.heap.objs.size, [s1.heap.objs.size], _, _, H1, rfl, I1.kept (t' := s1.toks) fun b o e => Heap.get?_push_of_some _ e, turn_list a _, ⟨_, Heap.get?_push_size _ rfl, rfl, rfl⟩, fun b hb => ?_, q⟩
    have e : b = s1.heap.objs.size := by simpa using hb
    subst e
    exact I1.fpOk (Nat.le_refl _) (I1.hok.fresh (Nat.le_refl _))
  · obtain ⟨its, rv, p, hz⟩ := I1.tuple hq
    refine wpAny_pyIter_tuple (show s1.heap.IsTuple a its.toArray from p) ?_
    refine ⟨s1.heap.objs.size, [s1.heap.objs.size], _, _, H1, rfl, I1.kept (t' := s1.toks) fun b o e => Heap.get?_push_of_some _ e, turn_tuple a _, ⟨_, Heap.get?_push_size _ rfl, rfl, rfl⟩, fun b hb => ?_, q⟩
    have e : b = s1.heap.objs.size := by simpa using hb
    subst e
    exact I1.fpOk (Nat.le_refl _) (I1.hok.fresh (Nat.le_refl _))
  · obtain ⟨hs, hgd, hx, es, ep, vs, hdt, hsz, kv, hm⟩ := I1.frzK hd
    refine iter_keys hs hgd hx hdt (pi_one (tk := s1.toks) I1 _ (turn_keys _ hdt) ⟨_, Heap.get?_push_size _ rfl, rfl, ?_⟩ q)
    rw [hsz] <;> rfl
  · obtain ⟨hs, hgd, hx, es, ep, hdt, hsz, ent⟩ := I1.frzT hd
    refine iter_keys hs hgd hx hdt (pi_one (tk := s1.toks) I1 _ (turn_keysT _ hdt) ⟨_, Heap.get?_push_size _ rfl, rfl, ?_⟩ q)
    rw [hsz] <;> rfl
theorem ai_any (he : AE X e c) : AI X tg e (cIter c) := (pi_any he).imp fun σ H R ⟨φ, en, st, P, E, S, h, cc⟩ => by
  refine tE.bind E S h fun φ1 H1 x st1 v p1 k1 E1 S1 rx h1 => ?_
  cases x <;> first | exact h1.elim | skip
  · cases rx with
    | tup ex rs => exact ⟨_, rfl, .inr (.inl ⟨_, SqT.of ex, cc _ _ _ _ _ p1 k1 E1 S1 (itr_tup ex rs) h1⟩)⟩
  · rename_i n
    cases rx with
    | ref ex =>
      simp only at h1
      cases hl : lstAt st1 n with
      | some ws =>
        rw [hl] at h1
        obtain ⟨vs, e1, rs⟩ := lst_rep S1 ex hl
        exact ⟨_, rfl, .inl ⟨_, SqL.of e1, cc _ _ _ _ _ p1 k1 E1 S1 (itr_list ex) h1⟩⟩
      | none =>
        rw [hl] at h1
        obtain ⟨o, ks, ho, hk, h1⟩ := h1
        have ro := S1.ob _ _ _ ex ho
        cases o <;> first | (cases hk; done) | skip
        rename_i o
        obtain ⟨ob, u, hu, ru, _⟩ := ro
        cases o <;> first | (cases hk; done) | skip
        · cases hk
          obtain ⟨vs, rfl, rp⟩ := ru
          exact ⟨_, rfl, .inr (.inr (.inl ⟨ob, vs, hu, cc _ _ _ _ _ p1 k1 E1 S1 (itr_keysK hu rp) h1⟩))⟩
        · cases hk
          obtain ⟨vs, rfl, rp⟩ := ru
          exact ⟨_, rfl, .inr (.inr (.inr ⟨ob, vs, hu, cc _ _ _ _ _ p1 k1 E1 S1 (itr_keysT hu rp) h1⟩))⟩
def cRng1 (cl : CA) : CI := fun en st R => cl en st fun ws st1 => ∃ j : Int, ws = [.int j] ∧ -(2 ^ 62) ≤ j ∧ j < 2 ^ 62 ∧ R (iRng 0 j.toNat) st1
def cRng2 (cl : CA) : CI := fun en st R => cl en st fun ws st1 => ∃ i j : Int, ws = [.int i, .int j] ∧ (-(2 ^ 62) ≤ i ∧ i < 2 ^ 62 ∧ -(2 ^ 62) ≤ j ∧ j < 2 ^ 62) ∧ R (iRng i (j - i).toNat) st1
def cRng3 (cl : CA) : CI := fun en st R => cl en st fun ws st1 => ∃ (i j c : Int) (n : Nat), ws = [.int i, .int j, .int c] ∧ RgC i j c n ∧ R (iRngC i c n) st1
variable {a b d : Expr} {cl : CA} {p pos : Pos}
theorem ai_rng1 (hg : Gl X "range") (hm : X.mg "range" = none) (ha : AA X [a] cl) (hs : starEach [a] X.env = [(false, eval a X.env)] := by rfl) : AI X tg (.Call (.Name "range" p) [a] [] pos) (cRng1 cl) := (pi_range1 hg hm ha hs).imp fun σ H R ⟨φ, en, st, P, E, S, h, cc⟩ => by
  refine tA.bind E S h fun φ1 H1 ws st1 vs p1 k1 E1 S1 r h1 => ?_
  obtain ⟨j, rfl, h2, h3, h1⟩ := h1
  cases r with
  | cons r1 r2 =>
    cases r2; cases r1
    exact ⟨j, rfl, h2, h3, cc _ _ _ _ _ p1 k1 E1 S1 itr_rng h1⟩
theorem ai_rng2 (hg : Gl X "range") (hm : X.mg "range" = none) (ha : AA X [a, b] cl) (hs : starEach [a, b] X.env = [(false, eval a X.env), (false, eval b X.env)] := by rfl) (hs2 : starEach [b] X.env = [(false, eval b X.env)] := by rfl) :
    AI X tg (.Call (.Name "range" p) [a, b] [] pos) (cRng2 cl) := (pi_range2 hg hm ha hs hs2).imp fun σ H R ⟨φ, en, st, P, E, S, h, cc⟩ => by
  refine tA.bind E S h fun φ1 H1 ws st1 vs p1 k1 E1 S1 r h1 => ?_
  obtain ⟨i, j, rfl, h2, h1⟩ := h1
  cases r with
  | cons r1 r2 =>
    cases r2 with
    | cons r2 r3 =>
      cases r3; cases r2; cases r1
      exact ⟨i, j, rfl, h2, cc _ _ _ _ _ p1 k1 E1 S1 itr_rng h1⟩
end

/-! ### enumerate, zip -/
def iEnm (n : Nat) : AIt := fun i st => (lstAt st n).map fun ws => ws[i]?.map fun w => .tup [.int (i : Nat), w]
def zipAt (ws us : List W) (i : Nat) : Option W := match ws[i]?, us[i]? with
  | some w, some u => some (.tup [w, u])
  | _, _ => none
def iZp (n m : Nat) : AIt := fun i st => match lstAt st n, lstAt st m with
  | some ws, some us => some (zipAt ws us i)
  | _, _ => none
def iZpT (ws us : List W) : AIt := fun i _ => some (zipAt ws us i)
section
variable {K : PySem.W.Frag} {φ : List Addr} {H : Hp} {st : Sto}
theorem itr_enum {n : Nat} {a : Addr} (h : φ[n]? = some a) : ItR K φ H (iEnm n) (Ite K a) := by
  refine ⟨fun i st φ' H' w p k S e => ?_, fun i st φ' H' p k S e => ?_⟩
  · unfold iEnm at e
    obtain ⟨ws, hl, e⟩ := Option.map_eq_some_iff.mp e
    obtain ⟨vs, e1, rs⟩ := lst_rep S (pre_get p h) hl
    obtain ⟨w', ew, rfl⟩ := Option.map_eq_some_iff.mp e
    obtain ⟨v, hv, rv⟩ := rs.get ew
    refine ⟨⟨vs, v, SqL.of e1, hv⟩, fun x H'' y => ?_⟩
    obtain ⟨T, x, rfl, hT, rfl, y⟩ := y
    have := y vs (SqL.of e1)
    rw [hv] at this
    cases this
    have kk : Kp K H' (upd H' T (.tup [.int (i : Nat), v])) := Kp.new hT
    exact ⟨φ', List.prefix_refl _, kk, S.tup hT, .tup upd_same (.cons .int (.cons (rv.mono (List.prefix_refl _) kk) .nil))⟩
  · unfold iEnm at e
    obtain ⟨ws, hl, e⟩ := Option.map_eq_some_iff.mp e
    obtain ⟨vs, e1, rs⟩ := lst_rep S (pre_get p h) hl
    exact ⟨vs, SqL.of e1, by rw [← rs.length]; exact List.getElem?_eq_none_iff.mp (Option.map_eq_none_iff.mp e)⟩
theorem zipAt_some {ws us : List W} {i : Nat} {w : W} (h : zipAt ws us i = some w) : ∃ x y, ws[i]? = some x ∧ us[i]? = some y ∧ w = .tup [x, y] := by
  unfold zipAt at h
  split at h
  · rename_i x y hx hy
    cases h
    exact ⟨x, y, hx, hy, rfl⟩
  · cases h
theorem zipAt_none {ws us : List W} {i : Nat} (h : zipAt ws us i = none) : ws.length ≤ i ∨ us.length ≤ i := by
  unfold zipAt at h
  split at h
  · cases h
  · rename_i hn
    by_cases h1 : i < ws.length
    · by_cases h2 : i < us.length
      · exact (hn _ _ (List.getElem?_eq_getElem h1) (List.getElem?_eq_getElem h2)).elim
      · exact .inr (Nat.le_of_not_lt h2)
    · exact .inl (Nat.le_of_not_lt h1)
theorem itr_zip {n m : Nat} {a b : Addr} (h : φ[n]? = some a) (h' : φ[m]? = some b) : ItR K φ H (iZp n m) (Itz K a b) := by
  refine ⟨fun i st φ' H' w p k S e => ?_, fun i st φ' H' p k S e => ?_⟩ <;>
  · unfold iZp at e
    cases hl : lstAt st n with
    | none => rw [hl] at e; cases e
    | some ws =>
      cases hm : lstAt st m with
      | none => rw [hl, hm] at e; cases e
      | some us =>
        rw [hl, hm] at e
        obtain ⟨vs, e1, rs⟩ := lst_rep S (pre_get p h) hl
        obtain ⟨ts, e2, rt⟩ := lst_rep S (pre_get p h') hm
        first
          | (obtain ⟨w1, w2, g1, g2, rfl⟩ := zipAt_some (Option.some.inj e)
             obtain ⟨v1, hv1, rv1⟩ := rs.get g1
             obtain ⟨v2, hv2, rv2⟩ := rt.get g2
             refine ⟨⟨vs, ts, v1, v2, SqL.of e1, SqL.of e2, hv1, hv2⟩, fun x H'' y => ?_⟩
             obtain ⟨T, x, y', rfl, hT, rfl, y1, y2⟩ := y
             have t1 := y1 vs (SqL.of e1)
             have t2 := y2 ts (SqL.of e2)
             rw [hv1] at t1; rw [hv2] at t2
             cases t1; cases t2
             have kk : Kp K H' (upd H' T (.tup [v1, v2])) := Kp.new hT
             exact ⟨φ', List.prefix_refl _, kk, S.tup hT, .tup upd_same (.cons (rv1.mono (List.prefix_refl _) kk) (.cons (rv2.mono (List.prefix_refl _) kk) .nil))⟩)
          | (have := zipAt_none (Option.some.inj e)
             exact ⟨vs, ts, SqL.of e1, SqL.of e2, by rw [← rs.length, ← rt.length]; exact this⟩)
theorem itr_zipT {a b : Addr} {ws us : List W} {vs ts : List V} (h : H a = some (.tup vs)) (h' : H b = some (.tup ts)) (rs : RepVs K φ H ws vs) (rt : RepVs K φ H us ts) : ItR K φ H (iZpT ws us) (RZ.ItzT K a b) := by
  refine ⟨fun i st φ' H' w p k S e => ?_, fun i st φ' H' p k S e => ?_⟩
  · obtain ⟨w1, w2, g1, g2, rfl⟩ := zipAt_some (Option.some.inj e)
    obtain ⟨v1, hv1, rv1⟩ := rs.get g1
    obtain ⟨v2, hv2, rv2⟩ := rt.get g2
    have e1 := SqT.of (K := K) (k.t _ _ h)
    have e2 := SqT.of (K := K) (k.t _ _ h')
    refine ⟨⟨vs, ts, v1, v2, e1, e2, hv1, hv2⟩, fun x H'' y => ?_⟩
    obtain ⟨T, x, y', rfl, hT, rfl, y1, y2⟩ := y
    have t1 := y1 vs e1
    have t2 := y2 ts e2
    rw [hv1] at t1; rw [hv2] at t2
    cases t1; cases t2
    have kk : Kp K H' (upd H' T (.tup [v1, v2])) := Kp.new hT
    exact ⟨φ', List.prefix_refl _, kk, S.tup hT, .tup upd_same (.cons (rv1.mono p (k.trans kk)) (.cons (rv2.mono p (k.trans kk)) .nil))⟩
  · have := zipAt_none (Option.some.inj e)
    exact ⟨vs, ts, SqT.of (k.t _ _ h), SqT.of (k.t _ _ h'), by rw [← rs.length, ← rt.length]; exact this⟩
end
def cEnum (cl : CA) : CI := fun en st R => cl en st fun ws st1 => ∃ n us, ws = [.ref n] ∧ lstAt st1 n = some us ∧ R (iEnm n) st1
def cZip (cl : CA) : CI := fun en st R => cl en st fun ws st1 => match ws with
  | [.ref n, .ref m] => ∃ us ts, lstAt st1 n = some us ∧ lstAt st1 m = some ts ∧ R (iZp n m) st1
  | [.tup us, .tup ts] => R (iZpT us ts) st1
  | _ => False
section
variable {X : Cx} {e e2 : Expr} {cl : CA} {p pos tpos : Pos} {elts : List Expr} {kk : Nat}
theorem ai_enum (hg : Gl X "enumerate") (hm : X.mg "enumerate" = none) (ha : AA X [e] cl) (hs : starEach [e] X.env = [(false, eval e X.env)] := by rfl) : AI X (.Tuple elts kk tpos) (.Call (.Name "enumerate" p) [e] [] pos) (cEnum cl) :=
  (pi_enum hg hm ha hs).imp fun σ H R ⟨φ, en, st, P, E, S, h, cc⟩ => by
    refine tA.bind E S h fun φ1 H1 ws st1 vs p1 k1 E1 S1 r h1 => ?_
    obtain ⟨n, us, rfl, hl, h1⟩ := h1
    cases r with
    | cons r1 r2 =>
      cases r2
      cases r1 with
      | ref ex =>
        obtain ⟨ts, e1, rs⟩ := lst_rep S1 ex hl
        exact ⟨_, _, rfl, SqL.of e1, cc _ _ _ _ _ p1 k1 E1 S1 (itr_enum ex) h1⟩
theorem ai_zip (hg : Gl X "zip") (hm : X.mg "zip" = none) (ha : AA X [e, e2] cl) (hs : starEach [e, e2] X.env = (false, eval e X.env) :: starEach [e2] X.env := by rfl) (hpl : (backTo pos (starEach [e2] X.env)).any (·.1) = false := by rfl) :
    AI X (.Tuple elts kk tpos) (.Call (.Name "zip" p) [e, e2] [] pos) (cZip cl) := (RZ.pi_zipA hg hm ha hs hpl).imp fun σ H R ⟨φ, en, st, P, E, S, h, cc⟩ => by
  refine tA.bind E S h fun φ1 H1 ws st1 vs p1 k1 E1 S1 r h1 => ?_
  split at h1
  · obtain ⟨us, ts, hl, hm, h1⟩ := h1
    cases r with
    | cons r1 r2 =>
      cases r2 with
      | cons r2 r3 =>
        cases r3
        cases r1 with
        | ref ex =>
          cases r2 with
          | ref ey =>
            obtain ⟨vs, e1, rs⟩ := lst_rep S1 ex hl
            obtain ⟨zs, e2, rt⟩ := lst_rep S1 ey hm
            exact ⟨_, _, vs, zs, rfl, .inl ⟨SqL.of e1, SqL.of e2, cc _ _ _ _ _ p1 k1 E1 S1 (itr_zip ex ey) h1⟩⟩
  · cases r with
    | cons r1 r2 =>
      cases r2 with
      | cons r2 r3 =>
        cases r3
        cases r1 with
        | tup ex rs =>
          cases r2 with
          | tup ey rt => exact ⟨_, _, _, _, rfl, .inr ⟨SqT.of ex, SqT.of ey, cc _ _ _ _ _ p1 k1 E1 S1 (itr_zipT ex ey rs rt) h1⟩⟩
  · exact h1.elim
end

/-! ### a dict is locked while it is walked -/
def isDict : O → Bool
  | .dK _ => true
  | .dT _ => true
  | _ => false
def sLock (c : CS) : CS := fun D en st => ∃ n o, st[n]? = some o ∧ isDict o = true ∧ c ⟨fun en' st' => st'[n]? = some (.fz o) ∧ D.nx en' (st'.set n o), fun w st' => st'[n]? = some (.fz o) ∧ D.rt w (st'.set n o),
  fun en' st' => st'[n]? = some (.fz o) ∧ D.bk en' (st'.set n o), fun en' st' => st'[n]? = some (.fz o) ∧ D.ct en' (st'.set n o)⟩ en (st.set n (.fz o))
def cLock (c : CE) : CE := fun en st P => ∃ n o, st[n]? = some o ∧ isDict o = true ∧ c en (st.set n (.fz o)) fun w st' => st'[n]? = some (.fz o) ∧ P w (st'.set n o)
section
variable {K : PySem.W.Frag} {φ φ' : List Addr} {H H' : Hp} {st st' : Sto}
theorem dict_rep {n : Nat} {a : Addr} {o : O} (S : StR K φ st H) (h : φ[n]? = some a) (e : st[n]? = some o) (d : isDict o = true) : ∃ u, H a = some u ∧ NoTup u ∧ Mut (some u) ∧ RepU K φ H o u ∧ ∀ vs, u ≠ .lst vs := by
  have r := S.ob _ _ _ h e
  cases o <;> first | (cases d; done) | skip
  · obtain ⟨u, hu, vs, rfl, rp⟩ := r
    exact ⟨_, hu, trivial, trivial, ⟨vs, rfl, rp⟩, fun _ z => nomatch z⟩
  · obtain ⟨u, hu, vs, rfl, rp⟩ := r
    exact ⟨_, hu, trivial, trivial, ⟨vs, rfl, rp⟩, fun _ z => nomatch z⟩
theorem StR.lock {n : Nat} {a : Addr} {o : O} {u : HO} {od : Obj} (S : StR K φ st H) (h : φ[n]? = some a) (e : H a = some u) (nt : NoTup u) (r : RepU K φ H o u) (nl : ∀ vs, u ≠ .lst vs) : StR K φ (st.set n (.fz o)) (upd H a (.frz od u)) :=
  S.putO h e nt ⟨od, u, upd_same, r.mono (List.prefix_refl _) (Kp.put e nt).w, nl⟩
/-- unlocked again: all else is as the inner end left it -/
theorem unlock {n : Nat} {a : Addr} {o : O} {u : HO} {od : Obj} (S : StR K φ st H) (h : φ[n]? = some a) (e : H a = some u) (nt : NoTup u) (r : RepU K φ H o u) (nl : ∀ vs, u ≠ .lst vs) (p : φ <+: φ') (k : Kp K (upd H a (.frz od u)) H') (S' : StR K φ' st' H') (e' : st'[n]? = some (.fz o)) :
    H' a = some (.frz od u) ∧ Kp K H (upd H' a u) ∧ StR K φ' (st'.set n o) (upd H' a u) ∧ ∀ w v, RepV K φ' H' w v → RepV K φ' (upd H' a u) w v := by
  have ha : H' a = some (.frz od u) := k.z _ _ _ upd_same
  have k0 : Kp K H (upd H a (.frz od u)) := Kp.put e nt
  have kk : Kp K H (upd H' a u) := by
    refine ⟨fun b vs hb => ?_, fun b ob x hb => ?_⟩
    · have ne : b ≠ a := by rintro rfl; rw [hb] at e; cases e; exact nt
      rw [upd_ne ne]
      exact (k0.trans k).t _ _ hb
    · have ne : b ≠ a := by rintro rfl; rw [hb] at e; cases e; exact nt
      rw [upd_ne ne]
      exact (k0.trans k).z _ _ _ hb
  have tup : ∀ b vs, H' b = some (.tup vs) → upd H' a u b = some (.tup vs) := fun b vs hb => by
    rw [upd_ne]
    · exact hb
    · rintro rfl; rw [hb] at ha; cases ha
  have kw : Kw K H' (upd H' a u) := by
    refine ⟨tup, fun b vs hb => ?_⟩
    rcases hb with ⟨q, hb⟩ | hb
    · refine .inl ⟨q, ?_⟩
      rw [upd_ne]
      · exact hb
      · rintro rfl; rw [hb] at ha; cases ha; exact nl _ rfl
    · exact .inr hb
  have k1 : Kw K H (upd H' a u) := kk
  refine ⟨ha, kk, ⟨by rw [List.length_set]; exact S'.len, S'.nd, fun i b q h1 h2 => ?_⟩, fun w v r => r.mono (List.prefix_refl _) kw⟩
  by_cases hi : i = n
  · subst hi
    have hb : b = a := Option.some.inj (h1.symm.trans (pre_get p h))
    subst hb
    rw [List.getElem?_set_self (List.getElem?_eq_some_iff.mp e').1] at h2; cases h2
    exact .of upd_same (r.mono p k1)
  · rw [List.getElem?_set_ne (Ne.symm hi)] at h2
    refine (S'.ob i b q h1 h2).at (List.prefix_refl _) kw ?_
    rw [upd_ne]
    rintro rfl
    obtain ⟨l1, e1⟩ := List.getElem?_eq_some_iff.mp h1
    obtain ⟨l2, e2⟩ := List.getElem?_eq_some_iff.mp (pre_get p h)
    exact hi ((List.getElem_inj S'.nd).mp (e1.trans e2.symm))
end
section
variable {X : Cx} {s : Stmt} {e : Expr} {c : CS} {ce : CE}
theorem as_lock (h : AS X s c) : AS X s (sLock c) := (ps_lock h).imp fun D σ H ⟨φ, en, st, D', E, S, h, c1, c2, c3, c4⟩ => by
  obtain ⟨n, o, e, d, h⟩ := h
  obtain ⟨a, ha, _⟩ := S.at e
  obtain ⟨u, hu, nt, mu, ru, nl⟩ := dict_rep S ha e d
  refine ⟨a, u, hu, mu, fun od => ?_⟩
  have k0 : Kp X.K H (upd H a (.frz od u)) := Kp.put hu nt
  refine ⟨φ, en, _, _, E.mono (List.prefix_refl _) k0, S.lock ha hu nt ru nl, h, ?_, ?_, ?_, ?_⟩
  · intro φ1 H1 en1 st1 σ1 p k S1 E1 q
    obtain ⟨z1, z2, z3, z4⟩ := unlock S ha hu nt ru nl p k S1 q.1
    exact ⟨z1, c1 _ _ _ _ _ p z2 z3 ⟨E1.len, fun i w hw => let ⟨v, hv, rv⟩ := E1.at_ i w hw; ⟨v, hv, z4 _ _ rv⟩⟩ q.2⟩
  · intro φ1 H1 w st1 v p k S1 r q
    obtain ⟨z1, z2, z3, z4⟩ := unlock S ha hu nt ru nl p k S1 q.1
    exact ⟨z1, c2 _ _ _ _ _ p z2 z3 (z4 _ _ r) q.2⟩
  · intro φ1 H1 en1 st1 σ1 p k S1 E1 q
    obtain ⟨z1, z2, z3, z4⟩ := unlock S ha hu nt ru nl p k S1 q.1
    exact ⟨z1, c3 _ _ _ _ _ p z2 z3 ⟨E1.len, fun i w hw => let ⟨v, hv, rv⟩ := E1.at_ i w hw; ⟨v, hv, z4 _ _ rv⟩⟩ q.2⟩
  · intro φ1 H1 en1 st1 σ1 p k S1 E1 q
    obtain ⟨z1, z2, z3, z4⟩ := unlock S ha hu nt ru nl p k S1 q.1
    exact ⟨z1, c4 _ _ _ _ _ p z2 z3 ⟨E1.len, fun i w hw => let ⟨v, hv, rv⟩ := E1.at_ i w hw; ⟨v, hv, z4 _ _ rv⟩⟩ q.2⟩
theorem ae_lock (h : AE X e ce) : AE X e (cLock ce) := (pe_lock h).imp fun σ H Q ⟨φ, en, st, P, E, S, h, c⟩ => by
  obtain ⟨n, o, e, d, h⟩ := h
  obtain ⟨a, ha, _⟩ := S.at e
  obtain ⟨u, hu, nt, mu, ru, nl⟩ := dict_rep S ha e d
  refine ⟨a, u, hu, mu, fun od => ?_⟩
  have k0 : Kp X.K H (upd H a (.frz od u)) := Kp.put hu nt
  refine ⟨φ, en, _, _, E.mono (List.prefix_refl _) k0, S.lock ha hu nt ru nl, h, ?_⟩
  intro φ1 H1 w st1 v p k S1 r q
  obtain ⟨z1, z2, z3, z4⟩ := unlock S ha hu nt ru nl p k S1 q.1
  exact ⟨z1, c _ _ _ _ _ p z2 z3 (z4 _ _ r) q.2⟩
end
end AL
namespace AL
open PySem PySem.Spec PyProof.Rows L2

/-! ### {} -/
def cDNewK : CE := fun _ st P => P (.ref st.length) (st ++ [.dK []])
def cDNewT : CE := fun _ st P => P (.ref st.length) (st ++ [.dT []])
section
variable {X : Cx} {pos : Pos}
theorem ae_dnewK : AE X (.Dict [] [] pos) cDNewK := pe_dnewK.imp fun σ H Q ⟨φ, en, st, P, E, S, h, c⟩ p hp => c.new S hp (show RepU X.K φ H (.dK []) (.dK []) from ⟨[], rfl, .nil⟩) h
theorem ae_dnewT : AE X (.Dict [] [] pos) cDNewT := pe_dnewT.imp fun σ H Q ⟨φ, en, st, P, E, S, h, c⟩ p hp => c.new S hp (show RepU X.K φ H (.dT []) (.dT []) from ⟨[], rfl, .nil⟩) h
end

/-! ### tuple keys: the layer below -/
/-- a key's tuple, a value -/
abbrev KAV := List Key × Addr × V
/-- many stores -/
def mergeT (kvs : List (List Key × V)) (ps : List KAV) : List (List Key × V) := ps.foldl (fun acc p => putK acc p.1 p.2.2) kvs
theorem length_mergeT : ∀ (ps : List KAV) (kvs : List (List Key × V)), (mergeT kvs ps).length ≤ kvs.length + ps.length
  | [], kvs => Nat.le_refl _
  | p :: r, kvs => by
    have h1 := length_mergeT r (putK kvs p.1 p.2.2)
    have h2 := length_putK kvs p.1 p.2.2
    show (mergeT (putK kvs p.1 p.2.2) r).length ≤ _
    rw [List.length_cons]; omega
abbrev KAP (H : Hp) : List KAV → List (List Key × Addr × Value) → Prop := Paired fun p q => p.1 = q.1 ∧ p.2.1 = q.2.1 ∧ H q.2.1 = some (.tup (p.1.map kV)) ∧ RelV p.2.2 q.2.2
theorem kt_merge {H : Hp} : ∀ {ps : List KAV} {qs : List (List Key × Addr × Value)} {kvs : List (List Key × V)} {xs : List (List Key × Addr × Value)}, KAP H ps qs → KT H kvs xs → KT H (mergeT kvs ps) (storedAllH xs qs) := by
  intro ps qs kvs xs r
  unfold KAP at r
  induction r generalizing kvs xs with
  | nil => intro q; exact q
  | @cons p q ps qs h t ih =>
    intro r0
    have e : KT H (putK kvs p.1 p.2.2) (storedH xs q.1 q.2.1 q.2.2) := by
      have := r0.put p.1 h.2.2.1 h.2.2.2
      rw [← h.1]; exact this
    exact ih e
section
variable {X : Cx} {pins : List (Addr × Obj)} {σ : L2.St} {H : Hp} {s : Shared}
/-- a dict with tuple keys at a after a write -/
theorem dt_new {P : Program} {w : World} {H' : Hp} {h' : Heap} {a : Addr} {kvs : List (List Key × V)} {xs : List (List Key × Addr × Value)} (z : kvs.length ≤ sizeLine) (hd : (a == sysModules) = false) (rel : KT H' kvs xs) (dd : h'.DictOfH (tupleKind (mixKind P w)) a xs) :
    ObjOk P w H' h' a (.dT kvs) := by
  obtain ⟨q, es, ep, hq, h2, h3, h4, _, h5⟩ := dd
  exact ⟨z, hd, xs, rel, q, es, ep, hq, h2, h3, h4, h5⟩
theorem kt_upd {a : Addr} {o u : HO} {kvs : List (List Key × V)} {xs : List (List Key × Addr × Value)} (r : KT H kvs xs) (e : H a = some o) (n : NoTup o) : KT (upd H a u) kvs xs := r.keeps fun c ys ec => by
  rw [upd_ne]
  · exact ec
  · rintro rfl
    rw [ec] at e; cases e; exact n
theorem kt_new {a : Addr} {u : HO} {kvs : List (List Key × V)} {xs : List (List Key × Addr × Value)} (r : KT H kvs xs) (e : H a = none) : KT (upd H a u) kvs xs := r.keeps fun c ys ec => by
  rw [upd_ne (ne_of_none ec e)]
  exact ec
/-- the pairs of a list, each a tuple of a key's tuple and a value -/
def PairsT (H : Hp) (ps : List Addr) (ks : List KAV) : Prop := Paired (fun p q => H p = some (.tup [.ref q.2.1, q.2.2]) ∧ H q.2.1 = some (.tup (q.1.map kV))) ps ks
theorem pairsT_of (I : Inv X pins σ H s) : ∀ {ps : List Addr} {ks : List KAV}, PairsT H ps ks → ∃ prs : List (List Key × Addr × Value), KAP H ks prs ∧ prs.length = ps.length ∧ ∀ (j : Nat) (q : List Key × Addr × Value), prs[j]? = some q → ∃ b, ps[j]? = some b ∧ IsTup s.heap b #[.ref q.2.1, q.2.2] := by
  intro ps ks r
  unfold PairsT at r
  induction r with
  | nil => exact ⟨[], .nil, rfl, fun j q e => by simp at e⟩
  | @cons p q ps qs h t ih =>
    obtain ⟨prs, r, hl, hp⟩ := ih
    obtain ⟨its, rv, ht, _⟩ := I.tuple (SqT.of h.1)
    obtain ⟨u, y, ei, ru, ry⟩ := vals2 rv
    subst ei
    obtain rfl : u = Value.ref q.2.1 := ru
    refine ⟨(q.1, q.2.1, y) :: prs, .cons ⟨rfl, rfl, h.2, ry⟩ r, by rw [List.length_cons, List.length_cons, hl], fun j q' e => ?_⟩
    cases j with
    | zero => cases e; exact ⟨p, rfl, ht⟩
    | succ j => exact hp j q' e
theorem kap_is (I : Inv X pins σ H s) {ks : List KAV} {prs : List (List Key × Addr × Value)} (r : KAP H ks prs) : ∀ x ∈ prs, H x.2.1 = some (.tup (x.1.map kV)) := by
  unfold KAP at r
  induction r with
  | nil => intro x hx; exact nomatch hx
  | @cons p q ps qs h t ih =>
    intro x hx
    rcases List.mem_cons.mp hx with rfl | hx
    · rw [← h.1]; exact h.2.2.1
    · exact ih x hx
theorem kt_is {kvs : List (List Key × V)} {xs : List (List Key × Addr × Value)} (r : KT H kvs xs) : ∀ x ∈ xs, H x.2.1 = some (.tup (x.1.map kV)) := by
  unfold KT at r
  induction r with
  | nil => intro x hx; exact nomatch hx
  | @cons p q ps qs h t ih =>
    intro x hx
    rcases List.mem_cons.mp hx with rfl | hx
    · rw [← h.1]; exact h.2.1
    · exact ih x hx
theorem argOf (I : Inv X pins σ H s) {a : Addr} {ps : List Addr} {ks : List KAV} (hq : SqL X.K H a (ps.map V.ref)) (hp : PairsT H ps ks) : ∃ (prs : List (List Key × Addr × Value)) (Ts : Nat → Addr) (items : Array Value), KAP H ks prs ∧ prs.length ≤ sizeLine ∧
    (PlainSeq "list" s.heap a items ∧ PairItems s.heap items Ts (prs.map fun q => (.ref q.2.1, q.2.2))) ∧ PairsHaveH (tupleKind (mixKind X.prog X.w)) (prs.map fun q => (Value.ref q.2.1, q.2.2)).length (PairRel (prs.map fun q => (.ref q.2.1, q.2.2))) prs ∧ (∀ j, ∃ o, j < prs.length → s.heap.get? (Ts j) = some o ∧ o.cls = .type "tuple") := by
  obtain ⟨its, rv, pl, hz⟩ := I.list hq
  have ei := refs_at rv
  subst ei
  obtain ⟨prs, rel, hl, hpr⟩ := pairsT_of I hp
  obtain ⟨o, n, ho, hc, hd, hdat⟩ := pl
  have hlen : prs.length = ps.length := hl
  have rd : ∀ j, j < prs.length → ∃ b, ps[j]? = some b ∧ IsTup s.heap b #[.ref prs[j]!.2.1, prs[j]!.2.2] := fun j hj => by
    obtain ⟨b, h1, h2⟩ := hpr j prs[j] (List.getElem?_eq_getElem hj)
    rw [getElem!_pos prs j hj]
    exact ⟨b, h1, h2⟩
  refine ⟨prs, fun j => ps.getD j 0, (ps.map Value.ref).toArray, rel, by rw [hlen]; rw [List.length_map] at hz; exact hz, ⟨⟨o, n, ho, hc, hd, hdat⟩, by simp [hlen], fun j k v hj => ?_⟩, ⟨by simp, fun i key v hr => ?_⟩, fun j => ?_⟩
  · rw [List.getElem?_map] at hj
    obtain ⟨q, hq', e⟩ := Option.map_eq_some_iff.mp hj
    cases e
    obtain ⟨b, h1, h2⟩ := hpr j q hq'
    have hT : ps.getD j 0 = b := by rw [List.getD_eq_getElem?_getD, h1]; rfl
    refine ⟨?_, ?_⟩
    · simp [h1]
    · show PairAt s.heap (ps.getD j 0) _ _
      rw [hT]
      exact .inl h2
  · rw [PairRel, List.getElem?_map] at hr
    obtain ⟨q, hq', e⟩ := Option.map_eq_some_iff.mp hr
    cases e
    exact ⟨q.1, q.2.1, hq', rfl⟩
  · by_cases hj : j < prs.length
    · obtain ⟨b, h1, o, h2, h3, _⟩ := rd j hj
      have hT : ps.getD j 0 = b := by rw [List.getD_eq_getElem?_getD, h1]; rfl
      show ∃ o, j < prs.length → s.heap.get? (ps.getD j 0) = some o ∧ o.cls = .type "tuple"
      rw [hT]
      exact ⟨o, fun _ => ⟨h2, h3⟩⟩
    · exact ⟨default, fun h => absurd h hj⟩
end
/-- dict(xs): xs a list of pairs with tuple keys -/
def rDictT (K : PySem.W.Frag) : List V → Hp → VK → Prop := fun xs H Q => ∃ (a : Addr) (ps : List Addr) (ks : List KAV), xs = [.ref a] ∧ SqL K H a (ps.map V.ref) ∧ PairsT H ps ks ∧ ∀ p, H p = none → Q (.ref p) (upd H p (.dT (mergeT [] ks)))
theorem call_dictT {X : Cx} (hcalm : X.calm = true) (hu : X.A.units + 64 < cLine) : CallR X (.type "dict") (rDictT X.K) := by
  intro pins s σ H xs us Q I r q
  obtain ⟨a, ps, ks, ex, hq, hp, q⟩ := q
  subst ex
  obtain ⟨u, eu, rx⟩ := vals1 r
  subst eu
  obtain rfl : u = Value.ref a := rx
  obtain ⟨prs, Ts, items, rel, hz, hok, hhave, _⟩ := argOf I hq hp
  have his : ∀ x ∈ prs, (tupleKind (mixKind X.prog X.w)).is s.heap x.1 x.2.1 := fun x hx => key_of I.hok (kap_is I rel x hx)
  refine call_dict_pairsH (knd := tupleKind (mixKind X.prog X.w)) (PairArg.list a items Ts _) (I.ok.hd hcalm) (by show _ < cLine; have : X.A.in1.in1.units = X.A.units + 2 := rfl; omega) hok hhave (fun h' hk x hx => ?_) (by simpa using hz) fun h' tk dd hk => ?_
  · have h1 := his x hx
    obtain ⟨o, its, n, ho, r⟩ := h1
    exact ⟨o, its, n, hk _ _ (Nat.ne_of_lt (Heap.lt_size ho)) (by simp) ho, r⟩
  · have hm : (s.heap.objs.size == sysModules) = false := beq_eq_false_iff_ne.mpr (Nat.ne_of_gt I.big)
    have hn := I.hok.fresh (Nat.le_refl s.heap.objs.size)
    have hlen : (mergeT [] ks).length ≤ sizeLine := by
      refine Nat.le_trans (length_mergeT ks []) ?_
      rw [List.length_nil, Nat.zero_add, Paired.length rel]
      exact hz
    have hk0 : KT (upd H s.heap.objs.size (.dT (mergeT [] ks))) (mergeT [] ks) (storedAllH [] prs) := kt_new (kt_merge rel .nil) hn
    exact ⟨.ref s.heap.objs.size, upd H s.heap.objs.size (.dT (mergeT [] ks)), I.laid (t' := tk) (fun b o e => hk b o (by simp) e) (Nat.le_refl _) (dt_new hlen hm hk0 dd), rfl, q _ hn⟩
/-- d.update(xs): a list of pairs, or a dict, all with tuple keys -/
def rUpdT (K : PySem.W.Frag) (P : Program) (w : World) : V → List V → Hp → VK → Prop := fun x xs H Q => ∃ (d a : Addr) (kvs : List (List Key × V)), x = .ref d ∧ xs = [.ref a] ∧ H d = some (.dT kvs) ∧
  ((∃ (ps : List Addr) (ks : List KAV), SqL K H a (ps.map V.ref) ∧ PairsT H ps ks ∧ kvs.length + ks.length ≤ sizeLine ∧ Q .non (upd H d (.dT (mergeT kvs ks)))) ∨
   (∃ more, H a = some (.dT more) ∧ d ≠ a ∧ (kvs ≠ [] ∨ (more.map fun p => tupleKeyHash (mixKind P w) p.1).Nodup) ∧ kvs.length + more.length ≤ sizeLine ∧ Q .non (upd H d (.dT (mergeT kvs (more.map fun p => (p.1, 0, p.2)))))))
theorem mt_updT {X : Cx} (hcalm : X.calm = true) (hu : X.A.units + 64 < cLine) : MtR X "dict.update" (rUpdT X.K X.prog X.w) := by
  intro pins s σ H x xs v us Q I rx rxs h
  obtain ⟨d, a, kvs, rfl, rfl, hd, h⟩ := h
  obtain rfl : v = Value.ref d := rx
  obtain ⟨u, eu, ru⟩ := vals1 rxs
  subst eu
  obtain rfl : u = Value.ref a := ru
  obtain ⟨z, hsys, xs0, rel0, dd0⟩ := dt_of I.hok hd
  rcases h with ⟨ps, ks, hq, hp, hz, q⟩ | ⟨more, ha, hda, hap, hz, q⟩
  · obtain ⟨prs, Ts, items, rel, hz', hok, hhave, hTs⟩ := argOf I hq hp
    have hlk := Paired.length rel
    have hl0 := Paired.length rel0
    have dne : ∀ b o, s.heap.get? b = some o → (o.cls = .type "tuple" ∨ o.cls = .type "list") → b ≠ d := fun b o e hc z => by
      subst z
      obtain ⟨od, _, _, hod, hex, _⟩ := dd0
      rw [e] at hod; cases hod
      rcases hc with hc | hc <;> (rw [hex.1] at hc; exact absurd hc (by decide))
    refine call_update_pairsH (knd := tupleKind (mixKind X.prog X.w)) (PairArg.list a items Ts _) (I.ok.hd hcalm) (by show _ < cLine; have : X.A.in1.units = X.A.units + 1 := rfl; omega) hok ?_ hhave (fun h' hk x hx => ?_) dd0 (by rw [List.length_map, ← hl0, ← hlk]; exact hz) fun h' tk dd hk => ?_
    · intro hm
      rcases List.mem_cons.mp hm with e | hm
      · obtain ⟨⟨o, n, ho, hc, _⟩, _⟩ := hok
        exact dne _ _ ho (.inr hc) e.symm
      · obtain ⟨j, hj, e⟩ := List.mem_map.mp hm
        obtain ⟨o, hoj⟩ := hTs j
        obtain ⟨h1, h2⟩ := hoj (by simpa using List.mem_range.mp hj)
        exact dne _ _ h1 (.inl h2) e
    · have h1 : (tupleKind (mixKind X.prog X.w)).is s.heap x.1 x.2.1 := by
        rcases List.mem_append.mp hx with hx | hx
        · exact key_of I.hok (kt_is rel0 x hx)
        · exact key_of I.hok (kap_is I rel x hx)
      obtain ⟨o, its, n, ho, hc, r⟩ := h1
      exact ⟨o, its, n, hk _ _ (dne _ _ ho (.inl hc)) (by simp) ho, hc, r⟩
    · have hlen : (mergeT kvs ks).length ≤ sizeLine := Nat.le_trans (length_mergeT ks kvs) hz
      have he : ∃ q, h'.get? d = some q := let ⟨q, _, _, hq, _⟩ := dd; ⟨q, hq⟩
      have hk0 : KT (upd H d (.dT (mergeT kvs ks))) (mergeT kvs ks) (storedAllH xs0 prs) := kt_upd (kt_merge rel rel0) hd trivial
      exact ⟨.non, _, I.write (x := d) (e := d) (t' := tk) (by rw [hd]; exact trivial) (.inl rfl) (fun b o hb e => hk b o hb (by simp) e) he (dt_new hlen hsys hk0 dd), rfl, q⟩
  · obtain ⟨z2, hsys2, ys0, rel2, dd2⟩ := dt_of I.hok ha
    have hl0 := Paired.length rel0
    have hl2 := Paired.length rel2
    have hkeys : ∀ {l : List (List Key × V)} {m : List (List Key × Addr × Value)}, KT H l m → (l.map fun p => tupleKeyHash (mixKind X.prog X.w) p.1) = m.map fun x => (tupleKind (mixKind X.prog X.w)).hash x.1 := by
      intro l m r
      unfold KT at r
      induction r with
      | nil => rfl
      | @cons p q ps qs h t ih => rw [List.map_cons, List.map_cons, ih, h.1]; rfl
    have hkap : ∀ {l : List (List Key × V)} {m : List (List Key × Addr × Value)}, KT H l m → ∃ l' : List KAV, l'.map (fun p => (p.1, p.2.2)) = l ∧ KAP H l' m := by
      intro l m r
      unfold KT at r
      induction r with
      | nil => exact ⟨[], rfl, .nil⟩
      | @cons p q ps qs h t ih =>
        obtain ⟨l', e, r'⟩ := ih
        exact ⟨(p.1, q.2.1, p.2) :: l', by rw [List.map_cons, e], .cons ⟨h.1, rfl, h.2.1, h.2.2⟩ r'⟩
    obtain ⟨l', el, rl⟩ := hkap rel2
    have hmerge : ∀ (l : List KAV) (kvs : List (List Key × V)), mergeT kvs ((l.map fun p => (p.1, p.2.2)).map fun p => (p.1, 0, p.2)) = mergeT kvs l := by
      intro l
      induction l with
      | nil => intro _; rfl
      | cons p l ih => intro kvs; exact ih _
    rw [← el, hmerge] at q
    refine call_update_dictH (knd := tupleKind (mixKind X.prog X.w)) (by show _ < cLine; have : X.A.in1.units = X.A.units + 1 := rfl; omega) hda hsys2 dd0 dd2 ?_ (by rw [← hl0, ← hl2]; exact hz) fun h' dd _ hs => ?_
    · rcases hap with hap | hap
      · exact .inl fun e => hap (by subst e; cases rel0; rfl)
      · refine .inr ⟨fun x hx => ?_, by rw [← hkeys rel2]; exact hap⟩
        obtain ⟨o, its, n, ho, hc, _⟩ := key_of (P := X.prog) (w := X.w) I.hok (kt_is rel2 x hx)
        exact ⟨o, ho, hc⟩
    · have hll : l'.length = more.length := by rw [← el, List.length_map]
      have hlen : (mergeT kvs l').length ≤ sizeLine := Nat.le_trans (length_mergeT l' kvs) (by rw [hll]; exact hz)
      have he : ∃ q, h'.get? d = some q := let ⟨q, _, _, hq, _⟩ := dd; ⟨q, hq⟩
      have hk0 : KT (upd H d (.dT (mergeT kvs l'))) (mergeT kvs l') (storedAllH xs0 ys0) := kt_upd (kt_merge rl rel0) hd trivial
      exact ⟨.non, _, d_write I (by rw [hd]; exact trivial) hs he (dt_new hlen hsys hk0 dd), rfl, q⟩
end AL
namespace AL
open PySem PySem.Spec PyProof.Rows L2

def toPairT : W → Option (List Key × W)
  | .tup [k, v] => (toKeys k).map fun ks => (ks, v)
  | _ => none
def toPairK : W → Option (Key × W)
  | .tup [k, v] => (toKey k).map fun ks => (ks, v)
  | _ => none
def mapO {α β : Type} (f : α → Option β) : List α → Option (List β)
  | [] => some []
  | w :: ws => match f w with
    | some k => (mapO f ws).map (k :: ·)
    | none => none
def mergeW {κ : Type} [DecidableEq κ] (kvs ps : List (κ × W)) : List (κ × W) := ps.foldl (fun acc p => putW acc p.1 p.2) kvs
section
variable {K : PySem.W.Frag} {φ : List Addr} {H : Hp} {st : Sto}
theorem pairsT_rep : ∀ {ws : List W} {vs : List V} {ps : List (List Key × W)}, RepVs K φ H ws vs → mapO toPairT ws = some ps → ∃ (as : List Addr) (ks : List KAV), vs = as.map V.ref ∧ PairsT H as ks ∧ PKV K φ H ps (ks.map fun p => (p.1, p.2.2))
  | [], _, _, r, h => by cases r; cases h; exact ⟨[], [], rfl, .nil, .nil⟩
  | w :: ws, _, ps, r, h => by
    cases r with
    | cons r1 r2 =>
      unfold mapO at h
      cases e : toPairT w with
      | none => rw [e] at h; cases h
      | some k =>
        rw [e] at h
        obtain ⟨es, h1, rfl⟩ := Option.map_eq_some_iff.mp h
        obtain ⟨as, ks, e1, e2, e3⟩ := pairsT_rep r2 h1
        unfold toPairT at e
        split at e
        · rename_i k' v'
          obtain ⟨kk, hk, rfl⟩ := Option.map_eq_some_iff.mp e
          cases r1 with
          | tup ex rs =>
            cases rs with
            | cons s1 s2 =>
              cases s2 with
              | cons s2 s3 =>
                cases s3
                obtain ⟨b, rfl, hb⟩ := toKeys_rep s1 hk
                exact ⟨_ :: as, (kk, b, _) :: ks, by rw [e1]; rfl, .cons ⟨ex, hb⟩ e2, .cons ⟨rfl, s2⟩ e3⟩
        · cases e
theorem pairsK_rep : ∀ {ws : List W} {vs : List V} {ps : List (Key × W)}, RepVs K φ H ws vs → mapO toPairK ws = some ps → ∃ (as : List Addr) (ks : List (Key × V)), vs = as.map V.ref ∧ Paired (fun p kv => SqT K H p [kV kv.1, kv.2]) as ks ∧ PKV K φ H ps ks
  | [], _, _, r, h => by cases r; cases h; exact ⟨[], [], rfl, .nil, .nil⟩
  | w :: ws, _, ps, r, h => by
    cases r with
    | cons r1 r2 =>
      unfold mapO at h
      cases e : toPairK w with
      | none => rw [e] at h; cases h
      | some k =>
        rw [e] at h
        obtain ⟨es, h1, rfl⟩ := Option.map_eq_some_iff.mp h
        obtain ⟨as, ks, e1, e2, e3⟩ := pairsK_rep r2 h1
        unfold toPairK at e
        split at e
        · rename_i k' v'
          obtain ⟨kk, hk, rfl⟩ := Option.map_eq_some_iff.mp e
          cases r1 with
          | tup ex rs =>
            cases rs with
            | cons s1 s2 =>
              cases s2 with
              | cons s2 s3 =>
                cases s3
                have := toKey_rep s1 hk
                subst this
                exact ⟨_ :: as, (kk, _) :: ks, by rw [e1]; rfl, .cons (SqT.of ex) e2, .cons ⟨rfl, s2⟩ e3⟩
        · cases e
theorem merge_repT : ∀ {ps : List (List Key × W)} {ks : List KAV} {kvs : List (List Key × W)} {vs : List (List Key × V)}, PKV K φ H ps (ks.map fun p => (p.1, p.2.2)) → PKV K φ H kvs vs → PKV K φ H (mergeW kvs ps) (mergeT vs ks)
  | [], [], _, _, _, r => r
  | [], _ :: _, _, _, h, _ => by cases h
  | _ :: _, [], _, _, h, _ => by cases h
  | p :: ps, k :: ks, kvs, vs, h, r => by
    cases h with
    | cons h1 h2 =>
      obtain ⟨e, rv⟩ := h1
      have := PKV.put (k := p.1) rv r
      rw [show mergeT vs (k :: ks) = mergeT (putK vs k.1 k.2.2) ks from rfl, ← (show p.1 = k.1 from e)]
      exact @merge_repT ps ks (putW kvs p.1 p.2) _ h2 this
theorem merge_repK : ∀ {ps : List (Key × W)} {ks : List (Key × V)} {kvs : List (Key × W)} {vs : List (Key × V)}, PKV K φ H ps ks → PKV K φ H kvs vs → PKV K φ H (mergeW kvs ps) (mergeK vs ks)
  | [], [], _, _, _, r => r
  | [], _ :: _, _, _, h, _ => by cases h
  | _ :: _, [], _, _, h, _ => by cases h
  | p :: ps, k :: ks, kvs, vs, h, r => by
    cases h with
    | cons h1 h2 =>
      obtain ⟨e, rv⟩ := h1
      have := PKV.put (k := p.1) rv r
      rw [show mergeK vs (k :: ks) = mergeK (putK vs k.1 k.2) ks from rfl, ← (show p.1 = k.1 from e)]
      exact @merge_repK ps ks (putW kvs p.1 p.2) _ h2 this
end
def kDictT : KL := fun xs st P => ∃ n ws ps, xs = [.ref n] ∧ lstAt st n = some ws ∧ mapO toPairT ws = some ps ∧ P (.ref st.length) (st ++ [.dT (mergeW [] ps)])
theorem sim_dictT {K : PySem.W.Frag} : SimL K kDictT (rDictT K) := fun φ H st xs vs P Q S rx h c => by
  obtain ⟨n, ws, ps, rfl, e, hp, h⟩ := h
  cases rx with
  | cons r1 r2 =>
    cases r2
    cases r1 with
    | ref ex =>
      obtain ⟨us, e1, ru⟩ := lst_rep S ex e
      obtain ⟨as, ks, rfl, e2, e3⟩ := pairsT_rep ru hp
      exact ⟨_, as, ks, rfl, SqL.of e1, e2, fun p hp => c.new S hp (show RepU K φ H (.dT _) (.dT _) from ⟨_, rfl, merge_repT e3 .nil⟩) h⟩
def kDictK : KL := fun xs st P => ∃ n ws ps, xs = [.ref n] ∧ lstAt st n = some ws ∧ mapO toPairK ws = some ps ∧ P (.ref st.length) (st ++ [.dK (mergeW [] ps)])
theorem sim_dictK {X : Cx} : SimL X.K kDictK (fun xs H Q => ∃ (a : Addr) (ps : List Addr) (kvs : List (Key × V)), xs = [.ref a] ∧ SqL X.K H a (ps.map V.ref) ∧ Paired (fun p kv => SqT X.K H p [kV kv.1, kv.2]) ps kvs ∧
    ∀ p, H p = none → Q (.ref p) (upd H p (.dK (mergeK [] kvs)))) := fun φ H st xs vs P Q S rx h c => by
  obtain ⟨n, ws, ps, rfl, e, hp, h⟩ := h
  cases rx with
  | cons r1 r2 =>
    cases r2
    cases r1 with
    | ref ex =>
      obtain ⟨us, e1, ru⟩ := lst_rep S ex e
      obtain ⟨as, ks, rfl, e2, e3⟩ := pairsK_rep ru hp
      exact ⟨_, as, ks, rfl, SqL.of e1, e2, fun p hp => c.new S hp (show RepU X.K φ H (.dK _) (.dK _) from ⟨_, rfl, merge_repK e3 .nil⟩) h⟩

/-! ### methods of dicts -/
/-- the hashes of the keys all differ -/
def KeysApart (kvs : List (List Key × W)) : Prop := ∀ (P : Program) (w : World), (kvs.map fun p => tupleKeyHash (mixKind P w) p.1).Nodup
def isDic (st : Sto) (n : Nat) : Prop := ∃ o, st[n]? = some o ∧ isDict o = true
def cBMD (k : W → KL) (co : CE) (cl : CA) : CE := fun en st P => co en st fun x st1 => (∃ n, x = .ref n ∧ isDic st1 n) ∧ cl en st1 fun xs st2 => k x xs st2 P
section
variable {X : Cx} {o e : Expr} {es : List Expr} {co : CE} {cl : CA} {name : Str} {apos cpos : Pos} {id : String} {r : V → List V → Hp → VK → Prop} {k : W → KL}
theorem dic_ty {K : PySem.W.Frag} {φ : List Addr} {H : Hp} {st : Sto} {n : Nat} {a : Addr} (S : StR K φ st H) (h : φ[n]? = some a) (d : isDic st n) : tyV K "dict" (.ref a) H := by
  obtain ⟨o, ho, hd⟩ := d
  have r := S.ob _ _ _ h ho
  cases o <;> first | (cases hd; done) | skip
  · obtain ⟨u, hu, vs, rfl, rp⟩ := r
    exact .inr (.inr (.inl ⟨rfl, .inl ⟨_, hu⟩⟩))
  · obtain ⟨u, hu, vs, rfl, rp⟩ := r
    exact .inr (.inr (.inl ⟨rfl, .inr ⟨_, hu⟩⟩))
theorem ae_bmd (pa : PlainAttrs "dict") (slot : Slot "dict" name id) (hty : typeOf (.builtin id) = pure (.type "method_descriptor")) (hm : MtR X id r) (s : SimM X.K k r) (ho : AE X o co) (ha : AA X (e :: es) cl)
    (hbase : attributeBase o name X.env (eval o X.env) = eval o X.env := by rfl)
    (hfew : ((backTo cpos (starEach (e :: es) X.env)).all (fun x => !x.1) && (backToKw cpos (keywordEach [] X.env)).all (fun x => x.1.isSome)
      && decide ((e :: es).length + ([] : List Keyword).length + (if ([] : List Keyword).isEmpty then 0 else 1) < 30)) = true := by rfl)
    (hline : (apos.endLine == cpos.line) = true := by rfl) (hs : starEach (e :: es) X.env = (false, eval e X.env) :: starEach es X.env := by rfl) (hplain : (backTo cpos (starEach es X.env)).any (·.1) = false := by rfl) :
    AE X (.Call (.Attribute o name apos) (e :: es) [] cpos) (cBMD k co cl) :=
  (pe_bm pa slot hty hm ho ha hbase hfew hline hs hplain).imp fun σ H Q ⟨φ, en, st, P, E, S, h, c⟩ => by
    refine tE.bind E S h fun φ1 H1 x st1 v p1 k1 E1 S1 rx h1 => ?_
    obtain ⟨⟨n, rfl, hd⟩, h1⟩ := h1
    cases rx with
    | ref ex =>
      refine ⟨dic_ty S1 ex hd, tA.bind E1 S1 h1 fun φ2 H2 ys st2 us2 p2 k2 E2 S2 ry h2 => ?_⟩
      exact s _ _ _ _ _ _ _ _ _ S2 (.ref (pre_get p2 ex)) ry h2 (c.mono (p1.trans p2) (k1.trans k2))
end
def mUpdT : W → KL := fun x xs st P => ∃ n m kvs, x = .ref n ∧ xs = [.ref m] ∧ st[n]? = some (.dT kvs) ∧ match lstAt st m with
  | some ws => ∃ ps, mapO toPairT ws = some ps ∧ kvs.length + ps.length ≤ sizeLine ∧ P .non (st.set n (.dT (mergeW kvs ps)))
  | none => ∃ more, st[m]? = some (.dT more) ∧ n ≠ m ∧ (kvs ≠ [] ∨ KeysApart more) ∧ kvs.length + more.length ≤ sizeLine ∧ P .non (st.set n (.dT (mergeW kvs more)))
theorem sim_updT {X : Cx} : SimM X.K mUpdT (rUpdT X.K X.prog X.w) := fun φ H st x v xs vs P Q S rx rs h c => by
  obtain ⟨n, m, kvs, rfl, rfl, e, h⟩ := h
  cases rx with
  | ref ex =>
    cases rs with
    | cons r1 r2 =>
      cases r2
      cases r1 with
      | ref ey =>
        obtain ⟨u, hu, vs, rfl, rp⟩ := S.ob _ _ _ ex e
        cases hl : lstAt st m with
        | some ws =>
          rw [hl] at h
          obtain ⟨ps, hp, hz, h⟩ := h
          obtain ⟨us, e1, ru⟩ := lst_rep S ey hl
          obtain ⟨as, ks, rfl, e2, e3⟩ := pairsT_rep ru hp
          have l1 : ps.length = ks.length := by have := e3.length; rwa [List.length_map] at this
          exact ⟨_, _, vs, rfl, rfl, hu, .inl ⟨as, ks, SqL.of e1, e2, by rw [← rp.length, ← l1]; exact hz, c.put S ex hu trivial (show RepU X.K φ H (.dT _) (.dT _) from ⟨_, rfl, merge_repT e3 rp⟩) .non h⟩⟩
        | none =>
          rw [hl] at h
          obtain ⟨more, em, hne, hap, hz, h⟩ := h
          obtain ⟨u, hm, ms, rfl, rm⟩ := S.ob _ _ _ ey em
          refine ⟨_, _, vs, rfl, rfl, hu, .inr ⟨ms, hm, ?_, ?_, by rw [← rp.length, ← rm.length]; exact hz, c.put S ex hu trivial (show RepU X.K φ H (.dT _) (.dT _) from ⟨_, rfl, merge_repT ?_ rp⟩) .non h⟩⟩
          · rintro rfl
            obtain ⟨l1, e1⟩ := List.getElem?_eq_some_iff.mp ex
            obtain ⟨l2, e2⟩ := List.getElem?_eq_some_iff.mp ey
            exact hne ((List.getElem_inj S.nd).mp (e1.trans e2.symm))
          · rcases hap with hap | hap
            · exact .inl fun z => hap (by subst z; cases rp; rfl)
            · refine .inr ?_
              have : (ms.map fun p => tupleKeyHash (mixKind X.prog X.w) p.1) = more.map fun p => tupleKeyHash (mixKind X.prog X.w) p.1 := by
                clear hap hz h em hm
                unfold PKV at rm
                induction rm with
                | nil => rfl
                | @cons p q ps qs h t ih => rw [List.map_cons, List.map_cons, ih, h.1]
              rw [this]
              exact hap _ _
          · rw [List.map_map]
            have : (fun p : KAV => (p.1, p.2.2)) ∘ (fun p : List Key × V => (p.1, (0 : Addr), p.2)) = id := rfl
            rw [this, List.map_id]
            exact rm
def cGet1 (cd ck : CE) : CE := fun en st P => cd en st fun x st1 => (∃ n, x = .ref n ∧ isDic st1 n) ∧ ck en st1 fun y st2 => ∃ n o, x = .ref n ∧ dicAt st2 n y = some o ∧ P (o.getD .non) st2
def cGet2 (cd ck cx : CE) : CE := fun en st P => cd en st fun x st1 => (∃ n, x = .ref n ∧ isDic st1 n) ∧ ck en st1 fun y st2 => cx en st2 fun z st3 => ∃ n o, x = .ref n ∧ dicAt st3 n y = some o ∧ P (o.getD z) st3
section
variable {X : Cx} {o e f : Expr} {cd ck cx : CE} {apos cpos : Pos}
theorem isD_of {K : PySem.W.Frag} {φ : List Addr} {H : Hp} {st : Sto} {n : Nat} {a : Addr} (S : StR K φ st H) (h : φ[n]? = some a) (d : isDic st n) : IsD H a := by
  rcases dic_ty S h d with z | z | z | z
  · exact absurd z.1 (by decide)
  · exact absurd z.1 (by decide)
  · rcases z.2 with ⟨kvs, h⟩ | ⟨kvs, h⟩
    · exact .inl ⟨kvs, .inl h⟩
    · exact .inr ⟨kvs, .inl h⟩
  · exact absurd z.1 (by decide)
theorem ae_get1 (hu : X.A.units + 64 < cLine) (ho : AE X o cd) (he : AE X e ck) (m : M1 X o "get" apos e cpos := by exact ⟨rfl, rfl, rfl, rfl⟩) : AE X (.Call (.Attribute o "get" apos) [e] [] cpos) (cGet1 cd ck) := (pe_dget1 (by omega) ho he m).imp fun σ H Q ⟨φ, en, st, P, E, S, h, c⟩ => by
  refine tE.bind E S h fun φ1 H1 x st1 v p1 k1 E1 S1 rx h1 => ?_
  obtain ⟨⟨n, rfl, hd⟩, h1⟩ := h1
  cases rx with
  | ref ex =>
    refine ⟨_, rfl, isD_of S1 ex hd, tE.bind E1 S1 h1 fun φ2 H2 y st2 u p2 k2 E2 S2 ry h2 => ?_⟩
    obtain ⟨n', ov, e1, e2, h2⟩ := h2
    cases e1
    obtain ⟨w, g, g1, g2⟩ := dic_get S2 (pre_get p2 ex) ry e2
    refine ⟨w, g, c _ _ _ _ _ (p1.trans p2) (k1.trans k2) S2 ?_ h2⟩
    cases ov with
    | none => rw [g1 rfl]; exact .non
    | some z => obtain ⟨v, rfl, rv⟩ := g2 z rfl; exact rv
theorem ae_get2 (hu : X.A.units + 64 < cLine) (ho : AE X o cd) (he : AE X e ck) (hf : AE X f cx) (m : M2 X o "get" apos e f cpos := by exact ⟨rfl, rfl, rfl, rfl⟩) : AE X (.Call (.Attribute o "get" apos) [e, f] [] cpos) (cGet2 cd ck cx) := (pe_dget2 (by omega) ho he hf m).imp fun σ H Q ⟨φ, en, st, P, E, S, h, c⟩ => by
  refine tE.bind E S h fun φ1 H1 x st1 v p1 k1 E1 S1 rx h1 => ?_
  obtain ⟨⟨n, rfl, hd⟩, h1⟩ := h1
  cases rx with
  | ref ex =>
    refine ⟨_, rfl, isD_of S1 ex hd, tE.bind E1 S1 h1 fun φ2 H2 y st2 u p2 k2 E2 S2 ry h2 => ?_⟩
    refine tE.bind E2 S2 h2 fun φ3 H3 z st3 t p3 k3 E3 S3 rz h3 => ?_
    obtain ⟨n', ov, e1, e2, h3⟩ := h3
    cases e1
    obtain ⟨w, g, g1, g2⟩ := dic_get S3 (pre_get (p2.trans p3) ex) (ry.mono p3 k3) e2
    refine ⟨w, g, c _ _ _ _ _ (p1.trans (p2.trans p3)) (k1.trans (k2.trans k3)) S3 ?_ h3⟩
    cases ov with
    | none => rw [g1 rfl]; exact rz
    | some z => obtain ⟨v, rfl, rv⟩ := g2 z rfl; exact rv
end
end AL
namespace AL
open PySem PySem.Spec PyProof.Rows L2

/-! ### setdefault -/
def rSetd : V → List V → Hp → VK → Prop := fun x xs H Q => ∃ (a : Addr) (d : V), x = .ref a ∧
  ((∃ (kvs : List (Key × V)) (k : Key), xs = [kV k, d] ∧ H a = some (.dK kvs) ∧ kvs.length < sizeLine ∧ (∀ v, valV kvs k = some v → Q v H) ∧ (valV kvs k = none → Q d (upd H a (.dK (putK kvs k d))))) ∨
   ∃ (kvs : List (List Key × V)) (k : List Key) (b : Addr), xs = [.ref b, d] ∧ H a = some (.dT kvs) ∧ H b = some (.tup (k.map kV)) ∧ kvs.length < sizeLine ∧ (∀ v, valV kvs k = some v → Q v H) ∧ (valV kvs k = none → Q d (upd H a (.dT (putK kvs k d)))))
theorem mt_setd {X : Cx} (hu : X.A.units + 64 < cLine) : MtR X "dict.setdefault" rSetd := by
  intro pins s σ H x xs v us Q I rx rxs h
  obtain ⟨a, d, rfl, h⟩ := h
  obtain rfl : v = Value.ref a := rx
  rcases h with ⟨kvs, k, rfl, ha, hl, q1, q2⟩ | ⟨kvs, k, b, rfl, ha, hb, hl, q1, q2⟩
  · obtain ⟨u1, u2, rfl, r1, r2⟩ := vals2 rxs
    exact d_setd I ha r1 r2 hl (fun v hv w' s4 I4 rw' => ⟨v, _, I4, rw', q1 v hv⟩) fun hn w' s4 I4 rw' => ⟨d, _, I4, rw', q2 hn⟩
  · obtain ⟨u1, u2, rfl, r1, r2⟩ := vals2 rxs
    obtain rfl : u1 = Value.ref b := r1
    obtain ⟨z, hd, xs', rel, dd⟩ := dt_of I.hok ha
    have hz : xs'.length ≤ sizeLine := by rw [← Paired.length rel]; exact z
    have hl' : (putK kvs k d).length ≤ sizeLine := by have := length_putK kvs k d; omega
    refine call_setdefault_heap (knd := tupleKind (mixKind X.prog X.w)) (hsz := hz) (tupleKind_room_in1 (by omega)) (key_of I.hok hb) hd dd (fun p hp => ?_) fun hn h' dd' hs => ?_
    · have r := rel.val k
      rw [hp] at r
      cases ev : valV kvs k with
      | none => rw [ev] at r; exact (show False from r).elim
      | some v0 =>
        rw [ev] at r
        exact ⟨v0, H, I.tok _, r, q1 v0 ev⟩
    · have e : valV kvs k = none := by
        have r := rel.val k
        rw [hn] at r
        cases ev : valV kvs k with
        | none => rfl
        | some v0 => rw [ev] at r; exact (show False from r).elim
      obtain ⟨q, es, ep, hq, h2, h3, h4, _, h5⟩ := dd'
      have I2 : Inv X pins σ (upd H a (.dT (putK kvs k d))) { s with heap := h', toks := s.toks + (tupleKind (mixKind X.prog X.w)).draws k } :=
        d_write I (by rw [ha]; exact True.intro) hs ⟨q, hq⟩ ⟨hl', hd, _, (rel.put k hb r2).keeps fun c ys ec => (by rw [upd_ne (ne_of ec ha (fun z => nomatch z))]; exact ec), q, es, ep, hq, h2, h3, h4, h5⟩
      exact ⟨d, _, I2, r2, q2 e⟩
def mSetd : W → KL := fun x xs st P => ∃ n y z, x = .ref n ∧ xs = [y, z] ∧
  ((∃ kvs k, st[n]? = some (.dK kvs) ∧ toKey y = some k ∧ kvs.length < sizeLine ∧ match valW kvs k with | some w => P w st | none => P z (st.set n (.dK (putW kvs k z)))) ∨
   ∃ kvs k, st[n]? = some (.dT kvs) ∧ toKeys y = some k ∧ kvs.length < sizeLine ∧ match valW kvs k with | some w => P w st | none => P z (st.set n (.dT (putW kvs k z))))
theorem sim_setd {K : PySem.W.Frag} : SimM K mSetd rSetd := fun φ H st x v xs vs P Q S rx rs h c => by
  obtain ⟨n, y, z, rfl, rfl, h⟩ := h
  cases rx with
  | ref ex =>
    cases rs with
    | cons r1 r2 =>
      cases r2 with
      | @cons _ _ dv _ r2 r3 =>
        cases r3
        refine ⟨_, dv, rfl, ?_⟩
        rcases h with ⟨kvs, k, e, hk, hl, h⟩ | ⟨kvs, k, e, hk, hl, h⟩
        · obtain ⟨u, hu, us, rfl, rp⟩ := S.ob _ _ _ ex e
          have e1 := toKey_rep r1 hk
          subst e1
          refine .inl ⟨us, k, rfl, hu, by rw [← rp.length]; exact hl, fun v hv => ?_, fun hv => ?_⟩
          · cases ev : valW kvs k with
            | none => rw [rp.val.1 ev] at hv; cases hv
            | some w =>
              rw [ev] at h
              obtain ⟨v', e2, rv⟩ := rp.val.2 w ev
              rw [hv] at e2; cases e2
              exact c.id S rv h
          · cases ev : valW kvs k with
            | some w => obtain ⟨v', e2, rv⟩ := rp.val.2 w ev; rw [hv] at e2; cases e2
            | none =>
              rw [ev] at h
              exact c.put S ex hu trivial (show RepU K φ H (.dK _) (.dK _) from ⟨_, rfl, rp.put r2⟩) r2 h
        · obtain ⟨u, hu, us, rfl, rp⟩ := S.ob _ _ _ ex e
          obtain ⟨b, e1, hb⟩ := toKeys_rep r1 hk
          subst e1
          refine .inr ⟨us, k, b, rfl, hu, hb, by rw [← rp.length]; exact hl, fun v hv => ?_, fun hv => ?_⟩
          · cases ev : valW kvs k with
            | none => rw [rp.val.1 ev] at hv; cases hv
            | some w =>
              rw [ev] at h
              obtain ⟨v', e2, rv⟩ := rp.val.2 w ev
              rw [hv] at e2; cases e2
              exact c.id S rv h
          · cases ev : valW kvs k with
            | some w => obtain ⟨v', e2, rv⟩ := rp.val.2 w ev; rw [hv] at e2; cases e2
            | none =>
              rw [ev] at h
              exact c.put S ex hu trivial (show RepU K φ H (.dT _) (.dT _) from ⟨_, rfl, rp.put r2⟩) r2 h

/-! ### isinstance -/
inductive Tn where
  | non | bl | int | str | tup | lst | dic
def Tn.nm : Tn → String
  | .non => "NoneType" | .bl => "bool" | .int => "int" | .str => "str" | .tup => "tuple" | .lst => "list" | .dic => "dict"
def isT : Tn → Tn → Bool
  | .non, .non => true | .bl, .bl => true | .bl, .int => true | .int, .int => true | .str, .str => true | .tup, .tup => true | .lst, .lst => true | .dic, .dic => true
  | _, _ => false
def tyW (st : Sto) : W → Option Tn
  | .non => some .non
  | .bl _ => some .bl
  | .int _ => some .int
  | .str _ => some .str
  | .tup _ => some .tup
  | .scr _ => some .lst
  | .ref n => match st[n]? with
    | some (.lst _) => some .lst
    | some (.dK _) => some .dic
    | some (.dT _) => some .dic
    | _ => none
  | _ => none
theorem kit_isT (a b : Tn) : kitB a.nm b.nm = some (isT a b) := by
  cases a <;> cases b <;> decide +kernel
theorem tyW_rep {K : PySem.W.Frag} {φ : List Addr} {H : Hp} {st : Sto} {x : W} {v : V} {a : Tn} (S : StR K φ st H) (r : RepV K φ H x v) (e : tyW st x = some a) : TyX K H v (.type a.nm) := by
  cases x <;> first | (cases e; done) | skip
  · cases e; cases r; exact .base .non
  · cases e; cases r; exact .base (.bl _)
  · cases e; cases r; exact .base (.int _)
  · cases e; cases r; exact .base (.str _)
  · cases e; cases r with | tup ex rs => exact .base (.tup ex)
  · cases r with
    | ref ex =>
      unfold tyW at e
      simp only at e
      split at e
      · rename_i h; cases e
        obtain ⟨u, hu, us, rfl, rp⟩ := S.ob _ _ _ ex h
        exact .base (.lst hu)
      · rename_i h; cases e
        obtain ⟨u, hu, us, rfl, rp⟩ := S.ob _ _ _ ex h
        exact .base (.dK hu)
      · rename_i h; cases e
        obtain ⟨u, hu, us, rfl, rp⟩ := S.ob _ _ _ ex h
        exact .base (.dT hu)
      · cases e
  · cases e
    cases r with
    | scr hs =>
      rcases hs with ⟨o, h⟩ | ⟨o, its, n, h1, h2, _⟩
      · exact .base (.frz h)
      · exact .kList h1 h2
def kIsi : KL := fun xs st P => ∃ x a, tyW st x = some a ∧ ((∃ b, xs = [x, .ty (Tn.nm b)] ∧ P (.bl (isT a b)) st) ∨ ∃ b c, xs = [x, .tup [.ty (Tn.nm b), .ty (Tn.nm c)]] ∧ P (.bl (isT a b || isT a c)) st)
def rIsA (K : PySem.W.Frag) : List V → Hp → VK → Prop := fun xs H Q => rIsi K xs H Q ∨ rIsiT K xs H Q
theorem cr_isA {X : Cx} : CallR X (.builtin "isinstance") (rIsA X.K) := by
  intro pins s σ H xs us Q I r h
  rcases h with h | h
  · exact call_isi pins s σ H xs us Q I r h
  · exact call_isiT pins s σ H xs us Q I r h
theorem sim_isi {K : PySem.W.Frag} : SimL K kIsi (rIsA K) := fun φ H st xs vs P Q S rx h c => by
  obtain ⟨x, a, ht, h⟩ := h
  rcases h with ⟨b, rfl, h⟩ | ⟨b, d, rfl, h⟩
  · cases rx with
    | cons r1 r2 =>
      cases r2 with
      | cons r2 r3 =>
        cases r3; cases r2
        exact .inl ⟨_, _, _, _, _, rfl, .ty _, tyW_rep S r1 ht, kit_ty (kit_isT a b), c.id S .bl h⟩
  · cases rx with
    | cons r1 r2 =>
      cases r2 with
      | cons r2 r3 =>
        cases r3
        cases r2 with
        | tup ex rs =>
          cases rs with
          | cons r3 r4 =>
            cases r4 with
            | cons r4 r5 =>
              cases r5; cases r3; cases r4
              refine .inr ⟨_, _, _, _, _, _, rfl, ex, .cons (.ty _) (.cons (.ty _) .nil), tyW_rep S r1 ht, ?_, c.id S .bl h⟩
              refine kitAny_cons (kit_ty (kit_isT a b)) (fun z => ?_) fun z => by rw [z]; rfl
              refine kitAny_cons (kit_ty (kit_isT a d)) (fun y => ?_) fun y => by rw [y, Bool.or_true]
              rw [z, y]; exact kitAny_nil
/-- a built-in type as a value -/
theorem ae_ty {X : Cx} {x : Str} {T : String} {pos : Pos} (hg : Gl X x) (hm : X.mg x = none) (hv : bootBuiltins x = some (.type T)) (hn : x ≠ "__name__" := by decide) (hd : (x == ("__debug__" : Str)) = false := by decide) : AE X (.Name x pos) (cC (.ty T)) :=
  cst (v := .ty T) (pe_bltn hg hm hv rfl hn hd) fun _ _ => .ty

/-! ### min, max of a list of data -/
def rBest (K : PySem.W.Frag) (f : PyData → List PyData → PyData) : List V → Hp → VK → Prop := fun xs H Q => ∃ a vs d ds, xs = [.ref a] ∧ H a = some (.lst vs) ∧ DpAll K H vs (d :: ds) ∧ PySem.W.AlikeAll (d :: ds) ∧ PyData.depthAll (d :: ds) ≤ 40 ∧
  ∀ (i : Nat) v, vs[i]? = some v → (d :: ds)[i]? = some (f d ds) → Q v H
theorem dpAll_at {K : PySem.W.Frag} {H : Hp} : ∀ {vs : List V} {ds : List PyData} {i : Nat} {v : V}, DpAll K H vs ds → vs[i]? = some v → ∃ d, ds[i]? = some d ∧ Dp K H v d
  | _, _, _, _, .nil, h => by simp at h
  | _, _, 0, _, .cons r _, h => by simp at h; subst h; exact ⟨_, rfl, r⟩
  | _, _, i + 1, v, .cons _ s, h => by
    obtain ⟨w, e, r⟩ := dpAll_at (i := i) (v := v) s (by simpa using h)
    exact ⟨w, by simpa using e, r⟩
theorem best_end {X : Cx} {pins : List (Addr × Obj)} {σ : L2.St} {H : Hp} {s : Shared} {vs : List V} {its : List Value} {ds : List PyData} {m : PyData} {i : Nat} {v : Value} {h' : Heap} {tk : Nat} {bs : List Addr} {Q : VK}
    (I : Inv X pins σ H s) (rv : Vals vs its) (hd : DpAll X.K H vs ds) (hi : its[i]? = some v) (hr : Reads h' v m bs) (hk : ∀ b o, s.heap.get? b = some o → h'.get? b = some o)
    (q : ∀ (i : Nat) v, vs[i]? = some v → ds[i]? = some m → Q v H) : EP X pins σ Q v { s with heap := h', toks := tk } := by
  obtain ⟨u, hu, ru⟩ : ∃ u, vs[i]? = some u ∧ RelV u v := by
    have : ∀ {vs : List V} {its : List Value} {i : Nat} {v : Value}, Vals vs its → its[i]? = some v → ∃ u, vs[i]? = some u ∧ RelV u v := by
      intro vs its i v h
      induction h generalizing i with
      | nil => intro h; simp at h
      | cons r t ih =>
        intro h
        cases i with
        | zero => simp at h; subst h; exact ⟨_, rfl, r⟩
        | succ i => exact ih (by simpa using h)
    exact this rv hi
  obtain ⟨d, hd1, hd2⟩ := dpAll_at hd hu
  have I' : Inv X pins σ H { s with heap := h', toks := tk } := I.kept hk
  obtain ⟨as, r1⟩ := Dp.reads I' d u v hd2 ru
  have e := (PySem.Reads.unique hr d as r1).1
  subst e
  exact ⟨u, H, I', ru, q i u hu hd1⟩
theorem cr_minD {X : Cx} (hc : X.calm = true) (hu : X.A.units + 64 < cLine) : CallR X (.builtin "min") (rBest X.K PySem.W.minD) := by
  intro pins s σ H xs us Q I rr h
  obtain ⟨a, vs, d, ds, rfl, hs, hd, hal, hdep, q⟩ := h
  rw [Vals.ref1 rr]
  obtain ⟨its, rv, hl, hz⟩ := I.list (SqL.of hs)
  obtain ⟨as, ra⟩ := Dp.readsAll I (d :: ds) vs its hd rv
  exact PySem.W.min_list_data (as := as) (I.ok.hd hc) hl.isList (by simpa using ra) hal (by omega) fun i v h' tk bs hi hr hk => best_end I rv hd (by simpa using hi) hr hk q
theorem cr_maxD {X : Cx} (hc : X.calm = true) (hu : X.A.units + 64 < cLine) : CallR X (.builtin "max") (rBest X.K PySem.W.maxD) := by
  intro pins s σ H xs us Q I rr h
  obtain ⟨a, vs, d, ds, rfl, hs, hd, hal, hdep, q⟩ := h
  rw [Vals.ref1 rr]
  obtain ⟨its, rv, hl, hz⟩ := I.list (SqL.of hs)
  obtain ⟨as, ra⟩ := Dp.readsAll I (d :: ds) vs its hd rv
  exact PySem.W.max_list_data (as := as) (I.ok.hd hc) hl.isList (by simpa using ra) hal (by omega) fun i v h' tk bs hi hr hk => best_end I rv hd (by simpa using hi) hr hk q
/-- min (or max) of a list of alike data -/
def kBest (f : PyData → List PyData → PyData) : KL := fun xs st P => ∃ n ws d ds, xs = [.ref n] ∧ lstAt st n = some ws ∧ datL (dat st 39) ws = some (d :: ds) ∧ PySem.W.AlikeAll (d :: ds) ∧ ∀ (i : Nat) w, ws[i]? = some w → (d :: ds)[i]? = some (f d ds) → P w st
theorem sim_best {K : PySem.W.Frag} {f : PyData → List PyData → PyData} : SimL K (kBest f) (rBest K f) := fun φ H st xs vs P Q S rx h c => by
  obtain ⟨n, ws, d, ds, rfl, e, hd, hal, h⟩ := h
  cases rx with
  | cons r1 r2 =>
    cases r2
    cases r1 with
    | ref ex =>
      obtain ⟨us, e1, rs⟩ := lst_rep S ex e
      obtain ⟨a1, a2, a3⟩ := datL_dp (fun w v d => dat_dp S) rs hd
      refine ⟨_, us, d, ds, rfl, e1, a1, hal, by omega, fun i v hv hi => ?_⟩
      obtain ⟨w, hw, rw_⟩ := rs.getV hv
      exact c.id S rw_ (h i w hw hi)
end AL
namespace AL
open PySem PySem.Spec PyProof.Rows L2

/-! ### a def that is there -/
def Has (P : Program) (w : World) (K : PySem.W.Frag) (mg : Str → Option Value) (base : Heap) (x : Str) (k : Nat) (ps : List Str) (S : Sc) : Prop :=
  ∃ (f : Addr) (fd : FuncData), FnOk P w K mg base CX0 k f fd ps (spA K S) ∧ Binds K fd ps [] ∧ mg x = some (.ref f) ∧ PySem.W.keepIn K (.ref f) = true
section
variable {X : Cx} {k : Nat} {x : Str} {ps : List Str} {S : Sc} {p pos : Pos} {e : Expr} {es : List Expr} {cl : CA}
theorem ae_callH (h : Has X.prog X.w X.K X.mg X.base x k ps S) (hr : Room k X.A) (hg : Gl X x) (ha : AA X (e :: es) cl) (hdb : (x == ("__debug__" : Str)) = false := by decide)
    (he : starEach (e :: es) X.env = (false, eval e X.env) :: starEach es X.env := by rfl) (hpl : (backTo pos (starEach es X.env)).any (·.1) = false := by rfl) : AE X (.Call (.Name x p) (e :: es) [] pos) (cCall S cl) := by
  obtain ⟨f, fd, F, hb, hm, hk⟩ := h
  exact ae_call F hr hg hm hk hb ha hdb he hpl
theorem ae_callH0 (h : Has X.prog X.w X.K X.mg X.base x k ps S) (hr : Room k X.A) (hg : Gl X x) (hdb : (x == ("__debug__" : Str)) = false := by decide) : AE X (.Call (.Name x p) [] [] pos) (cCall S cNil) := by
  obtain ⟨f, fd, F, hb, hm, hk⟩ := h
  exact ae_call0 F hr hg hm hk hb hdb
end
section
variable {P : Program} {w : World} {K : PySem.W.Frag} {mg : Str → Option Value} {base : Heap}
theorem has_of {x qual : Str} {st : Stmt} {f : Addr} {fd : FuncData} {N ps : List Str} {k : Nat} {S : Sc} {B : CS} (F : Fun K x qual st f fd) (bd : Binds K fd ps []) (hm : mg x = some (.ref f)) (Sco : FnScope N ps (defScope st))
    (len : ∀ ws st P, S ws st P → ws.length = ps.length) (hB : Keeps N.length S B)
    (hbody : ∀ (cdv : Value) (A : Around) (outer : List Env) (s : Shared) (H : Hp) (E : XK), Room k (A.deeper (envOfC qual (defScope st) s.heap.objs.size f cdv)) → ASs (cxOf CX0 P w K mg base N qual (defScope st) f cdv A outer s H E).nox (defBody st) B) :
    Has P w K mg base x (k + 1) ps S := ⟨f, fd, fn_ok F Sco len hB hbody, bd, hm, F.kp⟩
/-- nothing is promised -/
def sNone : Sc := fun _ _ _ => False
theorem has_none {x qual : Str} {st : Stmt} {f : Addr} {fd : FuncData} {ps : List Str} {k : Nat} (F : Fun K x qual st f fd) (bd : Binds K fd ps []) (hm : mg x = some (.ref f)) : Has P w K mg base x k ps sNone :=
  ⟨f, fd, ⟨fun _ _ _ _ ⟨_, _, _, _, _, _, h, _⟩ => h.elim, fun _ _ _ _ _ _ _ _ _ _ _ _ _ ⟨_, _, _, _, _, _, h, _⟩ => h.elim⟩, bd, hm, F.kp⟩
end
/-! ### += -/
def kIpAdd : K2 := kI0 fun i j => .int (i + j)
theorem sim_ipAdd {K : PySem.W.Frag} : Sim2 K kIpAdd (ipI fun i j => i + j) := fun φ H st x y v u P Q S rx ry h c => by
  cases x <;> cases y <;> first | exact h.elim | skip
  cases rx; cases ry
  exact ⟨_, _, rfl, rfl, c.id S .int h⟩
end AL
namespace AL
open PySem
theorem bt_len : bootBuiltins "len" = some (.builtin "len") := by decide +kernel
theorem bt_abs : bootBuiltins "abs" = some (.builtin "abs") := by decide +kernel
theorem bt_max : bootBuiltins "max" = some (.builtin "max") := by decide +kernel
theorem bt_min : bootBuiltins "min" = some (.builtin "min") := by decide +kernel
theorem bt_sum : bootBuiltins "sum" = some (.builtin "sum") := by decide +kernel
theorem bt_any : bootBuiltins "any" = some (.builtin "any") := by decide +kernel
theorem bt_all : bootBuiltins "all" = some (.builtin "all") := by decide +kernel
theorem bt_sorted : bootBuiltins "sorted" = some (.builtin "sorted") := by decide +kernel
theorem bt_isinstance : bootBuiltins "isinstance" = some (.builtin "isinstance") := by decide +kernel
theorem bt_int : bootBuiltins "int" = some (.type "int") := by decide +kernel
theorem bt_bool : bootBuiltins "bool" = some (.type "bool") := by decide +kernel
theorem bt_str : bootBuiltins "str" = some (.type "str") := by decide +kernel
theorem bt_list : bootBuiltins "list" = some (.type "list") := by decide +kernel
theorem bt_tuple : bootBuiltins "tuple" = some (.type "tuple") := by decide +kernel
theorem bt_dict : bootBuiltins "dict" = some (.type "dict") := by decide +kernel
theorem bt_set : bootBuiltins "set" = some (.type "set") := by decide +kernel
end AL
namespace AL
open PySem PySem.Spec PyProof.Rows L2

/-! ### what the combinators say, as rules for simp -/
section
variable {en : En} {st : Sto} {P : PW_} {D : AEnds}
/-- a loop's turns -/
def Lp (J : AIt) (g : CG) (b : CS) (D : AEnds) (en : En) (st : Sto) : Prop := ∃ (n : Nat) (I : Nat → En → Sto → Prop), I 0 en st ∧ ∀ i en st, I i en st → i ≤ n ∧
  ((J i st = some none ∧ D.nx en st) ∨ ∃ w, J i st = some (some w) ∧ i < n ∧ g w en st fun en2 st2 => b { D with nx := I (i + 1), ct := I (i + 1), bk := D.nx } en2 st2)
/-- a comprehension's turns -/
def Lq (J : AIt) (g : CG) (tt : CT) (ce : CE) (vs : List Nat) (en : En) (st1 : Sto) (P : PW_) : Prop := ∃ (n : Nat) (I : Nat → Sto → Prop), I 0 (st1 ++ [.lst []]) ∧ ∀ i st, I i st → i ≤ n ∧
  ((J i st = some none ∧ P (.ref st1.length) st) ∨ ∃ w, J i st = some (some w) ∧ i < n ∧ g w (wipeE en vs) st fun en2 st2 => tt en2 st2 fun b st3 =>
    if b = true then ce en2 st3 fun y st4 => ∃ acc, st4[st1.length]? = some (.lst acc) ∧ acc.length < sizeLine ∧ I (i + 1) (st4.set st1.length (.lst (acc ++ [y]))) else I (i + 1) st3)
@[simp] theorem x_for {ci g b} : sFor ci g b D en st = ci en st fun J st1 => Lp J g b D en st1 := rfl
@[simp] theorem x_lc {ci g tt ce vs} : cLc ci g tt ce vs en st P = ci en st fun J st1 => Lq J g tt ce vs en st1 P := rfl
@[simp] theorem x_var {i} : cVar i en st P = ∃ w, en[i]? = some (some w) ∧ P w st := rfl
@[simp] theorem x_c {w} : cC w en st P = P w st := rfl
@[simp] theorem x_op {k a b} : cOp k a b en st P = a en st fun x st1 => b en st1 fun y st2 => k x y st2 P := rfl
@[simp] theorem x_un {k a} : cUn k a en st P = a en st fun x st1 => k x st1 P := rfl
@[simp] theorem x_nil {P : List W → Sto → Prop} : cNil en st P = P [] st := rfl
@[simp] theorem x_cons {a} {l : CA} {P : List W → Sto → Prop} : cCons a l en st P = a en st fun x st1 => l en st1 fun xs st2 => P (x :: xs) st2 := rfl
@[simp] theorem x_call {k} {l : CA} : cCall k l en st P = l en st fun xs st1 => k xs st1 P := rfl
/-- a truth is wanted -/
def onB (w : W) (f : Bool → Prop) : Prop := match w with
  | .bl k => f k
  | _ => False
@[simp] theorem onB_bl {k f} : onB (.bl k) f = f k := rfl
theorem onB_eq {w : W} {f : Bool → Prop} : (∃ k, w = .bl k ∧ f k) = onB w f := by
  refine propext ⟨fun ⟨k, e, h⟩ => by subst e; exact h, fun h => ?_⟩
  cases w <;> first | exact h.elim | exact ⟨_, rfl, h⟩
@[simp] theorem x_B {c} {P : Bool → Sto → Prop} : cB c en st P = c en st fun w st1 => onB w fun k => P k st1 := by
  show (c en st fun w st1 => ∃ k, w = .bl k ∧ P k st1) = _
  simp only [onB_eq]
@[simp] theorem x_and {c d} {P : Bool → Sto → Prop} : cAnd c d en st P = c en st fun k st1 => if k = true then d en st1 P else P false st1 := rfl
@[simp] theorem x_or {c d} {P : Bool → Sto → Prop} : cOr c d en st P = c en st fun k st1 => if k = true then P true st1 else d en st1 P := rfl
@[simp] theorem x_not {c} {P : Bool → Sto → Prop} : cNot c en st P = c en st fun k st1 => P (!k) st1 := rfl
@[simp] theorem x_andV {c d} : cAndV c d en st P = c en st fun w st1 => onB w fun k => if k = true then d en st1 P else P (.bl false) st1 := by
  simp only [← onB_eq]; rfl
@[simp] theorem x_orV {c d} : cOrV c d en st P = c en st fun w st1 => onB w fun k => if k = true then P (.bl true) st1 else d en st1 P := by
  simp only [← onB_eq]; rfl
@[simp] theorem x_notV {c} : cNotV c en st P = c en st fun w st1 => onB w fun k => P (.bl (!k)) st1 := by
  simp only [← onB_eq]; rfl
@[simp] theorem x_if {t c d} : cIf t c d en st P = t en st fun k st1 => if k = true then c en st1 P else d en st1 P := rfl
@[simp] theorem x_sNil : sNil D en st = D.nx en st := rfl
@[simp] theorem x_seq {c d} : sSeq c d D en st = c { D with nx := d D } en st := rfl
@[simp] theorem x_drop {c} : sDrop c D en st = c en st fun _ st1 => D.nx en st1 := rfl
@[simp] theorem x_ret {c} : sRet c D en st = c en st D.rt := rfl
@[simp] theorem x_retN : sRetN D en st = D.rt .non st := rfl
@[simp] theorem x_sIf {t c d} : sIf t c d D en st = t en st fun k st1 => if k = true then c D en st1 else d D en st1 := rfl
@[simp] theorem x_brk : sBrk D en st = D.bk en st := rfl
@[simp] theorem x_cnt : sCnt D en st = D.ct en st := rfl
@[simp] theorem x_gN {i w} {P : En → Sto → Prop} : gN i w en st P = P (en.set i (some w)) st := rfl
@[simp] theorem x_gsNil {P : En → Sto → Prop} : gsNil [] en st P = P en st := propext ⟨fun h => h.2, fun h => ⟨rfl, h⟩⟩
@[simp] theorem x_gsCons {g gs w r} {P : En → Sto → Prop} : gsCons g gs (w :: r) en st P = g w en st fun en1 st1 => gs r en1 st1 P := propext ⟨fun ⟨_, _, e, h⟩ => by cases e; exact h, fun h => ⟨_, _, rfl, h⟩⟩
@[simp] theorem x_gT {n gs ws} {P : En → Sto → Prop} : gT n gs (.tup ws) en st P = (ws.length = n ∧ gs ws en st P) := propext ⟨fun ⟨_, e, h⟩ => by cases e; exact h, fun h => ⟨_, rfl, h⟩⟩
@[simp] theorem x_gsN0 : gsNames [] = gsNil := rfl
@[simp] theorem x_gsN1 {i is} : gsNames (i :: is) = gsCons (gN i) (gsNames is) := rfl
@[simp] theorem x_gSb {a b k w} {P : En → Sto → Prop} : gSb a b k w en st P = a en st fun x st1 => b en st1 fun y st2 => k x y w st2 fun st3 => P en st3 := rfl
@[simp] theorem x_asg {c g} : sAsg c g D en st = c en st fun w st1 => g w en st1 D.nx := rfl
@[simp] theorem x_set {i c} : sSet i c D en st = c en st fun w st1 => D.nx (en.set i (some w)) st1 := rfl
/-- two are wanted -/
def on2 (ws : List W) (f : W → W → Prop) : Prop := match ws with
  | [v, w] => f v w
  | _ => False
@[simp] theorem on2_two {v w f} : on2 [v, w] f = f v w := rfl
theorem on2_eq {ws : List W} {f : W → W → Prop} : (∃ v w, ws = [v, w] ∧ f v w) = on2 ws f := by
  refine propext ⟨fun ⟨v, w, e, h⟩ => by subst e; exact h, fun h => ?_⟩
  unfold on2 at h
  split at h
  · exact ⟨_, _, rfl, h⟩
  · exact h.elim
@[simp] theorem x_par {i j} {c : CA} : sPar i j c D en st = c en st fun ws st1 => on2 ws fun v w => D.nx ((en.set i (some v)).set j (some w)) st1 := by
  simp only [← on2_eq]; rfl
@[simp] theorem x_aug {i c k} : sAug i c k D en st = ∃ x, en[i]? = some (some x) ∧ c en st fun y st1 => k x y st1 fun z st2 => D.nx (en.set i (some z)) st2 := rfl
@[simp] theorem x_yes {P : Bool → Sto → Prop} : cYes en st P = P true st := rfl
@[simp] theorem x_iter {c : CE} {R} : cIter c en st R = c en st fun x st1 => match x with
  | .tup ws => R (iSta ws) st1
  | .ref n => match lstAt st1 n with
    | some _ => R (iLst n) st1
    | none => ∃ o ks, st1[n]? = some o ∧ keysOf o = some ks ∧ R (iSta ks) st1
  | _ => False := rfl
@[simp] theorem x_rng1 {l : CA} {R} : cRng1 l en st R = l en st fun ws st1 => ∃ j : Int, ws = [.int j] ∧ -(2 ^ 62) ≤ j ∧ j < 2 ^ 62 ∧ R (iRng 0 j.toNat) st1 := rfl
def onII (ws : List W) (f : Int → Int → Prop) : Prop := match ws with
  | [.int v, .int w] => f v w
  | _ => False
@[simp] theorem onII_two {v w f} : onII [.int v, .int w] f = f v w := rfl
theorem onII_eq {ws : List W} {f : Int → Int → Prop} : (∃ v w : Int, ws = [.int v, .int w] ∧ f v w) = onII ws f := by
  refine propext ⟨fun ⟨v, w, e, h⟩ => by subst e; exact h, fun h => ?_⟩
  unfold onII at h
  split at h
  · exact ⟨_, _, rfl, h⟩
  · exact h.elim
@[simp] theorem x_rng2 {l : CA} {R} : cRng2 l en st R = l en st fun ws st1 => onII ws fun i j => (-(2 ^ 62) ≤ i ∧ i < 2 ^ 62 ∧ -(2 ^ 62) ≤ j ∧ j < 2 ^ 62) ∧ R (iRng i (j - i).toNat) st1 := by
  simp only [← onII_eq]; rfl
@[simp] theorem x_enum {l : CA} {R} : cEnum l en st R = l en st fun ws st1 => ∃ n us, ws = [.ref n] ∧ lstAt st1 n = some us ∧ R (iEnm n) st1 := rfl
@[simp] theorem x_zip {l : CA} {R} : cZip l en st R = l en st fun ws st1 => match ws with
  | [.ref n, .ref m] => ∃ us ts, lstAt st1 n = some us ∧ lstAt st1 m = some ts ∧ R (iZp n m) st1
  | [.tup us, .tup ts] => R (iZpT us ts) st1
  | _ => False := rfl
@[simp] theorem x_bm {k c} {l : CA} : cBM k c l en st P = c en st fun x st1 => (∃ n ws, x = .ref n ∧ lstAt st1 n = some ws) ∧ l en st1 fun xs st2 => k x xs st2 P := rfl
@[simp] theorem x_bm0 {k c} : cBM0 k c en st P = c en st fun x st1 => (∃ n ws, x = .ref n ∧ lstAt st1 n = some ws) ∧ k x [] st1 P := rfl
@[simp] theorem x_bmd {k c} {l : CA} : cBMD k c l en st P = c en st fun x st1 => (∃ n, x = .ref n ∧ isDic st1 n) ∧ l en st1 fun xs st2 => k x xs st2 P := rfl
@[simp] theorem x_sl {c lo hi} : cSl c lo hi en st P = c en st fun x st1 => lo en st1 fun lo st2 => hi en st2 fun hi st3 => kSl x lo hi st3 P := rfl
@[simp] theorem x_oNone {P : Option Int → Sto → Prop} : oNone en st P = P none st := rfl
@[simp] theorem x_oSome {c} {P : Option Int → Sto → Prop} : oSome c en st P = c en st fun w st1 => ∃ i, w = .int i ∧ P (some i) st1 := rfl
@[simp] theorem x_dnT : cDNewT en st P = P (.ref st.length) (st ++ [.dT []]) := rfl
@[simp] theorem x_dnK : cDNewK en st P = P (.ref st.length) (st ++ [.dK []]) := rfl
/-! by values -/
@[simp] theorem x_kI {f C i j} : kI f C (.int i) (.int j) st P = (C i j ∧ P (f i j) st) := rfl
@[simp] theorem x_kI0 {f i j} : kI0 f (.int i) (.int j) st P = P (f i j) st := rfl
@[simp] theorem x_add {i j} : kAdd (.int i) (.int j) st P = P (.int (i + j)) st := rfl
@[simp] theorem x_addT {a b} : kAdd (.tup a) (.tup b) st P = (a.length + b.length ≤ sizeLine ∧ P (.tup (a ++ b)) st) := rfl
@[simp] theorem x_addL {m n} : kAdd (.ref m) (.ref n) st P = ∃ a b, lstAt st m = some a ∧ lstAt st n = some b ∧ a.length + b.length ≤ sizeLine ∧ P (.ref st.length) (st ++ [.lst (a ++ b)]) := rfl
@[simp] theorem x_sub {i j} : kSub (.int i) (.int j) st P = P (.int (i - j)) st := rfl
@[simp] theorem x_mul {i j} : kMul (.int i) (.int j) st P = (CMul i j ∧ P (.int (i * j)) st) := rfl
@[simp] theorem x_mulL {m k} : kMul (.ref m) (.int k) st P = ∃ a, lstAt st m = some a ∧ -(2 ^ 63) ≤ k ∧ k < 2 ^ 63 ∧ a.length * k.toNat ≤ sizeLine ∧ P (.ref st.length) (st ++ [.lst (List.replicate k.toNat a).flatten]) := rfl
@[simp] theorem x_div {i j} : kDiv (.int i) (.int j) st P = (CDiv i j ∧ P (.int (i / j)) st) := rfl
@[simp] theorem x_mod {i j} : kMod (.int i) (.int j) st P = (0 < j ∧ P (.int (i % j)) st) := rfl
@[simp] theorem x_pow {i j} : kPow (.int i) (.int j) st P = (CPow i j ∧ P (.int (i ^ j.toNat)) st) := rfl
@[simp] theorem x_neg {i} : kNeg (.int i) st P = P (.int (-i)) st := rfl
@[simp] theorem x_lt {i j} : kLt (.int i) (.int j) st P = P (.bl (decide (i < j))) st := rfl
@[simp] theorem x_le {i j} : kLe (.int i) (.int j) st P = P (.bl (decide (i ≤ j))) st := rfl
@[simp] theorem x_gt {i j} : kGt (.int i) (.int j) st P = P (.bl (decide (j < i))) st := rfl
@[simp] theorem x_ge {i j} : kGe (.int i) (.int j) st P = P (.bl (decide (j ≤ i))) st := rfl
@[simp] theorem x_ip {i j} : kIpAdd (.int i) (.int j) st P = P (.int (i + j)) st := rfl
theorem eqv_int {i j : Int} : PyData.eqv (.int i) (.int j) = decide (i = j) := by simp only [PyData.eqv]; rw [Bool.eq_iff_iff]; simp
theorem eqv_bl {i j : Bool} : PyData.eqv (.bool i) (.bool j) = decide (i = j) := by cases i <;> cases j <;> rfl
@[simp] theorem dat_int {n i} : dat st n (.int i) = some (.int i) := by cases n <;> rfl
@[simp] theorem dat_bl {n i} : dat st n (.bl i) = some (.bool i) := by cases n <;> rfl
@[simp] theorem dat_non {n} : dat st n .non = some .none := by cases n <;> rfl
@[simp] theorem dat_str {n x} : dat st n (.str x) = some (.str x) := by cases n <;> rfl
@[simp] theorem x_eqI {i j} : kEq (.int i) (.int j) st P = P (.bl (decide (i = j))) st := by simp [kEq, eqv_int]
@[simp] theorem x_neI {i j} : kNe (.int i) (.int j) st P = P (.bl (!decide (i = j))) st := by simp [kNe, eqv_int]
@[simp] theorem x_eqB {i j} : kEq (.bl i) (.bl j) st P = P (.bl (decide (i = j))) st := by simp [kEq, eqv_bl]
@[simp] theorem x_neB {i j} : kNe (.bl i) (.bl j) st P = P (.bl (!decide (i = j))) st := by simp [kNe, eqv_bl]
@[simp] theorem x_isN {x} : kIsN x .non st P = P (.bl (match x with | .non => true | _ => false)) st := propext ⟨fun h => h.2, fun h => ⟨rfl, h⟩⟩
@[simp] theorem x_notN {x} : kNotN x .non st P = P (.bl (!(match x with | .non => true | _ => false))) st := propext ⟨fun h => h.2, fun h => ⟨rfl, h⟩⟩
@[simp] theorem x_tup {ws} : kTup ws st P = (ws.length ≤ sizeLine ∧ P (.tup ws) st) := rfl
@[simp] theorem x_lst {ws} : kLst ws st P = (ws.length ≤ sizeLine ∧ P (.ref st.length) (st ++ [.lst ws])) := rfl
@[simp] theorem x_abs {i} : kAbs [.int i] st P = P (.int (if i < 0 then -i else i)) st := rfl
@[simp] theorem x_max2 {i j} : kMax2 [.int i, .int j] st P = P (.int (if j > i then j else i)) st := rfl
@[simp] theorem x_min2 {i j} : kMin2 [.int i, .int j] st P = P (.int (if j < i then j else i)) st := rfl
@[simp] theorem x_intI {i} : kInt [.int i] st P = P (.int i) st := rfl
@[simp] theorem x_intB {b} : kInt [.bl b] st P = P (.int (if b then 1 else 0)) st := rfl
@[simp] theorem x_ixT {ws i} : kIx (.tup ws) (.int i) st P = ∃ w, atI ws i = some w ∧ P w st := by simp [kIx]
@[simp] theorem x_ixS {ns i} : kIx (.scr ns) (.int i) st P = ∃ n, atI ns i = some n ∧ P (.int n) st := by simp [kIx]
@[simp] theorem x_ixR {m y} : kIx (.ref m) y st P = match lstAt st m with
    | some ws => ∃ i w, y = .int i ∧ atI ws i = some w ∧ P w st
    | none => ∃ w, dicAt st m y = some (some w) ∧ P w st := rfl
@[simp] theorem x_setR {n y z} {P : Sto → Prop} : kSet (.ref n) y z st P = match lstAt st n with
    | some ws => ∃ k j, y = .int k ∧ ixN ws.length k = some j ∧ P (st.set n (.lst (ws.set j z)))
    | none => ∃ o, dicPut st n y z = some o ∧ P (st.set n o) := rfl
@[simp] theorem x_inT {neg x ws} : kIn neg x (.tup ws) st P = ∃ d ds, dat st 40 x = some d ∧ datL (dat st 39) ws = some ds ∧ P (.bl (if neg then !ds.any fun z => PyData.eqv z d else ds.any fun z => PyData.eqv z d)) st := rfl
@[simp] theorem x_inR {neg x n} : kIn neg x (.ref n) st P = match lstAt st n with
    | some ws => ∃ d ds, dat st 40 x = some d ∧ datL (dat st 39) ws = some ds ∧ P (.bl (if neg then !ds.any fun z => PyData.eqv z d else ds.any fun z => PyData.eqv z d)) st
    | none => ∃ o, dicAt st n x = some o ∧ P (.bl (if neg then !o.isSome else o.isSome)) st := rfl
@[simp] theorem x_lenT {ws} : kLen [.tup ws] st P = P (.int ws.length) st := by simp [kLen]
@[simp] theorem x_lenS {ns} : kLen [.scr ns] st P = P (.int ns.length) st := by simp [kLen]
@[simp] theorem x_lenR {n} : kLen [.ref n] st P = ∃ ws, lstAt st n = some ws ∧ P (.int ws.length) st := by simp [kLen]
@[simp] theorem x_seqR {n} : seqAt st (.ref n) = lstAt st n := rfl
@[simp] theorem x_seqT {ws} : seqAt st (.tup ws) = some ws := rfl
@[simp] theorem x_listK {x} : kList [x] st P = ∃ ws, seqAt st x = some ws ∧ P (.ref st.length) (st ++ [.lst ws]) := by simp [kList]
@[simp] theorem x_tupK {x} : kTupOf [x] st P = ∃ ws, seqAt st x = some ws ∧ P (.tup ws) st := by simp [kTupOf]
@[simp] theorem x_rev {m} : kRev (.ref m) st P = ∃ ws, lstAt st m = some ws ∧ P (.ref st.length) (st ++ [.lst ws.reverse]) := rfl
@[simp] theorem x_slT {ws lo hi} : kSl (.tup ws) lo hi st P = P (.tup (cutW ws lo hi)) st := rfl
@[simp] theorem x_slR {m lo hi} : kSl (.ref m) lo hi st P = ∃ ws, lstAt st m = some ws ∧ P (.ref st.length) (st ++ [.lst (cutW ws lo hi)]) := rfl
@[simp] theorem x_append {n y} : mAppend (.ref n) [y] st P = ∃ ws, lstAt st n = some ws ∧ ws.length < sizeLine ∧ P .non (st.set n (.lst (ws ++ [y]))) := by simp [mAppend]
@[simp] theorem x_extend {n m} : mExtend (.ref n) [.ref m] st P = ∃ ws zs, lstAt st n = some ws ∧ lstAt st m = some zs ∧ ws.length + zs.length ≤ sizeLine ∧ P .non (st.set n (.lst (ws ++ zs))) := by simp [mExtend]
@[simp] theorem x_reverse {n} : mReverse (.ref n) [] st P = ∃ ws, lstAt st n = some ws ∧ P .non (st.set n (.lst ws.reverse)) := by simp [mReverse]
@[simp] theorem x_insert {n i y} : mInsert (.ref n) [.int i, y] st P = ∃ ws, lstAt st n = some ws ∧ ws.length < sizeLine ∧ 0 ≤ i ∧ i < 2 ^ 63 ∧ P .non (st.set n (.lst (ws.take i.toNat ++ [y] ++ ws.drop i.toNat))) :=
  propext ⟨fun ⟨_, ws, _, _, e, e2, h⟩ => by cases e; cases e2; exact ⟨ws, h⟩, fun ⟨ws, h⟩ => ⟨_, ws, _, _, rfl, rfl, h⟩⟩
@[simp] theorem x_pop {n} : mPop (.ref n) [] st P = ∃ ws y, lstAt st n = some ws ∧ ws[ws.length - 1]? = some y ∧ P y (st.set n (.lst ws.dropLast)) := by simp [mPop]
@[simp] theorem x_popAt {n i} : mPopAt (.ref n) [.int i] st P = ∃ ws y, lstAt st n = some ws ∧ 0 ≤ i ∧ i < 2 ^ 63 ∧ ws[i.toNat]? = some y ∧ P y (st.set n (.lst (ws.eraseIdx i.toNat))) := by simp [mPopAt]
@[simp] theorem x_index {n i} : mIndex (.ref n) [.int i] st P = ∃ ns : List Int, lstAt st n = some (ns.map W.int) ∧ i ∈ ns ∧ P (.int (ns.idxOf i : Nat)) st := by simp [mIndex]
theorem nm_inj {b c : Tn} (h : b.nm = c.nm) : b = c := by
  cases b <;> cases c <;> first | rfl | exact absurd h (by decide)
@[simp] theorem x_isi {x b} : kIsi [x, .ty (Tn.nm b)] st P = ∃ a, tyW st x = some a ∧ P (.bl (isT a b)) st := by
  unfold kIsi
  refine propext ⟨fun ⟨y, a, h, q⟩ => ?_, fun ⟨a, h, q⟩ => ⟨x, a, h, .inl ⟨b, rfl, q⟩⟩⟩
  rcases q with ⟨c, e, q⟩ | ⟨c, d, e, q⟩
  · injection e with e1 e2
    subst e1
    injection e2 with e2 _
    injection e2 with e2
    have : c = b := (nm_inj e2).symm
    subst this
    exact ⟨a, h, q⟩
  · injection e with e1 e2
    injection e2 with e2 _
    cases e2
@[simp] theorem x_isi2 {x b c} : kIsi [x, .tup [.ty (Tn.nm b), .ty (Tn.nm c)]] st P = ∃ a, tyW st x = some a ∧ P (.bl (isT a b || isT a c)) st := by
  unfold kIsi
  refine propext ⟨fun ⟨y, a, h, q⟩ => ?_, fun ⟨a, h, q⟩ => ⟨x, a, h, .inr ⟨b, c, rfl, q⟩⟩⟩
  rcases q with ⟨c, e, q⟩ | ⟨b', c', e, q⟩
  · injection e with e1 e2
    injection e2 with e2 _
    cases e2
  · injection e with e1 e2
    subst e1
    injection e2 with e2 _
    injection e2 with e2
    injection e2 with e2 e3
    injection e3 with e3 _
    injection e2 with e2
    injection e3 with e3
    rw [← nm_inj e2, ← nm_inj e3] at q
    exact ⟨a, h, q⟩
@[simp] theorem ty_int {i} : tyW st (.int i) = some .int := rfl
@[simp] theorem ty_bl {i} : tyW st (.bl i) = some .bl := rfl
@[simp] theorem ty_tup {i} : tyW st (.tup i) = some .tup := rfl
@[simp] theorem ty_non : tyW st .non = some .non := rfl
@[simp] theorem ty_str {i} : tyW st (.str i) = some .str := rfl
theorem ty_ref {n ws} (h : lstAt st n = some ws) : tyW st (.ref n) = some .lst := by
  unfold lstAt at h
  split at h
  · rename_i e; simp [tyW, e]
  · cases h
theorem at_lst {n ws} (h : st[n]? = some (.lst ws)) : lstAt st n = some ws := by simp [lstAt, h]
theorem lst_at {n ws} (h : lstAt st n = some ws) : st[n]? = some (.lst ws) := by
  unfold lstAt at h
  split at h
  · rename_i e; cases h; exact e
  · cases h
end
theorem sizeL {n : Nat} (h : n ≤ 1000000) : n ≤ sizeLine := Nat.le_trans h (by decide)
theorem sizeLt {n : Nat} (h : n ≤ 1000000) : n < sizeLine := Nat.lt_of_le_of_lt h (by decide)
/-! ### places in lists -/
section
variable {α : Type} {xs : List α}
theorem ixN_cast {n j : Nat} (h : j < n) : ixN n (j : Int) = some j := by
  unfold ixN
  simp [h]
theorem atI_cast (xs : List α) (j : Nat) : atI xs (j : Int) = xs[j]? := by
  unfold atI
  by_cases h : j < xs.length
  · rw [ixN_cast h]; rfl
  · have : ixN xs.length (j : Int) = none := by unfold ixN; simp; omega
    rw [this]; simp; omega
@[simp] theorem atI_0 (xs : List α) : atI xs 0 = xs[0]? := atI_cast xs 0
@[simp] theorem atI_1 (xs : List α) : atI xs 1 = xs[1]? := atI_cast xs 1
@[simp] theorem atI_lit (xs : List α) (n : Nat) : atI xs (no_index (@OfNat.ofNat Int n _)) = xs[@OfNat.ofNat Nat n _]? := atI_cast xs n
@[simp] theorem ixN_lit {m n : Nat} : ixN m (no_index (@OfNat.ofNat Int n _)) = if n < m then some n else none := by
  by_cases h : n < m
  · rw [if_pos h]; exact ixN_cast h
  · rw [if_neg h]; show ixN m (n : Int) = none; unfold ixN; simp; omega
@[simp] theorem atI_casts (xs : List α) (n : Nat) : atI xs (n : Int) = xs[n]? := atI_cast xs n
@[simp] theorem atI_cast1 (xs : List α) (n : Nat) : atI xs ((n : Int) + 1) = xs[n + 1]? := atI_cast xs (n + 1)
end
/-! ### stores -/
/-- all but the objects ms are as before -/
structure Ch (ms : List Nat) (st st' : Sto) : Prop where
  len : st.length ≤ st'.length
  same : ∀ i, i < st.length → i ∉ ms → st'[i]? = st[i]?
section
variable {ms ms' : List Nat} {st st' st'' : Sto} {n m : Nat} {ws : List W} {o : O}
theorem lst_lt (h : lstAt st n = some ws) : n < st.length := (List.getElem?_eq_some_iff.mp (lst_at h)).1
theorem Ch.refl : Ch ms st st := ⟨Nat.le_refl _, fun _ _ _ => rfl⟩
theorem Ch.trans (a : Ch ms st st') (b : Ch ms st' st'') : Ch ms st st'' := ⟨Nat.le_trans a.len b.len, fun i h n => (b.same i (Nat.lt_of_lt_of_le h a.len) n).trans (a.same i h n)⟩
theorem Ch.mono (a : Ch ms st st') (h : ∀ i ∈ ms, i ∈ ms') : Ch ms' st st' := ⟨a.len, fun i l n => a.same i l fun z => n (h i z)⟩
theorem Ch.none (a : Ch [] st st') : Ch ms st st' := a.mono fun _ h => by cases h
theorem Ch.app (a : Ch ms st st') (t : Sto) : Ch ms st (st' ++ t) := ⟨by rw [List.length_append]; have := a.len; omega, fun i h n => by rw [List.getElem?_append_left (Nat.lt_of_lt_of_le h a.len)]; exact a.same i h n⟩
theorem Ch.set (a : Ch ms st st') (h : n ∈ ms ∨ st.length ≤ n) : Ch ms st (st'.set n o) := ⟨by rw [List.length_set]; exact a.len, fun i l z => by
  rw [List.getElem?_set_ne]
  · exact a.same i l z
  · rintro rfl
    rcases h with h | h
    · exact z h
    · omega⟩
theorem Ch.lst (a : Ch ms st st') (h : lstAt st n = some ws) (z : n ∉ ms) : lstAt st' n = some ws := by
  have := a.same n (lst_lt h) z
  unfold lstAt at h ⊢
  rw [this]; exact h
theorem Ch.ob (a : Ch ms st st') (h : st[n]? = some o) (z : n ∉ ms) : st'[n]? = some o := (a.same n (List.getElem?_eq_some_iff.mp h).1 z).trans h
/-- objects that are new to the first may be among those changed -/
theorem Ch.drop (a : Ch (n :: ms) st st') (h : st.length ≤ n) : Ch ms st st' := ⟨a.len, fun i l z => a.same i l fun y => by
  rcases List.mem_cons.mp y with rfl | y
  · omega
  · exact z y⟩
theorem Ch.trans' (a : Ch ms st st') (b : Ch ms' st' st'') (h : ∀ i ∈ ms', i ∈ ms ∨ st.length ≤ i) : Ch ms st st'' := ⟨Nat.le_trans a.len b.len, fun i l z => by
  rw [b.same i (Nat.lt_of_lt_of_le l a.len) fun y => ?_]
  · exact a.same i l z
  · rcases h i y with y | y
    · exact z y
    · omega⟩
theorem lstAt_app (h : n < st.length) {t : Sto} : lstAt (st ++ t) n = lstAt st n := by unfold lstAt; rw [List.getElem?_append_left h]
theorem lstAt_app' (h : lstAt st n = some ws) {t : Sto} : lstAt (st ++ t) n = some ws := by rw [lstAt_app (lst_lt h)]; exact h
@[simp] theorem lstAt_new : lstAt (st ++ [.lst ws]) st.length = some ws := by simp [lstAt]
theorem lstAt_set (h : n < st.length) : lstAt (st.set n (.lst ws)) n = some ws := by simp [lstAt, h]
theorem lstAt_ne (h : n ≠ m) : lstAt (st.set n o) m = lstAt st m := by unfold lstAt; rw [List.getElem?_set_ne h]
@[simp] theorem set_new {u : O} : (st ++ [o]).set st.length u = st ++ [u] := by
  rw [List.set_append_right _ _ (Nat.le_refl _)]; simp
end
/-! ### loops -/
/-- how a turn ends: the next turn's promise is N -/
structure Turn (D D' : AEnds) (N : En → Sto → Prop) : Prop where
  nx : ∀ en st, N en st → D'.nx en st
  ct : ∀ en st, N en st → D'.ct en st
  rt : D'.rt = D.rt
  bk : D'.bk = D.nx
section
variable {J : AIt} {g : CG} {b : CS} {D : AEnds} {en : En} {st : Sto}
theorem lp_of (n : Nat) (f : Nat → W) (I : Nat → En → Sto → Prop) (h0 : I 0 en st) (hj : ∀ i en st, i < n → I i en st → J i st = some (some (f i))) (hn : ∀ en st, I n en st → J n st = some none)
    (hs : ∀ i en st D', i < n → I i en st → Turn D D' (I (i + 1)) → g (f i) en st fun en2 st2 => b D' en2 st2) (hd : ∀ en st, I n en st → D.nx en st) : Lp J g b D en st := by
  refine ⟨n, fun i en st => i ≤ n ∧ I i en st, ⟨Nat.zero_le _, h0⟩, fun i en st ⟨hi, h⟩ => ⟨hi, ?_⟩⟩
  by_cases hlt : i < n
  · exact .inr ⟨f i, hj i en st hlt h, hlt, hs i en st { D with nx := fun en st => i + 1 ≤ n ∧ I (i + 1) en st, ct := fun en st => i + 1 ≤ n ∧ I (i + 1) en st, bk := D.nx } hlt h ⟨fun _ _ q => ⟨hlt, q⟩, fun _ _ q => ⟨hlt, q⟩, rfl, rfl⟩⟩
  · have : i = n := by omega
    subst this
    exact .inl ⟨hn en st h, hd en st h⟩
theorem lp_rng {lo : Int} {n : Nat} (I : Nat → En → Sto → Prop) (h0 : I 0 en st)
    (hs : ∀ i en st D', i < n → I i en st → Turn D D' (I (i + 1)) → g (.int (lo + i)) en st fun en2 st2 => b D' en2 st2) (hd : ∀ en st, I n en st → D.nx en st) : Lp (iRng lo n) g b D en st :=
  lp_of n (fun i => .int (lo + i)) I h0 (fun i _ _ h _ => by simp [iRng, h]) (fun _ _ _ => by simp [iRng]) hs hd
theorem lp_sta {ws : List W} (I : Nat → En → Sto → Prop) (h0 : I 0 en st)
    (hs : ∀ i w en st D', ws[i]? = some w → I i en st → Turn D D' (I (i + 1)) → g w en st fun en2 st2 => b D' en2 st2) (hd : ∀ en st, I ws.length en st → D.nx en st) : Lp (iSta ws) g b D en st :=
  lp_of ws.length (fun i => ws.getD i .non) I h0 (fun i _ _ h _ => by simp [iSta, h]) (fun _ _ _ => by simp [iSta]) (fun i en st D' h q t => hs i _ en st D' (by simp [h]) q t) hd
theorem lp_lst {r : Nat} {ws : List W} (I : Nat → En → Sto → Prop) (hl : ∀ i en st, I i en st → lstAt st r = some ws) (h0 : I 0 en st)
    (hs : ∀ i w en st D', ws[i]? = some w → I i en st → Turn D D' (I (i + 1)) → g w en st fun en2 st2 => b D' en2 st2) (hd : ∀ en st, I ws.length en st → D.nx en st) : Lp (iLst r) g b D en st :=
  lp_of ws.length (fun i => ws.getD i .non) I h0 (fun i en st h q => by simp [iLst, hl i en st q, h]) (fun en st q => by simp [iLst, hl _ en st q]) (fun i en st D' h q t => hs i _ en st D' (by simp [h]) q t) hd
theorem lp_zip {r q : Nat} {ws us : List W} (I : Nat → En → Sto → Prop) (hl : ∀ i en st, I i en st → lstAt st r = some ws ∧ lstAt st q = some us) (h0 : I 0 en st)
    (hs : ∀ i w u en st D', ws[i]? = some w → us[i]? = some u → I i en st → Turn D D' (I (i + 1)) → g (.tup [w, u]) en st fun en2 st2 => b D' en2 st2) (hd : ∀ en st, I (min ws.length us.length) en st → D.nx en st) : Lp (iZp r q) g b D en st := by
  refine lp_of (min ws.length us.length) (fun i => .tup [ws.getD i .non, us.getD i .non]) I h0 (fun i en st h z => ?_) (fun en st z => ?_) (fun i en st D' h z t => hs i _ _ en st D' ?_ ?_ z t) hd
  · have h1 : i < ws.length := by omega
    have h2 : i < us.length := by omega
    simp [iZp, (hl i en st z).1, (hl i en st z).2, zipAt, h1, h2]
  rotate_left
  · have h1 : i < ws.length := by omega
    simp [h1]
  · have h1 : i < us.length := by omega
    simp [h1]
  · simp only [iZp, (hl _ en st z).1, (hl _ en st z).2, zipAt]
    rcases Nat.le_total ws.length us.length with h | h
    · rw [Nat.min_eq_left h]; simp
    · rw [Nat.min_eq_right h]
      have : us[us.length]? = none := by simp
      rw [this]
      split <;> first | rfl | (rename_i e; cases e)
theorem wh_of {t : CT} (I : Nat → En → Sto → Prop) (m : Nat) (h0 : I m en st) (hs : ∀ m en st D', I m en st → Turn D D' (fun en' st' => ∃ m', m' < m ∧ I m' en' st') →
    t en st fun k st1 => if k = true then b D' en st1 else D.nx en st1) : sWhile t b D en st :=
  ⟨I, ⟨m, h0⟩, fun m en st h => hs m en st _ h ⟨fun _ _ q => q, fun _ _ q => q, rfl, rfl⟩⟩
end
section
variable {J : AIt} {g : CG} {tt : CT} {ce : CE} {vs : List Nat} {en : En} {st1 : Sto} {P : PW_}
theorem lq_of (n : Nat) (f : Nat → W) (I : Nat → Sto → Prop) (h0 : I 0 (st1 ++ [.lst []])) (hj : ∀ i st, i < n → I i st → J i st = some (some (f i))) (hn : ∀ st, I n st → J n st = some none)
    (hs : ∀ i st (R : PW_) (R0 : Sto → Prop), i < n → I i st → (∀ y st4 acc, lstAt st4 st1.length = some acc → acc.length < sizeLine → I (i + 1) (st4.set st1.length (.lst (acc ++ [y]))) → R y st4) → (∀ st3, I (i + 1) st3 → R0 st3) →
      g (f i) (wipeE en vs) st fun en2 st2 => tt en2 st2 fun b st3 => if b = true then ce en2 st3 R else R0 st3)
    (hd : ∀ st, I n st → P (.ref st1.length) st) : Lq J g tt ce vs en st1 P := by
  refine ⟨n, fun i st => i ≤ n ∧ I i st, ⟨Nat.zero_le _, h0⟩, fun i st ⟨hi, h⟩ => ⟨hi, ?_⟩⟩
  by_cases hlt : i < n
  · exact .inr ⟨f i, hj i st hlt h, hlt, hs i st _ (fun st3 => i + 1 ≤ n ∧ I (i + 1) st3) hlt h (fun y st4 acc h1 h2 h3 => ⟨acc, lst_at h1, h2, hlt, h3⟩) fun st3 h3 => ⟨hlt, h3⟩⟩
  · have : i = n := by omega
    subst this
    exact .inl ⟨hn st h, hd st h⟩
/-- nothing but the new list is changed -/
theorem lq_pure {ws : List W} (f : W → Option W) (hj : ∀ acc i, J i (st1 ++ [.lst acc]) = some ws[i]?) (hz : ws.length ≤ 1000000)
    (hs : ∀ w acc (R : PW_) (R0 : Sto → Prop), w ∈ ws → (match f w with | some y => R y (st1 ++ [.lst acc]) | none => R0 (st1 ++ [.lst acc])) →
      g w (wipeE en vs) (st1 ++ [.lst acc]) fun en2 st2 => tt en2 st2 fun b st3 => if b = true then ce en2 st3 R else R0 st3)
    (hd : P (.ref st1.length) (st1 ++ [.lst (ws.filterMap f)])) : Lq J g tt ce vs en st1 P := by
  refine lq_of ws.length (fun i => ws.getD i .non) (fun i st => st = st1 ++ [.lst ((ws.take i).filterMap f)]) (by simp) (fun i st h e => ?_) (fun st e => ?_) (fun i st R R0 h e k1 k0 => ?_) (fun st e => ?_)
  · subst e; rw [hj]; simp [h]
  · subst e; rw [hj]; simp
  · subst e
    have hm : ws.getD i .non ∈ ws := by simp [h]
    refine hs _ _ _ _ hm ?_
    have et : ws.take (i + 1) = ws.take i ++ [ws.getD i .non] := by
      rw [List.take_add_one]; simp [h]
    cases hf : f (ws.getD i .non) with
    | none =>
      refine k0 _ ?_
      rw [et, List.filterMap_append]
      simp only [List.filterMap_cons, List.filterMap_nil, hf, List.append_nil]
    | some y =>
      refine k1 _ _ ((ws.take i).filterMap f) lstAt_new (sizeLt ?_) ?_
      · refine Nat.le_trans (List.length_filterMap_le _ _) ?_
        rw [List.length_take]; omega
      · rw [et, List.filterMap_append, set_new]
        simp only [List.filterMap_cons, List.filterMap_nil, hf]
  · subst e; rw [List.take_length]; exact hd
end
end AL
namespace AL
open PySem PySem.Spec PyProof.Rows L2

/-! ### what the defs promise that all laws share -/
def ups (n : Nat) : List Int := (List.range n).map fun i : Nat => (i : Int)
def iw (ns : List Int) : List W := ns.map .int
/-- the draws' list, and how many draws at most -/
def Lf (st : Sto) (n : Nat) (B : Int) : Prop := ∃ l0 l1 c : Int, lstAt st n = some [.int l0, .int l1, .int c] ∧ 0 ≤ l0 ∧ 0 ≤ c ∧ c ≤ B
def S__law_mix : Sc := fun ws st P => ∃ a k, ws = [.int a, .int k] ∧ 0 ≤ k ∧ k < 2 ^ 50 ∧ ∀ m, 0 ≤ m → m < 1999999973 → P (.int m) st
def S__law_left : Sc := fun ws st P => ∃ ns k, ws = [.scr ns, .int k] ∧ 0 ≤ k ∧ k < 2 ^ 20 ∧ ∀ st', Ch [] st st' → st'.length = st.length + 1 → Lf st' st.length 0 → P (.ref st.length) st'
def S__law_pick : Sc := fun ws st P => ∃ n m B, ws = [.ref n, .int m] ∧ Lf st n B ∧ B < 2 ^ 40 ∧ 0 < m ∧ m < 2 ^ 30 ∧ ∀ (d : Nat) st', (d : Int) < m → Lf st' n (B + 1) → Ch [n] st st' → st'.length = st.length → P (.int d) st'
def S__law_row : Sc := fun ws st P => ∃ n m B, ws = [.ref n, .int (m : Nat)] ∧ Lf st n B ∧ B < 2 ^ 39 ∧ m ≤ 1000 ∧ ∀ (row : List Int) st', row.Perm (ups m) → Lf st' n (B + m) → Ch [n] st st' → lstAt st' st.length = some (iw row) → P (.ref st.length) st'
/-- alike, to a depth, in kind, too -/
def scSame : W → W → Prop
  | .non, .non => True
  | .bl a, .bl b => a = b
  | .int a, .int b => a = b
  | .str a, .str b => a = b
  | _, _ => False
def SameN (st : Sto) : Nat → W → W → Prop
  | 0, x, y => scSame x y
  | n + 1, x, y => scSame x y ∨ (∃ a b, x = .tup a ∧ y = .tup b ∧ a.length ≤ 100000 ∧ Paired (SameN st n) a b) ∨
    ∃ p q a b, x = .ref p ∧ y = .ref q ∧ lstAt st p = some a ∧ lstAt st q = some b ∧ a.length ≤ 100000 ∧ Paired (SameN st n) a b
def S__law_same (k : Nat) : Sc := fun ws st P => ∃ x y, ws = [x, y] ∧ SameN st k x y ∧ ∀ st', Ch [] st st' → P (.bl true) st'
theorem S__law_pick_of {n : Nat} {m B : Int} {st : Sto} {P : PW_} (h : Lf st n B) (hB : B < 2 ^ 40) (hm : 0 < m) (hm2 : m < 2 ^ 30) (k : ∀ (d : Nat) st', (d : Int) < m → Lf st' n (B + 1) → Ch [n] st st' → st'.length = st.length → P (.int d) st') : S__law_pick [.ref n, .int m] st P :=
  ⟨n, m, B, rfl, h, hB, hm, hm2, k⟩
end AL
namespace AL
open PySem PySem.Spec PyProof.Rows L2

def B__law_mix_1 : CS :=
  sRet (cOp kMod (cOp kMul (cVar 2) (cVar 2)) (cC (.int 1999999973)))
def B__law_mix : CS :=
  sSeq (sSet 2 (cOp kMod (cOp kMul (cOp kAdd (cOp kAdd (cOp kMod (cVar 0) (cC (.int 2147483629))) (cOp kMul (cOp kMul (cVar 1) (cVar 1)) (cC (.int 7919)))) (cC (.int 11))) (cC (.int 48271))) (cC (.int 2147483647))))
    (B__law_mix_1)
def B__law_left_1 : CS :=
  sRet (cCall kLst (cCons (cOp kMul (cCall kAbs (cCons (cVar 2) (cNil))) (cCall kInt (cCons (cOp kGe (cCall kAbs (cCons (cVar 2) (cNil))) (cOp kPow (cC (.int 10)) (cC (.int 18)))) (cNil)))) (cCons (cOp kAdd (cVar 2) (cOp kMul (cC (.int 1000003)) (cVar 1))) (cCons (cC (.int 0)) (cNil)))))
def B__law_left : CS :=
  sSeq (sSet 2 (cIf (cB (cOp kLt (cVar 1) (cCall kLen (cCons (cVar 0) (cNil))))) (cOp kIx (cVar 0) (cVar 1)) (cC (.int 0))))
    (B__law_left_1)
def B__law_pick_1 : CS :=
  sSeq (sAsg (cOp kDiv (cOp kIx (cVar 0) (cC (.int 0))) (cVar 1)) (gSb (cVar 0) (cC (.int 0)) kSet))
    (sRet (cVar 2))
def B__law_pick_2 : CS :=
  sRet (cOp kMod (cOp kDiv (cCall S__law_mix (cCons (cCall S__law_mix (cCons (cOp kIx (cVar 0) (cC (.int 1))) (cCons (cOp kIx (cVar 0) (cC (.int 2))) (cNil)))) (cCons (cOp kAdd (cOp kIx (cVar 0) (cC (.int 2))) (cC (.int 64))) (cNil)))) (cC (.int 64))) (cVar 1))
def B__law_pick_3 : CS :=
  sSeq (sIf (cB (cOp kGt (cOp kIx (cVar 0) (cC (.int 0))) (cC (.int 0)))) (sSeq (sSet 2 (cOp kMod (cOp kIx (cVar 0) (cC (.int 0))) (cVar 1)))
    (B__law_pick_1)) (sNil))
    (B__law_pick_2)
def B__law_pick : CS :=
  sSeq (sAsg (cOp kAdd (cOp kIx (cVar 0) (cC (.int 2))) (cC (.int 1))) (gSb (cVar 0) (cC (.int 2)) kSet))
    (B__law_pick_3)
def B__law_same_1 (S__law_same : Sc) : CS :=
  sRet (cAndV (cOp kEq (cCall kLen (cCons (cVar 0) (cNil))) (cCall kLen (cCons (cVar 1) (cNil)))) (cCall kAll (cCons (cLc (cZip (cCons (cVar 0) (cCons (cVar 1) (cNil)))) (gT 2 (gsNames [2, 3])) (cYes) (cCall S__law_same (cCons (cVar 2) (cCons (cVar 3) (cNil)))) [2, 3]) (cNil))))
def B__law_same_2 (S__law_same : Sc) : CS :=
  sRet (cAndV (cCall kIsi (cCons (cVar 0) (cCons (cC (.ty (Tn.nm .int))) (cNil)))) (cAndV (cNotV (cCall kIsi (cCons (cVar 0) (cCons (cC (.ty (Tn.nm .bl))) (cNil))))) (cOp kEq (cVar 0) (cVar 1))))
def B__law_same_3 (S__law_same : Sc) : CS :=
  sSeq (sIf (cB (cCall kIsi (cCons (cVar 1) (cCons (cC (.ty (Tn.nm .bl))) (cNil))))) (sRet (cAndV (cCall kIsi (cCons (cVar 0) (cCons (cC (.ty (Tn.nm .bl))) (cNil)))) (cOp kEq (cVar 0) (cVar 1)))) (sNil))
    (B__law_same_2 S__law_same)
def B__law_same_4 (S__law_same : Sc) : CS :=
  sSeq (sIf (cOr (cB (cOp kIsN (cVar 1) (cC .non))) (cB (cCall kIsi (cCons (cVar 1) (cCons (cC (.ty (Tn.nm .str))) (cNil)))))) (sRet (cAndV (cOp kEq (cVar 0) (cVar 1)) (cOp kEq (cCall kIsi (cCons (cVar 0) (cCons (cC (.ty (Tn.nm .str))) (cNil)))) (cCall kIsi (cCons (cVar 1) (cCons (cC (.ty (Tn.nm .str))) (cNil))))))) (sNil))
    (B__law_same_3 S__law_same)
def B__law_same (S__law_same : Sc) : CS :=
  sSeq (sIf (cB (cCall kIsi (cCons (cVar 1) (cCons (cCall kTup (cCons (cC (.ty (Tn.nm .lst))) (cCons (cC (.ty (Tn.nm .tup))) (cNil)))) (cNil))))) (sSeq (sIf (cOr (cB (cOp kNe (cCall kIsi (cCons (cVar 0) (cCons (cC (.ty (Tn.nm .lst))) (cNil)))) (cCall kIsi (cCons (cVar 1) (cCons (cC (.ty (Tn.nm .lst))) (cNil)))))) (cB (cOp kNe (cCall kIsi (cCons (cVar 0) (cCons (cC (.ty (Tn.nm .tup))) (cNil)))) (cCall kIsi (cCons (cVar 1) (cCons (cC (.ty (Tn.nm .tup))) (cNil))))))) (sRet (cC (.bl false))) (sNil))
    (B__law_same_1 S__law_same)) (sNil))
    (B__law_same_4 S__law_same)
def B__law_row_1 : CS :=
  sDrop (cBM mInsert (cVar 2) (cCons (cCall S__law_pick (cCons (cVar 0) (cCons (cOp kAdd (cVar 3) (cC (.int 1))) (cNil)))) (cCons (cVar 3) (cNil))))
def B__law_row_2 : CS :=
  sSeq (sFor (cRng1 (cCons (cVar 1) (cNil))) (gN 3) (B__law_row_1))
    (sRet (cVar 2))
def B__law_row : CS :=
  sSeq (sSet 2 (cCall kLst (cNil)))
    (B__law_row_2)
end AL
namespace AL
open PySem PySem.Spec PyProof.Rows L2

theorem keeps__law_mix : Keeps 3 S__law_mix B__law_mix := by
  rintro ws st P ⟨a, k, rfl, h1, h2, h⟩
  have hk : k * k < 2 ^ 100 := by
    have : k * k ≤ k * 2 ^ 50 := Int.mul_le_mul_of_nonneg_left (by omega) h1
    omega
  simp [B__law_mix, B__law_mix_1, startE, CMul]
  refine ⟨by omega, by omega, ?_⟩
  exact h _ (Int.emod_nonneg _ (by omega)) (Int.emod_lt_of_pos _ (by omega))
theorem keeps__law_left : Keeps 3 S__law_left B__law_left := by
  rintro ws st P ⟨ns, k, rfl, h1, h2, h⟩
  have fin : ∀ cell : Int, B__law_left_1 { nx := fun _ st' => P .non st', rt := P } [some (.scr ns), some (.int k), some (.int cell)] st := by
    intro cell
    simp [B__law_left_1, CPow, CMul]
    refine ⟨by split <;> omega, sizeL (by omega), ?_⟩
    refine h _ (Ch.refl.app _) (by simp) ⟨_, _, _, lstAt_new, ?_, by omega, by omega⟩
    split <;> split <;> omega
  simp [B__law_left, startE]
  split
  · rename_i hlt
    obtain ⟨j, rfl⟩ := Int.eq_ofNat_of_zero_le h1
    have hj : j < ns.length := by omega
    refine ⟨ns[j], by simp [hj], fin _⟩
  · exact fin 0
theorem keeps__law_pick : Keeps 3 S__law_pick B__law_pick := by
  rintro ws st P ⟨n, m, B, rfl, ⟨l0, l1, c, hl, h0, hc, hcB⟩, hB, hm, hm2, h⟩
  have hn := lst_lt hl
  have fin : ∀ (a d : Int), 0 ≤ a → 0 ≤ d → d < m → P (.int d) (st.set n (.lst [.int a, .int l1, .int (c + 1)])) := by
    intro a d ha hd hdm
    obtain ⟨d, rfl⟩ := Int.eq_ofNat_of_zero_le hd
    exact h d _ hdm ⟨a, l1, c + 1, lstAt_set hn, ha, by omega, by omega⟩ (Ch.refl.set (.inl (by simp))) (by simp)
  simp [B__law_pick, startE, hl]
  simp [B__law_pick_3, B__law_pick_1, lstAt_set hn]
  split
  · exact ⟨hm, ⟨hm, hm2⟩, fin _ _ (Int.ediv_nonneg h0 (by omega)) (Int.emod_nonneg _ (by omega)) (Int.emod_lt_of_pos _ hm)⟩
  · simp [B__law_pick_2, lstAt_set hn]
    refine ⟨_, _, rfl, by omega, by omega, fun m1 h1 h2 => ?_⟩
    simp [lstAt_set hn]
    refine ⟨_, _, rfl, by omega, by omega, fun m2 h3 h4 => ?_⟩
    simp [CDiv]
    exact ⟨hm, fin _ _ h0 (Int.emod_nonneg _ (by omega)) (Int.emod_lt_of_pos _ hm)⟩
theorem ups_succ (n : Nat) : ups (n + 1) = ups n ++ [(n : Int)] := by simp [ups, List.range_succ]
theorem ups_len (n : Nat) : (ups n).length = n := by simp [ups]
theorem perm_len {row : List Int} {m : Nat} (h : row.Perm (ups m)) : row.length = m := by rw [h.length_eq, ups_len]
theorem iw_take (ns : List Int) (k : Nat) : (iw ns).take k = iw (ns.take k) := by simp [iw, List.map_take]
theorem iw_drop (ns : List Int) (k : Nat) : (iw ns).drop k = iw (ns.drop k) := by simp [iw, List.map_drop]
@[simp] theorem iw_len (ns : List Int) : (iw ns).length = ns.length := by simp [iw]
theorem insert_perm (row : List Int) (k : Nat) (x : Int) : (row.take k ++ [x] ++ row.drop k).Perm (row ++ [x]) := by
  have h1 : (row.take k ++ [x] ++ row.drop k).Perm (row.take k ++ row.drop k ++ [x]) := by
    rw [List.append_assoc, List.append_assoc]
    exact List.Perm.append_left _ List.perm_append_comm
  rwa [List.take_append_drop] at h1
theorem keeps__law_row : Keeps 4 S__law_row B__law_row := by
  rintro ws st P ⟨n, m, B, rfl, hL, hB, hm, h⟩
  obtain ⟨l0, l1, c, hl, _⟩ := id hL
  have hn := lst_lt hl
  simp [B__law_row, B__law_row_2, startE]
  refine ⟨by omega, ?_⟩
  refine lp_rng (fun i en st' => ∃ x row, en = [some (.ref n), some (.int m), some (.ref st.length), x] ∧ row.Perm (ups i) ∧ Lf st' n (B + i) ∧ Ch [n] st st' ∧ lstAt st' st.length = some (iw row))
    ⟨none, [], rfl, .refl _, ?_, (by exact Ch.refl.app _), lstAt_new⟩ ?_ ?_
  · obtain ⟨l0, l1, c, hl, h⟩ := hL
    exact ⟨l0, l1, c, lstAt_app' hl, by simpa using h⟩
  · rintro i en st' D' hi ⟨x, row, rfl, hp, hL', hc, hr⟩ T
    simp [B__law_row_1, hr]
    refine S__law_pick_of hL' (by omega) (by omega) (by omega) fun d st2 hd hL2 hc2 hlen => ?_
    have hr2 := hc2.lst hr (by simp; omega)
    have hrl := lst_lt hr2
    simp [hr2]
    refine ⟨sizeLt (by rw [perm_len hp]; omega), by omega, T.nx _ _ ⟨_, row.take d ++ [(i : Int)] ++ row.drop d, rfl, ?_, ?_, ?_, ?_⟩⟩
    · exact ((insert_perm row d i).trans (hp.append_right _)).trans (by rw [ups_succ])
    · obtain ⟨l0, l1, c, hl, h⟩ := hL2
      refine ⟨l0, l1, c, ?_, by push_cast; omega⟩
      rw [lstAt_ne (by omega)]; exact hl
    · exact (hc.trans hc2).set (.inr (Nat.le_refl _))
    · rw [lstAt_set hrl]; simp [iw, List.map_take, List.map_drop]
  · rintro en st' ⟨x, row, rfl, hp, hL', hc, hr⟩
    simp
    exact h row st' hp (by simpa using hL') hc hr
theorem same_kind {st : Sto} {k : Nat} {x y : W} (h : SameN st k x y) : (scSame x y) ∨ ∃ j, k = j + 1 ∧ ((∃ a b, x = .tup a ∧ y = .tup b ∧ a.length ≤ 100000 ∧ Paired (SameN st j) a b) ∨
    ∃ p q a b, x = .ref p ∧ y = .ref q ∧ lstAt st p = some a ∧ lstAt st q = some b ∧ a.length ≤ 100000 ∧ Paired (SameN st j) a b) := by
  cases k with
  | zero => exact .inl h
  | succ k =>
    unfold SameN at h
    rcases h with h | h
    · exact .inl h
    · exact .inr ⟨k, rfl, h⟩
theorem SameN.ch {st st' : Sto} (c : Ch [] st st') : ∀ {k : Nat} {x y : W}, SameN st k x y → SameN st' k x y
  | 0, _, _, h => h
  | k + 1, x, y, h => by
    unfold SameN at h ⊢
    rcases h with h | ⟨a, b, h1, h2, h3, h4⟩ | ⟨p, q, a, b, h1, h2, h3, h4, h5, h6⟩
    · exact .inl h
    · exact .inr (.inl ⟨a, b, h1, h2, h3, L2.Paired.mapP h4 fun _ _ z => SameN.ch c z⟩)
    · exact .inr (.inr ⟨p, q, a, b, h1, h2, c.lst h3 (by simp), c.lst h4 (by simp), h5, L2.Paired.mapP h6 fun _ _ z => SameN.ch c z⟩)
theorem paired_at {α β : Type} {R : α → β → Prop} : ∀ {xs : List α} {ys : List β} {i : Nat} {x : α} {y : β}, Paired R xs ys → xs[i]? = some x → ys[i]? = some y → R x y
  | _, _, 0, _, _, .cons r _, h1, h2 => by simp at h1 h2; subst h1; subst h2; exact r
  | _, _, i + 1, _, _, .cons _ t, h1, h2 => paired_at (i := i) t (by simpa using h1) (by simpa using h2)
theorem keeps__law_same (k : Nat) (S : Sc) (hS : ∀ j, k = j + 1 → S = S__law_same j) : Keeps 4 (S__law_same k) (B__law_same S) := by
  rintro ws st P ⟨x, y, rfl, hs, h⟩
  have hP : P (.bl true) st := h st Ch.refl
  -- the lists' items
  have items : ∀ (J : AIt) (n : Nat) (xs ys : List W) (j : Nat), k = j + 1 → xs.length = ys.length → xs.length ≤ 100000 → Paired (SameN st j) xs ys → (∀ st', Ch [] st st' → ∀ i, J i st' = some (zipAt xs ys i)) →
      Lq J (gT 2 (gsNames [2, 3])) cYes (cCall S (cCons (cVar 2) (cCons (cVar 3) cNil))) [2, 3] [some x, some y, none, none] st fun w st1 => kAll [w] st1 P := by
    intro J n xs ys j hk hl hz hp hJ
    have hJ2 : ∀ i st', i < xs.length → Ch [] st st' → J i st' = some (some (.tup [xs.getD i .non, ys.getD i .non])) := by
      intro i st' hi hc
      rw [hJ st' hc]
      simp [zipAt, hi, hl ▸ hi]
    refine lq_of xs.length (fun i => .tup [xs.getD i .non, ys.getD i .non]) (fun i st' => Ch [] st st' ∧ lstAt st' st.length = some (List.replicate i (.bl true))) ⟨Ch.refl.app _, lstAt_new⟩ (fun i st' hi hI => hJ2 i st' hi hI.1) (fun st' hI => ?_) (fun i st' R R0 hi hI k1 _ => ?_) fun st' hI => ?_
    · rw [hJ st' hI.1]
      simp [zipAt]
    · obtain ⟨hc, hr⟩ := hI
      have hi2 : i < ys.length := hl ▸ hi
      simp [wipeE, hi, hi2]
      rw [hS j hk]
      refine ⟨_, _, rfl, SameN.ch hc (paired_at hp (i := i) (List.getElem?_eq_getElem hi) (List.getElem?_eq_getElem hi2)), fun st2 hc2 => ?_⟩
      have hr2 := hc2.lst hr (by simp)
      refine k1 _ _ _ hr2 (sizeLt (by simp; omega)) ⟨(hc.trans hc2).set (.inr (Nat.le_refl _)), ?_⟩
      rw [lstAt_set (lst_lt hr2), List.replicate_succ']
    · obtain ⟨hc, hr⟩ := hI
      refine ⟨_, List.replicate xs.length true, rfl, by rw [hr]; simp, ?_⟩
      have : (List.replicate xs.length true).all id = true := by simp
      rw [this]
      exact h st' hc
  have pl : ∀ {j : Nat} {a b : List W}, Paired (SameN st j) a b → a.length = b.length := fun h => h.length
  rcases same_kind hs with hs | ⟨j, hk, ⟨a, b, rfl, rfl, hl, hp⟩ | ⟨p, q, a, b, rfl, rfl, hx, hy, hl, hp⟩⟩
  · cases x <;> cases y <;> first | exact hs.elim | skip
    · simp [B__law_same, startE, isT, B__law_same_4, kEq, PyData.eqv]
      exact ⟨sizeL (by omega), by simpa [PyData.eqv] using hP⟩
    · cases hs
      simp [B__law_same, startE, isT, B__law_same_4, B__law_same_3]
      exact ⟨sizeL (by omega), hP⟩
    · cases hs
      simp [B__law_same, startE, isT, B__law_same_4, B__law_same_3, B__law_same_2]
      exact ⟨sizeL (by omega), hP⟩
    · cases hs
      simp [B__law_same, startE, isT, B__law_same_4, kEq, PyData.eqv]
      exact ⟨sizeL (by omega), by simpa [PyData.eqv] using hP⟩
  · simp [B__law_same, startE, isT, B__law_same_1, pl hp]
    exact ⟨sizeL (by omega), items _ 0 a b j hk (pl hp) hl hp fun st' _ i => rfl⟩
  · simp [B__law_same, startE, ty_ref hx, ty_ref hy, isT, B__law_same_1, hx, hy, pl hp]
    exact ⟨sizeL (by omega), items _ 0 a b j hk (pl hp) hl hp fun st' hc i => by simp [iZp, hc.lst hx, hc.lst hy]⟩
theorem paired_snoc {α β : Type} {R : α → β → Prop} {x : α} {y : β} (h : R x y) : ∀ {xs : List α} {ys : List β}, Paired R xs ys → Paired R (xs ++ [x]) (ys ++ [y])
  | _, _, .nil => .cons h .nil
  | _, _, .cons r t => .cons r (paired_snoc h t)
theorem paired_mem {α β : Type} {R R' : α → β → Prop} : ∀ {xs : List α} {ys : List β}, Paired R xs ys → (∀ x y, x ∈ xs → R x y → R' x y) → Paired R' xs ys
  | _, _, .nil, _ => .nil
  | _, _, .cons r t, h => .cons (h _ _ List.mem_cons_self r) (paired_mem t fun x y m => h x y (List.mem_cons_of_mem _ m))
theorem Ch.l0 {st st' : Sto} {n : Nat} {ws : List W} (c : Ch [] st st') (h : lstAt st n = some ws) : lstAt st' n = some ws := c.lst h (by simp)
end AL
namespace AL
open PySem PySem.Spec PyProof.Rows L2
/-! ### exchanges of neighbours: the mathematics -/
abbrev Tie := Int × Int
def tieOf (a b : Int) : Tie := (if b < a then b else a, if b > a then b else a)
def swapAt (row : List Int) (i : Nat) : List Int := row.take i ++ (row.drop (i + 1)).take 1 ++ (row.drop i).take 1 ++ row.drop (i + 2)
theorem at_split {α : Type} : ∀ {row : List α} {i : Nat} {a b : α}, row[i]? = some a → row[i + 1]? = some b → row = row.take i ++ a :: b :: row.drop (i + 2)
  | [], i, _, _, h, _ => by simp at h
  | x :: r, 0, a, b, h1, h2 => by
    cases r with
    | nil => simp at h2
    | cons y r => simp at h1 h2; subst h1; subst h2; rfl
  | x :: r, i + 1, a, b, h1, h2 => by
    have := at_split (row := r) (i := i) (by simpa using h1) (by simpa using h2)
    show x :: r = x :: (r.take i ++ a :: b :: r.drop (i + 2))
    rw [← this]
theorem swap_split {row : List Int} {i : Nat} {a b : Int} (h1 : row[i]? = some a) (h2 : row[i + 1]? = some b) : swapAt row i = row.take i ++ b :: a :: row.drop (i + 2) := by
  unfold swapAt
  have e1 : (row.drop i).take 1 = [a] := by
    have := (List.getElem?_eq_some_iff.mp h1)
    obtain ⟨hl, e⟩ := this
    rw [List.drop_eq_getElem_cons hl, e]; rfl
  have e2 : (row.drop (i + 1)).take 1 = [b] := by
    obtain ⟨hl, e⟩ := List.getElem?_eq_some_iff.mp h2
    rw [List.drop_eq_getElem_cons hl, e]; rfl
  rw [e1, e2]; simp
theorem swap_perm {row : List Int} {i : Nat} {a b : Int} (h1 : row[i]? = some a) (h2 : row[i + 1]? = some b) : (swapAt row i).Perm row := by
  rw [swap_split h1 h2]
  conv => rhs; rw [at_split h1 h2]
  exact List.Perm.append_left _ (.swap _ _ _)
theorem swap_at {row : List Int} {i : Nat} {a b : Int} (h1 : row[i]? = some a) (h2 : row[i + 1]? = some b) (j : Nat) : (swapAt row i)[j]? = if j = i then some b else if j = i + 1 then some a else row[j]? := by
  have hl : i < row.length := (List.getElem?_eq_some_iff.mp h1).1
  have ht : (row.take i).length = i := by rw [List.length_take]; omega
  rw [swap_split h1 h2]
  by_cases hj : j < i
  · rw [List.getElem?_append_left (by omega), if_neg (by omega), if_neg (by omega), List.getElem?_take_of_lt hj]
  · rw [List.getElem?_append_right (by omega), ht]
    by_cases h : j = i
    · subst h; simp
    · by_cases h' : j = i + 1
      · subst h'; simp
      · rw [if_neg h, if_neg h']
        obtain ⟨k, rfl⟩ : ∃ k, j = i + 2 + k := ⟨j - (i + 2), by omega⟩
        have : i + 2 + k - i = k + 2 := by omega
        rw [this]
        simp
/-- places by a row -/
def ix (row : List Int) (x : Int) : Nat := row.idxOf x
theorem ix_at {row : List Int} (nd : row.Nodup) {j : Nat} {x : Int} (h : row[j]? = some x) : ix row x = j := by
  obtain ⟨hl, e⟩ := List.getElem?_eq_some_iff.mp h
  subst e
  exact nd.idxOf_getElem j hl
theorem at_ix {row : List Int} {x : Int} (h : x ∈ row) : row[ix row x]? = some x := by
  have hl : ix row x < row.length := List.idxOf_lt_length_of_mem h
  rw [List.getElem?_eq_getElem hl]
  exact congrArg some (List.getElem_idxOf hl)
/-! inversions -/
def ic : List Nat → Nat
  | [] => 0
  | a :: r => r.countP (fun x => decide (x < a)) + ic r
theorem ic_swap {a b : Nat} (h : b < a) (r : List Nat) : ∀ l : List Nat, ic (l ++ a :: b :: r) = ic (l ++ b :: a :: r) + 1
  | [] => by
    have : ¬ a < b := by omega
    simp [ic, List.countP_cons, h, this]; omega
  | x :: l => by
    show (l ++ a :: b :: r).countP _ + ic (l ++ a :: b :: r) = (l ++ b :: a :: r).countP _ + ic (l ++ b :: a :: r) + 1
    rw [ic_swap h r l, List.Perm.countP_eq _ (show (l ++ a :: b :: r).Perm (l ++ b :: a :: r) from List.Perm.append_left _ (.swap _ _ _))]
    omega
theorem ic_swapAt {g : Int → Nat} {row : List Int} {i : Nat} {a b : Int} (h1 : row[i]? = some a) (h2 : row[i + 1]? = some b) (h : g b < g a) : ic (row.map g) = ic ((swapAt row i).map g) + 1 := by
  rw [swap_split h1 h2]
  conv => lhs; rw [at_split h1 h2]
  simp only [List.map_append, List.map_cons]
  exact ic_swap h _ _
/-! what neighbours stand otherwise, and the least of them -/
def nbAt (g : Int → Nat) (row : List Int) (i : Nat) : Option (Tie × Nat) := match row[i]?, row[i + 1]? with
  | some a, some b => if g b < g a then some (tieOf a b, i) else none
  | _, _ => none
def nb (g : Int → Nat) (row : List Int) : List (Tie × Nat) := (List.range (row.length - 1)).filterMap (nbAt g row)
theorem nbAt_some {g : Int → Nat} {row : List Int} {i : Nat} {t : Tie} {k : Nat} (h : nbAt g row i = some (t, k)) : k = i ∧ ∃ a b, row[i]? = some a ∧ row[i + 1]? = some b ∧ g b < g a ∧ t = tieOf a b := by
  unfold nbAt at h
  split at h
  · rename_i a b h1 h2
    split at h
    · cases h; exact ⟨rfl, a, b, h1, h2, by assumption, rfl⟩
    · cases h
  · cases h
theorem nb_mem {g : Int → Nat} {row : List Int} {t : Tie} {i : Nat} (h : (t, i) ∈ nb g row) : ∃ a b, row[i]? = some a ∧ row[i + 1]? = some b ∧ g b < g a ∧ t = tieOf a b := by
  obtain ⟨j, _, hj⟩ := List.mem_filterMap.mp h
  obtain ⟨rfl, h⟩ := nbAt_some hj
  exact h
theorem nb_nil {g : Int → Nat} {row : List Int} (h : nb g row = []) : (row.map g).Pairwise (· ≤ ·) := by
  have key : ∀ i a b, row[i]? = some a → row[i + 1]? = some b → g a ≤ g b := by
    intro i a b h1 h2
    have hl : i + 1 < row.length := (List.getElem?_eq_some_iff.mp h2).1
    have := List.filterMap_eq_nil_iff.mp h i (List.mem_range.mpr (by omega))
    unfold nbAt at this
    rw [h1, h2] at this
    simp only at this
    split at this
    · cases this
    · omega
  clear h
  induction row with
  | nil => simp
  | cons x r ih =>
    rw [List.map_cons, List.pairwise_cons]
    have ih' := ih fun i a b h1 h2 => key (i + 1) a b (by simpa using h1) (by simpa using h2)
    refine ⟨fun y hy => ?_, ih'⟩
    cases r with
    | nil => simp at hy
    | cons z r =>
      have h0 := key 0 x z rfl rfl
      rw [List.map_cons] at hy ih'
      rcases List.mem_cons.mp hy with rfl | hy
      · exact h0
      · exact Nat.le_trans h0 ((List.pairwise_cons.mp ih').1 y hy)
def ltTie (s t : Tie) : Bool := decide (s.1 < t.1 ∨ (s.1 = t.1 ∧ s.2 < t.2))
def ltT (s t : Tie × Nat) : Bool := decide (s.1.1 < t.1.1 ∨ (s.1.1 = t.1.1 ∧ (s.1.2 < t.1.2 ∨ (s.1.2 = t.1.2 ∧ s.2 < t.2))))
def leastBy {α : Type} (lt : α → α → Bool) (x : α) (xs : List α) : α := xs.foldl (fun a y => if lt y a then y else a) x
theorem leastBy_spec {α : Type} {lt : α → α → Bool} (tr : ∀ a b c, lt a b = false → lt b c = false → lt a c = false) (as : ∀ a b, lt a b = true → lt b a = false) (ir : ∀ a, lt a a = false) : ∀ (xs : List α) (x : α),
    leastBy lt x xs ∈ x :: xs ∧ ∀ y ∈ x :: xs, lt y (leastBy lt x xs) = false
  | [], x => ⟨List.mem_cons_self, fun y hy => by simp at hy; subst hy; exact ir _⟩
  | z :: xs, x => by
    have ih := leastBy_spec tr as ir xs (if lt z x then z else x)
    have e : leastBy lt x (z :: xs) = leastBy lt (if lt z x then z else x) xs := rfl
    rw [e]
    refine ⟨?_, fun y hy => ?_⟩
    · rcases List.mem_cons.mp ih.1 with h | h
      · rw [h]; split <;> simp
      · simp [h]
    · have h0 := ih.2 _ List.mem_cons_self
      by_cases hz : lt z x = true
      · rw [if_pos hz] at h0 ih ⊢
        rcases List.mem_cons.mp hy with rfl | hy
        · exact tr _ _ _ (as _ _ hz) h0
        · exact ih.2 y hy
      · rw [if_neg hz] at h0 ih ⊢
        rcases List.mem_cons.mp hy with rfl | hy
        · exact h0
        · rcases List.mem_cons.mp hy with rfl | hy
          · exact tr _ _ _ (by simpa using hz) h0
          · exact ih.2 y (List.mem_cons_of_mem _ hy)
theorem ltTie_tr (a b c : Tie) (h1 : ltTie a b = false) (h2 : ltTie b c = false) : ltTie a c = false := by simp [ltTie] at *; omega
theorem ltT_tr (a b c : Tie × Nat) (h1 : ltT a b = false) (h2 : ltT b c = false) : ltT a c = false := by simp [ltT] at *; omega
theorem ltTie_as (a b : Tie) (h1 : ltTie a b = true) : ltTie b a = false := by simp [ltTie] at *; omega
theorem ltT_as (a b : Tie × Nat) (h1 : ltT a b = true) : ltT b a = false := by simp [ltT] at *; omega
theorem ltTie_ir (a : Tie) : ltTie a a = false := by simp [ltTie]
theorem ltT_ir (a : Tie × Nat) : ltT a a = false := by simp [ltT]
def leastO {α : Type} (lt : α → α → Bool) : List α → Option α
  | [] => none
  | x :: xs => some (leastBy lt x xs)
theorem least_fst (l : List (Tie × Nat)) : leastO ltTie (l.map Prod.fst) = (leastO ltT l).map Prod.fst := by
  cases l with
  | nil => rfl
  | cons x xs =>
    show some _ = some _
    congr 1
    obtain ⟨m1, a1⟩ := leastBy_spec ltTie_tr ltTie_as ltTie_ir (xs.map Prod.fst) x.1
    obtain ⟨m2, a2⟩ := leastBy_spec ltT_tr ltT_as ltT_ir xs x
    have h1 := a1 (leastBy ltT x xs).1 (by rw [← List.map_cons]; exact List.mem_map_of_mem m2)
    rw [← List.map_cons] at m1
    obtain ⟨y, hy, e⟩ := List.mem_map.mp m1
    have h2 := a2 y hy
    rw [← e] at h1 ⊢
    simp [ltTie] at h1
    simp [ltT] at h2
    exact Prod.ext (by omega) (by omega)
/-- the ties exchanged, so many at most -/
def crs (g : Int → Nat) : Nat → List Int → List Tie
  | 0, _ => []
  | n + 1, row => match leastO ltT (nb g row) with
    | none => []
    | some (t, i) => t :: crs g n (swapAt row i)
def cross (g : Int → Nat) (row : List Int) : List Tie := crs g (ic (row.map g)) row
theorem leastO_mem {α : Type} {lt : α → α → Bool} (tr : ∀ a b c, lt a b = false → lt b c = false → lt a c = false) (as : ∀ a b, lt a b = true → lt b a = false) (ir : ∀ a, lt a a = false) {l : List α} {x : α} (h : leastO lt l = some x) : x ∈ l := by
  cases l with
  | nil => cases h
  | cons y ys =>
    cases h
    exact (leastBy_spec tr as ir ys y).1
theorem least_nb {g : Int → Nat} {row : List Int} {t : Tie} {i : Nat} (h : leastO ltT (nb g row) = some (t, i)) : ∃ a b, row[i]? = some a ∧ row[i + 1]? = some b ∧ g b < g a ∧ t = tieOf a b := nb_mem (leastO_mem ltT_tr ltT_as ltT_ir h)
theorem cross_some {g : Int → Nat} {row : List Int} {t : Tie} {i : Nat} (h : leastO ltT (nb g row) = some (t, i)) : cross g row = t :: cross g (swapAt row i) := by
  obtain ⟨a, b, h1, h2, h3, _⟩ := least_nb h
  unfold cross
  rw [ic_swapAt h1 h2 h3, crs, h]
theorem cross_none {g : Int → Nat} {row : List Int} (h : nb g row = []) : cross g row = [] := by
  unfold cross
  cases e : ic (row.map g) with
  | zero => rfl
  | succ n => rw [crs, h]; rfl
/-- by the number of inversions -/
theorem cross_ind {g : Int → Nat} {M : List Int → List Tie → Prop} (h0 : ∀ row, nb g row = [] → M row [])
    (hs : ∀ row t i, leastO ltT (nb g row) = some (t, i) → M (swapAt row i) (cross g (swapAt row i)) → M row (t :: cross g (swapAt row i))) : ∀ (n : Nat) (row : List Int), ic (row.map g) = n → M row (cross g row) := by
  intro n
  induction n using Nat.strongRecOn with
  | ind n ih =>
    intro row hn
    cases e : leastO ltT (nb g row) with
    | none =>
      have : nb g row = [] := by
        cases e2 : nb g row with
        | nil => rfl
        | cons x xs => rw [e2] at e; cases e
      rw [cross_none this]
      exact h0 row this
    | some ti =>
      obtain ⟨t, i⟩ := ti
      obtain ⟨a, b, h1, h2, h3, _⟩ := least_nb e
      rw [cross_some e]
      exact hs row t i e (ih _ (by rw [← hn, ic_swapAt h1 h2 h3]; omega) _ rfl)
theorem cross_len (g : Int → Nat) (row : List Int) : (cross g row).length = ic (row.map g) := by
  refine cross_ind (g := g) (M := fun row l => l.length = ic (row.map g)) (fun row h => ?_) (fun row t i h ih => ?_) _ row rfl
  · have h2 := nb_nil h
    have : ∀ l : List Nat, l.Pairwise (· ≤ ·) → ic l = 0 := by
      intro l
      induction l with
      | nil => intro _; rfl
      | cons a r ih =>
        intro h
        rw [List.pairwise_cons] at h
        show r.countP _ + ic r = 0
        rw [ih h.2, List.countP_eq_zero.mpr]
        intro x hx
        have := h.1 x hx
        simp; omega
    exact (this _ h2).symm
  · obtain ⟨a, b, h1, h2, h3, _⟩ := least_nb h
    rw [List.length_cons, ih, ic_swapAt h1 h2 h3]
/-- they lead from a row to another -/
def Goes : List Int → List Tie → List Int → Prop
  | row, [], row' => row = row'
  | row, t :: ts, row' => ∃ i a b, row[i]? = some a ∧ row[i + 1]? = some b ∧ t = tieOf a b ∧ Goes (swapAt row i) ts row'
theorem sorted_row {other row : List Int} (nd : other.Nodup) (hp : row.Perm other) (h : nb (ix other) row = []) : row = other := by
  have h2 := nb_nil h
  have e1 : other.map (ix other) = List.range other.length := by
    refine List.ext_getElem (by simp) fun i h1 h2 => ?_
    simp only [List.getElem_map, List.getElem_range]
    exact ix_at nd (List.getElem?_eq_getElem (by simpa using h1))
  have e2 : row.map (ix other) = List.range other.length := by
    rw [← e1]
    refine List.Perm.eq_of_pairwise (le := (· ≤ ·)) (fun a b _ _ h1 h2 => Nat.le_antisymm h1 h2) h2 ?_ (hp.map _)
    rw [e1]
    exact List.pairwise_lt_range.imp (fun h => Nat.le_of_lt h)
  refine List.ext_getElem hp.length_eq fun i h1 h2 => ?_
  have h3 : (row.map (ix other))[i]'(by simpa using h1) = i := by simp [e2]
  rw [List.getElem_map] at h3
  have h4 : row[i] ∈ other := hp.mem_iff.mp (List.getElem_mem h1)
  have h5 := at_ix h4
  rw [h3] at h5
  obtain ⟨_, h6⟩ := List.getElem?_eq_some_iff.mp h5
  exact h6.symm
theorem cross_goes {other row : List Int} (nd : other.Nodup) (hp : row.Perm other) : Goes row (cross (ix other) row) other := by
  refine cross_ind (g := ix other) (M := fun row l => row.Perm other → Goes row l other) (fun row h hp => sorted_row nd hp h) (fun row t i h ih hp => ?_) _ row rfl hp
  obtain ⟨a, b, h1, h2, h3, h4⟩ := least_nb h
  exact ⟨i, a, b, h1, h2, h4, ih ((swap_perm h1 h2).trans hp)⟩
end AL
namespace AL
open PySem PySem.Spec PyProof.Rows L2
/-- x, y stand otherwise -/
def Inv2 (f g : Int → Nat) (x y : Int) : Prop := ¬ (f x < f y ↔ g x < g y)
theorem ix_swap {row : List Int} (nd : row.Nodup) {i : Nat} {a b : Int} (h1 : row[i]? = some a) (h2 : row[i + 1]? = some b) {x : Int} (hx : x ∈ row) :
    ix (swapAt row i) x = if x = a then i + 1 else if x = b then i else ix row x := by
  have nd' : (swapAt row i).Nodup := (swap_perm h1 h2).nodup_iff.mpr nd
  by_cases ha : x = a
  · rw [if_pos ha]
    exact ix_at nd' (by rw [swap_at h1 h2]; simp [ha])
  · rw [if_neg ha]
    by_cases hb : x = b
    · rw [if_pos hb]
      exact ix_at nd' (by rw [swap_at h1 h2]; simp [hb])
    · rw [if_neg hb]
      have hj := at_ix hx
      refine ix_at nd' ?_
      rw [swap_at h1 h2, if_neg ?_, if_neg ?_]
      · exact hj
      · intro e; rw [e, h2] at hj; cases hj; exact hb rfl
      · intro e; rw [e, h1] at hj; cases hj; exact ha rfl
theorem ix_inj {row : List Int} {x y : Int} (hx : x ∈ row) (hy : y ∈ row) (h : ix row x = ix row y) : x = y := by
  have h1 := at_ix hx
  rw [h, at_ix hy] at h1
  exact (Option.some.inj h1).symm
theorem inv_step {row other : List Int} (nd : row.Nodup) (hp : row.Perm other) {i : Nat} {a b : Int} (h1 : row[i]? = some a) (h2 : row[i + 1]? = some b) (h3 : ix other b < ix other a) {x y : Int} (hx : x ∈ row) (hy : y ∈ row) (hxy : x < y) :
    (Inv2 (ix row) (ix other) x y ↔ ((x, y) = tieOf a b ∨ Inv2 (ix (swapAt row i)) (ix other) x y)) ∧ ((x, y) = tieOf a b → ¬ Inv2 (ix (swapAt row i)) (ix other) x y) := by
  have ea : ix row a = i := ix_at nd h1
  have eb : ix row b = i + 1 := ix_at nd h2
  have hab : a ≠ b := by rintro rfl; omega
  unfold Inv2
  rw [ix_swap nd h1 h2 hx, ix_swap nd h1 h2 hy]
  have xi : ∀ z, z ∈ row → z ≠ a → ix row z ≠ i := fun z hz hne e => hne (ix_inj hz (List.mem_of_getElem? h1) (e.trans ea.symm))
  have xj : ∀ z, z ∈ row → z ≠ b → ix row z ≠ i + 1 := fun z hz hne e => hne (ix_inj hz (List.mem_of_getElem? h2) (e.trans eb.symm))
  unfold tieOf
  by_cases xa : x = a
  · subst xa
    by_cases yb : y = b
    · subst yb
      have e1 : ¬ y < x := by omega
      have e2 : y > x := by omega
      simp [e1, e2, ea, eb, Ne.symm hab]; omega
    · have := xj y hy yb
      have := xi y hy (by omega)
      have ya : y ≠ x := by omega
      simp only [Prod.mk.injEq, if_true, if_neg ya, if_neg yb]
      rw [ea]
      constructor
      · constructor
        · intro h; right; omega
        · rintro (⟨h, h'⟩ | h)
          · exfalso; split at h' <;> omega
          · omega
      · rintro ⟨h, h'⟩; exfalso; split at h' <;> omega
  · by_cases xb : x = b
    · subst xb
      by_cases ya : y = a
      · subst ya
        have e1 : x < y := hxy
        have e2 : ¬ x > y := by omega
        simp [e1, e2, ea, eb, xa]; omega
      · have := xi y hy ya
        have yb : y ≠ x := by omega
        have := xj y hy yb
        simp only [Prod.mk.injEq, if_true, if_neg xa, if_neg ya, if_neg yb]
        rw [eb]
        constructor
        · constructor
          · intro h; right; omega
          · rintro (⟨h, h'⟩ | h)
            · exfalso; split at h' <;> omega
            · omega
        · rintro ⟨h, h'⟩; exfalso; split at h' <;> omega
    · have := xi x hx xa
      have := xj x hx xb
      by_cases ya : y = a
      · subst ya
        simp only [Prod.mk.injEq, if_true, if_neg xa, if_neg xb]
        rw [ea]
        constructor
        · constructor
          · intro h; right; omega
          · rintro (⟨h, h'⟩ | h)
            · exfalso; split at h <;> omega
            · omega
        · rintro ⟨h, h'⟩; exfalso; split at h <;> omega
      · by_cases yb : y = b
        · subst yb
          simp only [Prod.mk.injEq, if_true, if_neg xa, if_neg xb, if_neg ya]
          rw [eb]
          constructor
          · constructor
            · intro h; right; omega
            · rintro (⟨h, h'⟩ | h)
              · exfalso; split at h <;> omega
              · omega
          · rintro ⟨h, h'⟩; exfalso; split at h <;> omega
        · simp only [Prod.mk.injEq, if_neg xa, if_neg xb, if_neg ya, if_neg yb]
          constructor
          · constructor
            · intro h; exact .inr h
            · rintro (⟨h, h'⟩ | h)
              · exfalso; split at h <;> omega
              · exact h
          · rintro ⟨h, h'⟩; exfalso; split at h <;> omega
theorem cross_inv {row other : List Int} (nd : other.Nodup) (hp : row.Perm other) :
    (cross (ix other) row).Nodup ∧ ∀ t, t ∈ cross (ix other) row ↔ (t.1 < t.2 ∧ t.1 ∈ row ∧ t.2 ∈ row ∧ Inv2 (ix row) (ix other) t.1 t.2) := by
  refine cross_ind (g := ix other) (M := fun row l => row.Perm other → l.Nodup ∧ ∀ t, t ∈ l ↔ (t.1 < t.2 ∧ t.1 ∈ row ∧ t.2 ∈ row ∧ Inv2 (ix row) (ix other) t.1 t.2)) (fun row h hp => ?_) (fun row t i h ih hp => ?_) _ row rfl hp
  · have e := sorted_row nd hp h
    subst e
    refine ⟨.nil, fun t => ⟨fun h => (by cases h), fun h => absurd Iff.rfl h.2.2.2⟩⟩
  · obtain ⟨a, b, h1, h2, h3, h4⟩ := least_nb h
    have ndr : row.Nodup := hp.nodup_iff.mpr nd
    have sp := swap_perm h1 h2
    obtain ⟨i1, i2⟩ := ih (sp.trans hp)
    have hab : a ≠ b := by rintro rfl; omega
    have ha : a ∈ row := List.mem_of_getElem? h1
    have hb : b ∈ row := List.mem_of_getElem? h2
    have ht : t.1 < t.2 ∧ t.1 ∈ row ∧ t.2 ∈ row := by
      rw [h4]; unfold tieOf
      by_cases hlt : b < a
      · have : ¬ b > a := by omega
        simp [hlt, this, ha, hb]
      · have : b > a := by omega
        simp [hlt, this, ha, hb]
    have st : ∀ {x y}, x ∈ row → y ∈ row → x < y → _ := fun hx hy hxy => inv_step ndr hp h1 h2 h3 hx hy hxy
    refine ⟨List.nodup_cons.mpr ⟨fun hm => ?_, i1⟩, fun s => ?_⟩
    · have := ((i2 t).mp hm).2.2.2
      exact (st ht.2.1 ht.2.2 ht.1).2 h4 this
    · rw [List.mem_cons, i2 s]
      constructor
      · rintro (rfl | ⟨h5, h6, h7, h8⟩)
        · exact ⟨ht.1, ht.2.1, ht.2.2, (st ht.2.1 ht.2.2 ht.1).1.mpr (.inl h4)⟩
        · have h6' := sp.mem_iff.mp h6
          have h7' := sp.mem_iff.mp h7
          exact ⟨h5, h6', h7', (st h6' h7' h5).1.mpr (.inr h8)⟩
      · rintro ⟨h5, h6, h7, h8⟩
        rcases (st h6 h7 h5).1.mp h8 with h9 | h9
        · exact .inl (h9.trans h4.symm)
        · exact .inr ⟨h5, sp.mem_iff.mpr h6, sp.mem_iff.mpr h7, h9⟩
/-! the ties that stand otherwise, in order -/
def invAt (f g : Int → Nat) (a : Nat) (k : Nat) : Option Tie := if decide (f a < f ((a : Int) + 1 + k)) ≠ decide (g a < g ((a : Int) + 1 + k)) then some ((a : Int), (a : Int) + 1 + k) else none
def invL (n : Nat) (f g : Int → Nat) : List Tie := (List.range n).flatMap fun a => (List.range (n - (a + 1))).filterMap (invAt f g a)
theorem invAt_some {f g : Int → Nat} {a k : Nat} {t : Tie} (h : invAt f g a k = some t) : t = ((a : Int), (a : Int) + 1 + k) ∧ Inv2 f g t.1 t.2 := by
  unfold invAt at h
  split at h
  · cases h
    rename_i h
    refine ⟨rfl, fun z => h ?_⟩
    simp [z]
  · cases h
theorem mem_invL {n : Nat} {f g : Int → Nat} {t : Tie} : t ∈ invL n f g ↔ (t.1 < t.2 ∧ t.1 ∈ ups n ∧ t.2 ∈ ups n ∧ Inv2 f g t.1 t.2) := by
  unfold invL
  rw [List.mem_flatMap]
  constructor
  · rintro ⟨a, ha, h⟩
    obtain ⟨k, hk, h⟩ := List.mem_filterMap.mp h
    obtain ⟨rfl, h2⟩ := invAt_some h
    rw [List.mem_range] at ha hk
    refine ⟨by simp; omega, ?_, ?_, h2⟩
    · simp only [ups, List.mem_map, List.mem_range]
      exact ⟨a, ha, rfl⟩
    · simp only [ups, List.mem_map, List.mem_range]
      exact ⟨a + 1 + k, by omega, by push_cast; rfl⟩
  · rintro ⟨h1, h2, h3, h4⟩
    simp only [ups, List.mem_map, List.mem_range] at h2 h3
    obtain ⟨a, ha, ea⟩ := h2
    obtain ⟨b, hb, eb⟩ := h3
    refine ⟨a, List.mem_range.mpr ha, List.mem_filterMap.mpr ⟨b - (a + 1), List.mem_range.mpr (by omega), ?_⟩⟩
    have e2 : ((a : Int) + 1 + ((b - (a + 1) : Nat) : Int)) = t.2 := by omega
    unfold invAt
    rw [e2, ea, if_pos]
    intro z
    exact h4 (by simpa using z)
theorem invL_sorted (n : Nat) (f g : Int → Nat) : (invL n f g).Pairwise fun s t => ltTie s t = true := by
  unfold invL
  rw [List.pairwise_flatMap]
  refine ⟨fun a _ => ?_, ?_⟩
  · refine List.Pairwise.filterMap (R := fun x y => x < y) _ (fun k k' hk s hs s' hs' => ?_) List.pairwise_lt_range
    obtain ⟨rfl, _⟩ := invAt_some hs
    obtain ⟨rfl, _⟩ := invAt_some hs'
    simp [ltTie]; omega
  · refine List.pairwise_lt_range.imp (fun {a a'} h s hs s' hs' => ?_)
    obtain ⟨k, _, hk⟩ := List.mem_filterMap.mp hs
    obtain ⟨k', _, hk'⟩ := List.mem_filterMap.mp hs'
    obtain ⟨rfl, _⟩ := invAt_some hk
    obtain ⟨rfl, _⟩ := invAt_some hk'
    simp [ltTie]; omega
theorem ups_nodup (n : Nat) : (ups n).Nodup := List.pairwise_map.mpr (List.nodup_range.imp fun h h2 => h (by omega))
theorem invL_nodup (n : Nat) (f g : Int → Nat) : (invL n f g).Nodup := (invL_sorted n f g).imp fun h e => by
  subst e
  rw [ltTie_ir] at h; cases h
theorem cross_perm {n : Nat} {row other : List Int} (h1 : row.Perm (ups n)) (h2 : other.Perm (ups n)) : (cross (ix other) row).Perm (invL n (ix row) (ix other)) := by
  have nd : other.Nodup := h2.nodup_iff.mpr (ups_nodup n)
  obtain ⟨a, b⟩ := cross_inv nd (h1.trans h2.symm)
  refine (List.perm_ext_iff_of_nodup a (invL_nodup n _ _)).mpr fun t => ?_
  rw [b t, mem_invL, h1.mem_iff, h1.mem_iff]
theorem invL_symm (n : Nat) (f g : Int → Nat) : invL n f g = invL n g f := by
  unfold invL
  congr 1; funext a; congr 1; funext k
  unfold invAt
  by_cases h : decide (f a < f ((a : Int) + 1 + k)) = decide (g a < g ((a : Int) + 1 + k))
  · simp [h]
  · rw [if_pos h, if_pos (Ne.symm h)]
theorem invL_tri (n : Nat) (f g h : Int → Nat) : (invL n f h).length ≤ (invL n f g).length + (invL n g h).length := by
  have key : ∀ t, t ∈ invL n f h → t ∈ invL n f g ++ invL n g h := by
    intro t ht
    rw [List.mem_append, mem_invL, mem_invL]
    obtain ⟨h1, h2, h3, h4⟩ := mem_invL.mp ht
    unfold Inv2 at *
    by_cases z : f t.1 < f t.2 ↔ g t.1 < g t.2
    · exact .inr ⟨h1, h2, h3, fun y => h4 (z.trans y)⟩
    · exact .inl ⟨h1, h2, h3, z⟩
  rw [← List.length_append]
  exact (invL_nodup n f h).length_le_of_subset key
end AL
namespace AL
open PySem PySem.Spec PyProof.Rows L2
def tieW (t : Tie) : W := .tup [.int t.1, .int t.2]
def nbW (t : Tie × Nat) : W := .tup [tieW t.1, .int t.2]
/-- the dict of spots -/
def Spots (st : Sto) (d : Nat) (row : List Int) : Prop := ∃ kvs, st[d]? = some (.dK kvs) ∧ ∀ x ∈ row, valW kvs (.inl x) = some (.int (ix row x : Nat))
def S_spots_of : Sc := fun ws st P => ∃ r row, ws = [.ref r] ∧ lstAt st r = some (iw row) ∧ row.Nodup ∧ row.length ≤ 1000 ∧ ∀ st' d, Ch [] st st' → Spots st' d row → st.length ≤ d → P (.ref d) st'
def S_neighbours_otherwise : Sc := fun ws st P => ∃ r d row other, ws = [.ref r, .ref d] ∧ lstAt st r = some (iw row) ∧ Spots st d other ∧ row.Perm other ∧ row.length ≤ 1000 ∧
  ∀ st' q, Ch [] st st' → lstAt st' q = some ((nb (ix other) row).map nbW) → st.length ≤ q → P (.ref q) st'
def S_crossings : Sc := fun ws st P => ∃ r q row other, ws = [.ref r, .ref q] ∧ lstAt st r = some (iw row) ∧ lstAt st q = some (iw other) ∧ row.Perm other ∧ other.Nodup ∧ row.length ≤ 1000 ∧
  ∀ st' p, Ch [] st st' → lstAt st' p = some ((cross (ix other) row).map tieW) → st.length ≤ p → P (.ref p) st'
def S__law_two_rows : Sc := fun ws st P => ∃ n B, ws = [.ref n] ∧ Lf st n B ∧ B < 2 ^ 38 ∧ ∀ (m : Nat) (one other : List Int) st' p q, m ≤ 12 → one.Perm (ups m) → other.Perm (ups m) → Lf st' n (B + 100) → Ch [n] st st' →
  lstAt st' p = some (iw one) → lstAt st' q = some (iw other) → st.length ≤ p → st.length ≤ q → P (.tup [.ref p, .ref q]) st'
def S__law_walked : Sc := fun ws st P => ∃ r q row ts row', ws = [.ref r, .ref q] ∧ lstAt st r = some (iw row) ∧ lstAt st q = some (ts.map tieW) ∧ row.Nodup ∧ ts.length ≤ 1000000 ∧ Goes row ts row' ∧
  ∀ st' p, Ch [] st st' → lstAt st' p = some (iw row') → st.length ≤ p → P (.ref p) st'
def oTieW : Option Tie → W
  | some t => tieW t
  | none => .non
def S__law_least : Sc := fun ws st P => ∃ r q row other, ws = [.ref r, .ref q] ∧ lstAt st r = some (iw row) ∧ lstAt st q = some (iw other) ∧ row.Perm other ∧ row.length ≤ 1000 ∧
  ∀ st', Ch [] st st' → P (oTieW ((leastO ltT (nb (ix other) row)).map Prod.fst)) st'
def S__law_right : Sc := fun ws st P => ∃ r q p row other, ws = [.ref r, .ref q, .ref p] ∧ lstAt st r = some (iw row) ∧ lstAt st q = some (iw other) ∧ row.Perm other ∧ other.Nodup ∧ row.length ≤ 1000 ∧
  lstAt st p = some ((cross (ix other) row).map tieW) ∧ ∀ st', Ch [] st st' → P (.bl true) st'
def S__law_by_turns : Sc := fun ws st P => ∃ n B, ws = [.ref n] ∧ Lf st n B ∧ B < 2 ^ 38 ∧ ∀ st', Ch [n] st st' → P (.bl true) st'
def S_law : Sc := fun ws st P => ∃ ns, ws = [.scr ns] ∧ ∀ st', P (.bl true) st'
end AL
namespace AL
open PySem PySem.Spec PyProof.Rows L2

def B_spots_of : CS :=
  sRet (cCall kDictK (cCons (cLc (cEnum (cCons (cVar 0) (cNil))) (gT 2 (gsNames [1, 2])) (cYes) (cCall kTup (cCons (cVar 2) (cCons (cVar 1) (cNil)))) [1, 2]) (cNil)))
def B_neighbours_otherwise_1 : CS :=
  sIf (cB (cOp kLt (cOp kIx (cVar 1) (cVar 5)) (cOp kIx (cVar 1) (cVar 4)))) (sDrop (cBM mAppend (cVar 2) (cCons (cCall kTup (cCons (cCall kTup (cCons (cCall kMin2 (cCons (cVar 4) (cCons (cVar 5) (cNil)))) (cCons (cCall kMax2 (cCons (cVar 4) (cCons (cVar 5) (cNil)))) (cNil)))) (cCons (cVar 3) (cNil)))) (cNil)))) (sNil)
def B_neighbours_otherwise_2 : CS :=
  sSeq (sPar 4 5 (cCons (cOp kIx (cVar 0) (cVar 3)) (cCons (cOp kIx (cVar 0) (cOp kAdd (cVar 3) (cC (.int 1)))) (cNil))))
    (B_neighbours_otherwise_1)
def B_neighbours_otherwise_3 : CS :=
  sSeq (sFor (cRng1 (cCons (cOp kSub (cCall kLen (cCons (cVar 0) (cNil))) (cC (.int 1))) (cNil))) (gN 3) (B_neighbours_otherwise_2))
    (sRet (cVar 2))
def B_neighbours_otherwise : CS :=
  sSeq (sSet 2 (cCall kLst (cNil)))
    (B_neighbours_otherwise_3)
def B_crossings_1 : CS :=
  sSet 5 (cCall S_neighbours_otherwise (cCons (cVar 3) (cCons (cVar 2) (cNil))))
def B_crossings_2 : CS :=
  sSeq (sAsg (cCall kTup (cCons (cOp kIx (cVar 3) (cOp kAdd (cVar 7) (cC (.int 1)))) (cCons (cOp kIx (cVar 3) (cVar 7)) (cNil)))) (gT 2 (gsCons (gSb (cVar 3) (cVar 7) kSet) (gsCons (gSb (cVar 3) (cOp kAdd (cVar 7) (cC (.int 1))) kSet) (gsNil)))))
    (B_crossings_1)
def B_crossings_3 : CS :=
  sSeq (sDrop (cBM mAppend (cVar 4) (cCons (cVar 6) (cNil))))
    (B_crossings_2)
def B_crossings_4 : CS :=
  sSeq (sAsg (cCall (kBest PySem.W.minD) (cCons (cVar 5) (cNil))) (gT 2 (gsCons (gN 6) (gsCons (gN 7) (gsNil)))))
    (B_crossings_3)
def B_crossings_5 : CS :=
  sSeq (sWhile (cB (cOp kGt (cCall kLen (cCons (cVar 5) (cNil))) (cC (.int 0)))) (B_crossings_4))
    (sRet (cVar 4))
def B_crossings_6 : CS :=
  sSeq (sSet 5 (cCall S_neighbours_otherwise (cCons (cVar 3) (cCons (cVar 2) (cNil)))))
    (B_crossings_5)
def B_crossings_7 : CS :=
  sSeq (sSet 4 (cCall kLst (cNil)))
    (B_crossings_6)
def B_crossings_8 : CS :=
  sSeq (sSet 3 (cCall kList (cCons (cVar 0) (cNil))))
    (B_crossings_7)
def B_crossings : CS :=
  sSeq (sSet 2 (cCall S_spots_of (cCons (cVar 1) (cNil))))
    (B_crossings_8)
def B__law_two_rows_1 : CS :=
  sAsg (cCall kTup (cCons (cOp kIx (cVar 4) (cOp kAdd (cVar 6) (cC (.int 1)))) (cCons (cOp kIx (cVar 4) (cVar 6)) (cNil)))) (gT 2 (gsCons (gSb (cVar 4) (cVar 6) kSet) (gsCons (gSb (cVar 4) (cOp kAdd (cVar 6) (cC (.int 1))) kSet) (gsNil))))
def B__law_two_rows_2 : CS :=
  sSeq (sSet 6 (cCall S__law_pick (cCons (cVar 0) (cCons (cOp kSub (cVar 1) (cC (.int 1))) (cNil)))))
    (B__law_two_rows_1)
def B__law_two_rows_3 : CS :=
  sRet (cCall kTup (cCons (cVar 2) (cCons (cVar 4) (cNil))))
def B__law_two_rows_4 : CS :=
  sSeq (sFor (cRng1 (cCons (cOp kMul (cCall kInt (cCons (cOp kGt (cVar 1) (cC (.int 1))) (cNil))) (cOp kAdd (cC (.int 1)) (cCall S__law_pick (cCons (cVar 0) (cCons (cC (.int 3)) (cNil)))))) (cNil))) (gN 5) (B__law_two_rows_2))
    (B__law_two_rows_3)
def B__law_two_rows_5 : CS :=
  sSeq (sSet 4 (cCall kList (cCons (cVar 2) (cNil))))
    (B__law_two_rows_4)
def B__law_two_rows_6 : CS :=
  sSeq (sIf (cB (cOp kLt (cVar 3) (cC (.int 4)))) (sRet (cCall kTup (cCons (cVar 2) (cCons (cCall S__law_row (cCons (cVar 0) (cCons (cVar 1) (cNil)))) (cNil))))) (sNil))
    (B__law_two_rows_5)
def B__law_two_rows_7 : CS :=
  sSeq (sIf (cB (cOp kEq (cVar 3) (cC (.int 1)))) (sRet (cCall kTup (cCons (cVar 2) (cCons (cUn kRev (cVar 2)) (cNil))))) (sNil))
    (B__law_two_rows_6)
def B__law_two_rows_8 : CS :=
  sSeq (sIf (cB (cOp kEq (cVar 3) (cC (.int 0)))) (sRet (cCall kTup (cCons (cVar 2) (cCons (cCall kList (cCons (cVar 2) (cNil))) (cNil))))) (sNil))
    (B__law_two_rows_7)
def B__law_two_rows_9 : CS :=
  sSeq (sSet 3 (cCall S__law_pick (cCons (cVar 0) (cCons (cC (.int 5)) (cNil)))))
    (B__law_two_rows_8)
def B__law_two_rows_10 : CS :=
  sSeq (sSet 2 (cCall S__law_row (cCons (cVar 0) (cCons (cVar 1) (cNil)))))
    (B__law_two_rows_9)
def B__law_two_rows : CS :=
  sSeq (sSet 1 (cOp kIx (cCall kLst (cCons (cC (.int 0)) (cCons (cC (.int 1)) (cCons (cC (.int 2)) (cCons (cC (.int 3)) (cCons (cC (.int 4)) (cCons (cC (.int 5)) (cCons (cC (.int 6)) (cCons (cC (.int 7)) (cCons (cC (.int 8)) (cCons (cC (.int 5)) (cCons (cC (.int 6)) (cCons (cOp kAdd (cC (.int 9)) (cCall S__law_pick (cCons (cVar 0) (cCons (cC (.int 4)) (cNil))))) (cNil)))))))))))))) (cCall S__law_pick (cCons (cVar 0) (cCons (cC (.int 12)) (cNil))))))
    (B__law_two_rows_10)
def B__law_walked_1 : CS :=
  sAsg (cCall kTup (cCons (cOp kIx (cVar 2) (cVar 5)) (cCons (cOp kIx (cVar 2) (cVar 4)) (cNil)))) (gT 2 (gsCons (gSb (cVar 2) (cVar 4) kSet) (gsCons (gSb (cVar 2) (cVar 5) kSet) (gsNil))))
def B__law_walked_2 : CS :=
  sSeq (sIf (cOr (cB (cOp kNe (cCall kAbs (cCons (cOp kSub (cVar 4) (cVar 5)) (cNil))) (cC (.int 1)))) (cB (cOp kGe (cOp kIx (cVar 3) (cC (.int 0))) (cOp kIx (cVar 3) (cC (.int 1)))))) (sRet (cC .non)) (sNil))
    (B__law_walked_1)
def B__law_walked_3 : CS :=
  sSeq (sPar 4 5 (cCons (cBM mIndex (cVar 2) (cCons (cOp kIx (cVar 3) (cC (.int 0))) (cNil))) (cCons (cBM mIndex (cVar 2) (cCons (cOp kIx (cVar 3) (cC (.int 1))) (cNil))) (cNil))))
    (B__law_walked_2)
def B__law_walked_4 : CS :=
  sSeq (sFor (cIter (cVar 1)) (gN 3) (B__law_walked_3))
    (sRet (cVar 2))
def B__law_walked : CS :=
  sSeq (sSet 2 (cCall kList (cCons (cVar 0) (cNil))))
    (B__law_walked_4)
def B__law_least_1 : CS :=
  sIf (cB (cOp kLt (cBM mIndex (cVar 1) (cCons (cVar 4) (cNil))) (cBM mIndex (cVar 1) (cCons (cVar 3) (cNil))))) (sDrop (cBM mAppend (cVar 2) (cCons (cCall kTup (cCons (cCall kMin2 (cCons (cVar 3) (cCons (cVar 4) (cNil)))) (cCons (cCall kMax2 (cCons (cVar 3) (cCons (cVar 4) (cNil)))) (cNil)))) (cNil)))) (sNil)
def B__law_least_2 : CS :=
  sRet (cIf (cB (cOp kNe (cVar 2) (cCall kLst (cNil)))) (cCall (kBest PySem.W.minD) (cCons (cVar 2) (cNil))) (cC .non))
def B__law_least_3 : CS :=
  sSeq (sFor (cZip (cCons (cVar 0) (cCons (cSl (cVar 0) (oSome (cC (.int 1))) (oNone)) (cNil)))) (gT 2 (gsCons (gN 3) (gsCons (gN 4) (gsNil)))) (B__law_least_1))
    (B__law_least_2)
def B__law_least : CS :=
  sSeq (sSet 2 (cCall kLst (cNil)))
    (B__law_least_3)
def B__law_right_1 : CS :=
  sSet 3 (cCall S__law_walked (cCons (cVar 3) (cCons (cCall kLst (cCons (cVar 4) (cNil))) (cNil))))
def B__law_right_2 : CS :=
  sSeq (sIf (cB (cOp kNe (cVar 4) (cCall S__law_least (cCons (cVar 3) (cCons (cVar 1) (cNil)))))) (sRet (cC (.bl false))) (sNil))
    (B__law_right_1)
def B__law_right_3 : CS :=
  sSeq (sFor (cIter (cVar 2)) (gN 4) (B__law_right_2))
    (sRet (cOp kEq (cVar 3) (cVar 1)))
def B__law_right : CS :=
  sSeq (sSet 3 (cCall kList (cCons (cVar 0) (cNil))))
    (B__law_right_3)
def B__law_by_turns_1 : CS :=
  sDrop (cBM mAppend (cVar 6) (cCons (cCall kTup (cCons (cC (.int 0)) (cCons (cC (.int 1)) (cNil)))) (cNil)))
def B__law_by_turns_2 : CS :=
  sSeq (sDrop (cBM0 mReverse (cVar 6)))
    (B__law_by_turns_1)
def B__law_by_turns_3 : CS :=
  sSeq (sIf (cOr (cB (cOp kNe (cCall S__law_walked (cCons (cOp kIx (cVar 1) (cVar 4)) (cCons (cVar 6) (cNil)))) (cOp kIx (cVar 1) (cVar 5)))) (cB (cOp kNe (cBMD mSetd (cVar 2) (cCons (cCall kTup (cCons (cVar 4) (cCons (cVar 5) (cNil)))) (cCons (cCall kList (cCons (cVar 6) (cNil))) (cNil)))) (cVar 6)))) (sRet (cC (.bl false))) (sNil))
    (B__law_by_turns_2)
def B__law_by_turns_4 : CS :=
  sSeq (sSet 6 (cCall S_crossings (cCons (cOp kIx (cVar 1) (cVar 4)) (cCons (cOp kIx (cVar 1) (cVar 5)) (cNil)))))
    (B__law_by_turns_3)
def B__law_by_turns_5 : CS :=
  sSeq (sPar 4 5 (cCons (cCall S__law_pick (cCons (cVar 0) (cCons (cC (.int 3)) (cNil)))) (cCons (cCall S__law_pick (cCons (cVar 0) (cCons (cC (.int 3)) (cNil)))) (cNil))))
    (B__law_by_turns_4)
def B__law_by_turns_6 : CS :=
  sRet (cAndV (cOp kGe (cOp kAdd (cOp kIx (cVar 7) (cC (.int 0))) (cOp kIx (cVar 7) (cC (.int 1)))) (cOp kIx (cVar 7) (cC (.int 2)))) (cOp kEq (cOp kIx (cVar 7) (cC (.int 0))) (cOp kIx (cVar 7) (cC (.int 3)))))
def B__law_by_turns_7 : CS :=
  sSeq (sIf (cB (cOp kNe (cCall kLen (cCons (cCall S_crossings (cCons (cOp kIx (cVar 9) (cC (.int 0))) (cCons (cOp kIx (cVar 9) (cC (.int 1))) (cNil)))) (cNil))) (cOp kIx (cVar 7) (cC (.int 0))))) (sRet (cC (.bl false))) (sNil))
    (B__law_by_turns_6)
def B__law_by_turns_8 : CS :=
  sSeq (sSet 9 (cLc (cIter (cSl (cVar 1) (oNone) (oSome (cC (.int 2))))) (gN 11) (cYes) (cLc (cIter (cVar 11)) (gN 12) (cYes) (cOp kIx (cVar 8) (cVar 12)) [12]) [11]))
    (B__law_by_turns_7)
def B__law_by_turns_9 : CS :=
  sSeq (sSet 8 (cCall S__law_row (cCons (cVar 0) (cCons (cCall kLen (cCons (cOp kIx (cVar 1) (cC (.int 0))) (cNil))) (cNil)))))
    (B__law_by_turns_8)
def B__law_by_turns_10 : CS :=
  sSeq (sSet 7 (cLc (cIter (cCall kTup (cCons (cCall kTup (cCons (cC (.int 0)) (cCons (cC (.int 1)) (cNil)))) (cCons (cCall kTup (cCons (cC (.int 1)) (cCons (cC (.int 2)) (cNil)))) (cCons (cCall kTup (cCons (cC (.int 0)) (cCons (cC (.int 2)) (cNil)))) (cCons (cCall kTup (cCons (cC (.int 1)) (cCons (cC (.int 0)) (cNil)))) (cNil))))))) (gT 2 (gsNames [4, 5])) (cYes) (cCall kLen (cCons (cCall S_crossings (cCons (cOp kIx (cVar 1) (cVar 4)) (cCons (cOp kIx (cVar 1) (cVar 5)) (cNil)))) (cNil))) [4, 5]))
    (B__law_by_turns_9)
def B__law_by_turns_11 : CS :=
  sSeq (sFor (cRng1 (cCons (cC (.int 7)) (cNil))) (gN 3) (B__law_by_turns_5))
    (B__law_by_turns_10)
def B__law_by_turns_12 : CS :=
  sSeq (sSet 2 (cDNewT))
    (B__law_by_turns_11)
def B__law_by_turns : CS :=
  sSeq (sSet 1 (cLc (cIter (cOp kMul (cCall kLst (cCons (cCall S__law_pick (cCons (cVar 0) (cCons (cC (.int 8)) (cNil)))) (cNil))) (cC (.int 3)))) (gN 10) (cYes) (cCall S__law_row (cCons (cVar 0) (cCons (cVar 10) (cNil)))) [10]))
    (B__law_by_turns_12)
def B_law_1 : CS :=
  sIf (cB (cOp kNe (cVar 9) (cOp kLt (cBM mIndex (cVar 4) (cCons (cVar 7) (cNil))) (cBM mIndex (cVar 4) (cCons (cVar 8) (cNil)))))) (sDrop (cBM mAppend (cVar 6) (cCons (cCall kTup (cCons (cVar 7) (cCons (cVar 8) (cNil)))) (cNil)))) (sNil)
def B_law_2 : CS :=
  sSeq (sSet 9 (cOp kLt (cBM mIndex (cVar 3) (cCons (cVar 7) (cNil))) (cBM mIndex (cVar 3) (cCons (cVar 8) (cNil)))))
    (B_law_1)
def B_law_3 : CS :=
  sFor (cRng2 (cCons (cOp kAdd (cVar 7) (cC (.int 1))) (cCons (cCall kLen (cCons (cVar 3) (cNil))) (cNil)))) (gN 8) (B_law_2)
def B_law_4 : CS :=
  sIf (cOr (cB (cOp kNe (cCall S_crossings (cCons (cVar 3) (cCons (cVar 4) (cNil)))) (cVar 10))) (cOr (cB (cOp kNe (cCall S_crossings (cCons (cVar 3) (cCons (cCall kList (cCons (cVar 3) (cNil))) (cNil)))) (cCall kLst (cNil)))) (cNot (cB (cCall S__law_by_turns (cCons (cVar 2) (cNil))))))) (sRet (cC (.bl false))) (sNil)
def B_law_5 : CS :=
  sSeq (sDrop (cBM mAppend (cVar 11) (cCons (cCall kTup (cCons (cC (.int 0)) (cCons (cC (.int 0)) (cNil)))) (cNil))))
    (B_law_4)
def B_law_6 : CS :=
  sSeq (sDrop (cBM0 mReverse (cVar 11)))
    (B_law_5)
def B_law_7 : CS :=
  sSeq (sIf (cOr (cB (cOp kNe (cVar 11) (cVar 10))) (cB (cOp kNe (cCall kTup (cCons (cVar 3) (cCons (cVar 4) (cNil)))) (cVar 5)))) (sRet (cC (.bl false))) (sNil))
    (B_law_6)
def B_law_8 : CS :=
  sSeq (sSet 11 (cCall S_crossings (cCons (cVar 3) (cCons (cVar 4) (cNil)))))
    (B_law_7)
def B_law_9 : CS :=
  sSeq (sIf (cNot (cB (cCall S__law_right (cCons (cVar 3) (cCons (cVar 4) (cCons (cVar 10) (cNil))))))) (sRet (cC (.bl false))) (sNil))
    (B_law_8)
def B_law_10 : CS :=
  sSeq (sIf (cOr (cNot (cB (cCall (S__law_same 3) (cCons (cCall kSorted (cCons (cVar 10) (cNil))) (cCons (cVar 6) (cNil)))))) (cNot (cB (cCall kIsi (cCons (cVar 10) (cCons (cC (.ty (Tn.nm .lst))) (cNil))))))) (sRet (cC (.bl false))) (sNil))
    (B_law_9)
def B_law_11 : CS :=
  sSeq (sSet 10 (cCall S_crossings (cCons (cVar 3) (cCons (cVar 4) (cNil)))))
    (B_law_10)
def B_law_12 : CS :=
  sSeq (sFor (cRng1 (cCons (cCall kLen (cCons (cVar 3) (cNil))) (cNil))) (gN 7) (B_law_3))
    (B_law_11)
def B_law_13 : CS :=
  sSeq (sSet 6 (cCall kLst (cNil)))
    (B_law_12)
def B_law_14 : CS :=
  sSeq (sSet 5 (cCall kTup (cCons (cCall kList (cCons (cVar 3) (cNil))) (cCons (cCall kList (cCons (cVar 4) (cNil))) (cNil)))))
    (B_law_13)
def B_law_15 : CS :=
  sSeq (sAsg (cCall S__law_two_rows (cCons (cVar 2) (cNil))) (gT 2 (gsCons (gN 3) (gsCons (gN 4) (gsNil)))))
    (B_law_14)
def B_law_16 : CS :=
  sSeq (sSet 2 (cCall S__law_left (cCons (cVar 0) (cCons (cVar 1) (cNil)))))
    (B_law_15)
def B_law : CS :=
  sSeq (sFor (cRng1 (cCons (cCall kMax2 (cCons (cC (.int 1)) (cCons (cCall kMin2 (cCons (cCall kLen (cCons (cVar 0) (cNil))) (cCons (cC (.int 6)) (cNil)))) (cNil)))) (cNil))) (gN 1) (B_law_16))
    (sRet (cC (.bl true)))
end AL
namespace AL
open PySem PySem.Spec PyProof.Rows L2
section
variable {κ : Type} [DecidableEq κ]
theorem valW_put {kvs : List (κ × W)} {k k' : κ} {v : W} : valW (putW kvs k v) k' = if k' = k then some v else valW kvs k' := by
  unfold putW valW
  by_cases h : (kvs.any fun kv => decide (kv.1 = k)) = true
  · rw [if_pos h]
    induction kvs with
    | nil => simp at h
    | cons p r ih =>
      rw [List.map_cons, List.find?_cons, List.find?_cons]
      by_cases hp : p.1 = k
      · subst hp
        by_cases e : k' = p.1
        · subst e; simp
        · have e' : ¬ p.1 = k' := fun z => e z.symm
          simp only [if_true, decide_eq_true_eq, e, e', if_false, decide_false]
          by_cases hr : (r.any fun kv => decide (kv.1 = p.1)) = true
          · have := ih hr
            rw [if_neg e] at this
            exact this
          · have : r.map (fun kv => if kv.1 = p.1 then (kv.1, v) else kv) = r := by
              rw [List.map_congr_left (g := id), List.map_id]
              intro x hx
              have : ¬ x.1 = p.1 := fun z => hr (List.any_eq_true.mpr ⟨x, hx, by simpa using z⟩)
              simp [this]
            rw [this]
      · have hr : (r.any fun kv => decide (kv.1 = k)) = true := by simpa [hp] using h
        rw [if_neg hp]
        by_cases e : k' = p.1
        · subst e; simp [hp]
        · have e' : ¬ p.1 = k' := fun z => e z.symm
          simp only [e', decide_false]
          exact ih hr
  · rw [if_neg h, List.find?_append]
    by_cases e : k' = k
    · subst e
      have : kvs.find? (fun kv => decide (kv.1 = k')) = none := List.find?_eq_none.mpr fun x hx z => h (List.any_eq_true.mpr ⟨x, hx, z⟩)
      simp [this]
    · have e' : ¬ k = k' := fun z => e z.symm
      simp [e, e']
theorem valW_merge_out {k : κ} : ∀ {ps kvs : List (κ × W)}, k ∉ ps.map Prod.fst → valW (mergeW kvs ps) k = valW kvs k
  | [], _, _ => rfl
  | p :: ps, kvs, h => by
    rw [List.map_cons, List.mem_cons, not_or] at h
    show valW (mergeW (putW kvs p.1 p.2) ps) k = _
    rw [valW_merge_out h.2, valW_put, if_neg h.1]
theorem valW_merge {k : κ} {v : W} : ∀ {ps kvs : List (κ × W)}, (ps.map Prod.fst).Nodup → (k, v) ∈ ps → valW (mergeW kvs ps) k = some v
  | [], _, _, h => by cases h
  | p :: ps, kvs, nd, h => by
    rw [List.map_cons, List.nodup_cons] at nd
    show valW (mergeW (putW kvs p.1 p.2) ps) k = _
    rcases List.mem_cons.mp h with rfl | h
    · rw [valW_merge_out nd.1, valW_put, if_pos rfl]
    · exact valW_merge nd.2 h
theorem mapO_map {α β γ : Type} (f : α → β) (g : β → Option γ) (h : α → γ) (e : ∀ a, g (f a) = some (h a)) : ∀ l : List α, mapO g (l.map f) = some (l.map h)
  | [] => rfl
  | a :: l => by rw [List.map_cons, mapO, e]; show (mapO g (l.map f)).map _ = _; rw [mapO_map f g h e l]; rfl
end
theorem keeps_spots_of : Keeps 3 S_spots_of B_spots_of := by
  rintro ws st P ⟨r, row, rfl, hr, nd, hl, h⟩
  simp [B_spots_of, startE, hr]
  refine lq_pure (ws := row.zipIdx.map fun p => .tup [.int (p.2 : Nat), .int p.1]) (fun w => match w with | .tup [i, x] => some (.tup [x, i]) | _ => none) (fun acc i => ?_) (by simp; omega) (fun w acc R R0 hw hR => ?_) ?_
  · simp [iEnm, lstAt_app' hr, iw]
    cases row[i]? <;> simp
  · obtain ⟨p, hp, rfl⟩ := List.mem_map.mp hw
    simp [wipeE]
    exact ⟨sizeL (by omega), hR⟩
  · have e : (row.zipIdx.map fun p => (W.tup [.int (p.2 : Nat), .int p.1])).filterMap (fun w => match w with | .tup [i, x] => some (.tup [x, i]) | _ => none) = row.zipIdx.map fun p => (W.tup [.int p.1, .int (p.2 : Nat)]) := by
      rw [List.filterMap_map]
      exact congrFun (List.filterMap_eq_map (f := fun p : Int × Nat => W.tup [.int p.1, .int (p.2 : Nat)])) _
    rw [e]
    refine ⟨_, _, row.zipIdx.map fun p => (Sum.inl p.1, W.int (p.2 : Nat)), rfl, lstAt_new, mapO_map (fun p : Int × Nat => W.tup [.int p.1, .int (p.2 : Nat)]) toPairK (fun p => (Sum.inl p.1, W.int (p.2 : Nat))) (fun a => rfl) _, ?_⟩
    refine h _ _ ((Ch.refl.app _).app _) ⟨mergeW [] (row.zipIdx.map fun p => (Sum.inl p.1, W.int (p.2 : Nat))), by simp, fun x hx => ?_⟩ (by simp)
    refine valW_merge ?_ ?_
    · rw [List.map_map]
      have : (Prod.fst ∘ fun p : Int × Nat => ((Sum.inl p.1 : Key), W.int (p.2 : Nat))) = (fun x : Int => (Sum.inl x : Key)) ∘ Prod.fst := rfl
      rw [this, ← List.map_map, List.zipIdx_map_fst]
      exact List.pairwise_map.mpr (nd.imp fun h z => h (Sum.inl.inj z))
    · refine List.mem_map.mpr ⟨(x, ix row x), ?_, rfl⟩
      rw [List.mk_mem_zipIdx_iff_getElem?]
      exact at_ix hx
theorem cast_ix {a b : Nat} : decide ((a : Int) < (b : Int)) = decide (a < b) := by simp
theorem dic_spots {st : Sto} {d : Nat} {row : List Int} (h : Spots st d row) : lstAt st d = none ∧ d < st.length ∧ ∀ x ∈ row, dicAt st d (.int x) = some (some (.int (ix row x : Nat))) := by
  obtain ⟨kvs, hd, hk⟩ := h
  exact ⟨by simp [lstAt, hd], (List.getElem?_eq_some_iff.mp hd).1, fun x hx => by simp [dicAt, hd, toKey, hk x hx]⟩
theorem Spots.ch {st st' : Sto} {ms : List Nat} {d : Nat} {row : List Int} (h : Spots st d row) (c : Ch ms st st') (z : d ∉ ms) : Spots st' d row := by
  obtain ⟨kvs, hd, hk⟩ := h
  exact ⟨kvs, c.ob hd z, hk⟩
theorem Spots.c0 {st st' : Sto} {d : Nat} {row : List Int} (h : Spots st d row) (c : Ch [] st st') : Spots st' d row := h.ch c (by simp)
theorem nb_len (g : Int → Nat) (row : List Int) (i : Nat) : ((List.range i).filterMap (nbAt g row)).length ≤ i := by
  have := List.length_filterMap_le (nbAt g row) (List.range i)
  rwa [List.length_range] at this
theorem keeps_neighbours_otherwise : Keeps 6 S_neighbours_otherwise B_neighbours_otherwise := by
  rintro ws st P ⟨r, d, row, other, rfl, hr, hs, hp, hl, h⟩
  simp [B_neighbours_otherwise, B_neighbours_otherwise_3, startE]
  simp [lstAt_app' hr]
  refine ⟨by omega, by omega, lp_rng (fun i en st' => ∃ a b c, en = [some (.ref r), some (.ref d), some (.ref st.length), a, b, c] ∧ st' = st ++ [.lst (((List.range i).filterMap (nbAt (ix other) row)).map nbW)]) ⟨_, _, _, rfl, rfl⟩ ?_ ?_⟩
  · rintro i en st' D' hi ⟨x, y, z, rfl, rfl⟩ T
    have h1 : row[i]? = some (row[i]'(by omega)) := List.getElem?_eq_getElem _
    have h2 : row[i + 1]? = some (row[i + 1]'(by omega)) := List.getElem?_eq_getElem _
    generalize row[i]'(by omega) = a at h1
    generalize row[i + 1]'(by omega) = b at h2
    have ha : a ∈ other := hp.mem_iff.mp (List.mem_of_getElem? h1)
    have hb : b ∈ other := hp.mem_iff.mp (List.mem_of_getElem? h2)
    have hs' := hs.c0 (Ch.refl.app [.lst (((List.range i).filterMap (nbAt (ix other) row)).map nbW)])
    obtain ⟨d0, _, d1⟩ := dic_spots hs'
    simp [B_neighbours_otherwise_2, lstAt_app' hr, iw, h1, h2]
    have en : nbAt (ix other) row i = if ix other b < ix other a then some (tieOf a b, i) else none := by unfold nbAt; rw [h1, h2]
    have hn := nb_len (ix other) row i
    have tn := fun a b c => T.nx _ _ ⟨a, b, c, rfl, rfl⟩
    rw [List.range_succ, List.filterMap_append, List.filterMap_cons, List.filterMap_nil, en] at tn
    simp [B_neighbours_otherwise_1, d0, d1 a ha, d1 b hb]
    split
    · rename_i hlt
      rw [if_pos hlt] at tn
      simp [nbW, tieW, tieOf] at tn
      exact ⟨sizeL (by omega), sizeLt (by omega), tn _ _ _⟩
    · rename_i hlt
      rw [if_neg hlt] at tn
      simp at tn
      exact tn _ _ _
  · rintro en st' ⟨x, y, z, rfl, rfl⟩
    simp
    exact h _ _ (Ch.refl.app _) (lstAt_new) (Nat.le_refl _)
def ndW (t : Tie × Nat) : PyData := .tuple [.tuple [.int t.1.1, .int t.1.2], .int t.2]
def tdW (t : Tie) : PyData := .tuple [.int t.1, .int t.2]
theorem datL_map {α : Type} {f : W → Option PyData} {g : α → W} {d : α → PyData} (h : ∀ a, f (g a) = some (d a)) : ∀ l : List α, datL f (l.map g) = some (l.map d)
  | [] => rfl
  | a :: l => by rw [List.map_cons, datL, h]; show (datL f (l.map g)).map _ = _; rw [datL_map h l]; rfl
theorem dat_nb {st : Sto} {n : Nat} (t : Tie × Nat) : dat st (n + 2) (nbW t) = some (ndW t) := by simp [nbW, tieW, dat, datL, ndW, scalD]
theorem dat_tie {st : Sto} {n : Nat} (t : Tie) : dat st (n + 1) (tieW t) = some (tdW t) := by simp [tieW, dat, datL, tdW, scalD]
theorem alike_ti (s t : Tie) : PySem.W.alike (tdW s) (tdW t) = true := by simp [tdW, PySem.W.alike, PySem.W.alikeAll]
theorem alike_nd (s t : Tie × Nat) : PySem.W.alike (ndW s) (ndW t) = true := by simp [ndW, PySem.W.alike, PySem.W.alikeAll]
theorem lt_ti (s t : Tie) : PySem.W.dataLt (tdW s) (tdW t) = ltTie s t := by
  unfold tdW ltTie
  exact PySem.W.dataLt_ii _ _ _ _
theorem eqv_ti (s t : Tie) : PyData.eqv (tdW s) (tdW t) = decide (s = t) := by
  rw [Bool.eq_iff_iff]
  obtain ⟨a, b⟩ := s
  obtain ⟨c, d⟩ := t
  simp [tdW, PyData.eqv, PyData.eqvAll]
theorem lt_nd (s t : Tie × Nat) : PySem.W.dataLt (ndW s) (ndW t) = ltT s t := by
  unfold ndW ltT
  rw [PySem.W.dataLt_pair (by simp [PySem.W.alike, PySem.W.alikeAll]) (by simp [PySem.W.alike])]
  have e1 : PyData.eqv (.tuple [.int s.1.1, .int s.1.2]) (.tuple [.int t.1.1, .int t.1.2]) = decide (s.1 = t.1) := eqv_ti s.1 t.1
  rw [e1, eqv_int, PySem.W.dataLt_int, PySem.W.dataLt_ii, Bool.eq_iff_iff]
  obtain ⟨⟨a, b⟩, c⟩ := s
  obtain ⟨⟨a', b'⟩, c'⟩ := t
  by_cases h1 : (a, b) = (a', b')
  · rw [if_pos (by simpa using h1)]
    simp at h1
    obtain ⟨rfl, rfl⟩ := h1
    by_cases h2 : (c : Int) = c'
    · simp; omega
    · simp [h2]
  · rw [if_neg (by simpa using h1)]
    simp at h1 ⊢
    omega
theorem minD_enc {α : Type} {d : α → PyData} {lt : α → α → Bool} (h : ∀ a b, PySem.W.dataLt (d a) (d b) = lt a b) : ∀ (xs : List α) (x : α), PySem.W.minD (d x) (xs.map d) = d (leastBy lt x xs)
  | [], _ => rfl
  | y :: xs, x => by
    show PySem.W.minD (if PySem.W.dataLt (d y) (d x) = true then d y else d x) (xs.map d) = d (leastBy lt (if lt y x = true then y else x) xs)
    rw [h]
    rw [← minD_enc h xs]
    congr 1
    split <;> rfl
/-- min of a list of data of one kind -/
theorem best_of {α : Type} {g : α → W} {d : α → PyData} {lt : α → α → Bool} (inj : ∀ a b, d a = d b → a = b) (hd : ∀ (st : Sto) a, dat st 39 (g a) = some (d a)) (hal : ∀ a b, PySem.W.alike (d a) (d b) = true) (hnn : ∀ a, d a ≠ .none) (hlt : ∀ a b, PySem.W.dataLt (d a) (d b) = lt a b)
    {n : Nat} {st : Sto} {P : PW_} {l : List α} {m : α} (h : lstAt st n = some (l.map g)) (hm : leastO lt l = some m) (hP : P (g m) st) : kBest PySem.W.minD [.ref n] st P := by
  cases l with
  | nil => cases hm
  | cons x xs =>
    cases hm
    refine ⟨n, _, d x, xs.map d, rfl, h, datL_map (hd st) (x :: xs), ⟨fun y hy z hz => ?_, fun y hy => ?_⟩, fun i w hw hi => ?_⟩
    · obtain ⟨a, _, rfl⟩ := List.mem_map.mp (show y ∈ (x :: xs).map d from hy)
      obtain ⟨b, _, rfl⟩ := List.mem_map.mp (show z ∈ (x :: xs).map d from hz)
      exact hal a b
    · obtain ⟨a, _, rfl⟩ := List.mem_map.mp (show y ∈ (x :: xs).map d from hy)
      exact hnn a
    · rw [minD_enc hlt] at hi
      rw [← List.map_cons, List.getElem?_map] at hi
      rw [List.getElem?_map] at hw
      cases e : (x :: xs)[i]? with
      | none => rw [e] at hw; cases hw
      | some y =>
        rw [e] at hw hi
        cases hw
        have := inj _ _ (Option.some.inj hi)
        subst this
        exact hP
theorem ndW_inj (a b : Tie × Nat) (h : ndW a = ndW b) : a = b := by
  simp [ndW] at h
  exact Prod.ext (Prod.ext h.1.1 h.1.2) (by omega)
theorem tdW_inj (a b : Tie) (h : tdW a = tdW b) : a = b := by
  simp [tdW] at h
  exact Prod.ext h.1 h.2
theorem set_swap {row : List Int} {i : Nat} {a b : Int} (h1 : row[i]? = some a) (h2 : row[i + 1]? = some b) : (row.set i b).set (i + 1) a = swapAt row i := by
  have l2 : i + 1 < row.length := (List.getElem?_eq_some_iff.mp h2).1
  refine List.ext_getElem? fun j => ?_
  rw [swap_at h1 h2, List.getElem?_set, List.getElem?_set]
  simp only [List.length_set]
  by_cases e1 : i + 1 = j
  · subst e1
    have : ¬ i + 1 = i := by omega
    simp [l2]
  · by_cases e2 : i = j
    · subst e2
      have : i < row.length := by omega
      simp [this]
    · have e3 : ¬ j = i := fun z => e2 z.symm
      have e4 : ¬ j = i + 1 := fun z => e1 z.symm
      simp [e1, e2, e3, e4]
theorem iw_set (ns : List Int) (i : Nat) (x : Int) : (iw ns).set i (.int x) = iw (ns.set i x) := by simp [iw, List.map_set]
theorem iw_at (ns : List Int) (i : Nat) : (iw ns)[i]? = ns[i]?.map .int := by simp [iw]
theorem ic_le : ∀ l : List Nat, ic l ≤ l.length * l.length
  | [] => Nat.le_refl _
  | a :: r => by
    have h1 := ic_le r
    have h2 : r.countP (fun x => decide (x < a)) ≤ r.length := List.countP_le_length
    show r.countP _ + ic r ≤ (r.length + 1) * (r.length + 1)
    have : (r.length + 1) * (r.length + 1) = r.length * r.length + r.length + r.length + 1 := by
      rw [Nat.add_mul, Nat.mul_add]; omega
    omega
theorem cross_short {g : Int → Nat} {row : List Int} (hl : row.length ≤ 1000) : (cross g row).length ≤ 1000000 := by
  rw [cross_len]
  have h := ic_le (row.map g)
  rw [List.length_map] at h
  have : row.length * row.length ≤ 1000 * 1000 := Nat.mul_le_mul hl hl
  omega
theorem keeps_crossings : Keeps 8 S_crossings B_crossings := by
  rintro ws st P ⟨r, q, row, other, rfl, hr, hq, hp, nd, hl, h⟩
  simp [B_crossings, startE]
  refine ⟨q, other, rfl, hq, nd, by rw [← hp.length_eq]; exact hl, fun st1 d c1 hs hd1 => ?_⟩
  simp [B_crossings_8, c1.l0 hr]
  simp [B_crossings_7]
  have dlt := (dic_spots hs).2.1
  have c2 : Ch [] st1 (st1 ++ [O.lst (iw row), O.lst []]) := Ch.refl.app _
  have hp2 : lstAt (st1 ++ [O.lst (iw row), O.lst []]) st1.length = some (iw row) := by simp [lstAt]
  have hf2 : lstAt (st1 ++ [O.lst (iw row), O.lst []]) (st1.length + 1) = some [] := by simp [lstAt]
  generalize (st1 ++ [O.lst (iw row), O.lst []]) = st2 at c2 hp2 hf2 ⊢
  have hs2 := hs.c0 c2
  have c12 := c1.trans c2
  simp [B_crossings_6]
  refine ⟨_, _, row, other, rfl, hp2, hs2, hp, hl, fun st3 s c3 h3 _ => ?_⟩
  simp [B_crossings_5]
  refine wh_of (fun m en st' => ∃ row' told s x y, en = [some (.ref r), some (.ref q), some (.ref d), some (.ref st1.length), some (.ref (st1.length + 1)), some (.ref s), x, y] ∧ m = ic (row'.map (ix other)) ∧
    told ++ cross (ix other) row' = cross (ix other) row ∧ row'.Perm other ∧ Ch [] st st' ∧ lstAt st' st1.length = some (iw row') ∧ lstAt st' (st1.length + 1) = some (told.map tieW) ∧ lstAt st' s = some ((nb (ix other) row').map nbW) ∧ Spots st' d other) (ic (row.map (ix other)))
    ⟨row, [], s, _, _, rfl, rfl, rfl, hp, c12.trans c3, c3.l0 hp2, c3.l0 hf2, h3, hs2.c0 c3⟩ ?_
  rintro m en st4 D' ⟨row', told, s, x, y, rfl, rfl, ht, hp', c4, hpp, hff, hss, hsp⟩ T
  simp [hss]
  cases e : leastO ltT (nb (ix other) row') with
  | none =>
    have e0 : nb (ix other) row' = [] := by
      cases e2 : nb (ix other) row' with
      | nil => rfl
      | cons x xs => rw [e2] at e; cases e
    rw [e0]
    rw [cross_none e0, List.append_nil] at ht
    simp
    exact h _ _ c4 (by rw [hff, ht]) (by have := c1.len; omega)
  | some ti =>
    obtain ⟨t, i⟩ := ti
    obtain ⟨a, b, h1, h2, h3, h4⟩ := least_nb e
    have hne : 0 < (nb (ix other) row').length := by
      cases e2 : nb (ix other) row' with
      | nil => rw [e2] at e; cases e
      | cons x xs => simp
    rw [if_pos hne]
    simp [B_crossings_4]
    refine best_of ndW_inj (fun st a => dat_nb a) alike_nd (fun a z => by cases z) lt_nd hss e ?_
    have hlt : told.length < sizeLine := by
      have h5 := cross_short (g := ix other) hl
      rw [← ht, List.length_append] at h5
      exact sizeLt (by omega)
    simp [nbW, B_crossings_3, hff, hlt]
    have c5 : Ch [] st (st4.set (st1.length + 1) (O.lst (told.map tieW ++ [tieW t]))) := c4.set (.inr (by have := c1.len; omega))
    have hp5 : lstAt (st4.set (st1.length + 1) (O.lst (told.map tieW ++ [tieW t]))) st1.length = some (iw row') := by rw [lstAt_ne (by omega)]; exact hpp
    have hf5 : lstAt (st4.set (st1.length + 1) (O.lst (told.map tieW ++ [tieW t]))) (st1.length + 1) = some ((told ++ [t]).map tieW) := by rw [lstAt_set (lst_lt hff)]; simp
    have hs5 : Spots (st4.set (st1.length + 1) (O.lst (told.map tieW ++ [tieW t]))) d other := hsp.ch (ms := [st1.length + 1]) (Ch.refl.set (.inl (by simp))) (by simp; omega)
    generalize (st4.set (st1.length + 1) (O.lst (told.map tieW ++ [tieW t]))) = st5 at c5 hp5 hf5 hs5 ⊢
    have l2 : i + 1 < row'.length := (List.getElem?_eq_some_iff.mp h2).1
    have i0 : ixN row'.length (i : Int) = some i := ixN_cast (by omega)
    have i1 : ixN row'.length ((i : Int) + 1) = some (i + 1) := ixN_cast (n := row'.length) (j := i + 1) l2
    simp [B_crossings_2, hp5, iw_at, h1, h2, i0, i1, lstAt_set (lst_lt hp5), iw_set, set_swap h1 h2]
    refine ⟨sizeL (by omega), ?_⟩
    have c6 : Ch [] st (st5.set st1.length (O.lst (iw (swapAt row' i)))) := c5.set (.inr (by have := c1.len; omega))
    have hp6 : lstAt (st5.set st1.length (O.lst (iw (swapAt row' i)))) st1.length = some (iw (swapAt row' i)) := lstAt_set (lst_lt hp5)
    have hf6 : lstAt (st5.set st1.length (O.lst (iw (swapAt row' i)))) (st1.length + 1) = some ((told ++ [t]).map tieW) := by rw [lstAt_ne (by omega)]; exact hf5
    have hs6 : Spots (st5.set st1.length (O.lst (iw (swapAt row' i)))) d other := hs5.ch (ms := [st1.length]) (Ch.refl.set (.inl (by simp))) (by simp; omega)
    generalize (st5.set st1.length (O.lst (iw (swapAt row' i)))) = st6 at c6 hp6 hf6 hs6 ⊢
    have sp := swap_perm h1 h2
    simp [B_crossings_1]
    refine ⟨_, _, swapAt row' i, other, rfl, hp6, hs6, sp.trans hp', by rw [(sp.trans hp').length_eq, ← hp.length_eq]; exact hl, fun st7 s7 c7 h7 _ => ?_⟩
    exact T.nx _ _ ⟨_, by rw [ic_swapAt h1 h2 h3]; exact Nat.lt_succ_self _, swapAt row' i, told ++ [t], s7, _, _, rfl, rfl, by rw [← ht, cross_some e]; simp, sp.trans hp', c6.trans c7, c7.l0 hp6, c7.l0 hf6, h7, hs6.c0 c7⟩
/-! ### the law's own -/
theorem iw_inj {a b : List Int} (h : iw a = iw b) : a = b := by
  have := congrArg (List.map fun w : W => match w with | .int i => i | _ => 0) h
  simpa [iw, List.map_map, Function.comp_def] using this
theorem x_indexI {n : Nat} {st : Sto} {P : PW_} {i : Int} {ns : List Int} (h : lstAt st n = some (iw ns)) : mIndex (.ref n) [.int i] st P = (i ∈ ns ∧ P (.int (ix ns i : Nat)) st) := by
  rw [x_index, h]
  refine propext ⟨fun ⟨ms, e, h1, h2⟩ => ?_, fun ⟨h1, h2⟩ => ⟨ns, rfl, h1, h2⟩⟩
  have : ns = ms := iw_inj (Option.some.inj e)
  subst this
  exact ⟨h1, h2⟩
theorem cut1W {α : Type} (xs : List α) : cutW xs (some 1) none = xs.drop 1 := by
  unfold cutW
  rw [show HT.sIx xs.length 0 (some 1) = min 1 xs.length from HT.sIx_nat xs.length 0 1, HT.sIx_none]
  cases xs with
  | nil => rfl
  | cons x r =>
    have : min 1 (x :: r).length = 1 := by simp
    rw [this]
    simp
theorem eqvAll_map {α : Type} [DecidableEq α] {d : α → PyData} (h : ∀ a b, PyData.eqv (d a) (d b) = decide (a = b)) : ∀ l m : List α, PyData.eqvAll (l.map d) (m.map d) = decide (l = m)
  | [], [] => rfl
  | [], _ :: _ => rfl
  | _ :: _, [] => rfl
  | a :: l, b :: m => by
    rw [List.map_cons, List.map_cons, PyData.eqvAll, h, eqvAll_map h l m, Bool.eq_iff_iff]
    simp
theorem eqv_list {α : Type} [DecidableEq α] {d : α → PyData} (h : ∀ a b, PyData.eqv (d a) (d b) = decide (a = b)) (l m : List α) : PyData.eqv (.list (l.map d)) (.list (m.map d)) = decide (l = m) := by
  rw [PyData.eqv, eqvAll_map h]
theorem ne_lists {α : Type} [DecidableEq α] {g : α → W} {d : α → PyData} (hd : ∀ (st : Sto) a, dat st 39 (g a) = some (d a)) (he : ∀ a b, PyData.eqv (d a) (d b) = decide (a = b)) {st : Sto} {P : PW_} {n m : Nat} {l k : List α}
    (h1 : lstAt st n = some (l.map g)) (h2 : lstAt st m = some (k.map g)) (hP : P (.bl (!decide (l = k))) st) : kNe (.ref n) (.ref m) st P := by
  refine ⟨.list (l.map d), .list (k.map d), ?_, ?_, by rw [eqv_list he]; exact hP⟩
  · show (match lstAt st n with | some ws => (datL (dat st 39) ws).map PyData.list | none => none) = _
    rw [h1]; show (datL (dat st 39) (l.map g)).map _ = _; rw [datL_map (hd st)]; rfl
  · show (match lstAt st m with | some ws => (datL (dat st 39) ws).map PyData.list | none => none) = _
    rw [h2]; show (datL (dat st 39) (k.map g)).map _ = _; rw [datL_map (hd st)]; rfl
theorem eq_lists {α : Type} [DecidableEq α] {g : α → W} {d : α → PyData} (hd : ∀ (st : Sto) a, dat st 39 (g a) = some (d a)) (he : ∀ a b, PyData.eqv (d a) (d b) = decide (a = b)) {st : Sto} {P : PW_} {n m : Nat} {l k : List α}
    (h1 : lstAt st n = some (l.map g)) (h2 : lstAt st m = some (k.map g)) (hP : P (.bl (decide (l = k))) st) : kEq (.ref n) (.ref m) st P := by
  refine ⟨.list (l.map d), .list (k.map d), ?_, ?_, by rw [eqv_list he]; exact hP⟩
  · show (match lstAt st n with | some ws => (datL (dat st 39) ws).map PyData.list | none => none) = _
    rw [h1]; show (datL (dat st 39) (l.map g)).map _ = _; rw [datL_map (hd st)]; rfl
  · show (match lstAt st m with | some ws => (datL (dat st 39) ws).map PyData.list | none => none) = _
    rw [h2]; show (datL (dat st 39) (k.map g)).map _ = _; rw [datL_map (hd st)]; rfl
theorem x_neTie {s t : Tie} {st : Sto} {P : PW_} (h : P (.bl (!decide (s = t))) st) : kNe (tieW s) (tieW t) st P := ⟨_, _, dat_tie s, dat_tie t, by rw [eqv_ti]; exact h⟩
theorem keeps__law_least : Keeps 5 S__law_least B__law_least := by
  rintro ws st P ⟨r, q, row, other, rfl, hr, hq, hp, hl, h⟩
  simp [B__law_least, B__law_least_3, startE]
  simp [lstAt_app' hr]
  refine lp_zip (ws := iw row) (us := iw (row.drop 1)) (fun i en st' => ∃ x y, en = [some (.ref r), some (.ref q), some (.ref st.length), x, y] ∧ st' = st ++ [.lst ((((List.range i).filterMap (nbAt (ix other) row)).map Prod.fst).map tieW), .lst (iw (row.drop 1))])
    (fun i en st' ⟨x, y, _, e⟩ => by subst e; exact ⟨lstAt_app' hr, by simp [lstAt]⟩) ⟨_, _, rfl, by simp [cut1W, iw, List.map_drop]⟩ ?_ ?_
  · rintro i w u en st' D' h1 h2 ⟨x, y, rfl, rfl⟩ T
    rw [iw_at] at h1 h2
    obtain ⟨a, ha, rfl⟩ := Option.map_eq_some_iff.mp h1
    obtain ⟨b, hb, rfl⟩ := Option.map_eq_some_iff.mp h2
    have hb' : row[i + 1]? = some b := by rw [List.getElem?_drop, Nat.add_comm] at hb; exact hb
    have ma : a ∈ other := hp.mem_iff.mp (List.mem_of_getElem? ha)
    have mb : b ∈ other := hp.mem_iff.mp (List.mem_of_getElem? hb')
    have il : i < row.length := (List.getElem?_eq_some_iff.mp ha).1
    have en : nbAt (ix other) row i = if ix other b < ix other a then some (tieOf a b, i) else none := by unfold nbAt; rw [ha, hb']
    have hn := nb_len (ix other) row i
    have tn := fun x y => T.nx _ _ ⟨x, y, rfl, rfl⟩
    rw [List.range_succ, List.filterMap_append, List.filterMap_cons, List.filterMap_nil, en] at tn
    simp [B__law_least_1, x_indexI (lstAt_app' hq), lstAt_app' hq, ma, mb, -x_index]
    have l0 : ∀ a b : O, lstAt (st ++ [a, b]) st.length = lstAt [a] 0 := by intro a b; simp [lstAt]
    split
    · rename_i hlt
      rw [if_pos hlt] at tn
      simp [tieW, tieOf] at tn
      simp [l0, lstAt]
      exact ⟨sizeL (by omega), sizeLt (by omega), tn _ _⟩
    · rename_i hlt
      rw [if_neg hlt] at tn
      simp at tn
      exact tn _ _
  · rintro en st' ⟨x, y, rfl, rfl⟩
    have em : min (iw row).length (iw (row.drop 1)).length = row.length - 1 := by simp
    rw [em]
    have e0 : (List.range (row.length - 1)).filterMap (nbAt (ix other) row) = nb (ix other) row := rfl
    rw [e0]
    have hs : lstAt (st ++ [O.lst (((nb (ix other) row).map Prod.fst).map tieW), O.lst (iw (row.drop 1))]) st.length = some (((nb (ix other) row).map Prod.fst).map tieW) := by simp [lstAt]
    have c1 : Ch [] st (st ++ [O.lst (((nb (ix other) row).map Prod.fst).map tieW), O.lst (iw (row.drop 1))]) := Ch.refl.app _
    generalize (st ++ [O.lst (((nb (ix other) row).map Prod.fst).map tieW), O.lst (iw (row.drop 1))]) = st1 at hs c1 ⊢
    simp [B__law_least_2]
    refine ne_lists (α := Tie) (k := []) (fun st a => dat_tie a) eqv_ti (lstAt_app' hs) lstAt_new ?_
    cases e : nb (ix other) row with
    | nil =>
      rw [e] at h
      have h2 := h _ (c1.app [O.lst []])
      simp
      exact h2
    | cons y ys =>
      simp
      refine best_of tdW_inj (fun st a => dat_tie a) alike_ti (fun a z => by cases z) lt_ti (m := (leastBy ltT y ys).1) (lstAt_app' hs) ?_ ?_
      · rw [least_fst, e]; rfl
      · rw [e] at h
        exact h _ (c1.app _)
theorem keeps__law_walked : Keeps 6 S__law_walked B__law_walked := by
  rintro ws st P ⟨r, q, row, ts, row', rfl, hr, hq, nd, hl, hg, h⟩
  simp [B__law_walked, B__law_walked_4, startE, hr, lstAt_app' hq]
  refine lp_lst (ws := ts.map tieW) (fun i en st' => ∃ rowi x y z, en = [some (.ref r), some (.ref q), some (.ref st.length), x, y, z] ∧ Goes rowi (ts.drop i) row' ∧ rowi.Nodup ∧ Ch [] st st' ∧ lstAt st' st.length = some (iw rowi))
    (fun i en st' ⟨_, _, _, _, _, _, _, c, _⟩ => c.l0 hq) ⟨row, _, _, _, rfl, hg, nd, Ch.refl.app _, lstAt_new⟩ ?_ ?_
  · rintro i w en st' D' hw ⟨rowi, x, y, z, rfl, hgi, ndi, c, hrow⟩ T
    rw [List.getElem?_map] at hw
    obtain ⟨t, ht, rfl⟩ := Option.map_eq_some_iff.mp hw
    obtain ⟨til, hte⟩ := List.getElem?_eq_some_iff.mp ht
    rw [List.drop_eq_getElem_cons til, hte] at hgi
    obtain ⟨j, a, b, h1, h2, h3, hgo⟩ := hgi
    have ha : a ∈ rowi := List.mem_of_getElem? h1
    have hb : b ∈ rowi := List.mem_of_getElem? h2
    have ea := ix_at ndi h1
    have eb := ix_at ndi h2
    have l2 : j + 1 < rowi.length := (List.getElem?_eq_some_iff.mp h2).1
    have i0 : ixN rowi.length (j : Int) = some j := ixN_cast (by omega)
    have i1 : ixN rowi.length ((j : Int) + 1) = some (j + 1) := ixN_cast (n := rowi.length) (j := j + 1) l2
    have hab : a ≠ b := by rintro rfl; omega
    have sp := swap_perm h1 h2
    have fin : ∀ x y z, D'.nx [some (.ref r), some (.ref q), some (.ref st.length), x, y, z] (st'.set st.length (O.lst (iw (swapAt rowi j)))) := fun x y z =>
      T.nx _ _ ⟨swapAt rowi j, x, y, z, rfl, hgo, sp.nodup_iff.mpr ndi, c.set (.inr (Nat.le_refl _)), lstAt_set (lst_lt hrow)⟩
    subst h3
    by_cases hlt : b < a
    · have e1 : tieOf a b = (b, a) := by have : ¬ b > a := by omega
                                         simp [tieOf, hlt, this]
      rw [e1]
      have sw : (rowi.set (j + 1) a).set j b = swapAt rowi j := by rw [← set_swap h1 h2, List.set_comm _ _ (by omega)]
      simp [B__law_walked_3, tieW, x_indexI hrow, ha, hb, ea, eb, hrow, -x_index]
      have n1 : ¬ a ≤ b := by omega
      have n2 : ¬ ((j : Int) + 1 - j < 0) := by omega
      have n3 : (j : Int) + 1 - j = 1 := by omega
      simp [B__law_walked_2, n1, n2, n3]
      simp [B__law_walked_1, hrow, iw_at, h1, h2, i0, i1, lstAt_set (lst_lt hrow), iw_set, sw]
      exact ⟨sizeL (by omega), fin _ _ _⟩
    · have e1 : tieOf a b = (a, b) := by have : b > a := by omega
                                         simp [tieOf, hlt, this]
      rw [e1]
      simp [B__law_walked_3, tieW, x_indexI hrow, ha, hb, ea, eb, hrow, -x_index]
      have n1 : ¬ b ≤ a := by omega
      have n2 : ((j : Int) - (j + 1) < 0) := by omega
      have n3 : -((j : Int) - (j + 1)) = 1 := by omega
      simp [B__law_walked_2, n1, n2, n3]
      simp [B__law_walked_1, hrow, iw_at, h1, h2, i0, i1, lstAt_set (lst_lt hrow), iw_set, set_swap h1 h2]
      exact ⟨sizeL (by omega), fin _ _ _⟩
  · rintro en st' ⟨rowi, x, y, z, rfl, hgi, ndi, c, hrow⟩
    rw [List.length_map, List.drop_length] at hgi
    cases hgi
    simp
    exact h _ _ c hrow (Nat.le_refl _)
theorem keeps__law_right : Keeps 5 S__law_right B__law_right := by
  rintro ws st P ⟨r, q, p, row, other, rfl, hr, hq, hp, nd, hl, hc, h⟩
  simp [B__law_right, B__law_right_3, startE, hr, lstAt_app' hc]
  refine lp_lst (ws := (cross (ix other) row).map tieW) (fun i en st' => ∃ rowi s x, en = [some (.ref r), some (.ref q), some (.ref p), some (.ref s), x] ∧ (cross (ix other) row).drop i = cross (ix other) rowi ∧ rowi.Perm other ∧ Ch [] st st' ∧ lstAt st' s = some (iw rowi))
    (fun i en st' ⟨_, _, _, _, _, _, c, _⟩ => c.l0 hc) ⟨row, _, _, rfl, rfl, hp, Ch.refl.app _, lstAt_new⟩ ?_ ?_
  · rintro i w en st' D' hw ⟨rowi, s, x, rfl, hd, hpi, c, hrow⟩ T
    rw [List.getElem?_map] at hw
    obtain ⟨t, ht, rfl⟩ := Option.map_eq_some_iff.mp hw
    obtain ⟨til, hte⟩ := List.getElem?_eq_some_iff.mp ht
    rw [List.drop_eq_getElem_cons til, hte] at hd
    simp [B__law_right_2]
    refine ⟨_, _, rowi, other, rfl, hrow, c.l0 hq, hpi, by rw [hpi.length_eq, ← hp.length_eq]; exact hl, fun st2 c2 => ?_⟩
    cases e : leastO ltT (nb (ix other) rowi) with
    | none =>
      have e0 : nb (ix other) rowi = [] := by
        cases e2 : nb (ix other) rowi with
        | nil => rfl
        | cons x xs => rw [e2] at e; cases e
      rw [cross_none e0] at hd
      cases hd
    | some ti =>
      obtain ⟨t', j⟩ := ti
      rw [cross_some e] at hd
      injection hd with hd1 hd2
      subst hd1
      obtain ⟨a, b, h1, h2, h3, h4⟩ := least_nb e
      refine x_neTie ?_
      simp [B__law_right_1]
      have hs2 := c2.l0 hrow
      refine ⟨sizeL (by omega), _, _, rowi, [t], swapAt rowi j, rfl, lstAt_app' hs2, lstAt_new, hpi.nodup_iff.mpr nd, by simp, ⟨j, a, b, h1, h2, h4, rfl⟩, fun st3 p3 c3 h3 _ => ?_⟩
      exact T.nx _ _ ⟨swapAt rowi j, p3, _, rfl, hd2, (swap_perm h1 h2).trans hpi, (c.trans c2).trans ((Ch.refl.app _).trans c3), h3⟩
  · rintro en st' ⟨rowi, s, x, rfl, hd, hpi, c, hrow⟩
    rw [List.length_map, List.drop_length] at hd
    have e0 : nb (ix other) rowi = [] := by
      cases e : leastO ltT (nb (ix other) rowi) with
      | none =>
        cases e2 : nb (ix other) rowi with
        | nil => rfl
        | cons x xs => rw [e2] at e; cases e
      | some ti => rw [cross_some (t := ti.1) (i := ti.2) e] at hd; cases hd
    have := sorted_row nd hpi e0
    subst this
    simp
    refine eq_lists (α := Int) (g := .int) (d := .int) (fun st a => dat_int) (fun a b => eqv_int) hrow (c.l0 hq) ?_
    simpa using h st' c
end AL
namespace AL
open PySem PySem.Spec PyProof.Rows L2
theorem reverse_perm_ups {l : List Int} {m : Nat} (h : l.Perm (ups m)) : l.reverse.Perm (ups m) := (List.reverse_perm l).trans h
theorem Lf.ch {st st' : Sto} {n : Nat} {B : Int} {ms : List Nat} (h : Lf st n B) (c : Ch ms st st') (z : n ∉ ms) : Lf st' n B := by
  obtain ⟨a, b, d, hl, r⟩ := h
  exact ⟨a, b, d, c.lst hl z, r⟩
theorem Lf.c0 {st st' : Sto} {n : Nat} {B : Int} (h : Lf st n B) (c : Ch [] st st') : Lf st' n B := h.ch c (by simp)
theorem Lf.le {st : Sto} {n : Nat} {B B' : Int} (h : Lf st n B) (l : B ≤ B') : Lf st n B' := by
  obtain ⟨a, b, d, hl, r1, r2, r3⟩ := h
  exact ⟨a, b, d, hl, r1, r2, by omega⟩
theorem Lf.lt {st : Sto} {n : Nat} {B : Int} (h : Lf st n B) : n < st.length := by
  obtain ⟨a, b, d, hl, r⟩ := h
  exact lst_lt hl
theorem cons_c {w : W} {l : CA} {en : En} {st : Sto} {P : List W → Sto → Prop} (h : l en st fun xs st1 => P (w :: xs) st1) : cCons (cC w) l en st P := h
theorem keeps__law_two_rows : Keeps 7 S__law_two_rows B__law_two_rows := by
  rintro ws st P ⟨n, B, rfl, hL, hB, h⟩
  simp only [B__law_two_rows, x_seq, x_set, x_op, x_call, startE]
  iterate 11 refine cons_c ?_
  simp only [x_cons, x_op, x_call, x_c, x_nil, x_var]
  refine ⟨_, rfl, ?_⟩
  refine S__law_pick_of hL (by omega) (by omega) (by omega) fun d1 st1 hd1 hL1 c1 len1 => ?_
  simp only [x_add, x_lst, x_var]
  refine ⟨sizeL (by simp), _, rfl, ?_⟩
  have c2 : Ch [] st1 (st1 ++ [O.lst [W.int 0, W.int 1, W.int 2, W.int 3, W.int 4, W.int 5, W.int 6, W.int 7, W.int 8, W.int 5, W.int 6, W.int (9 + d1)]]) := Ch.refl.app _
  have hk : ∃ ks : List Nat, ks.length = 12 ∧ (∀ k ∈ ks, k ≤ 12) ∧ lstAt (st1 ++ [O.lst [W.int 0, W.int 1, W.int 2, W.int 3, W.int 4, W.int 5, W.int 6, W.int 7, W.int 8, W.int 5, W.int 6, W.int (9 + d1)]]) st1.length = some (ks.map fun k : Nat => W.int k) := by
    refine ⟨[0, 1, 2, 3, 4, 5, 6, 7, 8, 5, 6, 9 + d1], rfl, ?_, by simp [lstAt]⟩
    intro k hk
    simp at hk
    omega
  generalize (st1 ++ [O.lst [W.int 0, W.int 1, W.int 2, W.int 3, W.int 4, W.int 5, W.int 6, W.int 7, W.int 8, W.int 5, W.int 6, W.int (9 + d1)]]) = st2 at c2 hk ⊢
  obtain ⟨ks, kl, km, hk⟩ := hk
  refine S__law_pick_of (hL1.c0 c2) (by omega) (by omega) (by omega) fun d2 st3 hd2 hL3 c3 len3 => ?_
  have hk3 := c3.lst hk (by have := hL1.lt; simp; omega)
  have d2l : d2 < ks.length := by omega
  have cA : Ch [n] st st3 := (c1.trans c2.none).trans c3
  simp only [x_ixR, hk3]
  refine ⟨_, W.int (ks[d2] : Nat), rfl, by simp [d2l], ?_⟩
  have hm : ks[d2] ≤ 12 := km _ (List.getElem_mem d2l)
  generalize ks[d2] = m at hm
  have ln3 : st.length ≤ st3.length := cA.len
  have hL3 : Lf st3 n (B + 2) := hL3.le (by omega)
  clear hk3 hk c2 c3 len3 c1 hL1 hL
  simp [B__law_two_rows_10]
  refine ⟨_, m, _, rfl, hL3, by omega, by omega, fun one st4 hone hL4 c4 h4 => ?_⟩
  have hL4 : Lf st4 n (B + 14) := hL4.le (by omega)
  have cB : Ch [n] st st4 := cA.trans c4
  simp [B__law_two_rows_9]
  refine S__law_pick_of hL4 (by omega) (by omega) (by omega) fun d5 st5 hd5 hL5 c5 len5 => ?_
  have p3 : st3.length ≠ n := by have := hL3.lt; omega
  have h5 := c5.lst h4 (by simpa using p3)
  have cC : Ch [n] st st5 := cB.trans c5
  simp [B__law_two_rows_8, h5]
  split
  · refine ⟨sizeL (by omega), ?_⟩
    exact h m one one _ st3.length st5.length hm hone hone ((hL5.c0 (Ch.refl.app _)).le (by omega)) (cC.app _) (lstAt_app' h5) lstAt_new ln3 cC.len
  · simp [B__law_two_rows_7, h5]
    split
    · refine ⟨sizeL (by omega), ?_⟩
      exact h m one one.reverse _ st3.length st5.length hm hone (reverse_perm_ups hone) ((hL5.c0 (Ch.refl.app _)).le (by omega)) (cC.app _) (lstAt_app' h5) (by simp [lstAt, iw]) ln3 cC.len
    · simp [B__law_two_rows_6, h5]
      split
      · refine ⟨_, m, _, rfl, hL5, by omega, by omega, fun two st6 htwo hL6 c6 h6 => ?_⟩
        simp
        refine ⟨sizeL (by omega), ?_⟩
        exact h m one two _ st3.length st5.length hm hone htwo (hL6.le (by omega)) (cC.trans c6) (c6.lst h5 (by simpa using p3)) h6 ln3 cC.len
      · simp [B__law_two_rows_5, h5]
        have h6 : lstAt (st5 ++ [O.lst (iw one)]) st3.length = some (iw one) := lstAt_app' h5
        have k6 : lstAt (st5 ++ [O.lst (iw one)]) st5.length = some (iw one) := lstAt_new
        have hL6 : Lf (st5 ++ [O.lst (iw one)]) n (B + 15) := (hL5.c0 (Ch.refl.app _)).le (by omega)
        have c6 : Ch [n] st (st5 ++ [O.lst (iw one)]) := cC.app _
        have q35 : st3.length < st5.length := lst_lt h5
        have qn : st5.length ≠ n := by have := hL5.lt; omega
        have ln5 : st.length ≤ st5.length := cC.len
        generalize st5.length = q at k6 q35 qn ln5 ⊢
        generalize (st5 ++ [O.lst (iw one)]) = st6 at h6 k6 hL6 c6 ⊢
        simp [B__law_two_rows_4]
        refine S__law_pick_of hL6 (by omega) (by omega) (by omega) fun d7 st7 hd7 hL7 c7 len7 => ?_
        have h7 := c7.lst h6 (by simpa using p3)
        have k7 := c7.lst k6 (by simpa using qn)
        have c8 := c6.trans c7
        simp [CMul]
        obtain ⟨z, hz, hb⟩ : ∃ z : Int, (if (1 : Int) < m then (1 : Int) else 0) = z ∧ (z = 0 ∨ (z = 1 ∧ 1 < m)) := by
          by_cases hm1 : (1 : Int) < m
          · exact ⟨1, if_pos hm1, .inr ⟨rfl, by omega⟩⟩
          · exact ⟨0, if_neg hm1, .inl rfl⟩
        rw [hz]
        obtain ⟨turns, ht, hturn⟩ : ∃ turns : Nat, z * (1 + (d7 : Int)) = turns ∧ (turns ≤ 3 ∧ (0 < turns → 1 < m)) := by
          rcases hb with rfl | ⟨rfl, hm1⟩
          · exact ⟨0, by simp, by omega, by omega⟩
          · exact ⟨1 + d7, by simp, by omega, fun _ => hm1⟩
        rw [ht]
        refine ⟨by omega, by omega, by omega, ?_⟩
        rw [Int.toNat_natCast]
        refine lp_rng (fun i en st' => ∃ rowi x y, en = [some (.ref n), some (.int m), some (.ref st3.length), some (.int d5), some (.ref q), x, y] ∧ rowi.Perm (ups m) ∧ Lf st' n (B + 20 + i) ∧ Ch [n] st st' ∧ lstAt st' st3.length = some (iw one) ∧ lstAt st' q = some (iw rowi))
          ⟨one, _, _, rfl, hone, hL7.le (by simp; omega), c8, h7, k7⟩ ?_ ?_
        · rintro i en st9 D' hi ⟨rowi, x, y, rfl, hpi, hL9, c9, h9, k9⟩ T
          have hm1 := hturn.2 (by omega)
          simp [B__law_two_rows_2]
          refine S__law_pick_of hL9 (by omega) (by omega) (by omega) fun at_ st10 ha hL10 c10 len10 => ?_
          have h10 := c10.lst h9 (by simpa using p3)
          have k10 := c10.lst k9 (by simpa using qn)
          have c11 := c9.trans c10
          have hlen := perm_len hpi
          have l2 : at_ + 1 < rowi.length := by omega
          have h1 : rowi[at_]? = some (rowi[at_]'(by omega)) := List.getElem?_eq_getElem _
          have h2 : rowi[at_ + 1]? = some (rowi[at_ + 1]'(by omega)) := List.getElem?_eq_getElem _
          generalize rowi[at_]'(by omega) = a at h1
          generalize rowi[at_ + 1]'(by omega) = b at h2
          have i0 : ixN rowi.length (at_ : Int) = some at_ := ixN_cast (by omega)
          have i1 : ixN rowi.length ((at_ : Int) + 1) = some (at_ + 1) := ixN_cast (n := rowi.length) (j := at_ + 1) l2
          simp [B__law_two_rows_1, k10, iw_at, h1, h2, i0, i1, lstAt_set (lst_lt k10), iw_set, set_swap h1 h2]
          refine ⟨sizeL (by omega), T.nx _ _ ⟨swapAt rowi at_, _, _, rfl, (swap_perm h1 h2).trans hpi, ?_, c11.set (.inr ln5), ?_, lstAt_set (lst_lt k10)⟩⟩
          · exact (hL10.ch (ms := [q]) (Ch.refl.set (.inl (by simp))) (by simpa using Ne.symm qn)).le (by push_cast; omega)
          · rw [lstAt_ne (by omega)]; exact h10
        · rintro en st9 ⟨rowi, x, y, rfl, hpi, hL9, c9, h9, k9⟩
          simp [B__law_two_rows_3]
          exact ⟨sizeL (by omega), h m one rowi _ _ _ hm hone hpi (hL9.le (by omega)) c9 h9 k9 ln3 ln5⟩
end AL
namespace AL
open PySem PySem.Spec PyProof.Rows L2
/-- rows by a list of lists -/
structure Rws (st : Sto) (n sm d : Nat) (refs : List Nat) (rows : List (List Int)) : Prop where
  at_ : lstAt st sm = some (refs.map W.ref)
  row : Paired (fun p row => lstAt st p = some (iw row) ∧ row.Perm (ups d)) refs rows
  ne : sm ≠ n ∧ n ∉ refs
theorem Rws.ch {st st' : Sto} {n sm d : Nat} {refs : List Nat} {rows : List (List Int)} (R : Rws st n sm d refs rows) (c : Ch [n] st st') : Rws st' n sm d refs rows :=
  ⟨c.lst R.at_ (by simpa using R.ne.1), paired_mem R.row fun p row m h => ⟨c.lst h.1 (by rw [List.mem_singleton]; rintro rfl; exact R.ne.2 m), h.2⟩, R.ne⟩
theorem Rws.get {st : Sto} {n sm d : Nat} {refs : List Nat} {rows : List (List Int)} (R : Rws st n sm d refs rows) {i : Nat} (h : i < refs.length) : ∃ p, refs[i]? = some p ∧ lstAt st p = some (iw (rows.getD i [])) ∧ (rows.getD i []).Perm (ups d) := by
  have hl : refs.length = rows.length := R.row.length
  have h1 := List.getElem?_eq_getElem h
  have h2 := List.getElem?_eq_getElem (hl ▸ h)
  obtain ⟨a, b⟩ := paired_at R.row h1 h2
  have e : rows.getD i [] = rows[i]'(hl ▸ h) := by simp [hl ▸ h]
  rw [e]
  exact ⟨_, h1, a, b⟩
theorem Rws.chm {ms : List Nat} {st st' : Sto} {n sm d : Nat} {refs : List Nat} {rows : List (List Int)} (R : Rws st n sm d refs rows) (c : Ch ms st st') (h1 : sm ∉ ms) (h2 : ∀ p ∈ refs, p ∉ ms) : Rws st' n sm d refs rows :=
  ⟨c.lst R.at_ h1, paired_mem R.row fun p row m h => ⟨c.lst h.1 (h2 p m), h.2⟩, R.ne⟩
theorem Rws.lt {st : Sto} {n sm d : Nat} {refs : List Nat} {rows : List (List Int)} (R : Rws st n sm d refs rows) : sm < st.length ∧ ∀ p ∈ refs, p < st.length := by
  refine ⟨lst_lt R.at_, fun p hp => ?_⟩
  obtain ⟨i, hi, rfl⟩ := List.getElem_of_mem hp
  obtain ⟨q, h1, h2, _⟩ := R.get hi
  rw [List.getElem?_eq_getElem hi] at h1
  cases h1
  exact lst_lt h2
theorem Rws.c0 {st st' : Sto} {n sm d : Nat} {refs : List Nat} {rows : List (List Int)} (R : Rws st n sm d refs rows) (c : Ch [] st st') : Rws st' n sm d refs rows := R.ch c.none
/-- how many exchanges from the i-th row to the j-th -/
def cn (rows : List (List Int)) (i j : Nat) : Nat := (cross (ix (rows.getD j [])) (rows.getD i [])).length
theorem cn_inv {rows : List (List Int)} {d i j : Nat} (h1 : (rows.getD i []).Perm (ups d)) (h2 : (rows.getD j []).Perm (ups d)) : cn rows i j = (invL d (ix (rows.getD i [])) (ix (rows.getD j []))).length := (cross_perm h1 h2).length_eq
theorem nodup_ups {row : List Int} {d : Nat} (h : row.Perm (ups d)) : row.Nodup := h.nodup_iff.mpr (ups_nodup d)
theorem ix_map {nm : Int → Int} : ∀ {row : List Int} {x : Int}, (∀ a ∈ row, ∀ b ∈ row, nm a = nm b → a = b) → x ∈ row → ix (row.map nm) (nm x) = ix row x
  | [], _, _, h => by cases h
  | a :: r, x, inj, h => by
    unfold ix
    rw [List.map_cons, List.idxOf_cons, List.idxOf_cons]
    by_cases e : a = x
    · subst e; simp
    · have e2 : ¬ nm a = nm x := fun z => e (inj a List.mem_cons_self x h z)
      have hx : x ∈ r := by
        rcases List.mem_cons.mp h with rfl | h
        · exact absurd rfl e
        · exact h
      have ih := ix_map (row := r) (x := x) (fun a ha b hb => inj a (List.mem_cons_of_mem _ ha) b (List.mem_cons_of_mem _ hb)) hx
      unfold ix at ih
      have b1 : (nm a == nm x) = false := by simpa using e2
      have b2 : (a == x) = false := by simpa using e
      rw [b1, b2, ih]
theorem cross_ren {a b : List Int} {nm : Int → Int} (hp : a.Perm b) (inj : ∀ x ∈ b, ∀ y ∈ b, nm x = nm y → x = y) : (cross (ix (b.map nm)) (a.map nm)).length = (cross (ix b) a).length := by
  rw [cross_len, cross_len, List.map_map]
  congr 1
  refine List.map_congr_left fun x hx => ?_
  exact ix_map inj (hp.mem_iff.mp hx)
/-- the first rows, drawn -/
theorem bt_first {n : Nat} {B : Int} {st : Sto} {D : AEnds} (hL : Lf st n B) (hB : B < 2 ^ 38)
    (h : ∀ st' sm d refs rows, d < 8 → refs.length = 3 → Rws st' n sm d refs rows → Lf st' n (B + 30) → Ch [n] st st' → B__law_by_turns_12 D [some (.ref n), some (.ref sm), none, none, none, none, none, none, none, none, none, none, none] st') :
    B__law_by_turns D [some (.ref n), none, none, none, none, none, none, none, none, none, none, none, none] st := by
  simp [B__law_by_turns]
  refine S__law_pick_of hL (by omega) (by omega) (by omega) fun d st1 hd hL1 c1 len1 => ?_
  refine ⟨sizeL (by omega), sizeL (by omega), ?_⟩
  have hr : lstAt (st1 ++ [O.lst [W.int d], O.lst [W.int d, W.int d, W.int d]]) (st1.length + 1) = some [.int d, .int d, .int d] := by simp [lstAt]
  have c2 : Ch [] st1 (st1 ++ [O.lst [W.int d], O.lst [W.int d, W.int d, W.int d]]) := Ch.refl.app _
  rw [hr]
  have ln : n < st1.length := hL1.lt
  have rn : st1.length + 1 ≠ n := by omega
  generalize st1.length + 1 = r at hr rn ⊢
  generalize (st1 ++ [O.lst [W.int d], O.lst [W.int d, W.int d, W.int d]]) = st2 at hr c2 ⊢
  have rl := lst_lt hr
  have sn : st2.length ≠ n := by have := c2.len; omega
  show Lq _ _ _ _ _ _ _ _
  refine lq_of 3 (fun _ => .int d) (fun i st' => ∃ refs rows, refs.length = i ∧ lstAt st' r = some [.int d, .int d, .int d] ∧ lstAt st' st2.length = some (refs.map W.ref) ∧ Paired (fun p row => lstAt st' p = some (iw row) ∧ row.Perm (ups d)) refs rows ∧ n ∉ refs ∧ st2.length ∉ refs ∧ Lf st' n (B + 1 + i * 8) ∧ Ch [n] st st')
    ⟨[], [], rfl, lstAt_app' hr, lstAt_new, .nil, by simp, by simp, by simpa using (hL1.c0 c2).c0 (Ch.refl.app _), (c1.trans c2.none).app _⟩ (fun i st' hi hI => ?_) (fun st' hI => ?_) (fun i st' R R0 hi hI k1 _ => ?_) fun st' hI => ?_
  · obtain ⟨refs, rows, _, h1, _⟩ := hI
    simp [iLst, h1]
    obtain rfl | rfl | rfl : i = 0 ∨ i = 1 ∨ i = 2 := by omega
    all_goals rfl
  · obtain ⟨refs, rows, _, h1, _⟩ := hI
    simp [iLst, h1]
  · obtain ⟨refs, rows, hl, h1, h2, h3, h4, h4', h5, h6⟩ := hI
    simp [wipeE]
    refine ⟨n, d, _, rfl, h5, by omega, by omega, fun row st4 hrow hL4 c4 h7 => ?_⟩
    have g1 := c4.lst h1 (by simpa using rn)
    have g2 := c4.lst h2 (by simpa using sn)
    have s2l := lst_lt h2
    have cs : Ch [st2.length] st4 (st4.set st2.length (O.lst (refs.map W.ref ++ [W.ref st'.length]))) := Ch.refl.set (.inl (by simp))
    refine k1 _ _ _ g2 (sizeLt (by simp; omega)) ⟨refs ++ [st'.length], rows ++ [row], by simp [hl], cs.lst g1 (by simp; omega), ?_, ?_, ?_, ?_, ?_, ?_⟩
    · rw [lstAt_set (lst_lt g2)]; simp
    · refine paired_snoc ⟨cs.lst h7 (by simp; omega), hrow⟩ (paired_mem h3 fun p row m q => ⟨cs.lst (c4.lst q.1 ?_) ?_, q.2⟩)
      · rw [List.mem_singleton]; rintro rfl; exact h4 m
      · rw [List.mem_singleton]; rintro rfl; exact h4' m
    · have := h5.lt
      simp [h4]; omega
    · simp [h4']; omega
    · exact (hL4.ch cs (by simp; omega)).le (by push_cast; omega)
    · exact (h6.trans c4).set (.inr (by have := c1.len; have := c2.len; omega))
  · obtain ⟨refs, rows, hl, h1, h2, h3, h4, h4', h5, h6⟩ := hI
    exact h st' _ d refs rows (by omega) hl ⟨h2, h3, sn, h4⟩ (h5.le (by omega)) h6
theorem length_putW {κ : Type} [DecidableEq κ] (kvs : List (κ × W)) (k : κ) (v : W) : (putW kvs k v).length ≤ kvs.length + 1 := by
  unfold putW
  split
  · rw [List.length_map]; omega
  · simp
/-- what is told of the i-th row and the j-th -/
def crR (rows : List (List Int)) (i j : Nat) : List Tie := cross (ix (rows.getD j [])) (rows.getD i [])
def Good (st : Sto) (n : Nat) (rows : List (List Int)) (kvs : List (List Key × W)) : Prop := ∀ (i j : Nat) w, valW kvs [.inl i, .inl j] = some w → ∃ p, w = .ref p ∧ p ≠ n ∧ lstAt st p = some ((crR rows i j).map tieW)
theorem Good.ch {st st' : Sto} {n : Nat} {rows : List (List Int)} {kvs : List (List Key × W)} (g : Good st n rows kvs) (c : Ch [n] st st') : Good st' n rows kvs := fun i j w h => by
  obtain ⟨p, e, hp, hl⟩ := g i j w h
  exact ⟨p, e, hp, c.lst hl (by simpa using hp)⟩
theorem bt_turns {n sm d : Nat} {B : Int} {st : Sto} {D : AEnds} {refs : List Nat} {rows : List (List Int)} (hd8 : d < 8) (h3 : refs.length = 3) (R0 : Rws st n sm d refs rows) (hL0 : Lf st n B) (hB : B < 2 ^ 39)
    (h : ∀ st' f x3 x4 x5 x6, Rws st' n sm d refs rows → Lf st' n (B + 14) → Ch [n] st st' → B__law_by_turns_10 D [some (.ref n), some (.ref sm), some (.ref f), x3, x4, x5, x6, none, none, none, none, none, none] st') :
    B__law_by_turns_12 D [some (.ref n), some (.ref sm), none, none, none, none, none, none, none, none, none, none, none] st := by
  simp [B__law_by_turns_12, B__law_by_turns_11]
  refine lp_rng (fun i en st' => ∃ x3 x4 x5 x6 kvs, en = [some (.ref n), some (.ref sm), some (.ref st.length), x3, x4, x5, x6, none, none, none, none, none, none] ∧ Rws st' n sm d refs rows ∧ Lf st' n (B + 2 * i) ∧ Ch [n] st st' ∧ st'[st.length]? = some (.dT kvs) ∧ kvs.length ≤ i ∧ Good st' n rows kvs)
    ⟨_, _, _, _, [], rfl, R0.c0 (Ch.refl.app _), (hL0.c0 (Ch.refl.app _)).le (by omega), Ch.refl.app _, by simp, by simp, fun i j w h => by cases h⟩ ?_ ?_
  · rintro i en st1 D' hi ⟨x3, x4, x5, x6, kvs, rfl, R1, hL1, c1, hd1, hk1, g1⟩ T
    have fn : st.length ≠ n := by have := hL0.lt; omega
    simp [B__law_by_turns_5]
    refine S__law_pick_of hL1 (by omega) (by omega) (by omega) fun a st2 ha hL2 c2 len2 => ?_
    refine S__law_pick_of hL2 (by omega) (by omega) (by omega) fun b st3 hb hL3 c3 len3 => ?_
    have c23 := c2.trans c3
    have R3 := R1.ch c23
    have g3 := g1.ch c23
    have hd3 := c23.ob hd1 (by simpa using fn)
    have cA := c1.trans c23
    obtain ⟨p, hp1, hp2, hp3⟩ := R3.get (i := a) (by omega)
    obtain ⟨q, hq1, hq2, hq3⟩ := R3.get (i := b) (by omega)
    simp [B__law_by_turns_4, R3.at_, hp1, hq1]
    have hpq := hp3.trans hq3.symm
    have hlen : (rows.getD a []).length ≤ 1000 := by rw [perm_len hp3]; omega
    refine ⟨p, q, _, _, rfl, hp2, hq2, hpq, nodup_ups hq3, hlen, fun st4 t c4 h4 ht => ?_⟩
    have R4 := R3.c0 c4
    simp [B__law_by_turns_3, R4.at_, hp1, hq1]
    have tn : t ≠ n := by have := hL3.lt; omega
    refine ⟨p, t, _, _, rows.getD b [], rfl, c4.l0 hp2, h4, nodup_ups hp3, cross_short hlen, cross_goes (nodup_ups hq3) hpq, fun st5 w c5 h5 hw => ?_⟩
    have R5 := R4.c0 c5
    have h45 := c5.l0 h4
    have q5 := (c4.trans c5).l0 hq2
    simp [R5.at_, hq1]
    refine ne_lists (α := Int) (g := .int) (d := .int) (fun st a => dat_int) (fun a b => eqv_int) h5 q5 ?_
    have c35 := c4.trans c5
    have hd5 := c35.ob hd3 (by simp)
    have g5 := g3.ch c35.none
    simp [h45]
    have fl : st.length < st5.length := (List.getElem?_eq_some_iff.mp hd5).1
    refine ⟨⟨_, hd5, rfl⟩, sizeL (by omega), ?_⟩
    -- the end of the turn
    have fin : ∀ st6 kvs', Ch [st.length] st5 st6 → st6[st.length]? = some (.dT kvs') → kvs'.length ≤ i + 1 → Good st6 n rows kvs' → lstAt st6 t = some ((crR rows a b).map tieW) → (∀ (i j : Nat) w, valW kvs' [.inl i, .inl j] = some w → w ≠ .ref t) →
        B__law_by_turns_2 D' [some (.ref n), some (.ref sm), some (.ref st.length), some (.int (i : Nat)), some (.int a), some (.int b), some (.ref t), none, none, none, none, none, none] st6 := by
      intro st6 kvs' c6 hd6 hk6 g6 h6 hne
      have tf : t ≠ st.length := by rintro rfl; rw [lst_at h6] at hd6; cases hd6
      simp [B__law_by_turns_2, h6]
      have tl := lst_lt h6
      have ct : Ch [t] st6 (st6.set t (O.lst (((crR rows a b).map tieW).reverse))) := Ch.refl.set (.inl (by simp))
      have h7 : lstAt (st6.set t (O.lst (((crR rows a b).map tieW).reverse))) t = some ((crR rows a b).map tieW).reverse := lstAt_set tl
      have hcl : (crR rows a b).length ≤ 1000000 := cross_short hlen
      have hcl2 : (crR rows a b).length < sizeLine := sizeLt hcl
      rw [← List.map_reverse] at *
      simp [B__law_by_turns_1, lstAt_set tl, hcl2]
      refine ⟨sizeL (by omega), T.nx _ _ ⟨_, _, _, _, kvs', rfl, ?_, ?_, ?_, ?_, hk6, ?_⟩⟩
      · exact (R5.chm (ms := [st.length]) c6 (by simp; have := R0.lt.1; omega) fun p hp => by simp; have := R0.lt.2 p hp; omega).chm (ms := [t]) (Ch.refl.set (.inl (by simp))) (by simp; have := R3.lt.1; omega) fun p hp => by simp; have := R3.lt.2 p hp; omega
      · exact ((((hL3.c0 c35).ch (ms := [st.length]) c6 (by simpa using Ne.symm fn))).ch (ms := [t]) (Ch.refl.set (.inl (by simp))) (by simpa using Ne.symm tn)).le (by push_cast; omega)
      · exact ((cA.trans c35.none).trans' (ms' := [st.length]) c6 (by simp)).set (.inr (by have := cA.len; omega))
      · rw [List.getElem?_set_ne tf]; exact hd6
      · intro i j w hw
        obtain ⟨p, rfl, hp, hl⟩ := g6 i j w hw
        have := hne i j _ hw
        exact ⟨p, rfl, hp, by rw [lstAt_ne (by rintro rfl; exact this rfl)]; exact hl⟩
    have t3 : ∀ (kvs : List (List Key × W)) (g : Good st3 n rows kvs) (i j : Nat) w, valW kvs [.inl i, .inl j] = some w → w ≠ .ref t := by
      intro kvs g i j w hw
      obtain ⟨p, rfl, hp, hl⟩ := g i j w hw
      intro e
      cases e
      have := lst_lt hl
      omega
    have kk : toKeys (.tup [.int (a : Nat), .int (b : Nat)]) = some [.inl (a : Int), .inl (b : Int)] := rfl
    have nel : ∀ {st : Sto} {P : PW_} {p q : Nat} {l : List Tie}, lstAt st p = some (l.map tieW) → lstAt st q = some (l.map tieW) → P (.bl false) st → kNe (.ref p) (.ref q) st P := by
      intro st P p q l h1 h2 h3
      refine ne_lists (α := Tie) (fun st a => dat_tie a) eqv_ti h1 h2 ?_
      simpa using h3
    have c6 : Ch [] st5 (st5 ++ [O.lst ((cross (ix (rows.getD b [])) (rows.getD a [])).map tieW)]) := Ch.refl.app _
    refine ⟨st.length, _, _, rfl, rfl, .inr ⟨kvs, _, c6.ob hd5 (by simp), kk, sizeLt (by omega), ?_⟩⟩
    cases ev : valW kvs [.inl (a : Int), .inl (b : Int)] with
    | some w =>
      obtain ⟨p', rfl, hp', hl'⟩ := g5 a b w ev
      refine nel (c6.l0 hl') (c6.l0 h45) ?_
      simp
      exact fin _ kvs c6.none (c6.ob hd5 (by simp)) (by omega) (g5.ch c6.none) (c6.l0 h45) (t3 kvs g3)
    | none =>
      have cs : Ch [st.length] (st5 ++ [O.lst ((cross (ix (rows.getD b [])) (rows.getD a [])).map tieW)]) ((st5 ++ [O.lst ((cross (ix (rows.getD b [])) (rows.getD a [])).map tieW)]).set st.length (.dT (putW kvs [.inl (a : Int), .inl (b : Int)] (.ref st5.length)))) := Ch.refl.set (.inl (by simp))
      have h6 : lstAt (st5 ++ [O.lst ((cross (ix (rows.getD b [])) (rows.getD a [])).map tieW)]) st5.length = some ((cross (ix (rows.getD b [])) (rows.getD a [])).map tieW) := lstAt_new
      have tl := lst_lt h45
      have tf : t ≠ st.length := by rintro rfl; rw [lst_at h45] at hd5; cases hd5
      refine nel (cs.lst h6 (by simp; omega)) (cs.lst (c6.l0 h45) (by simpa using tf)) ?_
      simp
      refine fin _ _ (c6.none.trans cs) (by rw [List.getElem?_set_self (by simp; omega)]) (by have := length_putW kvs [.inl (a : Int), .inl (b : Int)] (.ref st5.length); omega) ?_ (cs.lst (c6.l0 h45) (by simpa using tf)) ?_
      · intro i j w hw
        rw [valW_put] at hw
        split at hw
        · rename_i e
          cases hw
          simp at e
          have e1 : i = a := by omega
          have e2 : j = b := by omega
          subst e1
          subst e2
          exact ⟨_, rfl, by have := hL3.lt; have := c35.len; omega, cs.lst h6 (by simp; omega)⟩
        · obtain ⟨p', rfl, hp', hl'⟩ := g5 i j w hw
          exact ⟨p', rfl, hp', cs.lst (c6.l0 hl') (by rintro e; rw [List.mem_singleton] at e; subst e; rw [lst_at hl'] at hd5; cases hd5)⟩
      · intro i j w hw
        rw [valW_put] at hw
        split at hw
        · cases hw
          intro e; cases e; omega
        · exact t3 kvs g3 i j w hw
  · rintro en st1 ⟨x3, x4, x5, x6, kvs, rfl, R1, hL1, c1, hd1, hk1, g1⟩
    exact h st1 _ x3 x4 x5 x6 R1 (hL1.le (by omega)) c1
end AL
namespace AL
open PySem PySem.Spec PyProof.Rows L2
theorem cutW_take {α : Type} (xs : List α) (k : Nat) : cutW xs none (some (k : Int)) = xs.take k := by
  unfold cutW
  rw [HT.sIx_nat, HT.sIx_none]
  simp [List.take_eq_take_iff]
def prs4 : List (Nat × Nat) := [(0, 1), (1, 2), (0, 2), (1, 0)]
theorem bt_ways {n sm d f : Nat} {B : Int} {st : Sto} {D : AEnds} {refs : List Nat} {rows : List (List Int)} {x3 x4 x5 x6 : Option W} (hd8 : d < 8) (h3 : refs.length = 3) (R0 : Rws st n sm d refs rows)
    (h : ∀ st' wy, Ch [] st st' → st.length ≤ wy → lstAt st' wy = some (prs4.map fun ab => W.int (cn rows ab.1 ab.2 : Nat)) → B__law_by_turns_9 D [some (.ref n), some (.ref sm), some (.ref f), x3, x4, x5, x6, some (.ref wy), none, none, none, none, none] st') :
    B__law_by_turns_10 D [some (.ref n), some (.ref sm), some (.ref f), x3, x4, x5, x6, none, none, none, none, none, none] st := by
  simp [B__law_by_turns_10]
  refine ⟨sizeL (by omega), sizeL (by omega), ?_⟩
  refine lq_of 4 (fun i => .tup [.int (prs4.getD i (0, 0)).1, .int (prs4.getD i (0, 0)).2]) (fun i st' => Ch [] st st' ∧ lstAt st' st.length = some ((prs4.take i).map fun ab => W.int (cn rows ab.1 ab.2 : Nat))) ⟨Ch.refl.app _, lstAt_new⟩ (fun i st' hi _ => ?_) (fun st' _ => rfl) (fun i st' R R0' hi hI k1 _ => ?_) fun st' hI => ?_
  · obtain rfl | rfl | rfl | rfl : i = 0 ∨ i = 1 ∨ i = 2 ∨ i = 3 := by omega
    all_goals rfl
  · obtain ⟨c, ha⟩ := hI
    obtain ⟨a, b, e, e1, e2, e3⟩ : ∃ a b : Nat, prs4.getD i (0, 0) = (a, b) ∧ a < 3 ∧ b < 3 ∧ prs4.take (i + 1) = prs4.take i ++ [(a, b)] := by
      obtain rfl | rfl | rfl | rfl : i = 0 ∨ i = 1 ∨ i = 2 ∨ i = 3 := by omega
      · exact ⟨0, 1, rfl, by omega, by omega, rfl⟩
      · exact ⟨1, 2, rfl, by omega, by omega, rfl⟩
      · exact ⟨0, 2, rfl, by omega, by omega, rfl⟩
      · exact ⟨1, 0, rfl, by omega, by omega, rfl⟩
    rw [e]
    have R1 := R0.c0 c
    obtain ⟨p, hp1, hp2, hp3⟩ := R1.get (i := a) (by omega)
    obtain ⟨q, hq1, hq2, hq3⟩ := R1.get (i := b) (by omega)
    simp [wipeE, R1.at_, hp1, hq1]
    refine ⟨p, q, _, _, rfl, hp2, hq2, hp3.trans hq3.symm, nodup_ups hq3, by rw [perm_len hp3]; omega, fun st4 t c4 h4 ht => ?_⟩
    simp [h4]
    refine k1 _ _ _ (c4.l0 ha) (sizeLt (by simp [prs4]; omega)) ⟨(c.trans c4).set (.inr (Nat.le_refl _)), ?_⟩
    rw [lstAt_set (lst_lt (c4.l0 ha)), e3]
    simp [cn]
  · obtain ⟨c, ha⟩ := hI
    exact h st' _ c (Nat.le_refl _) ha
end AL
namespace AL
open PySem PySem.Spec PyProof.Rows L2
theorem bt_end {n sm d f wy : Nat} {B : Int} {st : Sto} {D : AEnds} {refs : List Nat} {rows : List (List Int)} {x3 x4 x5 x6 : Option W} (hd8 : d < 8) (h3 : refs.length = 3) (R0 : Rws st n sm d refs rows) (hL : Lf st n B) (hB : B < 2 ^ 39) (wn : wy ≠ n)
    (hw : lstAt st wy = some (prs4.map fun ab => W.int (cn rows ab.1 ab.2 : Nat))) (h : ∀ st', Ch [n] st st' → D.rt (.bl true) st') :
    B__law_by_turns_9 D [some (.ref n), some (.ref sm), some (.ref f), x3, x4, x5, x6, some (.ref wy), none, none, none, none, none] st := by
  obtain ⟨p0, hp1, hp2, hp3⟩ := R0.get (i := 0) (by omega)
  simp [B__law_by_turns_9, R0.at_, hp1, hp2, -List.getD_eq_getElem?_getD]
  rw [show (rows.getD 0 []).length = d from perm_len hp3]
  refine ⟨n, d, _, rfl, hL, by omega, by omega, fun names st1 hnm hL1 c1 h1 => ?_⟩
  have R1 := R0.ch c1
  have w1 := c1.lst hw (by simpa using wn)
  simp [B__law_by_turns_8, R1.at_]
  have e2 : cutW (refs.map W.ref) none (some 2) = (refs.take 2).map W.ref := by rw [show (2 : Int) = ((2 : Nat) : Int) from rfl, cutW_take, List.map_take]
  rw [e2]
  have c2 : Ch [] st1 (st1 ++ [O.lst ((refs.take 2).map W.ref)]) := Ch.refl.app _
  have s2 : lstAt (st1 ++ [O.lst ((refs.take 2).map W.ref)]) st1.length = some ((refs.take 2).map W.ref) := lstAt_new
  have sn1 : st.length ≤ st1.length := c1.len
  generalize st1.length = sl at s2 sn1 ⊢
  generalize (st1 ++ [O.lst ((refs.take 2).map W.ref)]) = st2 at c2 s2 ⊢
  have R2 := R1.c0 c2
  have n2 := c2.l0 h1
  have w2 := c2.l0 w1
  have cA : Ch [n] st st2 := c1.trans c2.none
  have sl2 := lst_lt s2
  have hnl : names.length = d := perm_len hnm
  have hlr : refs.length = rows.length := R0.row.length
  -- the names
  obtain ⟨nm, hnm'⟩ : ∃ nm : Int → Int, ∀ x ∈ ups d, ∃ j : Nat, x = j ∧ names[j]? = some (nm x) := by
    refine ⟨fun x => names.getD x.toNat 0, fun x hx => ?_⟩
    simp only [ups, List.mem_map, List.mem_range] at hx
    obtain ⟨j, hj, rfl⟩ := hx
    exact ⟨j, rfl, by simp [hnl, hj]⟩
  have inj : ∀ x ∈ ups d, ∀ y ∈ ups d, nm x = nm y → x = y := by
    intro x hx y hy e
    obtain ⟨j, rfl, hj⟩ := hnm' x hx
    obtain ⟨k, rfl, hk⟩ := hnm' y hy
    have h1 := ix_at (nodup_ups hnm) hj
    have h2 := ix_at (nodup_ups hnm) hk
    rw [e, h2] at h1
    omega
  show Lq _ _ _ _ _ _ _ _
  refine lq_of 2 (fun i => .ref (refs.getD i 0)) (fun i st' => ∃ cr, cr.length = i ∧ Ch [] st2 st' ∧ lstAt st' st2.length = some (cr.map W.ref) ∧ Paired (fun p row => lstAt st' p = some (iw (row.map nm))) cr (rows.take i) ∧ st2.length ∉ cr)
    ⟨[], rfl, Ch.refl.app _, lstAt_new, .nil, by simp⟩ (fun i st' hi hI => ?_) (fun st' hI => ?_) (fun i st' R R0' hi hI k1 _ => ?_) fun st' hI => ?_
  · obtain ⟨cr, _, c, _⟩ := hI
    have il : i < refs.length := by omega
    simp [iLst, c.l0 s2, List.getElem?_take, hi, il]
  · obtain ⟨cr, _, c, _⟩ := hI
    simp [iLst, c.l0 s2, List.getElem?_take]
  · obtain ⟨cr, hcl, c, ha, hpp, hnin⟩ := hI
    have R3 := R2.c0 c
    obtain ⟨p, q1, q2, q3⟩ := R3.get (i := i) (by omega)
    have ep : refs.getD i 0 = p := by simp [q1]
    rw [ep]
    have er : rows.take (i + 1) = rows.take i ++ [rows.getD i []] := by
      have : i < rows.length := by omega
      rw [List.take_add_one]; simp [this]
    generalize rows.getD i [] = row at q2 q3 er
    simp [wipeE, q2]
    refine lq_pure (ws := iw row) (fun w => match w with | .int x => some (.int (nm x)) | _ => none) (fun acc j => by simp [iLst, lstAt_app' q2]) (by simp [perm_len q3]; omega) (fun w acc R5 R6 hw hR => ?_) ?_
    · obtain ⟨x, hx, rfl⟩ := List.mem_map.mp hw
      obtain ⟨j, rfl, hj⟩ := hnm' x (q3.mem_iff.mp hx)
      simp [wipeE, lstAt_app' (c.l0 n2), iw_at, hj]
      exact hR
    · have ef : (iw row).filterMap (fun w => match w with | .int x => some (.int (nm x)) | _ => none) = iw (row.map nm) := by
        unfold iw
        rw [List.filterMap_map, List.map_map]
        exact congrFun (List.filterMap_eq_map (f := fun x : Int => W.int (nm x))) _
      rw [ef]
      have ha' := lst_lt ha
      refine k1 _ _ _ (lstAt_app' ha) (sizeLt (by simp; omega)) ⟨cr ++ [st'.length], by simp [hcl], (c.app _).set (.inr (Nat.le_refl _)), ?_, ?_, ?_⟩
      · rw [lstAt_set (lst_lt (lstAt_app' ha))]; simp
      · rw [er]
        refine paired_snoc ?_ (paired_mem hpp fun p row m h => ?_)
        · rw [lstAt_ne (by omega)]; exact lstAt_new
        · rw [lstAt_ne (by rintro rfl; exact hnin m)]; exact lstAt_app' h
      · simp [hnin]; omega
  · obtain ⟨cr, hcl, c, ha, hpp, _⟩ := hI
    have R3 := R2.c0 c
    have rl : 2 < rows.length := by omega
    have g0 : rows[0]? = some (rows.getD 0 []) := by
      have : 0 < rows.length := by omega
      simp [this]
    have g1 : rows[1]? = some (rows.getD 1 []) := by
      have : 1 < rows.length := by omega
      simp [this]
    obtain ⟨_, _, _, z0⟩ := R3.get (i := 0) (by omega)
    obtain ⟨_, _, _, z1⟩ := R3.get (i := 1) (by omega)
    obtain ⟨_, _, _, z2⟩ := R3.get (i := 2) (by omega)
    obtain ⟨a, b, rfl⟩ : ∃ a b, cr = [a, b] := by
      match cr, hcl with
      | [a, b], _ => exact ⟨a, b, rfl⟩
    have y0 := paired_at hpp (i := 0) (x := a) (y := rows.getD 0 []) rfl (by rw [List.getElem?_take_of_lt (by omega)]; exact g0)
    have y1 := paired_at hpp (i := 1) (x := b) (y := rows.getD 1 []) rfl (by rw [List.getElem?_take_of_lt (by omega)]; exact g1)
    simp [B__law_by_turns_7, ha]
    have perm : (rows.getD 0 []).Perm (rows.getD 1 []) := z0.trans z1.symm
    have ndm : ((rows.getD 1 []).map nm).Nodup := by
      refine List.pairwise_map.mpr ((nodup_ups z1).imp_of_mem fun {x y} hx hy hne e => hne (inj x (z1.mem_iff.mp hx) y (z1.mem_iff.mp hy) e))
    refine ⟨a, b, _, _, rfl, y0, y1, perm.map nm, ndm, by rw [List.length_map, perm_len z0]; omega, fun st4 t c4 h4 ht => ?_⟩
    have w4 := c4.l0 (c.l0 w2)
    have ren : (cross (ix ((rows.getD 1 []).map nm)) ((rows.getD 0 []).map nm)).length = cn rows 0 1 := cross_ren perm fun x hx y hy e => inj x (z1.mem_iff.mp hx) y (z1.mem_iff.mp hy) e
    have i01 := cn_inv z0 z1
    have i12 := cn_inv z1 z2
    have i02 := cn_inv z0 z2
    have i10 := cn_inv z1 z0
    have sy : cn rows 0 1 = cn rows 1 0 := by rw [i01, i10, invL_symm]
    have tri : cn rows 0 2 ≤ cn rows 0 1 + cn rows 1 2 := by rw [i01, i12, i02]; exact invL_tri _ _ _ _
    simp [h4, w4, prs4, ren, -List.getD_eq_getElem?_getD]
    simp [B__law_by_turns_6, w4, prs4, -List.getD_eq_getElem?_getD]
    rw [if_pos (by omega), sy]
    simp
    exact h _ (((cA.trans c.none).trans c4.none))
theorem keeps__law_by_turns : Keeps 13 S__law_by_turns B__law_by_turns := by
  rintro ws st P ⟨n, B, rfl, hL, hB, h⟩
  show B__law_by_turns _ [some (.ref n), none, none, none, none, none, none, none, none, none, none, none, none] st
  refine bt_first hL hB fun st1 sm d refs rows hd h3 R1 hL1 c1 => ?_
  refine bt_turns hd h3 R1 hL1 (by omega) fun st2 f x3 x4 x5 x6 R2 hL2 c2 => ?_
  refine bt_ways hd h3 R2 (B := B) fun st3 wy c3 hwy hw => ?_
  exact bt_end hd h3 (R2.c0 c3) (hL2.c0 c3) (by omega) (by have := hL2.lt; omega) hw fun st4 c4 => h st4 (((c1.trans c2).trans c3.none).trans c4)
end AL
namespace AL
open PySem PySem.Spec PyProof.Rows L2
theorem zip_maps {α β γ : Type} (f : α → β) (g : α → γ) : ∀ l : List α, (l.map f).zip (l.map g) = l.map fun a => (f a, g a)
  | [] => rfl
  | a :: l => by rw [List.map_cons, List.map_cons, List.zip_cons_cons, zip_maps f g l]; rfl
theorem sort_ties {l m : List Tie} (hp : l.Perm m) (hs : m.Pairwise fun s t => ltTie s t = true) : sortV (l.map tieW) (l.map tdW) = m.map tieW := by
  unfold sortV
  rw [zip_maps, ← PySem.W.sort_maps (s := PySem.W.dataLe false Prod.snd) (r := fun a b : Tie => !ltTie b a) (fun t : Tie => (tieW t, tdW t)) (fun a _ b _ => ?_), List.map_map]
  · have : l.mergeSort (fun a b : Tie => !ltTie b a) = m := by
      refine List.Perm.eq_of_pairwise (le := fun a b : Tie => ltTie b a = false) (fun a b _ _ h1 h2 => ?_) ?_ (hs.imp fun h => ltTie_as _ _ h) ((List.mergeSort_perm _ _).trans hp)
      · simp [ltTie] at h1 h2
        exact Prod.ext (by omega) (by omega)
      · refine (List.pairwise_mergeSort (le := fun a b : Tie => !ltTie b a) (fun a b c h1 h2 => ?_) (fun a b => ?_) l).imp (fun h => by simpa using h)
        · simp at h1 h2 ⊢
          exact ltTie_tr _ _ _ h2 h1
        · by_cases h : ltTie b a = true
          · simp [h, ltTie_as _ _ h]
          · simp [h]
    rw [this]
    rfl
  · show _ = (!PySem.W.dataLt (tdW b) (tdW a))
    rw [lt_ti]
theorem same_tie {st : Sto} {k : Nat} (t : Tie) : SameN st (k + 2) (tieW t) (tieW t) :=
  .inr (.inl ⟨_, _, rfl, rfl, by simp, .cons (.inl rfl) (.cons (.inl rfl) .nil)⟩)
theorem paired_refl {α : Type} {R : α → α → Prop} : ∀ {xs : List α}, (∀ x ∈ xs, R x x) → Paired R xs xs
  | [], _ => .nil
  | x :: xs, h => .cons (h x List.mem_cons_self) (paired_refl fun y hy => h y (List.mem_cons_of_mem _ hy))
theorem same_ties {st : Sto} {p q : Nat} {l : List Tie} (h1 : lstAt st p = some (l.map tieW)) (h2 : lstAt st q = some (l.map tieW)) (hl : l.length ≤ 100000) : SameN st 3 (.ref p) (.ref q) :=
  .inr (.inr ⟨p, q, _, _, rfl, rfl, h1, h2, by simpa using hl, paired_refl fun x hx => by
    obtain ⟨t, _, rfl⟩ := List.mem_map.mp hx
    exact same_tie (k := 0) t⟩)
theorem nb_self {row : List Int} (nd : row.Nodup) : nb (ix row) row = [] := by
  refine List.filterMap_eq_nil_iff.mpr fun i hi => ?_
  have hl := List.mem_range.mp hi
  have h1 : row[i]? = some (row[i]'(by omega)) := List.getElem?_eq_getElem _
  have h2 : row[i + 1]? = some (row[i + 1]'(by omega)) := List.getElem?_eq_getElem _
  unfold nbAt
  rw [h1, h2]
  simp only
  rw [ix_at nd h1, ix_at nd h2, if_neg (by omega)]
theorem ne_pairs {st : Sto} {P : PW_} {p q p' q' : Nat} {a b : List Int} (h1 : lstAt st p = some (iw a)) (h2 : lstAt st q = some (iw b)) (h3 : lstAt st p' = some (iw a)) (h4 : lstAt st q' = some (iw b)) (hP : P (.bl false) st) :
    kNe (.tup [.ref p, .ref q]) (.tup [.ref p', .ref q']) st P := by
  have key : ∀ {p : Nat} {a : List Int}, lstAt st p = some (iw a) → dat st 39 (.ref p) = some (.list (a.map .int)) := by
    intro p a h
    show (match lstAt st p with | some ws => (datL (dat st 38) ws).map PyData.list | none => none) = _
    rw [h]
    show (datL (dat st 38) (a.map W.int)).map _ = _
    rw [datL_map (g := W.int) (d := PyData.int) (fun a => dat_int)]; rfl
  have key2 : ∀ {p q : Nat} {a b : List Int}, lstAt st p = some (iw a) → lstAt st q = some (iw b) → dat st 40 (.tup [.ref p, .ref q]) = some (.tuple [.list (a.map .int), .list (b.map .int)]) := by
    intro p q a b h1 h2
    show (datL (dat st 39) [.ref p, .ref q]).map PyData.tuple = _
    simp [datL, key h1, key h2]
  refine ⟨_, _, key2 h1 h2, key2 h3 h4, ?_⟩
  have e : PyData.eqv (.tuple [.list (a.map .int), .list (b.map .int)]) (.tuple [.list (a.map .int), .list (b.map .int)]) = true := by
    rw [PyData.eqv, PyData.eqvAll, PyData.eqvAll, PyData.eqvAll, eqv_list (fun a b => eqv_int), eqv_list (fun a b => eqv_int)]
    simp
  rw [e]
  exact hP
theorem invL_len {n : Nat} {one other : List Int} (h1 : one.Perm (ups n)) (h2 : other.Perm (ups n)) (hn : n ≤ 12) : (invL n (ix one) (ix other)).length ≤ 144 := by
  rw [← (cross_perm h1 h2).length_eq, cross_len]
  have := ic_le (one.map (ix other))
  rw [List.length_map, perm_len h1] at this
  have : n * n ≤ 12 * 12 := Nat.mul_le_mul hn hn
  omega
theorem inv_pre (m : Nat) (f g : Int → Nat) : ∀ a : Nat, ((List.range a).flatMap fun a => (List.range (m - (a + 1))).filterMap (invAt f g a)).length ≤ a * m
  | 0 => by simp
  | a + 1 => by
    have ih := inv_pre m f g a
    rw [List.range_succ, List.flatMap_append, List.length_append]
    have : ([a].flatMap fun a => (List.range (m - (a + 1))).filterMap (invAt f g a)).length ≤ m := by
      simp only [List.flatMap_cons, List.flatMap_nil, List.append_nil]
      have := List.length_filterMap_le (invAt f g a) (List.range (m - (a + 1)))
      rw [List.length_range] at this
      omega
    rw [Nat.add_mul]; omega
theorem law_turn {ns : List Int} {D D' : AEnds} {I : En → Sto → Prop} {i : Nat} {st : Sto} {x1 x2 x3 x4 x5 x6 x7 x8 x9 x10 x11 : Option W} (hi : i ≤ 6) (T : Turn D D' I)
    (hI : ∀ y1 y2 y3 y4 y5 y6 y7 y8 y9 y10 y11 st', I [some (.scr ns), y1, y2, y3, y4, y5, y6, y7, y8, y9, y10, y11] st') :
    B_law_16 D' [some (.scr ns), some (.int (i : Nat)), x2, x3, x4, x5, x6, x7, x8, x9, x10, x11] st := by
  simp [B_law_16]
  refine ⟨ns, i, rfl, by omega, by omega, fun st1 c1 len1 hL1 => ?_⟩
  generalize st.length = L at hL1
  simp [B_law_15]
  refine ⟨L, 0, rfl, hL1, by omega, fun m one other st2 p q hm hone hother hL2 c2 hp hq hpl hql => ?_⟩
  have pL : p ≠ L := by have := hL1.lt; omega
  have qL : q ≠ L := by have := hL1.lt; omega
  simp [B_law_14, hp, lstAt_app' hq]
  refine ⟨sizeL (by omega), ?_⟩
  have k1 : lstAt (st2 ++ [O.lst (iw one), O.lst (iw other)]) st2.length = some (iw one) := by simp [lstAt]
  have k2 : lstAt (st2 ++ [O.lst (iw one), O.lst (iw other)]) (st2.length + 1) = some (iw other) := by simp [lstAt]
  have c3 : Ch [] st2 (st2 ++ [O.lst (iw one), O.lst (iw other)]) := Ch.refl.app _
  have kL : st2.length ≠ L ∧ st2.length + 1 ≠ L := by have := hL2.lt; omega
  generalize st2.length + 1 = kb at k2 kL ⊢
  generalize st2.length = ka at k1 kL ⊢
  generalize (st2 ++ [O.lst (iw one), O.lst (iw other)]) = st3 at c3 k1 k2 ⊢
  have hL3 := hL2.c0 c3
  have p3 := c3.l0 hp
  have q3 := c3.l0 hq
  simp [B_law_13, B_law_12]
  have p4 : lstAt (st3 ++ [O.lst []]) p = some (iw one) := lstAt_app' p3
  simp [p4, perm_len hone]
  refine ⟨by omega, ?_⟩
  have p34 : p < st3.length := lst_lt p3
  have q34 : q < st3.length := lst_lt q3
  have ka4 : ka < st3.length := lst_lt k1
  have kb4 : kb < st3.length := lst_lt k2
  have ndo : one.Nodup := nodup_ups hone
  have ndh : other.Nodup := nodup_ups hother
  refine lp_rng (fun a en st' => ∃ x7 x8 x9, en = [some (.scr ns), some (.int (i : Nat)), some (.ref L), some (.ref p), some (.ref q), some (.tup [.ref ka, .ref kb]), some (.ref st3.length), x7, x8, x9, x10, x11] ∧ Ch [] st3 st' ∧
      lstAt st' st3.length = some (((List.range a).flatMap fun a => (List.range (m - (a + 1))).filterMap (invAt (ix one) (ix other) a)).map tieW))
    ⟨_, _, _, rfl, Ch.refl.app _, lstAt_new⟩ ?_ ?_
  · rintro a en st4 D2 ha ⟨y7, y8, y9, rfl, c4, h4⟩ T2
    simp [B_law_3, c4.l0 p3, perm_len hone]
    refine ⟨⟨by omega, by omega, by omega⟩, ?_⟩
    have ed : ((m : Int) - (a + 1)).toNat = m - (a + 1) := by omega
    rw [ed]
    refine lp_rng (fun k en st' => ∃ x8 x9, en = [some (.scr ns), some (.int (i : Nat)), some (.ref L), some (.ref p), some (.ref q), some (.tup [.ref ka, .ref kb]), some (.ref st3.length), some (.int (a : Nat)), x8, x9, x10, x11] ∧ Ch [] st3 st' ∧
        lstAt st' st3.length = some ((((List.range a).flatMap fun a => (List.range (m - (a + 1))).filterMap (invAt (ix one) (ix other) a)) ++ (List.range k).filterMap (invAt (ix one) (ix other) a)).map tieW))
      ⟨_, _, rfl, c4, by simpa using h4⟩ ?_ ?_
    · rintro k en st5 D3 hk ⟨y8, y9, rfl, c5, h5⟩ T3
      have ma : (a : Int) ∈ ups m := by simp only [ups, List.mem_map, List.mem_range]; exact ⟨a, ha, rfl⟩
      have mb : (a : Int) + 1 + k ∈ ups m := by simp only [ups, List.mem_map, List.mem_range]; exact ⟨a + 1 + k, by omega, by push_cast; rfl⟩
      have i1 := hone.mem_iff.mpr ma
      have i2 := hone.mem_iff.mpr mb
      have i3 := hother.mem_iff.mpr ma
      have i4 := hother.mem_iff.mpr mb
      have p5 := c5.l0 p3
      have q5 := c5.l0 q3
      have tn := fun y8 y9 st' h1 h2 => T3.nx _ st' ⟨y8, y9, rfl, h1, h2⟩
      rw [List.range_succ, List.filterMap_append, List.filterMap_cons, List.filterMap_nil] at tn
      simp only [← List.append_assoc] at tn
      simp [B_law_2, x_indexI p5, p5, i1, i2, -x_index]
      simp [B_law_1, x_indexI q5, q5, i3, i4, -x_index]
      have hle : (((List.range a).flatMap fun a => (List.range (m - (a + 1))).filterMap (invAt (ix one) (ix other) a)) ++ (List.range k).filterMap (invAt (ix one) (ix other) a)).length ≤ 1000 := by
        have e1 := inv_pre m (ix one) (ix other) a
        have e2 := List.length_filterMap_le (invAt (ix one) (ix other) a) (List.range k)
        rw [List.length_range] at e2
        rw [List.length_append]
        have : a * m ≤ 12 * 12 := Nat.mul_le_mul (by omega) hm
        omega
      generalize (List.range a).flatMap (fun a => (List.range (m - (a + 1))).filterMap (invAt (ix one) (ix other) a)) ++ (List.range k).filterMap (invAt (ix one) (ix other) a) = acc at *
      split
      · rename_i hiff
        have : invAt (ix one) (ix other) a k = none := by
          unfold invAt
          rw [if_neg]
          simp [hiff]
        rw [this] at tn
        exact tn _ _ st5 c5 (by simpa using h5)
      · rename_i hiff
        have : invAt (ix one) (ix other) a k = some ((a : Int), (a : Int) + 1 + k) := by
          unfold invAt
          rw [if_pos]
          intro z
          exact hiff (by simpa using z)
        rw [this] at tn
        simp [h5]
        refine ⟨sizeL (by omega), sizeLt (by omega), tn _ _ _ (c5.set (.inr (Nat.le_refl _))) ?_⟩
        rw [lstAt_set (lst_lt h5)]
        simp [tieW]
    · rintro en st5 ⟨y8, y9, rfl, c5, h5⟩
      refine T2.nx _ _ ⟨_, _, _, rfl, c5, ?_⟩
      rw [h5, List.range_succ, List.flatMap_append]
      simp
  · rintro en st4 ⟨y7, y8, y9, rfl, c4, h4⟩
    have e0 : ((List.range m).flatMap fun a => (List.range (m - (a + 1))).filterMap (invAt (ix one) (ix other) a)) = invL m (ix one) (ix other) := rfl
    rw [e0] at h4
    have hpo := hone.trans hother.symm
    have l1 : one.length ≤ 1000 := by rw [perm_len hone]; omega
    have hcp := cross_perm hone hother
    have hcl := cross_short (g := ix other) l1
    have il := invL_len hone hother hm
    generalize st3.length = tr at *
    simp [B_law_11]
    refine ⟨p, q, one, other, rfl, c4.l0 p3, c4.l0 q3, hpo, ndh, l1, fun st5 t c5 h5 ht => ?_⟩
    have c35 := c4.trans c5
    have h45 := c5.l0 h4
    simp [B_law_10]
    refine ⟨.ref t, _, _, rfl, h5, datL_map (fun a => dat_tie a) _, fun d hd d' hd' => ?_, .inl fun d hd => ?_, ?_⟩
    · obtain ⟨x, _, rfl⟩ := List.mem_map.mp hd
      obtain ⟨y, _, rfl⟩ := List.mem_map.mp hd'
      exact alike_ti x y
    · obtain ⟨x, _, rfl⟩ := List.mem_map.mp hd
      exact ⟨_, _, rfl⟩
    rw [sort_ties hcp (invL_sorted _ _ _)]
    have hs6 : lstAt (st5 ++ [O.lst ((invL m (ix one) (ix other)).map tieW)]) st5.length = some ((invL m (ix one) (ix other)).map tieW) := lstAt_new
    have c6 : Ch [] st5 (st5 ++ [O.lst ((invL m (ix one) (ix other)).map tieW)]) := Ch.refl.app _
    simp
    refine ⟨_, _, rfl, same_ties hs6 (c6.l0 h45) (by omega), fun st6 c7 => ?_⟩
    have c57 := c6.trans c7
    have h7 := c57.l0 h5
    have c37 := c35.trans c57
    simp [ty_ref h7, isT]
    simp [B_law_9]
    refine ⟨p, q, t, one, other, rfl, c37.l0 p3, c37.l0 q3, hpo, ndh, l1, h7, fun st8 c8 => ?_⟩
    have c38 := c37.trans c8
    have h8 := c8.l0 h7
    simp [B_law_8]
    refine ⟨p, q, one, other, rfl, c38.l0 p3, c38.l0 q3, hpo, ndh, l1, fun st9 u c9 h9 hu => ?_⟩
    have c39 := c38.trans c9
    have ht9 := c9.l0 h8
    simp [B_law_7]
    refine ne_lists (α := Tie) (fun st a => dat_tie a) eqv_ti h9 ht9 ?_
    simp
    refine ⟨sizeL (by omega), ne_pairs (c39.l0 p3) (c39.l0 q3) (c39.l0 k1) (c39.l0 k2) ?_⟩
    simp [B_law_6, h9]
    have ul := lst_lt h9
    have u3 : st3.length ≤ u := by have := c38.len; omega
    have tu : t ≠ u := by have := lst_lt h8; omega
    have cl9 : (cross (ix other) one).length < sizeLine := sizeLt hcl
    have cu : Ch [u] st9 (st9.set u (O.lst ((cross (ix other) one).map tieW).reverse)) := Ch.refl.set (.inl (by simp))
    rw [← List.map_reverse] at *
    simp [B_law_5, lstAt_set ul, cl9]
    refine ⟨sizeL (by omega), ?_⟩
    have fin : ∀ st10, Ch [u] st9 st10 → B_law_4 D' [some (.scr ns), some (.int (i : Nat)), some (.ref L), some (.ref p), some (.ref q), some (.tup [.ref ka, .ref kb]), some (.ref tr), y7, y8, y9, some (.ref t), some (.ref u)] st10 := by
      intro st10 c10
      have c310 : Ch [] st3 st10 := c39.trans' (ms' := [u]) c10 (by simp; omega)
      have t10 := c10.lst ht9 (by simpa using tu)
      simp [B_law_4]
      refine ⟨p, q, one, other, rfl, c310.l0 p3, c310.l0 q3, hpo, ndh, l1, fun st11 v c11 h11 hv => ?_⟩
      refine ne_lists (α := Tie) (fun st a => dat_tie a) eqv_ti h11 (c11.l0 t10) ?_
      have p11 := (c310.trans c11).l0 p3
      simp [p11]
      have c12 : Ch [] st11 (st11 ++ [O.lst (iw one)]) := Ch.refl.app _
      refine ⟨p, st11.length, one, one, rfl, c12.l0 p11, lstAt_new, .refl _, ndo, l1, fun st13 v2 c13 h13 hv2 => ?_⟩
      rw [cross_none (nb_self ndo)] at h13
      refine ne_lists (α := Tie) (k := []) (fun st a => dat_tie a) eqv_ti (lstAt_app' h13) lstAt_new ?_
      simp
      have hL13 := hL3.c0 (((c310.trans c11).trans (c12.trans c13)).app [O.lst []])
      refine ⟨L, _, rfl, hL13, by omega, fun st14 c14 => ?_⟩
      simp
      exact T.nx _ _ (hI _ _ _ _ _ _ _ _ _ _ _ st14)
    exact fin _ (Ch.refl.set (.inl (by simp)))
theorem keeps_law : Keeps 12 S_law B_law := by
  rintro ws st P ⟨ns, rfl, h⟩
  simp [B_law, startE]
  obtain ⟨t, ht, h6⟩ : ∃ t : Nat, (if (1 : Int) < if (6 : Int) < ns.length then 6 else (ns.length : Int) then if (6 : Int) < ns.length then 6 else (ns.length : Int) else 1) = t ∧ t ≤ 6 := by
    by_cases h1 : (6 : Int) < ns.length
    · rw [if_pos h1]; exact ⟨6, rfl, by omega⟩
    · rw [if_neg h1]
      by_cases h2 : (1 : Int) < ns.length
      · rw [if_pos h2]; exact ⟨ns.length, rfl, by omega⟩
      · rw [if_neg h2]; exact ⟨1, rfl, by omega⟩
  rw [ht]
  refine ⟨by omega, by omega, ?_⟩
  rw [Int.toNat_natCast]
  refine lp_rng (fun i en _ => ∃ y1 y2 y3 y4 y5 y6 y7 y8 y9 y10 y11, en = [some (.scr ns), y1, y2, y3, y4, y5, y6, y7, y8, y9, y10, y11]) ⟨_, _, _, _, _, _, _, _, _, _, _, rfl⟩ ?_ ?_
  · rintro i en st1 D' hi ⟨y1, y2, y3, y4, y5, y6, y7, y8, y9, y10, y11, rfl⟩ T
    simp
    exact law_turn (x1 := none) (by omega) T fun y1 y2 y3 y4 y5 y6 y7 y8 y9 y10 y11 st' => ⟨_, _, _, _, _, _, _, _, _, _, _, rfl⟩
  · rintro en st1 ⟨y1, y2, y3, y4, y5, y6, y7, y8, y9, y10, y11, rfl⟩
    simp
    exact h _
end AL
namespace AL
open PySem PySem.Spec PyProof.Rows L2

def topS (i : Nat) : Stmt := PySem.Challenge.pw_pointedties_k55_exchanges_of_neighbours.main.body.getD i (.Pass ⟨0, 0, 0, 0⟩)
abbrev s_spots_of : Stmt := topS 1
theorem sc_spots_of : FnScope ["row", "spot", "place"] ["row"] (defScope s_spots_of) := ⟨rfl, rfl, rfl, by decide +kernel, rfl, by decide +kernel, by decide +kernel⟩
abbrev s_neighbours_otherwise : Stmt := topS 2
theorem sc_neighbours_otherwise : FnScope ["row", "spots", "found", "at", "a", "b"] ["row", "spots"] (defScope s_neighbours_otherwise) := ⟨rfl, rfl, rfl, by decide +kernel, rfl, by decide +kernel, by decide +kernel⟩
abbrev s_crossings : Stmt := topS 3
theorem sc_crossings : FnScope ["one", "other", "spots", "row", "found", "some", "tie", "at"] ["one", "other"] (defScope s_crossings) := ⟨rfl, rfl, rfl, by decide +kernel, rfl, by decide +kernel, by decide +kernel⟩
abbrev s__law_mix : Stmt := topS 5
theorem sc__law_mix : FnScope ["cell", "k", "m"] ["cell", "k"] (defScope s__law_mix) := ⟨rfl, rfl, rfl, by decide +kernel, rfl, by decide +kernel, by decide +kernel⟩
abbrev s__law_left : Stmt := topS 6
theorem sc__law_left : FnScope ["script", "k", "cell"] ["script", "k"] (defScope s__law_left) := ⟨rfl, rfl, rfl, by decide +kernel, rfl, by decide +kernel, by decide +kernel⟩
abbrev s__law_pick : Stmt := topS 7
theorem sc__law_pick : FnScope ["left", "many", "digit"] ["left", "many"] (defScope s__law_pick) := ⟨rfl, rfl, rfl, by decide +kernel, rfl, by decide +kernel, by decide +kernel⟩
abbrev s__law_same : Stmt := topS 8
theorem sc__law_same : FnScope ["found", "due", "one", "other"] ["found", "due"] (defScope s__law_same) := ⟨rfl, rfl, rfl, by decide +kernel, rfl, by decide +kernel, by decide +kernel⟩
abbrev s__law_row : Stmt := topS 9
theorem sc__law_row : FnScope ["left", "many", "row", "k"] ["left", "many"] (defScope s__law_row) := ⟨rfl, rfl, rfl, by decide +kernel, rfl, by decide +kernel, by decide +kernel⟩
abbrev s__law_two_rows : Stmt := topS 10
theorem sc__law_two_rows : FnScope ["left", "many", "one", "way", "other", "turn", "at"] ["left"] (defScope s__law_two_rows) := ⟨rfl, rfl, rfl, by decide +kernel, rfl, by decide +kernel, by decide +kernel⟩
abbrev s__law_walked : Stmt := topS 11
theorem sc__law_walked : FnScope ["one", "ties", "row", "tie", "a", "b"] ["one", "ties"] (defScope s__law_walked) := ⟨rfl, rfl, rfl, by decide +kernel, rfl, by decide +kernel, by decide +kernel⟩
abbrev s__law_least : Stmt := topS 12
theorem sc__law_least : FnScope ["row", "other", "some", "a", "b"] ["row", "other"] (defScope s__law_least) := ⟨rfl, rfl, rfl, by decide +kernel, rfl, by decide +kernel, by decide +kernel⟩
abbrev s__law_right : Stmt := topS 13
theorem sc__law_right : FnScope ["one", "other", "told", "row", "tie"] ["one", "other", "told"] (defScope s__law_right) := ⟨rfl, rfl, rfl, by decide +kernel, rfl, by decide +kernel, by decide +kernel⟩
abbrev s__law_by_turns : Stmt := topS 14
theorem sc__law_by_turns : FnScope ["left", "some", "first", "turn", "i", "j", "told", "ways", "names", "called", "many", "row", "place"] ["left"] (defScope s__law_by_turns) := ⟨rfl, rfl, rfl, by decide +kernel, rfl, by decide +kernel, by decide +kernel⟩
abbrev s_law : Stmt := topS 15
theorem sc_law : FnScope ["script", "k", "left", "one", "other", "kept", "ties", "a", "b", "ahead", "told", "again"] ["script"] (defScope s_law) := ⟨rfl, rfl, rfl, by decide +kernel, rfl, by decide +kernel, by decide +kernel⟩
section
variable {P : Program} {w : World} {K : PySem.W.Frag} {mg : Str → Option Value} {base : Heap}
theorem d_spots_of {k : Nat} {f : Addr} {cdv : Value} {A : Around} {outer : List Env} {s : Shared} {H : Hp} {E : XK} (m_dict : mg "dict" = none) (m_enumerate : mg "enumerate" = none) (hr : Room k (A.deeper (envOfC "spots_of" (defScope s_spots_of) s.heap.objs.size f cdv))) :
    ASs (cxOf CX0 P w K mg base ["row", "spot", "place"] "spots_of" (defScope s_spots_of) f cdv A outer s H E).nox (defBody s_spots_of) B_spots_of :=
  as_one (as_ret (ae_callTy (call_dictP rfl) sim_dictK (by rfl) m_dict bt_dict (aa_cons (ae_lc (tgs_tup (is := [1, 2]) (by decide)) rfl sc_spots_of.nd (ai_enum (by rfl) m_enumerate (aa_cons (av 0) (aa_nil))) (own := [("spot", 1), ("place", 2)]) (blkOk_by (by rfl)) (fun _ _ _ _ _ => pg_tup rfl (pgs_cons (pg_name (i := 1) sc_spots_of.nd rfl (by first | exact .inl rfl | exact .inr rfl)) (pgs_cons (pg_name (i := 2) sc_spots_of.nd rfl (by first | exact .inl rfl | exact .inr rfl)) (pgs_nil)))) (fun _ _ _ _ _ => ats_nil) (fun _ _ _ _ _ => ae_tup (aa_cons (av 2) (aa_cons (av 1) (aa_nil))))) (aa_nil))))
theorem d_neighbours_otherwise {k : Nat} {f : Addr} {cdv : Value} {A : Around} {outer : List Env} {s : Shared} {H : Hp} {E : XK} (m_len : mg "len" = none) (m_max : mg "max" = none) (m_min : mg "min" = none) (m_range : mg "range" = none) (hr : Room k (A.deeper (envOfC "neighbours_otherwise" (defScope s_neighbours_otherwise) s.heap.objs.size f cdv))) :
    ASs (cxOf CX0 P w K mg base ["row", "spots", "found", "at", "a", "b"] "neighbours_otherwise" (defScope s_neighbours_otherwise) f cdv A outer s H E).nox (defBody s_neighbours_otherwise) B_neighbours_otherwise :=
  as_cons (as_set (i := 2) sc_neighbours_otherwise.nd rfl (.inl rfl) (ae_lst (aa_nil)))
    (as_cons (as_for PassesOwn.never rfl (ai_rng1 (by rfl) m_range (aa_cons (ae_op op_sub sim_sub (ae_callB call_len_seq sim_len (by rfl) m_len bt_len (aa_cons (av 0) (aa_nil))) (ae_int)) (aa_nil))) (ag_name (i := 3) sc_neighbours_otherwise.nd rfl (.inl rfl)) (as_cons (as_par (i := 4) (j := 5) rfl sc_neighbours_otherwise.nd rfl rfl (by decide) rfl rfl (aa_cons (ae_ix hr.units (av 0) (av 3)) (aa_cons (ae_ix hr.units (av 0) (ae_op op_addA sim_add (av 3) (ae_int))) (aa_nil))) (by rfl))
    (as_one (as_if (at_cmp op_lt sim_lt (ae_ix hr.units (av 1) (av 5)) (ae_ix hr.units (av 1) (av 4))) (as_one (as_expr (ae_bm PySem.F.plainAttrs_list PySem.F.slot_list_append PySem.F.type_list_append mt_append sim_append (av 2) (aa_cons (ae_tup (aa_cons (ae_tup (aa_cons (ae_callB (call_min2 rfl) sim_min2 (by rfl) m_min bt_min (aa_cons (av 4) (aa_cons (av 5) (aa_nil)))) (aa_cons (ae_callB (call_max2 rfl) sim_max2 (by rfl) m_max bt_max (aa_cons (av 4) (aa_cons (av 5) (aa_nil)))) (aa_nil)))) (aa_cons (av 3) (aa_nil)))) (aa_nil))))) (as_nil)))))
    (as_one (as_ret (av 2))))
theorem d_crossings {k : Nat} {f : Addr} {cdv : Value} {A : Around} {outer : List Env} {s : Shared} {H : Hp} {E : XK} (m_len : mg "len" = none) (m_list : mg "list" = none) (m_min : mg "min" = none) {k_spots_of : Nat} (l_spots_of : k_spots_of ≤ k) (h_spots_of : Has P w K mg base "spots_of" k_spots_of ["row"] S_spots_of) {k_neighbours_otherwise : Nat} (l_neighbours_otherwise : k_neighbours_otherwise ≤ k) (h_neighbours_otherwise : Has P w K mg base "neighbours_otherwise" k_neighbours_otherwise ["row", "spots"] S_neighbours_otherwise) (hr : Room k (A.deeper (envOfC "crossings" (defScope s_crossings) s.heap.objs.size f cdv))) :
    ASs (cxOf CX0 P w K mg base ["one", "other", "spots", "row", "found", "some", "tie", "at"] "crossings" (defScope s_crossings) f cdv A outer s H E).nox (defBody s_crossings) B_crossings :=
  as_cons (as_set (i := 2) sc_crossings.nd rfl (.inl rfl) (ae_callH h_spots_of (hr.mono l_spots_of) (by rfl) (aa_cons (av 1) (aa_nil))))
    (as_cons (as_set (i := 3) sc_crossings.nd rfl (.inl rfl) (ae_callTy call_list_of sim_list (by rfl) m_list bt_list (aa_cons (av 0) (aa_nil))))
    (as_cons (as_set (i := 4) sc_crossings.nd rfl (.inl rfl) (ae_lst (aa_nil)))
    (as_cons (as_set (i := 5) sc_crossings.nd rfl (.inl rfl) (ae_callH h_neighbours_otherwise (hr.mono l_neighbours_otherwise) (by rfl) (aa_cons (av 3) (aa_cons (av 2) (aa_nil)))))
    (as_cons (as_while PassesOwn.never (at_cmp op_gt sim_gt (ae_callB call_len_seq sim_len (by rfl) m_len bt_len (aa_cons (av 5) (aa_nil))) (ae_int)) (as_cons (as_asg (ae_callB (cr_minD rfl hr.units) sim_best (by rfl) m_min bt_min (aa_cons (av 5) (aa_nil))) (ag_tup rfl (ags_cons (ag_name (i := 6) sc_crossings.nd rfl (.inl rfl)) (ags_cons (ag_name (i := 7) sc_crossings.nd rfl (.inl rfl)) (ags_nil)))))
    (as_cons (as_expr (ae_bm PySem.F.plainAttrs_list PySem.F.slot_list_append PySem.F.type_list_append mt_append sim_append (av 4) (aa_cons (av 6) (aa_nil))))
    (as_cons (as_asg (ae_tup (aa_cons (ae_ix hr.units (av 3) (ae_op op_addA sim_add (av 7) (ae_int))) (aa_cons (ae_ix hr.units (av 3) (av 7)) (aa_nil)))) (ag_tup rfl (ags_cons (ag_ix hr.units (av 3) (av 7)) (ags_cons (ag_ix hr.units (av 3) (ae_op op_addA sim_add (av 7) (ae_int))) (ags_nil)))))
    (as_one (as_set (i := 5) sc_crossings.nd rfl (.inl rfl) (ae_callH h_neighbours_otherwise (hr.mono l_neighbours_otherwise) (by rfl) (aa_cons (av 3) (aa_cons (av 2) (aa_nil))))))))))
    (as_one (as_ret (av 4)))))))
theorem d__law_mix {k : Nat} {f : Addr} {cdv : Value} {A : Around} {outer : List Env} {s : Shared} {H : Hp} {E : XK}  (hr : Room k (A.deeper (envOfC "_law_mix" (defScope s__law_mix) s.heap.objs.size f cdv))) :
    ASs (cxOf CX0 P w K mg base ["cell", "k", "m"] "_law_mix" (defScope s__law_mix) f cdv A outer s H E).nox (defBody s__law_mix) B__law_mix :=
  as_cons (as_set (i := 2) sc__law_mix.nd rfl (.inl rfl) (ae_op op_mod sim_mod (ae_op op_mulA sim_mul (ae_op op_addA sim_add (ae_op op_addA sim_add (ae_op op_mod sim_mod (av 0) (ae_int)) (ae_op op_mulA sim_mul (ae_op op_mulA sim_mul (av 1) (av 1)) (ae_int))) (ae_int)) (ae_int)) (ae_int)))
    (as_one (as_ret (ae_op op_mod sim_mod (ae_op op_mulA sim_mul (av 2) (av 2)) (ae_int))))
theorem d__law_left {k : Nat} {f : Addr} {cdv : Value} {A : Around} {outer : List Env} {s : Shared} {H : Hp} {E : XK} (m_abs : mg "abs" = none) (m_int : mg "int" = none) (m_len : mg "len" = none) (hr : Room k (A.deeper (envOfC "_law_left" (defScope s__law_left) s.heap.objs.size f cdv))) :
    ASs (cxOf CX0 P w K mg base ["script", "k", "cell"] "_law_left" (defScope s__law_left) f cdv A outer s H E).nox (defBody s__law_left) B__law_left :=
  as_cons (as_set (i := 2) sc__law_left.nd rfl (.inl rfl) (ae_if (at_cmp op_lt sim_lt (av 1) (ae_callB call_len_seq sim_len (by rfl) m_len bt_len (aa_cons (av 0) (aa_nil)))) (ae_ix hr.units (av 0) (av 1)) (ae_int)))
    (as_one (as_ret (ae_lst (aa_cons (ae_op op_mulA sim_mul (ae_callB call_abs sim_abs (by rfl) m_abs bt_abs (aa_cons (av 2) (aa_nil))) (ae_callTy call_int1 sim_int (by rfl) m_int bt_int (aa_cons (ae_cmp op_ge sim_ge (ae_callB call_abs sim_abs (by rfl) m_abs bt_abs (aa_cons (av 2) (aa_nil))) (ae_op op_pow sim_pow (ae_int) (ae_int))) (aa_nil)))) (aa_cons (ae_op op_addA sim_add (av 2) (ae_op op_mulA sim_mul (ae_int) (av 1))) (aa_cons (ae_int) (aa_nil)))))))
theorem d__law_pick {k : Nat} {f : Addr} {cdv : Value} {A : Around} {outer : List Env} {s : Shared} {H : Hp} {E : XK} {k__law_mix : Nat} (l__law_mix : k__law_mix ≤ k) (h__law_mix : Has P w K mg base "_law_mix" k__law_mix ["cell", "k"] S__law_mix) (hr : Room k (A.deeper (envOfC "_law_pick" (defScope s__law_pick) s.heap.objs.size f cdv))) :
    ASs (cxOf CX0 P w K mg base ["left", "many", "digit"] "_law_pick" (defScope s__law_pick) f cdv A outer s H E).nox (defBody s__law_pick) B__law_pick :=
  as_cons (as_asg (ae_op op_addA sim_add (ae_ix hr.units (av 0) (ae_int)) (ae_int)) (ag_ix hr.units (av 0) (ae_int)))
    (as_cons (as_if (at_cmp op_gt sim_gt (ae_ix hr.units (av 0) (ae_int)) (ae_int)) (as_cons (as_set (i := 2) sc__law_pick.nd rfl (.inl rfl) (ae_op op_mod sim_mod (ae_ix hr.units (av 0) (ae_int)) (av 1)))
    (as_cons (as_asg (ae_op op_fdiv sim_div (ae_ix hr.units (av 0) (ae_int)) (av 1)) (ag_ix hr.units (av 0) (ae_int)))
    (as_one (as_ret (av 2))))) (as_nil))
    (as_one (as_ret (ae_op op_mod sim_mod (ae_op op_fdiv sim_div (ae_callH h__law_mix (hr.mono l__law_mix) (by rfl) (aa_cons (ae_callH h__law_mix (hr.mono l__law_mix) (by rfl) (aa_cons (ae_ix hr.units (av 0) (ae_int)) (aa_cons (ae_ix hr.units (av 0) (ae_int)) (aa_nil)))) (aa_cons (ae_op op_addA sim_add (ae_ix hr.units (av 0) (ae_int)) (ae_int)) (aa_nil)))) (ae_int)) (av 1)))))
theorem d__law_same {k : Nat} {f : Addr} {cdv : Value} {A : Around} {outer : List Env} {s : Shared} {H : Hp} {E : XK} (m_all : mg "all" = none) (m_bool : mg "bool" = none) (m_int : mg "int" = none) (m_isinstance : mg "isinstance" = none) (m_len : mg "len" = none) (m_list : mg "list" = none) (m_str : mg "str" = none) (m_tuple : mg "tuple" = none) (m_zip : mg "zip" = none) {S__law_same : Sc} {k__law_same : Nat} (l__law_same : k__law_same ≤ k) (h__law_same : Has P w K mg base "_law_same" k__law_same ["found", "due"] S__law_same) (hr : Room k (A.deeper (envOfC "_law_same" (defScope s__law_same) s.heap.objs.size f cdv))) :
    ASs (cxOf CX0 P w K mg base ["found", "due", "one", "other"] "_law_same" (defScope s__law_same) f cdv A outer s H E).nox (defBody s__law_same) (B__law_same S__law_same) :=
  as_cons (as_if (at_val (ae_callB cr_isA sim_isi (by rfl) m_isinstance bt_isinstance (aa_cons (av 1) (aa_cons (ae_tup (aa_cons (ae_ty (T := Tn.nm .lst) (by rfl) m_list bt_list) (aa_cons (ae_ty (T := Tn.nm .tup) (by rfl) m_tuple bt_tuple) (aa_nil)))) (aa_nil))))) (as_cons (as_if (at_and (aw_or (at_cmp (op_neP hr.units) sim_ne (ae_callB cr_isA sim_isi (by rfl) m_isinstance bt_isinstance (aa_cons (av 0) (aa_cons (ae_ty (T := Tn.nm .lst) (by rfl) m_list bt_list) (aa_nil)))) (ae_callB cr_isA sim_isi (by rfl) m_isinstance bt_isinstance (aa_cons (av 1) (aa_cons (ae_ty (T := Tn.nm .lst) (by rfl) m_list bt_list) (aa_nil))))) (aw_or1 (at_cmp (op_neP hr.units) sim_ne (ae_callB cr_isA sim_isi (by rfl) m_isinstance bt_isinstance (aa_cons (av 0) (aa_cons (ae_ty (T := Tn.nm .tup) (by rfl) m_tuple bt_tuple) (aa_nil)))) (ae_callB cr_isA sim_isi (by rfl) m_isinstance bt_isinstance (aa_cons (av 1) (aa_cons (ae_ty (T := Tn.nm .tup) (by rfl) m_tuple bt_tuple) (aa_nil)))))))) (as_one (as_ret (ae_bl))) (as_nil))
    (as_one (as_ret (ae_and (ae_cmp (op_eqP hr.units) sim_eq (ae_callB call_len_seq sim_len (by rfl) m_len bt_len (aa_cons (av 0) (aa_nil))) (ae_callB call_len_seq sim_len (by rfl) m_len bt_len (aa_cons (av 1) (aa_nil)))) (ae_one (ae_callB (cr_all rfl) sim_all (by rfl) m_all bt_all (aa_cons (ae_lc (tgs_tup (is := [2, 3]) (by decide)) rfl sc__law_same.nd (ai_zip (by rfl) m_zip (aa_cons (av 0) (aa_cons (av 1) (aa_nil)))) (own := [("one", 2), ("other", 3)]) (blkOk_by (by rfl)) (fun _ _ _ _ _ => pg_tup rfl (pgs_cons (pg_name (i := 2) sc__law_same.nd rfl (by first | exact .inl rfl | exact .inr rfl)) (pgs_cons (pg_name (i := 3) sc__law_same.nd rfl (by first | exact .inl rfl | exact .inr rfl)) (pgs_nil)))) (fun _ _ _ _ _ => ats_nil) (fun _ _ _ _ _ => ae_callH h__law_same (hr.mono l__law_same) (by rfl) (aa_cons (av 2) (aa_cons (av 3) (aa_nil))))) (aa_nil)))))))) (as_nil))
    (as_cons (as_if (at_and (aw_or (at_cmp op_isN sim_isN (av 1) (ae_non)) (aw_or1 (at_val (ae_callB cr_isA sim_isi (by rfl) m_isinstance bt_isinstance (aa_cons (av 1) (aa_cons (ae_ty (T := Tn.nm .str) (by rfl) m_str bt_str) (aa_nil)))))))) (as_one (as_ret (ae_and (ae_cmp (op_eqP hr.units) sim_eq (av 0) (av 1)) (ae_one (ae_cmp (op_eqP hr.units) sim_eq (ae_callB cr_isA sim_isi (by rfl) m_isinstance bt_isinstance (aa_cons (av 0) (aa_cons (ae_ty (T := Tn.nm .str) (by rfl) m_str bt_str) (aa_nil)))) (ae_callB cr_isA sim_isi (by rfl) m_isinstance bt_isinstance (aa_cons (av 1) (aa_cons (ae_ty (T := Tn.nm .str) (by rfl) m_str bt_str) (aa_nil))))))))) (as_nil))
    (as_cons (as_if (at_val (ae_callB cr_isA sim_isi (by rfl) m_isinstance bt_isinstance (aa_cons (av 1) (aa_cons (ae_ty (T := Tn.nm .bl) (by rfl) m_bool bt_bool) (aa_nil))))) (as_one (as_ret (ae_and (ae_callB cr_isA sim_isi (by rfl) m_isinstance bt_isinstance (aa_cons (av 0) (aa_cons (ae_ty (T := Tn.nm .bl) (by rfl) m_bool bt_bool) (aa_nil)))) (ae_one (ae_cmp (op_eqP hr.units) sim_eq (av 0) (av 1)))))) (as_nil))
    (as_one (as_ret (ae_and (ae_callB cr_isA sim_isi (by rfl) m_isinstance bt_isinstance (aa_cons (av 0) (aa_cons (ae_ty (T := Tn.nm .int) (by rfl) m_int bt_int) (aa_nil)))) (ae_and (ae_not (ae_callB cr_isA sim_isi (by rfl) m_isinstance bt_isinstance (aa_cons (av 0) (aa_cons (ae_ty (T := Tn.nm .bl) (by rfl) m_bool bt_bool) (aa_nil))))) (ae_one (ae_cmp (op_eqP hr.units) sim_eq (av 0) (av 1)))))))))
theorem d__law_row {k : Nat} {f : Addr} {cdv : Value} {A : Around} {outer : List Env} {s : Shared} {H : Hp} {E : XK} (m_range : mg "range" = none) {k__law_pick : Nat} (l__law_pick : k__law_pick ≤ k) (h__law_pick : Has P w K mg base "_law_pick" k__law_pick ["left", "many"] S__law_pick) (hr : Room k (A.deeper (envOfC "_law_row" (defScope s__law_row) s.heap.objs.size f cdv))) :
    ASs (cxOf CX0 P w K mg base ["left", "many", "row", "k"] "_law_row" (defScope s__law_row) f cdv A outer s H E).nox (defBody s__law_row) B__law_row :=
  as_cons (as_set (i := 2) sc__law_row.nd rfl (.inl rfl) (ae_lst (aa_nil)))
    (as_cons (as_for PassesOwn.never rfl (ai_rng1 (by rfl) m_range (aa_cons (av 1) (aa_nil))) (ag_name (i := 3) sc__law_row.nd rfl (.inl rfl)) (as_one (as_expr (ae_bm PySem.F.plainAttrs_list PySem.F.slot_list_insert PySem.F.type_list_insert mt_insert sim_insert (av 2) (aa_cons (ae_callH h__law_pick (hr.mono l__law_pick) (by rfl) (aa_cons (av 0) (aa_cons (ae_op op_addA sim_add (av 3) (ae_int)) (aa_nil)))) (aa_cons (av 3) (aa_nil)))))))
    (as_one (as_ret (av 2))))
theorem d__law_two_rows {k : Nat} {f : Addr} {cdv : Value} {A : Around} {outer : List Env} {s : Shared} {H : Hp} {E : XK} (m_int : mg "int" = none) (m_list : mg "list" = none) (m_range : mg "range" = none) {k__law_pick : Nat} (l__law_pick : k__law_pick ≤ k) (h__law_pick : Has P w K mg base "_law_pick" k__law_pick ["left", "many"] S__law_pick) {k__law_row : Nat} (l__law_row : k__law_row ≤ k) (h__law_row : Has P w K mg base "_law_row" k__law_row ["left", "many"] S__law_row) (hr : Room k (A.deeper (envOfC "_law_two_rows" (defScope s__law_two_rows) s.heap.objs.size f cdv))) :
    ASs (cxOf CX0 P w K mg base ["left", "many", "one", "way", "other", "turn", "at"] "_law_two_rows" (defScope s__law_two_rows) f cdv A outer s H E).nox (defBody s__law_two_rows) B__law_two_rows :=
  as_cons (as_set (i := 1) sc__law_two_rows.nd rfl (.inl rfl) (ae_ix hr.units (ae_lst (aa_cons (ae_int) (aa_cons (ae_int) (aa_cons (ae_int) (aa_cons (ae_int) (aa_cons (ae_int) (aa_cons (ae_int) (aa_cons (ae_int) (aa_cons (ae_int) (aa_cons (ae_int) (aa_cons (ae_int) (aa_cons (ae_int) (aa_cons (ae_op op_addA sim_add (ae_int) (ae_callH h__law_pick (hr.mono l__law_pick) (by rfl) (aa_cons (av 0) (aa_cons (ae_int) (aa_nil))))) (aa_nil)))))))))))))) (ae_callH h__law_pick (hr.mono l__law_pick) (by rfl) (aa_cons (av 0) (aa_cons (ae_int) (aa_nil))))))
    (as_cons (as_set (i := 2) sc__law_two_rows.nd rfl (.inl rfl) (ae_callH h__law_row (hr.mono l__law_row) (by rfl) (aa_cons (av 0) (aa_cons (av 1) (aa_nil)))))
    (as_cons (as_set (i := 3) sc__law_two_rows.nd rfl (.inl rfl) (ae_callH h__law_pick (hr.mono l__law_pick) (by rfl) (aa_cons (av 0) (aa_cons (ae_int) (aa_nil)))))
    (as_cons (as_if (at_cmp (op_eqP hr.units) sim_eq (av 3) (ae_int)) (as_one (as_ret (ae_tup (aa_cons (av 2) (aa_cons (ae_callTy call_list_of sim_list (by rfl) m_list bt_list (aa_cons (av 2) (aa_nil))) (aa_nil)))))) (as_nil))
    (as_cons (as_if (at_cmp (op_eqP hr.units) sim_eq (av 3) (ae_int)) (as_one (as_ret (ae_tup (aa_cons (av 2) (aa_cons (ae_rev (av 2)) (aa_nil)))))) (as_nil))
    (as_cons (as_if (at_cmp op_lt sim_lt (av 3) (ae_int)) (as_one (as_ret (ae_tup (aa_cons (av 2) (aa_cons (ae_callH h__law_row (hr.mono l__law_row) (by rfl) (aa_cons (av 0) (aa_cons (av 1) (aa_nil)))) (aa_nil)))))) (as_nil))
    (as_cons (as_set (i := 4) sc__law_two_rows.nd rfl (.inl rfl) (ae_callTy call_list_of sim_list (by rfl) m_list bt_list (aa_cons (av 2) (aa_nil))))
    (as_cons (as_for PassesOwn.never rfl (ai_rng1 (by rfl) m_range (aa_cons (ae_op op_mulA sim_mul (ae_callTy call_int1 sim_int (by rfl) m_int bt_int (aa_cons (ae_cmp op_gt sim_gt (av 1) (ae_int)) (aa_nil))) (ae_op op_addA sim_add (ae_int) (ae_callH h__law_pick (hr.mono l__law_pick) (by rfl) (aa_cons (av 0) (aa_cons (ae_int) (aa_nil)))))) (aa_nil))) (ag_name (i := 5) sc__law_two_rows.nd rfl (.inl rfl)) (as_cons (as_set (i := 6) sc__law_two_rows.nd rfl (.inl rfl) (ae_callH h__law_pick (hr.mono l__law_pick) (by rfl) (aa_cons (av 0) (aa_cons (ae_op op_sub sim_sub (av 1) (ae_int)) (aa_nil)))))
    (as_one (as_asg (ae_tup (aa_cons (ae_ix hr.units (av 4) (ae_op op_addA sim_add (av 6) (ae_int))) (aa_cons (ae_ix hr.units (av 4) (av 6)) (aa_nil)))) (ag_tup rfl (ags_cons (ag_ix hr.units (av 4) (av 6)) (ags_cons (ag_ix hr.units (av 4) (ae_op op_addA sim_add (av 6) (ae_int))) (ags_nil))))))))
    (as_one (as_ret (ae_tup (aa_cons (av 2) (aa_cons (av 4) (aa_nil)))))))))))))
theorem d__law_walked {k : Nat} {f : Addr} {cdv : Value} {A : Around} {outer : List Env} {s : Shared} {H : Hp} {E : XK} (m_abs : mg "abs" = none) (m_list : mg "list" = none) (hr : Room k (A.deeper (envOfC "_law_walked" (defScope s__law_walked) s.heap.objs.size f cdv))) :
    ASs (cxOf CX0 P w K mg base ["one", "ties", "row", "tie", "a", "b"] "_law_walked" (defScope s__law_walked) f cdv A outer s H E).nox (defBody s__law_walked) B__law_walked :=
  as_cons (as_set (i := 2) sc__law_walked.nd rfl (.inl rfl) (ae_callTy call_list_of sim_list (by rfl) m_list bt_list (aa_cons (av 0) (aa_nil))))
    (as_cons (as_for PassesOwn.never rfl (ai_any (av 1)) (ag_name (i := 3) sc__law_walked.nd rfl (.inl rfl)) (as_cons (as_par (i := 4) (j := 5) rfl sc__law_walked.nd rfl rfl (by decide) rfl rfl (aa_cons (ae_bm PySem.F.plainAttrs_list PySem.F.slot_list_index PySem.F.type_list_index mt_index sim_index (av 2) (aa_cons (ae_ix hr.units (av 3) (ae_int)) (aa_nil))) (aa_cons (ae_bm PySem.F.plainAttrs_list PySem.F.slot_list_index PySem.F.type_list_index mt_index sim_index (av 2) (aa_cons (ae_ix hr.units (av 3) (ae_int)) (aa_nil))) (aa_nil))) (by rfl))
    (as_cons (as_if (at_and (aw_or (at_cmp (op_neP hr.units) sim_ne (ae_callB call_abs sim_abs (by rfl) m_abs bt_abs (aa_cons (ae_op op_sub sim_sub (av 4) (av 5)) (aa_nil))) (ae_int)) (aw_or1 (at_cmp op_ge sim_ge (ae_ix hr.units (av 3) (ae_int)) (ae_ix hr.units (av 3) (ae_int)))))) (as_one (as_ret (ae_non))) (as_nil))
    (as_one (as_asg (ae_tup (aa_cons (ae_ix hr.units (av 2) (av 5)) (aa_cons (ae_ix hr.units (av 2) (av 4)) (aa_nil)))) (ag_tup rfl (ags_cons (ag_ix hr.units (av 2) (av 4)) (ags_cons (ag_ix hr.units (av 2) (av 5)) (ags_nil)))))))))
    (as_one (as_ret (av 2))))
theorem d__law_least {k : Nat} {f : Addr} {cdv : Value} {A : Around} {outer : List Env} {s : Shared} {H : Hp} {E : XK} (m_max : mg "max" = none) (m_min : mg "min" = none) (m_zip : mg "zip" = none) (hr : Room k (A.deeper (envOfC "_law_least" (defScope s__law_least) s.heap.objs.size f cdv))) :
    ASs (cxOf CX0 P w K mg base ["row", "other", "some", "a", "b"] "_law_least" (defScope s__law_least) f cdv A outer s H E).nox (defBody s__law_least) B__law_least :=
  as_cons (as_set (i := 2) sc__law_least.nd rfl (.inl rfl) (ae_lst (aa_nil)))
    (as_cons (as_for PassesOwn.never rfl (ai_zip (by rfl) m_zip (aa_cons (av 0) (aa_cons (ae_sl (av 0) (ao_some (ae_int)) (ao_none)) (aa_nil)))) (ag_tup rfl (ags_cons (ag_name (i := 3) sc__law_least.nd rfl (.inl rfl)) (ags_cons (ag_name (i := 4) sc__law_least.nd rfl (.inl rfl)) (ags_nil)))) (as_one (as_if (at_cmp op_lt sim_lt (ae_bm PySem.F.plainAttrs_list PySem.F.slot_list_index PySem.F.type_list_index mt_index sim_index (av 1) (aa_cons (av 4) (aa_nil))) (ae_bm PySem.F.plainAttrs_list PySem.F.slot_list_index PySem.F.type_list_index mt_index sim_index (av 1) (aa_cons (av 3) (aa_nil)))) (as_one (as_expr (ae_bm PySem.F.plainAttrs_list PySem.F.slot_list_append PySem.F.type_list_append mt_append sim_append (av 2) (aa_cons (ae_tup (aa_cons (ae_callB (call_min2 rfl) sim_min2 (by rfl) m_min bt_min (aa_cons (av 3) (aa_cons (av 4) (aa_nil)))) (aa_cons (ae_callB (call_max2 rfl) sim_max2 (by rfl) m_max bt_max (aa_cons (av 3) (aa_cons (av 4) (aa_nil)))) (aa_nil)))) (aa_nil))))) (as_nil))))
    (as_one (as_ret (ae_if (at_cmp (op_neP hr.units) sim_ne (av 2) (ae_lst (aa_nil))) (ae_callB (cr_minD rfl hr.units) sim_best (by rfl) m_min bt_min (aa_cons (av 2) (aa_nil))) (ae_non)))))
theorem d__law_right {k : Nat} {f : Addr} {cdv : Value} {A : Around} {outer : List Env} {s : Shared} {H : Hp} {E : XK} (m_list : mg "list" = none) {k__law_least : Nat} (l__law_least : k__law_least ≤ k) (h__law_least : Has P w K mg base "_law_least" k__law_least ["row", "other"] S__law_least) {k__law_walked : Nat} (l__law_walked : k__law_walked ≤ k) (h__law_walked : Has P w K mg base "_law_walked" k__law_walked ["one", "ties"] S__law_walked) (hr : Room k (A.deeper (envOfC "_law_right" (defScope s__law_right) s.heap.objs.size f cdv))) :
    ASs (cxOf CX0 P w K mg base ["one", "other", "told", "row", "tie"] "_law_right" (defScope s__law_right) f cdv A outer s H E).nox (defBody s__law_right) B__law_right :=
  as_cons (as_set (i := 3) sc__law_right.nd rfl (.inl rfl) (ae_callTy call_list_of sim_list (by rfl) m_list bt_list (aa_cons (av 0) (aa_nil))))
    (as_cons (as_for PassesOwn.never rfl (ai_any (av 2)) (ag_name (i := 4) sc__law_right.nd rfl (.inl rfl)) (as_cons (as_if (at_cmp (op_neP hr.units) sim_ne (av 4) (ae_callH h__law_least (hr.mono l__law_least) (by rfl) (aa_cons (av 3) (aa_cons (av 1) (aa_nil))))) (as_one (as_ret (ae_bl))) (as_nil))
    (as_one (as_set (i := 3) sc__law_right.nd rfl (.inl rfl) (ae_callH h__law_walked (hr.mono l__law_walked) (by rfl) (aa_cons (av 3) (aa_cons (ae_lst (aa_cons (av 4) (aa_nil))) (aa_nil))))))))
    (as_one (as_ret (ae_cmp (op_eqP hr.units) sim_eq (av 3) (av 1)))))
theorem d__law_by_turns {k : Nat} {f : Addr} {cdv : Value} {A : Around} {outer : List Env} {s : Shared} {H : Hp} {E : XK} (m_len : mg "len" = none) (m_list : mg "list" = none) (m_range : mg "range" = none) {k__law_pick : Nat} (l__law_pick : k__law_pick ≤ k) (h__law_pick : Has P w K mg base "_law_pick" k__law_pick ["left", "many"] S__law_pick) {k__law_row : Nat} (l__law_row : k__law_row ≤ k) (h__law_row : Has P w K mg base "_law_row" k__law_row ["left", "many"] S__law_row) {k_crossings : Nat} (l_crossings : k_crossings ≤ k) (h_crossings : Has P w K mg base "crossings" k_crossings ["one", "other"] S_crossings) {k__law_walked : Nat} (l__law_walked : k__law_walked ≤ k) (h__law_walked : Has P w K mg base "_law_walked" k__law_walked ["one", "ties"] S__law_walked) (hr : Room k (A.deeper (envOfC "_law_by_turns" (defScope s__law_by_turns) s.heap.objs.size f cdv))) :
    ASs (cxOf CX0 P w K mg base ["left", "some", "first", "turn", "i", "j", "told", "ways", "names", "called", "many", "row", "place"] "_law_by_turns" (defScope s__law_by_turns) f cdv A outer s H E).nox (defBody s__law_by_turns) B__law_by_turns :=
  as_cons (as_set (i := 1) sc__law_by_turns.nd rfl (.inr rfl) (ae_lc (tgs_name (by decide)) rfl sc__law_by_turns.nd (ai_any (ae_op op_mulA sim_mul (ae_lst (aa_cons (ae_callH h__law_pick (hr.mono l__law_pick) (by rfl) (aa_cons (av 0) (aa_cons (ae_int) (aa_nil)))) (aa_nil))) (ae_int))) (own := [("many", 10)]) (blkOk_by (by rfl)) (fun _ _ _ _ _ => pg_name (i := 10) sc__law_by_turns.nd rfl (by first | exact .inl rfl | exact .inr rfl)) (fun _ _ _ _ _ => ats_nil) (fun _ _ _ _ _ => ae_callH h__law_row (hr.mono l__law_row) (by rfl) (aa_cons (av 0) (aa_cons (av 10) (aa_nil))))))
    (as_cons (as_set (i := 2) sc__law_by_turns.nd rfl (.inl rfl) (ae_dnewT))
    (as_cons (as_for PassesOwn.never rfl (ai_rng1 (by rfl) m_range (aa_cons (ae_int) (aa_nil))) (ag_name (i := 3) sc__law_by_turns.nd rfl (.inl rfl)) (as_cons (as_par (i := 4) (j := 5) rfl sc__law_by_turns.nd rfl rfl (by decide) rfl rfl (aa_cons (ae_callH h__law_pick (hr.mono l__law_pick) (by rfl) (aa_cons (av 0) (aa_cons (ae_int) (aa_nil)))) (aa_cons (ae_callH h__law_pick (hr.mono l__law_pick) (by rfl) (aa_cons (av 0) (aa_cons (ae_int) (aa_nil)))) (aa_nil))) (by rfl))
    (as_cons (as_set (i := 6) sc__law_by_turns.nd rfl (.inl rfl) (ae_callH h_crossings (hr.mono l_crossings) (by rfl) (aa_cons (ae_ix hr.units (av 1) (av 4)) (aa_cons (ae_ix hr.units (av 1) (av 5)) (aa_nil)))))
    (as_cons (as_if (at_and (aw_or (at_cmp (op_neP hr.units) sim_ne (ae_callH h__law_walked (hr.mono l__law_walked) (by rfl) (aa_cons (ae_ix hr.units (av 1) (av 4)) (aa_cons (av 6) (aa_nil)))) (ae_ix hr.units (av 1) (av 5))) (aw_or1 (at_cmp (op_neP hr.units) sim_ne (ae_bmd PySem.F.plainAttrs_dict PySem.F.slot_dict_setdefault PySem.F.type_dict_setdefault (mt_setd hr.units) sim_setd (av 2) (aa_cons (ae_tup (aa_cons (av 4) (aa_cons (av 5) (aa_nil)))) (aa_cons (ae_callTy call_list_of sim_list (by rfl) m_list bt_list (aa_cons (av 6) (aa_nil))) (aa_nil)))) (av 6))))) (as_one (as_ret (ae_bl))) (as_nil))
    (as_cons (as_expr (ae_bm0 PySem.F.plainAttrs_list PySem.F.slot_list_reverse PySem.F.type_list_reverse mt_reverse sim_reverse (av 6)))
    (as_one (as_expr (ae_bm PySem.F.plainAttrs_list PySem.F.slot_list_append PySem.F.type_list_append mt_append sim_append (av 6) (aa_cons (ae_tup (aa_cons (ae_int) (aa_cons (ae_int) (aa_nil)))) (aa_nil))))))))))
    (as_cons (as_setLc (tgs_tup (is := [4, 5]) (by decide)) rfl sc__law_by_turns.nd (i := 7) rfl rfl (sw_true rfl rfl rfl rfl) (ai_any (ae_tup (aa_cons (ae_tup (aa_cons (ae_int) (aa_cons (ae_int) (aa_nil)))) (aa_cons (ae_tup (aa_cons (ae_int) (aa_cons (ae_int) (aa_nil)))) (aa_cons (ae_tup (aa_cons (ae_int) (aa_cons (ae_int) (aa_nil)))) (aa_cons (ae_tup (aa_cons (ae_int) (aa_cons (ae_int) (aa_nil)))) (aa_nil))))))) (own := [("i", 4), ("j", 5)]) (blkOk_by (by rfl)) (fun _ _ _ _ _ => pg_tup rfl (pgs_cons (pg_name (i := 4) sc__law_by_turns.nd rfl (by first | exact .inl rfl | exact .inr rfl)) (pgs_cons (pg_name (i := 5) sc__law_by_turns.nd rfl (by first | exact .inl rfl | exact .inr rfl)) (pgs_nil)))) (fun _ _ _ _ _ => ats_nil) (fun _ _ _ _ _ => ae_callB call_len_seq sim_len (by rfl) m_len bt_len (aa_cons (ae_callH h_crossings (hr.mono l_crossings) (by rfl) (aa_cons (ae_ix hr.units (av 1) (av 4)) (aa_cons (ae_ix hr.units (av 1) (av 5)) (aa_nil)))) (aa_nil))))
    (as_cons (as_set (i := 8) sc__law_by_turns.nd rfl (.inr rfl) (ae_callH h__law_row (hr.mono l__law_row) (by rfl) (aa_cons (av 0) (aa_cons (ae_callB call_len_seq sim_len (by rfl) m_len bt_len (aa_cons (ae_ix hr.units (av 1) (ae_int)) (aa_nil))) (aa_nil)))))
    (as_cons (as_setLc (tgs_name (by decide)) rfl sc__law_by_turns.nd (i := 9) rfl rfl (sw_true rfl rfl rfl rfl) (ai_any (ae_sl (av 1) (ao_none) (ao_some (ae_int)))) (own := [("row", 11)]) (blkOk_by (by rfl)) (fun _ _ _ _ _ => pg_name (i := 11) sc__law_by_turns.nd rfl (by first | exact .inl rfl | exact .inr rfl)) (fun _ _ _ _ _ => ats_nil) (fun _ _ _ _ _ => ae_lc (tgs_name (by decide)) rfl sc__law_by_turns.nd (ai_any (av 11)) (own := [("place", 12)]) (blkOk_by (by rfl)) (fun _ _ _ _ _ => pg_name (i := 12) sc__law_by_turns.nd rfl (by first | exact .inl rfl | exact .inr rfl)) (fun _ _ _ _ _ => ats_nil) (fun _ _ _ _ _ => ae_ix hr.units (av 8) (av 12))))
    (as_cons (as_if (at_cmp (op_neP hr.units) sim_ne (ae_callB call_len_seq sim_len (by rfl) m_len bt_len (aa_cons (ae_callH h_crossings (hr.mono l_crossings) (by rfl) (aa_cons (ae_ix hr.units (av 9) (ae_int)) (aa_cons (ae_ix hr.units (av 9) (ae_int)) (aa_nil)))) (aa_nil))) (ae_ix hr.units (av 7) (ae_int))) (as_one (as_ret (ae_bl))) (as_nil))
    (as_one (as_ret (ae_and (ae_cmp op_ge sim_ge (ae_op op_addA sim_add (ae_ix hr.units (av 7) (ae_int)) (ae_ix hr.units (av 7) (ae_int))) (ae_ix hr.units (av 7) (ae_int))) (ae_one (ae_cmp (op_eqP hr.units) sim_eq (ae_ix hr.units (av 7) (ae_int)) (ae_ix hr.units (av 7) (ae_int)))))))))))))
theorem d_law {k : Nat} {f : Addr} {cdv : Value} {A : Around} {outer : List Env} {s : Shared} {H : Hp} {E : XK} (m_isinstance : mg "isinstance" = none) (m_len : mg "len" = none) (m_list : mg "list" = none) (m_max : mg "max" = none) (m_min : mg "min" = none) (m_range : mg "range" = none) (m_sorted : mg "sorted" = none) {k__law_left : Nat} (l__law_left : k__law_left ≤ k) (h__law_left : Has P w K mg base "_law_left" k__law_left ["script", "k"] S__law_left) {k__law_two_rows : Nat} (l__law_two_rows : k__law_two_rows ≤ k) (h__law_two_rows : Has P w K mg base "_law_two_rows" k__law_two_rows ["left"] S__law_two_rows) {k_crossings : Nat} (l_crossings : k_crossings ≤ k) (h_crossings : Has P w K mg base "crossings" k_crossings ["one", "other"] S_crossings) {k__law_same : Nat} (l__law_same : k__law_same ≤ k) (h__law_same : Has P w K mg base "_law_same" k__law_same ["found", "due"] (S__law_same 3)) {k__law_right : Nat} (l__law_right : k__law_right ≤ k) (h__law_right : Has P w K mg base "_law_right" k__law_right ["one", "other", "told"] S__law_right) {k__law_by_turns : Nat} (l__law_by_turns : k__law_by_turns ≤ k) (h__law_by_turns : Has P w K mg base "_law_by_turns" k__law_by_turns ["left"] S__law_by_turns) (hr : Room k (A.deeper (envOfC "law" (defScope s_law) s.heap.objs.size f cdv))) :
    ASs (cxOf CX0 P w K mg base ["script", "k", "left", "one", "other", "kept", "ties", "a", "b", "ahead", "told", "again"] "law" (defScope s_law) f cdv A outer s H E).nox (defBody s_law) B_law :=
  as_cons (as_for PassesOwn.never rfl (ai_rng1 (by rfl) m_range (aa_cons (ae_callB (call_max2 rfl) sim_max2 (by rfl) m_max bt_max (aa_cons (ae_int) (aa_cons (ae_callB (call_min2 rfl) sim_min2 (by rfl) m_min bt_min (aa_cons (ae_callB call_len_seq sim_len (by rfl) m_len bt_len (aa_cons (av 0) (aa_nil))) (aa_cons (ae_int) (aa_nil)))) (aa_nil)))) (aa_nil))) (ag_name (i := 1) sc_law.nd rfl (.inl rfl)) (as_cons (as_set (i := 2) sc_law.nd rfl (.inl rfl) (ae_callH h__law_left (hr.mono l__law_left) (by rfl) (aa_cons (av 0) (aa_cons (av 1) (aa_nil)))))
    (as_cons (as_asg (ae_callH h__law_two_rows (hr.mono l__law_two_rows) (by rfl) (aa_cons (av 2) (aa_nil))) (ag_tup rfl (ags_cons (ag_name (i := 3) sc_law.nd rfl (.inl rfl)) (ags_cons (ag_name (i := 4) sc_law.nd rfl (.inl rfl)) (ags_nil)))))
    (as_cons (as_set (i := 5) sc_law.nd rfl (.inl rfl) (ae_tup (aa_cons (ae_callTy call_list_of sim_list (by rfl) m_list bt_list (aa_cons (av 3) (aa_nil))) (aa_cons (ae_callTy call_list_of sim_list (by rfl) m_list bt_list (aa_cons (av 4) (aa_nil))) (aa_nil)))))
    (as_cons (as_set (i := 6) sc_law.nd rfl (.inl rfl) (ae_lst (aa_nil)))
    (as_cons (as_for PassesOwn.never rfl (ai_rng1 (by rfl) m_range (aa_cons (ae_callB call_len_seq sim_len (by rfl) m_len bt_len (aa_cons (av 3) (aa_nil))) (aa_nil))) (ag_name (i := 7) sc_law.nd rfl (.inl rfl)) (as_one (as_for PassesOwn.never rfl (ai_rng2 (by rfl) m_range (aa_cons (ae_op op_addA sim_add (av 7) (ae_int)) (aa_cons (ae_callB call_len_seq sim_len (by rfl) m_len bt_len (aa_cons (av 3) (aa_nil))) (aa_nil)))) (ag_name (i := 8) sc_law.nd rfl (.inl rfl)) (as_cons (as_set (i := 9) sc_law.nd rfl (.inl rfl) (ae_cmp op_lt sim_lt (ae_bm PySem.F.plainAttrs_list PySem.F.slot_list_index PySem.F.type_list_index mt_index sim_index (av 3) (aa_cons (av 7) (aa_nil))) (ae_bm PySem.F.plainAttrs_list PySem.F.slot_list_index PySem.F.type_list_index mt_index sim_index (av 3) (aa_cons (av 8) (aa_nil)))))
    (as_one (as_if (at_cmp (op_neP hr.units) sim_ne (av 9) (ae_cmp op_lt sim_lt (ae_bm PySem.F.plainAttrs_list PySem.F.slot_list_index PySem.F.type_list_index mt_index sim_index (av 4) (aa_cons (av 7) (aa_nil))) (ae_bm PySem.F.plainAttrs_list PySem.F.slot_list_index PySem.F.type_list_index mt_index sim_index (av 4) (aa_cons (av 8) (aa_nil))))) (as_one (as_expr (ae_bm PySem.F.plainAttrs_list PySem.F.slot_list_append PySem.F.type_list_append mt_append sim_append (av 6) (aa_cons (ae_tup (aa_cons (av 7) (aa_cons (av 8) (aa_nil)))) (aa_nil))))) (as_nil)))))))
    (as_cons (as_set (i := 10) sc_law.nd rfl (.inl rfl) (ae_callH h_crossings (hr.mono l_crossings) (by rfl) (aa_cons (av 3) (aa_cons (av 4) (aa_nil)))))
    (as_cons (as_if (at_and (aw_or (at_not (at_val (ae_callH h__law_same (hr.mono l__law_same) (by rfl) (aa_cons (ae_callB (cr_sortD hr.units) sim_sorted (by rfl) m_sorted bt_sorted (aa_cons (av 10) (aa_nil))) (aa_cons (av 6) (aa_nil)))))) (aw_or1 (at_not (at_val (ae_callB cr_isA sim_isi (by rfl) m_isinstance bt_isinstance (aa_cons (av 10) (aa_cons (ae_ty (T := Tn.nm .lst) (by rfl) m_list bt_list) (aa_nil))))))))) (as_one (as_ret (ae_bl))) (as_nil))
    (as_cons (as_if (at_not (at_val (ae_callH h__law_right (hr.mono l__law_right) (by rfl) (aa_cons (av 3) (aa_cons (av 4) (aa_cons (av 10) (aa_nil))))))) (as_one (as_ret (ae_bl))) (as_nil))
    (as_cons (as_set (i := 11) sc_law.nd rfl (.inl rfl) (ae_callH h_crossings (hr.mono l_crossings) (by rfl) (aa_cons (av 3) (aa_cons (av 4) (aa_nil)))))
    (as_cons (as_if (at_and (aw_or (at_cmp (op_neP hr.units) sim_ne (av 11) (av 10)) (aw_or1 (at_cmp (op_neP hr.units) sim_ne (ae_tup (aa_cons (av 3) (aa_cons (av 4) (aa_nil)))) (av 5))))) (as_one (as_ret (ae_bl))) (as_nil))
    (as_cons (as_expr (ae_bm0 PySem.F.plainAttrs_list PySem.F.slot_list_reverse PySem.F.type_list_reverse mt_reverse sim_reverse (av 11)))
    (as_cons (as_expr (ae_bm PySem.F.plainAttrs_list PySem.F.slot_list_append PySem.F.type_list_append mt_append sim_append (av 11) (aa_cons (ae_tup (aa_cons (ae_int) (aa_cons (ae_int) (aa_nil)))) (aa_nil))))
    (as_one (as_if (at_and (aw_or (at_cmp (op_neP hr.units) sim_ne (ae_callH h_crossings (hr.mono l_crossings) (by rfl) (aa_cons (av 3) (aa_cons (av 4) (aa_nil)))) (av 10)) (aw_or (at_cmp (op_neP hr.units) sim_ne (ae_callH h_crossings (hr.mono l_crossings) (by rfl) (aa_cons (av 3) (aa_cons (ae_callTy call_list_of sim_list (by rfl) m_list bt_list (aa_cons (av 3) (aa_nil))) (aa_nil)))) (ae_lst (aa_nil))) (aw_or1 (at_not (at_val (ae_callH h__law_by_turns (hr.mono l__law_by_turns) (by rfl) (aa_cons (av 2) (aa_nil))))))))) (as_one (as_ret (ae_bl))) (as_nil))))))))))))))))
    (as_one (as_ret (ae_bl)))
end
theorem all_mk {l : PySem.W.OpenLaw} {w : World} {K : PySem.W.Frag} {h : Heap} {mg : Str → Option Value} {fa : Addr} (X : K.In h) (G : h.Ns mainGlobals mg) (hfa : mg "law" = some (.ref fa))
    {f0 : Addr} {od0 an0 : Option Addr} {sl0 : Array (Option Value)} {oc0 kV0 dc0 pm0 cd0 ct0 : Value}
    {f1 : Addr} {od1 an1 : Option Addr} {sl1 : Array (Option Value)} {oc1 kV1 dc1 pm1 cd1 ct1 : Value}
    {f2 : Addr} {od2 an2 : Option Addr} {sl2 : Array (Option Value)} {oc2 kV2 dc2 pm2 cd2 ct2 : Value}
    {f3 : Addr} {od3 an3 : Option Addr} {sl3 : Array (Option Value)} {oc3 kV3 dc3 pm3 cd3 ct3 : Value}
    {f4 : Addr} {od4 an4 : Option Addr} {sl4 : Array (Option Value)} {oc4 kV4 dc4 pm4 cd4 ct4 : Value}
    {f5 : Addr} {od5 an5 : Option Addr} {sl5 : Array (Option Value)} {oc5 kV5 dc5 pm5 cd5 ct5 : Value}
    {f6 : Addr} {od6 an6 : Option Addr} {sl6 : Array (Option Value)} {oc6 kV6 dc6 pm6 cd6 ct6 : Value}
    {f7 : Addr} {od7 an7 : Option Addr} {sl7 : Array (Option Value)} {oc7 kV7 dc7 pm7 cd7 ct7 : Value}
    {f8 : Addr} {od8 an8 : Option Addr} {sl8 : Array (Option Value)} {oc8 kV8 dc8 pm8 cd8 ct8 : Value}
    {f9 : Addr} {od9 an9 : Option Addr} {sl9 : Array (Option Value)} {oc9 kV9 dc9 pm9 cd9 ct9 : Value}
    {f10 : Addr} {od10 an10 : Option Addr} {sl10 : Array (Option Value)} {oc10 kV10 dc10 pm10 cd10 ct10 : Value}
    {f11 : Addr} {od11 an11 : Option Addr} {sl11 : Array (Option Value)} {oc11 kV11 dc11 pm11 cd11 ct11 : Value}
    {f12 : Addr} {od12 an12 : Option Addr} {sl12 : Array (Option Value)} {oc12 kV12 dc12 pm12 cd12 ct12 : Value}
    {f13 : Addr} {od13 an13 : Option Addr} {sl13 : Array (Option Value)} {oc13 kV13 dc13 pm13 cd13 ct13 : Value}
    (a0 : PySem.W.nsIn K mainGlobals "spots_of" = some (some (.ref f0))) (l0 : K.lookup f0 = some ⟨oc0, od0, .func (PySem.W.fnOf "spots_of" "spots_of" (defArgs s_spots_of) (defBody s_spots_of) (defScope s_spots_of) .none kV0 dc0 pm0 an0 cd0 ct0), sl0⟩) (c0 : PySem.W.codeIn K cd0 "spots_of" = true) (k0 : PySem.W.keepIn K (.ref f0) = true)
    (a1 : PySem.W.nsIn K mainGlobals "neighbours_otherwise" = some (some (.ref f1))) (l1 : K.lookup f1 = some ⟨oc1, od1, .func (PySem.W.fnOf "neighbours_otherwise" "neighbours_otherwise" (defArgs s_neighbours_otherwise) (defBody s_neighbours_otherwise) (defScope s_neighbours_otherwise) .none kV1 dc1 pm1 an1 cd1 ct1), sl1⟩) (c1 : PySem.W.codeIn K cd1 "neighbours_otherwise" = true) (k1 : PySem.W.keepIn K (.ref f1) = true)
    (a2 : PySem.W.nsIn K mainGlobals "crossings" = some (some (.ref f2))) (l2 : K.lookup f2 = some ⟨oc2, od2, .func (PySem.W.fnOf "crossings" "crossings" (defArgs s_crossings) (defBody s_crossings) (defScope s_crossings) .none kV2 dc2 pm2 an2 cd2 ct2), sl2⟩) (c2 : PySem.W.codeIn K cd2 "crossings" = true) (k2 : PySem.W.keepIn K (.ref f2) = true)
    (a3 : PySem.W.nsIn K mainGlobals "_law_mix" = some (some (.ref f3))) (l3 : K.lookup f3 = some ⟨oc3, od3, .func (PySem.W.fnOf "_law_mix" "_law_mix" (defArgs s__law_mix) (defBody s__law_mix) (defScope s__law_mix) .none kV3 dc3 pm3 an3 cd3 ct3), sl3⟩) (c3 : PySem.W.codeIn K cd3 "_law_mix" = true) (k3 : PySem.W.keepIn K (.ref f3) = true)
    (a4 : PySem.W.nsIn K mainGlobals "_law_left" = some (some (.ref f4))) (l4 : K.lookup f4 = some ⟨oc4, od4, .func (PySem.W.fnOf "_law_left" "_law_left" (defArgs s__law_left) (defBody s__law_left) (defScope s__law_left) .none kV4 dc4 pm4 an4 cd4 ct4), sl4⟩) (c4 : PySem.W.codeIn K cd4 "_law_left" = true) (k4 : PySem.W.keepIn K (.ref f4) = true)
    (a5 : PySem.W.nsIn K mainGlobals "_law_pick" = some (some (.ref f5))) (l5 : K.lookup f5 = some ⟨oc5, od5, .func (PySem.W.fnOf "_law_pick" "_law_pick" (defArgs s__law_pick) (defBody s__law_pick) (defScope s__law_pick) .none kV5 dc5 pm5 an5 cd5 ct5), sl5⟩) (c5 : PySem.W.codeIn K cd5 "_law_pick" = true) (k5 : PySem.W.keepIn K (.ref f5) = true)
    (a6 : PySem.W.nsIn K mainGlobals "_law_same" = some (some (.ref f6))) (l6 : K.lookup f6 = some ⟨oc6, od6, .func (PySem.W.fnOf "_law_same" "_law_same" (defArgs s__law_same) (defBody s__law_same) (defScope s__law_same) .none kV6 dc6 pm6 an6 cd6 ct6), sl6⟩) (c6 : PySem.W.codeIn K cd6 "_law_same" = true) (k6 : PySem.W.keepIn K (.ref f6) = true)
    (a7 : PySem.W.nsIn K mainGlobals "_law_row" = some (some (.ref f7))) (l7 : K.lookup f7 = some ⟨oc7, od7, .func (PySem.W.fnOf "_law_row" "_law_row" (defArgs s__law_row) (defBody s__law_row) (defScope s__law_row) .none kV7 dc7 pm7 an7 cd7 ct7), sl7⟩) (c7 : PySem.W.codeIn K cd7 "_law_row" = true) (k7 : PySem.W.keepIn K (.ref f7) = true)
    (a8 : PySem.W.nsIn K mainGlobals "_law_two_rows" = some (some (.ref f8))) (l8 : K.lookup f8 = some ⟨oc8, od8, .func (PySem.W.fnOf "_law_two_rows" "_law_two_rows" (defArgs s__law_two_rows) (defBody s__law_two_rows) (defScope s__law_two_rows) .none kV8 dc8 pm8 an8 cd8 ct8), sl8⟩) (c8 : PySem.W.codeIn K cd8 "_law_two_rows" = true) (k8 : PySem.W.keepIn K (.ref f8) = true)
    (a9 : PySem.W.nsIn K mainGlobals "_law_walked" = some (some (.ref f9))) (l9 : K.lookup f9 = some ⟨oc9, od9, .func (PySem.W.fnOf "_law_walked" "_law_walked" (defArgs s__law_walked) (defBody s__law_walked) (defScope s__law_walked) .none kV9 dc9 pm9 an9 cd9 ct9), sl9⟩) (c9 : PySem.W.codeIn K cd9 "_law_walked" = true) (k9 : PySem.W.keepIn K (.ref f9) = true)
    (a10 : PySem.W.nsIn K mainGlobals "_law_least" = some (some (.ref f10))) (l10 : K.lookup f10 = some ⟨oc10, od10, .func (PySem.W.fnOf "_law_least" "_law_least" (defArgs s__law_least) (defBody s__law_least) (defScope s__law_least) .none kV10 dc10 pm10 an10 cd10 ct10), sl10⟩) (c10 : PySem.W.codeIn K cd10 "_law_least" = true) (k10 : PySem.W.keepIn K (.ref f10) = true)
    (a11 : PySem.W.nsIn K mainGlobals "_law_right" = some (some (.ref f11))) (l11 : K.lookup f11 = some ⟨oc11, od11, .func (PySem.W.fnOf "_law_right" "_law_right" (defArgs s__law_right) (defBody s__law_right) (defScope s__law_right) .none kV11 dc11 pm11 an11 cd11 ct11), sl11⟩) (c11 : PySem.W.codeIn K cd11 "_law_right" = true) (k11 : PySem.W.keepIn K (.ref f11) = true)
    (a12 : PySem.W.nsIn K mainGlobals "_law_by_turns" = some (some (.ref f12))) (l12 : K.lookup f12 = some ⟨oc12, od12, .func (PySem.W.fnOf "_law_by_turns" "_law_by_turns" (defArgs s__law_by_turns) (defBody s__law_by_turns) (defScope s__law_by_turns) .none kV12 dc12 pm12 an12 cd12 ct12), sl12⟩) (c12 : PySem.W.codeIn K cd12 "_law_by_turns" = true) (k12 : PySem.W.keepIn K (.ref f12) = true)
    (a13 : PySem.W.nsIn K mainGlobals "law" = some (some (.ref f13))) (l13 : K.lookup f13 = some ⟨oc13, od13, .func (PySem.W.fnOf "law" "law" (defArgs s_law) (defBody s_law) (defScope s_law) .none kV13 dc13 pm13 an13 cd13 ct13), sl13⟩) (c13 : PySem.W.codeIn K cd13 "law" = true) (k13 : PySem.W.keepIn K (.ref f13) = true)
    (z_abs : PySem.W.nsIn K mainGlobals "abs" = some none) (z_all : PySem.W.nsIn K mainGlobals "all" = some none) (z_bool : PySem.W.nsIn K mainGlobals "bool" = some none) (z_dict : PySem.W.nsIn K mainGlobals "dict" = some none) (z_enumerate : PySem.W.nsIn K mainGlobals "enumerate" = some none) (z_int : PySem.W.nsIn K mainGlobals "int" = some none) (z_isinstance : PySem.W.nsIn K mainGlobals "isinstance" = some none) (z_len : PySem.W.nsIn K mainGlobals "len" = some none) (z_list : PySem.W.nsIn K mainGlobals "list" = some none) (z_max : PySem.W.nsIn K mainGlobals "max" = some none) (z_min : PySem.W.nsIn K mainGlobals "min" = some none) (z_range : PySem.W.nsIn K mainGlobals "range" = some none) (z_sorted : PySem.W.nsIn K mainGlobals "sorted" = some none) (z_str : PySem.W.nsIn K mainGlobals "str" = some none) (z_tuple : PySem.W.nsIn K mainGlobals "tuple" = some none) (z_zip : PySem.W.nsIn K mainGlobals "zip" = some none) :
    ∃ fd : FuncData, (∀ (s : Shared) (v : Value), BindsTo s fd ⟨[v], []⟩ [("script", v)]) ∧ ∀ base : Heap, K.In base → base.Ns mainGlobals mg → FnOk l.prog w K mg base CX0 5 fa fd ["script"] (spA K S_law) := by
  have e := hfa.symm.trans (PySem.W.mg_of X G a13)
  cases e
  have m_abs := PySem.W.mg_none_of X G z_abs
  have m_all := PySem.W.mg_none_of X G z_all
  have m_bool := PySem.W.mg_none_of X G z_bool
  have m_dict := PySem.W.mg_none_of X G z_dict
  have m_enumerate := PySem.W.mg_none_of X G z_enumerate
  have m_int := PySem.W.mg_none_of X G z_int
  have m_isinstance := PySem.W.mg_none_of X G z_isinstance
  have m_len := PySem.W.mg_none_of X G z_len
  have m_list := PySem.W.mg_none_of X G z_list
  have m_max := PySem.W.mg_none_of X G z_max
  have m_min := PySem.W.mg_none_of X G z_min
  have m_range := PySem.W.mg_none_of X G z_range
  have m_sorted := PySem.W.mg_none_of X G z_sorted
  have m_str := PySem.W.mg_none_of X G z_str
  have m_tuple := PySem.W.mg_none_of X G z_tuple
  have m_zip := PySem.W.mg_none_of X G z_zip
  have F_spots_of := fun_mk (st := s_spots_of) l0 c0 k0
  have b_spots_of := F_spots_of.binds (ps := ["row"]) fun _ _ _ _ _ _ us hl => match us, hl with | [_], _ => rfl
  have F_neighbours_otherwise := fun_mk (st := s_neighbours_otherwise) l1 c1 k1
  have b_neighbours_otherwise := F_neighbours_otherwise.binds (ps := ["row", "spots"]) fun _ _ _ _ _ _ us hl => match us, hl with | [_, _], _ => rfl
  have F_crossings := fun_mk (st := s_crossings) l2 c2 k2
  have b_crossings := F_crossings.binds (ps := ["one", "other"]) fun _ _ _ _ _ _ us hl => match us, hl with | [_, _], _ => rfl
  have F__law_mix := fun_mk (st := s__law_mix) l3 c3 k3
  have b__law_mix := F__law_mix.binds (ps := ["cell", "k"]) fun _ _ _ _ _ _ us hl => match us, hl with | [_, _], _ => rfl
  have F__law_left := fun_mk (st := s__law_left) l4 c4 k4
  have b__law_left := F__law_left.binds (ps := ["script", "k"]) fun _ _ _ _ _ _ us hl => match us, hl with | [_, _], _ => rfl
  have F__law_pick := fun_mk (st := s__law_pick) l5 c5 k5
  have b__law_pick := F__law_pick.binds (ps := ["left", "many"]) fun _ _ _ _ _ _ us hl => match us, hl with | [_, _], _ => rfl
  have F__law_same := fun_mk (st := s__law_same) l6 c6 k6
  have b__law_same := F__law_same.binds (ps := ["found", "due"]) fun _ _ _ _ _ _ us hl => match us, hl with | [_, _], _ => rfl
  have F__law_row := fun_mk (st := s__law_row) l7 c7 k7
  have b__law_row := F__law_row.binds (ps := ["left", "many"]) fun _ _ _ _ _ _ us hl => match us, hl with | [_, _], _ => rfl
  have F__law_two_rows := fun_mk (st := s__law_two_rows) l8 c8 k8
  have b__law_two_rows := F__law_two_rows.binds (ps := ["left"]) fun _ _ _ _ _ _ us hl => match us, hl with | [_], _ => rfl
  have F__law_walked := fun_mk (st := s__law_walked) l9 c9 k9
  have b__law_walked := F__law_walked.binds (ps := ["one", "ties"]) fun _ _ _ _ _ _ us hl => match us, hl with | [_, _], _ => rfl
  have F__law_least := fun_mk (st := s__law_least) l10 c10 k10
  have b__law_least := F__law_least.binds (ps := ["row", "other"]) fun _ _ _ _ _ _ us hl => match us, hl with | [_, _], _ => rfl
  have F__law_right := fun_mk (st := s__law_right) l11 c11 k11
  have b__law_right := F__law_right.binds (ps := ["one", "other", "told"]) fun _ _ _ _ _ _ us hl => match us, hl with | [_, _, _], _ => rfl
  have F__law_by_turns := fun_mk (st := s__law_by_turns) l12 c12 k12
  have b__law_by_turns := F__law_by_turns.binds (ps := ["left"]) fun _ _ _ _ _ _ us hl => match us, hl with | [_], _ => rfl
  have F_law := fun_mk (st := s_law) l13 c13 k13
  have b_law := F_law.binds (ps := ["script"]) fun _ _ _ _ _ _ us hl => match us, hl with | [_], _ => rfl
  refine ⟨PySem.W.fnOf "law" "law" (defArgs s_law) (defBody s_law) (defScope s_law) .none kV13 dc13 pm13 an13 cd13 ct13, fun s v => .of_eq rfl, fun base _ _ => ?_⟩
  have h_spots_of : Has l.prog w K mg base "spots_of" 1 ["row"] S_spots_of := has_of (k := 0) (B := B_spots_of) F_spots_of b_spots_of (PySem.W.mg_of X G a0) sc_spots_of (fun ws st P h => by first | (obtain ⟨_, rfl, _⟩ := h; rfl) | (obtain ⟨_, _, rfl, _⟩ := h; rfl) | (obtain ⟨_, _, _, rfl, _⟩ := h; rfl) | (obtain ⟨_, _, _, _, rfl, _⟩ := h; rfl) | (obtain ⟨_, _, _, _, _, rfl, _⟩ := h; rfl) | (obtain ⟨_, _, _, _, _, _, rfl, _⟩ := h; rfl) | (obtain ⟨_, _, _, _, _, _, _, rfl, _⟩ := h; rfl) | (obtain ⟨_, _, _, _, _, _, _, _, rfl, _⟩ := h; rfl)) keeps_spots_of fun cdv A outer s H E hr => d_spots_of m_dict m_enumerate hr
  have h_neighbours_otherwise : Has l.prog w K mg base "neighbours_otherwise" 1 ["row", "spots"] S_neighbours_otherwise := has_of (k := 0) (B := B_neighbours_otherwise) F_neighbours_otherwise b_neighbours_otherwise (PySem.W.mg_of X G a1) sc_neighbours_otherwise (fun ws st P h => by first | (obtain ⟨_, rfl, _⟩ := h; rfl) | (obtain ⟨_, _, rfl, _⟩ := h; rfl) | (obtain ⟨_, _, _, rfl, _⟩ := h; rfl) | (obtain ⟨_, _, _, _, rfl, _⟩ := h; rfl) | (obtain ⟨_, _, _, _, _, rfl, _⟩ := h; rfl) | (obtain ⟨_, _, _, _, _, _, rfl, _⟩ := h; rfl) | (obtain ⟨_, _, _, _, _, _, _, rfl, _⟩ := h; rfl) | (obtain ⟨_, _, _, _, _, _, _, _, rfl, _⟩ := h; rfl)) keeps_neighbours_otherwise fun cdv A outer s H E hr => d_neighbours_otherwise m_len m_max m_min m_range hr
  have h_crossings : Has l.prog w K mg base "crossings" 2 ["one", "other"] S_crossings := has_of (k := 1) (B := B_crossings) F_crossings b_crossings (PySem.W.mg_of X G a2) sc_crossings (fun ws st P h => by first | (obtain ⟨_, rfl, _⟩ := h; rfl) | (obtain ⟨_, _, rfl, _⟩ := h; rfl) | (obtain ⟨_, _, _, rfl, _⟩ := h; rfl) | (obtain ⟨_, _, _, _, rfl, _⟩ := h; rfl) | (obtain ⟨_, _, _, _, _, rfl, _⟩ := h; rfl) | (obtain ⟨_, _, _, _, _, _, rfl, _⟩ := h; rfl) | (obtain ⟨_, _, _, _, _, _, _, rfl, _⟩ := h; rfl) | (obtain ⟨_, _, _, _, _, _, _, _, rfl, _⟩ := h; rfl)) keeps_crossings fun cdv A outer s H E hr => d_crossings m_len m_list m_min (by omega) h_spots_of (by omega) h_neighbours_otherwise hr
  have h__law_mix : Has l.prog w K mg base "_law_mix" 1 ["cell", "k"] S__law_mix := has_of (k := 0) (B := B__law_mix) F__law_mix b__law_mix (PySem.W.mg_of X G a3) sc__law_mix (fun ws st P h => by first | (obtain ⟨_, rfl, _⟩ := h; rfl) | (obtain ⟨_, _, rfl, _⟩ := h; rfl) | (obtain ⟨_, _, _, rfl, _⟩ := h; rfl) | (obtain ⟨_, _, _, _, rfl, _⟩ := h; rfl) | (obtain ⟨_, _, _, _, _, rfl, _⟩ := h; rfl) | (obtain ⟨_, _, _, _, _, _, rfl, _⟩ := h; rfl) | (obtain ⟨_, _, _, _, _, _, _, rfl, _⟩ := h; rfl) | (obtain ⟨_, _, _, _, _, _, _, _, rfl, _⟩ := h; rfl)) keeps__law_mix fun cdv A outer s H E hr => d__law_mix  hr
  have h__law_left : Has l.prog w K mg base "_law_left" 1 ["script", "k"] S__law_left := has_of (k := 0) (B := B__law_left) F__law_left b__law_left (PySem.W.mg_of X G a4) sc__law_left (fun ws st P h => by first | (obtain ⟨_, rfl, _⟩ := h; rfl) | (obtain ⟨_, _, rfl, _⟩ := h; rfl) | (obtain ⟨_, _, _, rfl, _⟩ := h; rfl) | (obtain ⟨_, _, _, _, rfl, _⟩ := h; rfl) | (obtain ⟨_, _, _, _, _, rfl, _⟩ := h; rfl) | (obtain ⟨_, _, _, _, _, _, rfl, _⟩ := h; rfl) | (obtain ⟨_, _, _, _, _, _, _, rfl, _⟩ := h; rfl) | (obtain ⟨_, _, _, _, _, _, _, _, rfl, _⟩ := h; rfl)) keeps__law_left fun cdv A outer s H E hr => d__law_left m_abs m_int m_len hr
  have h__law_pick : Has l.prog w K mg base "_law_pick" 2 ["left", "many"] S__law_pick := has_of (k := 1) (B := B__law_pick) F__law_pick b__law_pick (PySem.W.mg_of X G a5) sc__law_pick (fun ws st P h => by first | (obtain ⟨_, rfl, _⟩ := h; rfl) | (obtain ⟨_, _, rfl, _⟩ := h; rfl) | (obtain ⟨_, _, _, rfl, _⟩ := h; rfl) | (obtain ⟨_, _, _, _, rfl, _⟩ := h; rfl) | (obtain ⟨_, _, _, _, _, rfl, _⟩ := h; rfl) | (obtain ⟨_, _, _, _, _, _, rfl, _⟩ := h; rfl) | (obtain ⟨_, _, _, _, _, _, _, rfl, _⟩ := h; rfl) | (obtain ⟨_, _, _, _, _, _, _, _, rfl, _⟩ := h; rfl)) keeps__law_pick fun cdv A outer s H E hr => d__law_pick (by omega) h__law_mix hr
  have r__law_same_0 : Has l.prog w K mg base "_law_same" 0 ["found", "due"] sNone := has_none F__law_same b__law_same (PySem.W.mg_of X G a6)
  have r__law_same_1 : Has l.prog w K mg base "_law_same" 1 ["found", "due"] (S__law_same 0) := has_of (k := 0) (B := (B__law_same sNone)) F__law_same b__law_same (PySem.W.mg_of X G a6) sc__law_same (fun ws st P h => by first | (obtain ⟨_, rfl, _⟩ := h; rfl) | (obtain ⟨_, _, rfl, _⟩ := h; rfl) | (obtain ⟨_, _, _, rfl, _⟩ := h; rfl) | (obtain ⟨_, _, _, _, rfl, _⟩ := h; rfl) | (obtain ⟨_, _, _, _, _, rfl, _⟩ := h; rfl) | (obtain ⟨_, _, _, _, _, _, rfl, _⟩ := h; rfl) | (obtain ⟨_, _, _, _, _, _, _, rfl, _⟩ := h; rfl) | (obtain ⟨_, _, _, _, _, _, _, _, rfl, _⟩ := h; rfl)) (keeps__law_same 0 _ (fun j h => by cases h)) fun cdv A outer s H E hr => d__law_same m_all m_bool m_int m_isinstance m_len m_list m_str m_tuple m_zip (by omega) r__law_same_0 hr
  have r__law_same_2 : Has l.prog w K mg base "_law_same" 2 ["found", "due"] (S__law_same 1) := has_of (k := 1) (B := (B__law_same (S__law_same 0))) F__law_same b__law_same (PySem.W.mg_of X G a6) sc__law_same (fun ws st P h => by first | (obtain ⟨_, rfl, _⟩ := h; rfl) | (obtain ⟨_, _, rfl, _⟩ := h; rfl) | (obtain ⟨_, _, _, rfl, _⟩ := h; rfl) | (obtain ⟨_, _, _, _, rfl, _⟩ := h; rfl) | (obtain ⟨_, _, _, _, _, rfl, _⟩ := h; rfl) | (obtain ⟨_, _, _, _, _, _, rfl, _⟩ := h; rfl) | (obtain ⟨_, _, _, _, _, _, _, rfl, _⟩ := h; rfl) | (obtain ⟨_, _, _, _, _, _, _, _, rfl, _⟩ := h; rfl)) (keeps__law_same 1 _ (fun j h => by cases h; rfl)) fun cdv A outer s H E hr => d__law_same m_all m_bool m_int m_isinstance m_len m_list m_str m_tuple m_zip (by omega) r__law_same_1 hr
  have r__law_same_3 : Has l.prog w K mg base "_law_same" 3 ["found", "due"] (S__law_same 2) := has_of (k := 2) (B := (B__law_same (S__law_same 1))) F__law_same b__law_same (PySem.W.mg_of X G a6) sc__law_same (fun ws st P h => by first | (obtain ⟨_, rfl, _⟩ := h; rfl) | (obtain ⟨_, _, rfl, _⟩ := h; rfl) | (obtain ⟨_, _, _, rfl, _⟩ := h; rfl) | (obtain ⟨_, _, _, _, rfl, _⟩ := h; rfl) | (obtain ⟨_, _, _, _, _, rfl, _⟩ := h; rfl) | (obtain ⟨_, _, _, _, _, _, rfl, _⟩ := h; rfl) | (obtain ⟨_, _, _, _, _, _, _, rfl, _⟩ := h; rfl) | (obtain ⟨_, _, _, _, _, _, _, _, rfl, _⟩ := h; rfl)) (keeps__law_same 2 _ (fun j h => by cases h; rfl)) fun cdv A outer s H E hr => d__law_same m_all m_bool m_int m_isinstance m_len m_list m_str m_tuple m_zip (by omega) r__law_same_2 hr
  have h__law_same : Has l.prog w K mg base "_law_same" 4 ["found", "due"] (S__law_same 3) := has_of (k := 3) (B := (B__law_same (S__law_same 2))) F__law_same b__law_same (PySem.W.mg_of X G a6) sc__law_same (fun ws st P h => by first | (obtain ⟨_, rfl, _⟩ := h; rfl) | (obtain ⟨_, _, rfl, _⟩ := h; rfl) | (obtain ⟨_, _, _, rfl, _⟩ := h; rfl) | (obtain ⟨_, _, _, _, rfl, _⟩ := h; rfl) | (obtain ⟨_, _, _, _, _, rfl, _⟩ := h; rfl) | (obtain ⟨_, _, _, _, _, _, rfl, _⟩ := h; rfl) | (obtain ⟨_, _, _, _, _, _, _, rfl, _⟩ := h; rfl) | (obtain ⟨_, _, _, _, _, _, _, _, rfl, _⟩ := h; rfl)) (keeps__law_same 3 _ (fun j h => by cases h; rfl)) fun cdv A outer s H E hr => d__law_same m_all m_bool m_int m_isinstance m_len m_list m_str m_tuple m_zip (by omega) r__law_same_3 hr
  have h__law_row : Has l.prog w K mg base "_law_row" 3 ["left", "many"] S__law_row := has_of (k := 2) (B := B__law_row) F__law_row b__law_row (PySem.W.mg_of X G a7) sc__law_row (fun ws st P h => by first | (obtain ⟨_, rfl, _⟩ := h; rfl) | (obtain ⟨_, _, rfl, _⟩ := h; rfl) | (obtain ⟨_, _, _, rfl, _⟩ := h; rfl) | (obtain ⟨_, _, _, _, rfl, _⟩ := h; rfl) | (obtain ⟨_, _, _, _, _, rfl, _⟩ := h; rfl) | (obtain ⟨_, _, _, _, _, _, rfl, _⟩ := h; rfl) | (obtain ⟨_, _, _, _, _, _, _, rfl, _⟩ := h; rfl) | (obtain ⟨_, _, _, _, _, _, _, _, rfl, _⟩ := h; rfl)) keeps__law_row fun cdv A outer s H E hr => d__law_row m_range (by omega) h__law_pick hr
  have h__law_two_rows : Has l.prog w K mg base "_law_two_rows" 4 ["left"] S__law_two_rows := has_of (k := 3) (B := B__law_two_rows) F__law_two_rows b__law_two_rows (PySem.W.mg_of X G a8) sc__law_two_rows (fun ws st P h => by first | (obtain ⟨_, rfl, _⟩ := h; rfl) | (obtain ⟨_, _, rfl, _⟩ := h; rfl) | (obtain ⟨_, _, _, rfl, _⟩ := h; rfl) | (obtain ⟨_, _, _, _, rfl, _⟩ := h; rfl) | (obtain ⟨_, _, _, _, _, rfl, _⟩ := h; rfl) | (obtain ⟨_, _, _, _, _, _, rfl, _⟩ := h; rfl) | (obtain ⟨_, _, _, _, _, _, _, rfl, _⟩ := h; rfl) | (obtain ⟨_, _, _, _, _, _, _, _, rfl, _⟩ := h; rfl)) keeps__law_two_rows fun cdv A outer s H E hr => d__law_two_rows m_int m_list m_range (by omega) h__law_pick (by omega) h__law_row hr
  have h__law_walked : Has l.prog w K mg base "_law_walked" 1 ["one", "ties"] S__law_walked := has_of (k := 0) (B := B__law_walked) F__law_walked b__law_walked (PySem.W.mg_of X G a9) sc__law_walked (fun ws st P h => by first | (obtain ⟨_, rfl, _⟩ := h; rfl) | (obtain ⟨_, _, rfl, _⟩ := h; rfl) | (obtain ⟨_, _, _, rfl, _⟩ := h; rfl) | (obtain ⟨_, _, _, _, rfl, _⟩ := h; rfl) | (obtain ⟨_, _, _, _, _, rfl, _⟩ := h; rfl) | (obtain ⟨_, _, _, _, _, _, rfl, _⟩ := h; rfl) | (obtain ⟨_, _, _, _, _, _, _, rfl, _⟩ := h; rfl) | (obtain ⟨_, _, _, _, _, _, _, _, rfl, _⟩ := h; rfl)) keeps__law_walked fun cdv A outer s H E hr => d__law_walked m_abs m_list hr
  have h__law_least : Has l.prog w K mg base "_law_least" 1 ["row", "other"] S__law_least := has_of (k := 0) (B := B__law_least) F__law_least b__law_least (PySem.W.mg_of X G a10) sc__law_least (fun ws st P h => by first | (obtain ⟨_, rfl, _⟩ := h; rfl) | (obtain ⟨_, _, rfl, _⟩ := h; rfl) | (obtain ⟨_, _, _, rfl, _⟩ := h; rfl) | (obtain ⟨_, _, _, _, rfl, _⟩ := h; rfl) | (obtain ⟨_, _, _, _, _, rfl, _⟩ := h; rfl) | (obtain ⟨_, _, _, _, _, _, rfl, _⟩ := h; rfl) | (obtain ⟨_, _, _, _, _, _, _, rfl, _⟩ := h; rfl) | (obtain ⟨_, _, _, _, _, _, _, _, rfl, _⟩ := h; rfl)) keeps__law_least fun cdv A outer s H E hr => d__law_least m_max m_min m_zip hr
  have h__law_right : Has l.prog w K mg base "_law_right" 2 ["one", "other", "told"] S__law_right := has_of (k := 1) (B := B__law_right) F__law_right b__law_right (PySem.W.mg_of X G a11) sc__law_right (fun ws st P h => by first | (obtain ⟨_, rfl, _⟩ := h; rfl) | (obtain ⟨_, _, rfl, _⟩ := h; rfl) | (obtain ⟨_, _, _, rfl, _⟩ := h; rfl) | (obtain ⟨_, _, _, _, rfl, _⟩ := h; rfl) | (obtain ⟨_, _, _, _, _, rfl, _⟩ := h; rfl) | (obtain ⟨_, _, _, _, _, _, rfl, _⟩ := h; rfl) | (obtain ⟨_, _, _, _, _, _, _, rfl, _⟩ := h; rfl) | (obtain ⟨_, _, _, _, _, _, _, _, rfl, _⟩ := h; rfl)) keeps__law_right fun cdv A outer s H E hr => d__law_right m_list (by omega) h__law_least (by omega) h__law_walked hr
  have h__law_by_turns : Has l.prog w K mg base "_law_by_turns" 4 ["left"] S__law_by_turns := has_of (k := 3) (B := B__law_by_turns) F__law_by_turns b__law_by_turns (PySem.W.mg_of X G a12) sc__law_by_turns (fun ws st P h => by first | (obtain ⟨_, rfl, _⟩ := h; rfl) | (obtain ⟨_, _, rfl, _⟩ := h; rfl) | (obtain ⟨_, _, _, rfl, _⟩ := h; rfl) | (obtain ⟨_, _, _, _, rfl, _⟩ := h; rfl) | (obtain ⟨_, _, _, _, _, rfl, _⟩ := h; rfl) | (obtain ⟨_, _, _, _, _, _, rfl, _⟩ := h; rfl) | (obtain ⟨_, _, _, _, _, _, _, rfl, _⟩ := h; rfl) | (obtain ⟨_, _, _, _, _, _, _, _, rfl, _⟩ := h; rfl)) keeps__law_by_turns fun cdv A outer s H E hr => d__law_by_turns m_len m_list m_range (by omega) h__law_pick (by omega) h__law_row (by omega) h_crossings (by omega) h__law_walked hr
  exact fn_ok (k := 4) (B := B_law) F_law sc_law (fun ws st P h => by first | (obtain ⟨_, rfl, _⟩ := h; rfl) | (obtain ⟨_, _, rfl, _⟩ := h; rfl) | (obtain ⟨_, _, _, rfl, _⟩ := h; rfl) | (obtain ⟨_, _, _, _, rfl, _⟩ := h; rfl) | (obtain ⟨_, _, _, _, _, rfl, _⟩ := h; rfl) | (obtain ⟨_, _, _, _, _, _, rfl, _⟩ := h; rfl) | (obtain ⟨_, _, _, _, _, _, _, rfl, _⟩ := h; rfl) | (obtain ⟨_, _, _, _, _, _, _, _, rfl, _⟩ := h; rfl)) keeps_law fun cdv A outer s H E hr => d_law m_isinstance m_len m_list m_max m_min m_range m_sorted (by omega) h__law_left (by omega) h__law_two_rows (by omega) h_crossings (by omega) h__law_same (by omega) h__law_right (by omega) h__law_by_turns hr
end AL
open PySem PySem.W PyProof.Rows
set_option maxHeartbeats 0 in
theorem PySem.Challenge.cw_pointedties_k55_exchanges_of_neighbours_holds : PySem.Challenge.rw_pointedties_k55_exchanges_of_neighbours.Holds := by
  w_on; o_law; k_head; (case hw => w_witness2)
  k_fill
  refine L2.walk_of (l := PySem.Challenge.rw_pointedties_k55_exchanges_of_neighbours) (n := 63) (k := 5) (x := "script") (CX := fun _ => L2.CX0) (sp := fun w => AL.spA _ AL.S_law) rfl (by decide) rfl ⟨rfl, by decide, by decide⟩ (fun w h Y => PySem.W.kIn_of Y) ?F (fun _ _ a ns hl hO hS => AL.law_sp hO hS ⟨ns, rfl, fun _ => rfl⟩) (fun _ _ _ _ _ h => h)
  case F =>
    intro w mg fa h KX G hmg
    refine' AL.all_mk KX G hmg ?a0 ?l0 ?c0 ?k0 ?a1 ?l1 ?c1 ?k1 ?a2 ?l2 ?c2 ?k2 ?a3 ?l3 ?c3 ?k3 ?a4 ?l4 ?c4 ?k4 ?a5 ?l5 ?c5 ?k5 ?a6 ?l6 ?c6 ?k6 ?a7 ?l7 ?c7 ?k7 ?a8 ?l8 ?c8 ?k8 ?a9 ?l9 ?c9 ?k9 ?a10 ?l10 ?c10 ?k10 ?a11 ?l11 ?c11 ?k11 ?a12 ?l12 ?c12 ?k12 ?a13 ?l13 ?c13 ?k13 ?z_abs ?z_all ?z_bool ?z_dict ?z_enumerate ?z_int ?z_isinstance ?z_len ?z_list ?z_max ?z_min ?z_range ?z_sorted ?z_str ?z_tuple ?z_zip
    (case a0 => k_is); (case l0 => k_is); (case c0 => k_is); (case k0 => k_is); (case a1 => k_is); (case l1 => k_is); (case c1 => k_is); (case k1 => k_is)
    (case a2 => k_is); (case l2 => k_is); (case c2 => k_is); (case k2 => k_is); (case a3 => k_is); (case l3 => k_is); (case c3 => k_is); (case k3 => k_is)
    (case a4 => k_is); (case l4 => k_is); (case c4 => k_is); (case k4 => k_is); (case a5 => k_is); (case l5 => k_is); (case c5 => k_is); (case k5 => k_is)
    (case a6 => k_is); (case l6 => k_is); (case c6 => k_is); (case k6 => k_is); (case a7 => k_is); (case l7 => k_is); (case c7 => k_is); (case k7 => k_is)
    (case a8 => k_is); (case l8 => k_is); (case c8 => k_is); (case k8 => k_is); (case a9 => k_is); (case l9 => k_is); (case c9 => k_is); (case k9 => k_is)
    (case a10 => k_is); (case l10 => k_is); (case c10 => k_is); (case k10 => k_is); (case a11 => k_is); (case l11 => k_is); (case c11 => k_is); (case k11 => k_is)
    (case a12 => k_is); (case l12 => k_is); (case c12 => k_is); (case k12 => k_is); (case a13 => k_is); (case l13 => k_is); (case c13 => k_is); (case k13 => k_is)
    (case z_abs => k_is); (case z_all => k_is); (case z_bool => k_is); (case z_dict => k_is); (case z_enumerate => k_is); (case z_int => k_is); (case z_isinstance => k_is); (case z_len => k_is)
    (case z_list => k_is); (case z_max => k_is); (case z_min => k_is); (case z_range => k_is); (case z_sorted => k_is); (case z_str => k_is); (case z_tuple => k_is); (case z_zip => k_is)
